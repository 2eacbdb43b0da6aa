import PyProof.Rows.All
import Wide.All
import OpenK.AllK
import Wide.FinOn
import HandS.ForMost
import HandS.Codes
import HandS.IsInst
import HandS.TupAny
import HandS.TupLe
import HandS.TupMul
import HandS.DictComp
import HandS.StrMore
import HandS.Defaults
import HandS.Conv
import KE.GoesEnum
import KE.GoesMore
import HandS.MakeKwOnly
import PySem.Challenge.RW_deedstand_k63_paints_least
set_option Elab.async false
set_option linter.all false
set_option maxRecDepth 100000
set_option maxHeartbeats 4000000
/-! # Data over the abstract heap: what stays, what is told of a value -/
namespace Ds
open PySem PySem.Spec PyProof.Rows L2
abbrev SS := L2.St

abbrev Fr := PySem.W.Frag

/-! ### tuples stay -/
structure TK (H H' : Hp) : Prop where
  tup : ∀ a xs, H a = some (.tup xs) → H' a = some (.tup xs)
  frz : ∀ a o u, H a = some (.frz o u) → H' a = some (.frz o u)
theorem TK.refl (H : Hp) : TK H H := ⟨fun _ _ h => h, fun _ _ _ h => h⟩
theorem TK.trans {H H1 H2 : Hp} (a : TK H H1) (b : TK H1 H2) : TK H H2 := ⟨fun c xs h => b.tup c xs (a.tup c xs h), fun c o u h => b.frz c o u (a.frz c o u h)⟩
theorem TK.same {H H' : Hp} (s : Same H H') : TK H H' := ⟨fun a _ h => s a _ h, fun a _ _ h => s a _ h⟩
theorem Same.new {H : Hp} {p : Addr} {o : HO} (h : H p = none) : Same H (upd H p o) := fun b u e => by
  rw [upd_ne (ne_of_none e h)]
  exact e
theorem TK.new {H : Hp} {p : Addr} {o : HO} (h : H p = none) : TK H (upd H p o) := .same (Same.new h)
/-- an object that is no tuple is written -/
theorem TK.wr {H : Hp} {p : Addr} {o u : HO} (h : H p = some u) (h1 : ∀ xs, u ≠ .tup xs) (h2 : ∀ ob w, u ≠ .frz ob w) : TK H (upd H p o) := by
  refine ⟨fun a xs e => ?_, fun a ob w e => ?_⟩
  · rw [upd_ne (ne_of e h (fun q => h1 _ q.symm))]
    exact e
  · rw [upd_ne (ne_of e h (fun q => h2 _ _ q.symm))]
    exact e
theorem TK.lst {H : Hp} {p : Addr} {o : HO} {xs : List V} (h : H p = some (.lst xs)) : TK H (upd H p o) := .wr h (fun _ q => by cases q) (fun _ _ q => by cases q)
theorem TK.dK {H : Hp} {p : Addr} {o : HO} {xs : List (Key × V)} (h : H p = some (.dK xs)) : TK H (upd H p o) := .wr h (fun _ q => by cases q) (fun _ _ q => by cases q)
theorem TK.ins {H : Hp} {p : Addr} {o : HO} {C dx : Addr} {fs : List (Str × V)} (h : H p = some (.ins C dx fs)) : TK H (upd H p o) := .wr h (fun _ q => by cases q) (fun _ _ q => by cases q)
theorem TK.sqT {K : Fr} {H H' : Hp} {a : Addr} {xs : List V} (t : TK H H') (h : SqT K H a xs) : SqT K H' a xs := by
  rcases h with (h | ⟨o, h⟩) | h
  · exact .inl (.inl (t.tup _ _ h))
  · exact .inl (.inr ⟨o, t.frz _ _ _ h⟩)
  · exact .inr h

/-! ### data without lists and dicts -/
mutual
def imm : PyData → Bool
  | .none => true
  | .bool _ => true
  | .int _ => true
  | .str _ => true
  | .list _ => false
  | .tuple ds => immA ds
  | .dict _ => false
def immA : List PyData → Bool
  | [] => true
  | d :: ds => imm d && immA ds
end
mutual
theorem Dp.tk {K : Fr} {H H' : Hp} (t : TK H H') : ∀ (d : PyData) (v : V), imm d = true → Dp K H v d → Dp K H' v d
  | .none, _, _, h => by cases h; exact .non
  | .bool _, _, _, h => by cases h; exact .bl _
  | .int _, _, _, h => by cases h; exact .int _
  | .str _, _, _, h => by cases h; exact .str _
  | .list _, _, i, _ => by cases i
  | .dict _, _, _, h => by cases h
  | .tuple ds, _, i, h => by
    cases h with
    | tup hs ha => exact .tup (t.sqT hs) (DpA.tk t ds _ i ha)
theorem DpA.tk {K : Fr} {H H' : Hp} (t : TK H H') : ∀ (ds : List PyData) (vs : List V), immA ds = true → DpAll K H vs ds → DpAll K H' vs ds
  | [], _, _, h => by cases h; exact .nil
  | d :: ds, _, i, h => by
    have i1 : imm d = true ∧ immA ds = true := by
      have q : (imm d && immA ds) = true := i
      simpa using q
    cases h with
    | cons h1 h2 => exact .cons (Dp.tk t d _ i1.1 h1) (DpA.tk t ds _ i1.2 h2)
end
theorem sqT_same {K : Fr} {H H' : Hp} {a : Addr} {xs : List V} (e : Same H H') (h : SqT K H a xs) : SqT K H' a xs := (TK.same e).sqT h
mutual
theorem Dp.same {K : Fr} {H H' : Hp} (t : Same H H') : ∀ (d : PyData) (v : V), Dp K H v d → Dp K H' v d
  | .none, _, h => by cases h; exact .non
  | .bool _, _, h => by cases h; exact .bl _
  | .int _, _, h => by cases h; exact .int _
  | .str _, _, h => by cases h; exact .str _
  | .list ds, _, h => by
    cases h with
    | lst hs ha => exact .lst (t.seq hs) (DpA.same t ds _ ha)
  | .dict _, _, h => by cases h
  | .tuple ds, _, h => by
    cases h with
    | tup hs ha => exact .tup (sqT_same t hs) (DpA.same t ds _ ha)
theorem DpA.same {K : Fr} {H H' : Hp} (t : Same H H') : ∀ (ds : List PyData) (vs : List V), DpAll K H vs ds → DpAll K H' vs ds
  | [], _, h => by cases h; exact .nil
  | d :: ds, _, h => by
    cases h with
    | cons h1 h2 => exact .cons (Dp.same t d _ h1) (DpA.same t ds _ h2)
end
theorem immA_all : ∀ {ds : List PyData}, immA ds = true ↔ ∀ d ∈ ds, imm d = true
  | [] => by simp [immA]
  | d :: ds => by
    simp only [immA, Bool.and_eq_true, List.mem_cons, forall_eq_or_imp]
    rw [immA_all (ds := ds)]

/-! ### lists of data -/
theorem DpA.length {K : Fr} {H : Hp} : ∀ {vs : List V} {ds : List PyData}, DpAll K H vs ds → vs.length = ds.length
  | _, _, .nil => rfl
  | _, _, .cons _ t => by simp [DpA.length t]
theorem DpA.get {K : Fr} {H : Hp} : ∀ {vs : List V} {ds : List PyData} {i : Nat} {v : V}, DpAll K H vs ds → vs[i]? = some v → ∃ d, ds[i]? = some d ∧ Dp K H v d
  | _, _, _, _, .nil, e => by simp at e
  | _, _, 0, _, .cons r _, e => by
    simp only [List.getElem?_cons_zero, Option.some.injEq] at e
    subst e
    exact ⟨_, rfl, r⟩
  | _, _, i + 1, _, .cons _ t, e => by
    obtain ⟨d, h1, h2⟩ := DpA.get (i := i) t (by simpa using e)
    exact ⟨d, by simpa using h1, h2⟩
theorem DpA.at {K : Fr} {H : Hp} : ∀ {vs : List V} {ds : List PyData} {i : Nat} {d : PyData}, DpAll K H vs ds → ds[i]? = some d → ∃ v, vs[i]? = some v ∧ Dp K H v d
  | _, _, _, _, .nil, e => by simp at e
  | _, _, 0, _, .cons r _, e => by
    simp only [List.getElem?_cons_zero, Option.some.injEq] at e
    subst e
    exact ⟨_, rfl, r⟩
  | _, _, i + 1, _, .cons _ t, e => by
    obtain ⟨d, h1, h2⟩ := DpA.at (i := i) t (by simpa using e)
    exact ⟨d, by simpa using h1, h2⟩
theorem DpA.append {K : Fr} {H : Hp} : ∀ {vs us : List V} {ds es : List PyData}, DpAll K H vs ds → DpAll K H us es → DpAll K H (vs ++ us) (ds ++ es)
  | _, _, _, _, .nil, s => s
  | _, _, _, _, .cons r t, s => .cons r (DpA.append t s)
theorem DpA.one {K : Fr} {H : Hp} {v : V} {d : PyData} (h : Dp K H v d) : DpAll K H [v] [d] := .cons h .nil
theorem DpA.take {K : Fr} {H : Hp} : ∀ {vs : List V} {ds : List PyData} (n : Nat), DpAll K H vs ds → DpAll K H (vs.take n) (ds.take n)
  | _, _, 0, _ => .nil
  | _, _, _ + 1, .nil => .nil
  | _, _, n + 1, .cons r t => .cons r (DpA.take n t)
theorem DpA.drop {K : Fr} {H : Hp} : ∀ {vs : List V} {ds : List PyData} (n : Nat), DpAll K H vs ds → DpAll K H (vs.drop n) (ds.drop n)
  | _, _, 0, r => r
  | _, _, _ + 1, .nil => .nil
  | _, _, n + 1, .cons _ t => DpA.drop n t
theorem DpA.set {K : Fr} {H : Hp} {v : V} {d : PyData} (r : Dp K H v d) : ∀ {vs : List V} {ds : List PyData} (i : Nat), DpAll K H vs ds → DpAll K H (vs.set i v) (ds.set i d)
  | _, _, _, .nil => .nil
  | _, _, 0, .cons _ t => .cons r t
  | _, _, i + 1, .cons q t => .cons q (DpA.set r i t)
theorem DpA.map {K : Fr} {H : Hp} {α : Type} {f : α → V} {g : α → PyData} : ∀ (l : List α), (∀ x ∈ l, Dp K H (f x) (g x)) → DpAll K H (l.map f) (l.map g)
  | [], _ => .nil
  | x :: l, h => .cons (h x List.mem_cons_self) (DpA.map l fun y hy => h y (List.mem_cons_of_mem _ hy))

/-! ### a value's type -/
def pyTag : PyData → String
  | .none => "NoneType"
  | .bool _ => "bool"
  | .int _ => "int"
  | .str _ => "str"
  | .list _ => "list"
  | .tuple _ => "tuple"
  | .dict _ => "dict"
theorem Dp.tyx {K : Fr} {H : Hp} {v : V} {d : PyData} (h : Dp K H v d) : TyX K H v (.type (pyTag d)) := by
  cases h with
  | non => exact .base .non
  | bl b => exact .base (.bl b)
  | int i => exact .base (.int i)
  | str x => exact .base (.str x)
  | lst hs _ =>
    rcases hs with (h | ⟨o, h⟩) | ⟨o, its, n, hk, hc, _⟩
    · exact .base (.lst h)
    · exact .base (.frz h)
    · exact .kList hk hc
  | tup hs _ =>
    rcases hs with (h | ⟨o, h⟩) | ⟨o, its, n, hk, hc, _⟩
    · exact .base (.tup h)
    · exact .fTuple h
    · exact .kTuple hk hc
def isiB (t T : String) : Bool := t == T || (t == "bool" && T == "int")
def knownT (T : String) : Bool := T == "int" || T == "bool" || T == "str" || T == "list" || T == "tuple"
theorem kit_tag (d : PyData) {T : String} (hT : knownT T = true) {K : Fr} : PySem.W.kitOne K (.type (pyTag d)) (.type T) = some (isiB (pyTag d) T) := by
  have hT' : T = "int" ∨ T = "bool" ∨ T = "str" ∨ T = "list" ∨ T = "tuple" := by
    simp only [knownT, Bool.or_eq_true, beq_iff_eq] at hT
    rcases hT with (((h | h) | h) | h) | h
    · exact .inl h
    · exact .inr (.inl h)
    · exact .inr (.inr (.inl h))
    · exact .inr (.inr (.inr (.inl h)))
    · exact .inr (.inr (.inr (.inr h)))
  refine kit_ty ?_
  rcases hT' with rfl | rfl | rfl | rfl | rfl <;> cases d <;> first | rfl | decide +kernel
/-- isinstance(x, T) of a datum, T one of the five -/
def rIsD (K : Fr) : List V → Hp → VK → Prop := fun xs H Q => ∃ (x : V) (T : String) (d : PyData), xs = [x, .ty T] ∧ Dp K H x d ∧ knownT T = true ∧ Q (.bl (isiB (pyTag d) T)) H
theorem call_isD {X : Cx} : CallR X (.builtin "isinstance") (rIsD X.K) := by
  intro pins s σ H xs us Q I r h
  obtain ⟨x, T, d, rfl, hd, hT, q⟩ := h
  exact call_isi pins s σ H _ us Q I r ⟨x, .ty T, _, _, _, rfl, .ty T, Dp.tyx hd, kit_tag d hT, q⟩
/-- x is True, x is False -/
theorem op_isB {X : Cx} : OpR X (compareOp .Is) (fun x y H Q => ∃ b, y = .bl b ∧ Q (.bl (decide (x = .bl b))) H) := by
  intro pins s σ H x y v u Q I rx ry h
  obtain ⟨b, rfl, q⟩ := h
  cases (show u = Value.bool b from ry)
  have fin : ∀ k : Bool, k = decide (x = .bl b) → EP X pins σ Q (.bool k) s := fun k e => ⟨.bl k, H, I, rfl, by rw [e]; exact q⟩
  cases x with
  | non => cases (show v = Value.none from rx); exact wpAny_pure (fin false (by simp))
  | bl k =>
    cases (show v = Value.bool k from rx)
    refine wpAny_pure (fin _ ?_)
    cases k <;> cases b <;> simp <;> rfl
  | int i => obtain ⟨t, rfl⟩ := (show ∃ t, v = Value.int i t from rx); exact wpAny_pure (fin false (by simp))
  | str i => obtain ⟨t, rfl⟩ := (show ∃ t, v = Value.str i t from rx); exact wpAny_pure (fin false (by simp))
  | byt i => obtain ⟨t, rfl⟩ := (show ∃ t, v = Value.bytes i t from rx); exact wpAny_pure (fin false (by simp))
  | flt i => obtain ⟨t, rfl⟩ := (show ∃ t, v = Value.float i t from rx); exact wpAny_pure (fin false (by simp))
  | ref a => cases (show v = Value.ref a from rx); exact wpAny_pure (fin false (by simp))
  | ty n => cases (show v = Value.type n from rx); exact wpAny_pure (fin false (by simp))
end Ds
namespace Ds
open PySem PySem.Spec PyProof.Rows L2

/-! ### rules over data -/
/-- an item of a datum -/
def rIxW (K : Fr) : R2 := fun x y H Q => ∃ ds i d, Dp K H x (.tuple ds) ∧ y = .int i ∧ atI ds i = some d ∧ ∀ v, Dp K H v d → Q v H
theorem atI_pair {K : Fr} {H : Hp} {vs : List V} {ds : List PyData} {i : Int} {d : PyData} (h : DpAll K H vs ds) (e : atI ds i = some d) : ∃ v, atI vs i = some v ∧ Dp K H v d := by
  unfold atI at e ⊢
  rw [DpA.length h]
  cases q : ixN ds.length i with
  | none => rw [q] at e; cases e
  | some j =>
    rw [q] at e
    obtain ⟨v, h1, h2⟩ := DpA.at (i := j) (d := d) h e
    exact ⟨v, h1, h2⟩
theorem ix_D {X : Cx} {K : Fr} (hK : X.K = K := by rfl) : IxR X (rIxW K) := by
  subst hK
  intro ev es pins s σ H x y v u Q I rx ry h hz
  obtain ⟨ds, i, d, hx, rfl, e, q⟩ := h
  cases hx with
  | @tup a xs _ hs ha =>
    obtain ⟨v, h1, h2⟩ := atI_pair ha e
    exact ix_tup ev es pins s σ H _ _ _ u Q I rx ry ⟨a, xs, i, v, rfl, rfl, hs, h1, q v h2⟩ hz
/-- an item of a tracked list -/
def rIxH : R2 := fun x y H Q => ∃ l xs i v, x = .ref l ∧ y = .int i ∧ H l = some (.lst xs) ∧ atI xs i = some v ∧ Q v H
theorem ix_H {X : Cx} : IxR X rIxH := by
  intro ev es pins s σ H x y v u Q I rx ry h hz
  obtain ⟨l, xs, i, z, rfl, rfl, hl, e, q⟩ := h
  exact ix_list ev es pins s σ H _ _ _ u Q I rx ry ⟨l, xs, i, z, rfl, rfl, SqL.of hl, e, q⟩ hz
theorem atI_0 {α : Type} (a : α) (l : List α) : atI (a :: l) 0 = some a := atI_nat (j := 0) rfl
theorem atI_1 {α : Type} (a b : α) (l : List α) : atI (a :: b :: l) 1 = some b := atI_nat (j := 1) rfl
theorem atI_2 {α : Type} (a b c : α) (l : List α) : atI (a :: b :: c :: l) 2 = some c := atI_nat (j := 2) rfl
theorem ixN_31 : ixN 3 1 = some 1 := rfl
theorem ixN_32 : ixN 3 2 = some 2 := rfl
/-- len of a tracked list -/
def rLenH : List V → Hp → VK → Prop := fun xs H Q => ∃ l ys, xs = [.ref l] ∧ H l = some (.lst ys) ∧ Q (.int ys.length) H
theorem call_lenH {X : Cx} : CallR X (.builtin "len") rLenH := by
  intro pins s σ H xs us Q I r h
  obtain ⟨l, ys, rfl, hl, q⟩ := h
  exact call_len_seq pins s σ H _ us Q I r ⟨l, ys, rfl, .inl (SqL.of hl), q⟩
theorem call_intI {X : Cx} : CallR X (.type "int") (fun xs H Q => ∃ i, xs = [.int i] ∧ Q (.int i) H) := by
  intro pins s σ H xs us Q I r h
  exact call_int1 pins s σ H xs us Q I r (.inl h)
theorem call_intB {X : Cx} : CallR X (.type "int") (fun xs H Q => ∃ k, xs = [.bl k] ∧ Q (.int (if k then 1 else 0)) H) := by
  intro pins s σ H xs us Q I r h
  exact call_int1 pins s σ H xs us Q I r (.inr h)
/-- list or tuple -/
def rIxE (K : Fr) : R2 := fun x y H Q => ∃ ds i d, (Dp K H x (.tuple ds) ∨ Dp K H x (.list ds)) ∧ y = .int i ∧ atI ds i = some d ∧ ∀ v, Dp K H v d → Q v H
theorem ix_E {X : Cx} {K : Fr} (hK : X.K = K := by rfl) : IxR X (rIxE K) := by
  subst hK
  intro ev es pins s σ H x y v u Q I rx ry h hz
  obtain ⟨ds, i, d, hx, rfl, e, q⟩ := h
  rcases hx with hx | hx
  · exact ix_D rfl ev es pins s σ H _ _ _ u Q I rx ry ⟨ds, i, d, hx, rfl, e, q⟩ hz
  · cases hx with
    | @lst a xs _ hs ha =>
      obtain ⟨v, h1, h2⟩ := atI_pair ha e
      exact ix_list ev es pins s σ H _ _ _ u Q I rx ry ⟨a, xs, i, v, rfl, rfl, hs, h1, q v h2⟩ hz
/-- len of a datum -/
def rLenD (K : Fr) : List V → Hp → VK → Prop := fun xs H Q => ∃ x ds, xs = [x] ∧ (Dp K H x (.tuple ds) ∨ Dp K H x (.list ds)) ∧ Q (.int ds.length) H
theorem call_lenD' {X : Cx} {K : Fr} (hK : X.K = K := by rfl) : CallR X (.builtin "len") (rLenD K) := by
  subst hK
  intro pins s σ H xs us Q I r h
  obtain ⟨x, ds, rfl, hx, q⟩ := h
  rcases hx with hx | hx
  · cases hx with
    | @tup a xs _ hs ha =>
      rw [← DpA.length ha] at q
      exact call_len_seq pins s σ H _ us Q I r ⟨a, xs, rfl, .inr hs, q⟩
  · cases hx with
    | @lst a xs _ hs ha =>
      rw [← DpA.length ha] at q
      exact call_len_seq pins s σ H _ us Q I r ⟨a, xs, rfl, .inl hs, q⟩
def cutD (ds : List PyData) (lo hi : Option Int) : List PyData := (ds.drop (HT.sIx ds.length 0 lo)).take (HT.sIx ds.length ds.length hi - HT.sIx ds.length 0 lo)
theorem DpA.cut {K : Fr} {H : Hp} {vs : List V} {ds : List PyData} (lo hi : Option Int) (h : DpAll K H vs ds) : DpAll K H (cutV vs lo hi) (cutD ds lo hi) := by
  unfold cutV cutD
  rw [DpA.length h]
  exact DpA.take _ (DpA.drop _ h)
theorem cutD_nat (ds : List PyData) (a b : Nat) (hab : a ≤ b) (hb : b ≤ ds.length) : cutD ds (some (a : Int)) (some (b : Int)) = (ds.drop a).take (b - a) := by
  unfold cutD
  rw [HT.sIx_nat, HT.sIx_nat, Nat.min_eq_left (Nat.le_trans hab hb), Nat.min_eq_left hb]
/-- a slice of a datum -/
def rSlD (K : Fr) : V → Option Int → Option Int → Hp → VK → Prop := fun x lo hi H Q => ∃ ds, Dp K H x (.tuple ds) ∧ immA ds = true ∧ ∀ v H', Same H H' → Dp K H' v (.tuple (cutD ds lo hi)) → Q v H'
theorem cutD_all {ds : List PyData} {lo hi : Option Int} (h : HT.sIx ds.length 0 lo = 0 ∧ HT.sIx ds.length ds.length hi = ds.length) : cutD ds lo hi = ds := by
  unfold cutD
  rw [h.1, h.2]
  simp
theorem immA_take : ∀ (n : Nat) {ds : List PyData}, immA ds = true → immA (ds.take n) = true := fun n ds h => immA_all.mpr fun d hd => immA_all.mp h d (List.mem_of_mem_take hd)
theorem immA_drop : ∀ (n : Nat) {ds : List PyData}, immA ds = true → immA (ds.drop n) = true := fun n ds h => immA_all.mpr fun d hd => immA_all.mp h d (List.mem_of_mem_drop hd)
theorem immA_cut {ds : List PyData} {lo hi : Option Int} (h : immA ds = true) : immA (cutD ds lo hi) = true := immA_take _ (immA_drop _ h)
theorem immA_append {ds es : List PyData} (h : immA ds = true) (h' : immA es = true) : immA (ds ++ es) = true := immA_all.mpr fun d hd => by
  rcases List.mem_append.mp hd with q | q
  · exact immA_all.mp h d q
  · exact immA_all.mp h' d q
theorem sl_D {X : Cx} {K : Fr} (hK : X.K = K := by rfl) : SlR X (rSlD K) := by
  subst hK
  intro pins s σ H x v vl vu lo hi sl Q I rx hs pl pu h
  obtain ⟨ds, hx, im, q⟩ := h
  cases hx with
  | @tup a xs _ hs' ha =>
    have el := DpA.length ha
    refine sl_tupA pins s σ H _ v vl vu lo hi sl Q I rx hs pl pu ⟨a, xs, rfl, hs', fun w => ?_, fun w p hp => ?_⟩
    · rw [el] at w
      refine q _ H (Same.refl H) ?_
      rw [cutD_all w]
      exact .tup hs' ha
    · refine q _ _ (Same.new hp) (.tup (SqT.of upd_same) ?_)
      exact DpA.tk (TK.new hp) _ _ (immA_cut im) (DpA.cut lo hi ha)
/-- t + u of data -/
def rCatD (K : Fr) : R2 := fun x y H Q => ∃ ds es, Dp K H x (.tuple ds) ∧ Dp K H y (.tuple es) ∧ immA ds = true ∧ immA es = true ∧ ds.length + es.length ≤ sizeLine ∧ ∀ v H', Same H H' → Dp K H' v (.tuple (ds ++ es)) → Q v H'
theorem op_catD {X : Cx} {K : Fr} (hK : X.K = K := by rfl) : OpR X (binaryOp .Add) (rCatD K) := by
  subst hK
  intro pins s σ H x y v u Q I rx ry h
  obtain ⟨ds, es, hx, hy, i1, i2, hz, q⟩ := h
  cases hx with
  | @tup a xs _ hs ha =>
    cases hy with
    | @tup b ys _ ht hb =>
      have e1 := DpA.length ha
      have e2 := DpA.length hb
      refine op_catA pins s σ H _ _ v u Q I rx ry ⟨a, b, xs, ys, rfl, rfl, hs, ht, by omega, fun w => ?_, fun _ w => ?_, fun _ _ p hp => ?_⟩
      · subst w
        cases ha
        exact q _ H (Same.refl H) (.tup ht hb)
      · subst w
        cases hb
        refine q _ H (Same.refl H) ?_
        rw [List.append_nil]
        exact .tup hs ha
      · exact q _ _ (Same.new hp) (.tup (SqT.of upd_same) (DpA.tk (TK.new hp) _ _ (immA_append i1 i2) (DpA.append ha hb)))
/-- tuple(x): of a tracked list whose items are data, or of a datum -/
def rTupD (K : Fr) : List V → Hp → VK → Prop := fun xs H Q => ∃ x ds, xs = [x] ∧ immA ds = true ∧ ((∃ l ys, x = .ref l ∧ H l = some (.lst ys) ∧ DpAll K H ys ds) ∨ Dp K H x (.tuple ds)) ∧ ∀ v H', Same H H' → Dp K H' v (.tuple ds) → Q v H'
theorem call_tupD {X : Cx} {K : Fr} (hK : X.K = K := by rfl) : CallR X (.type "tuple") (rTupD K) := by
  subst hK
  intro pins s σ H xs us Q I r h
  obtain ⟨x, ds, rfl, im, hx, q⟩ := h
  rcases hx with ⟨l, ys, rfl, hl, ha⟩ | hx
  · exact call_tuple_of pins s σ H _ us Q I r ⟨l, ys, rfl, .inl ⟨SqL.of hl, fun p hp => q _ _ (Same.new hp) (.tup (SqT.of upd_same) (DpA.tk (TK.new hp) _ _ im ha))⟩⟩
  · cases hx with
    | @tup a xs _ hs ha => exact call_tuple_of pins s σ H _ us Q I r ⟨a, xs, rfl, .inr ⟨hs, q _ H (Same.refl H) (.tup hs ha)⟩⟩
/-- list(x) of a datum: a new list -/
def rListW (K : Fr) : List V → Hp → VK → Prop := fun xs H Q => ∃ x ds, xs = [x] ∧ immA ds = true ∧ Dp K H x (.tuple ds) ∧ ∀ l ys H', H l = none → Same H H' → H' l = some (.lst ys) → DpAll K H' ys ds → Q (.ref l) H'
theorem call_listD {X : Cx} {K : Fr} (hK : X.K = K := by rfl) : CallR X (.type "list") (rListW K) := by
  subst hK
  intro pins s σ H xs us Q I r h
  obtain ⟨x, ds, rfl, im, hx, q⟩ := h
  cases hx with
  | @tup a xs _ hs ha => exact call_list_of pins s σ H _ us Q I r ⟨a, xs, rfl, .inr hs, fun l hl => q l xs _ hl (Same.new hl) upd_same (DpA.tk (TK.new hl) _ _ im ha)⟩

theorem PE.imp {X : Cx} {e : Expr} {t t' : TE} (h : PE X e t) (i : ∀ σ H Q, t' σ H Q → t σ H Q) : PE X e t' := ⟨fun pins s σ H Q I q => h.run pins s σ H Q I (i _ _ _ q)⟩
theorem PT.imp {X : Cx} {e : Expr} {t t' : TT} (h : PT X e t) (i : ∀ σ H Q, t' σ H Q → t σ H Q) : PT X e t' := ⟨fun pins s σ H Q I q => h.run pins s σ H Q I (i _ _ _ q)⟩
/-- l.append(e), l a tracked list -/
def tApp (to te : TE) : TE := fun σ H Q => to σ H fun x H1 => ∃ l, x = .ref l ∧ (∃ xs, H1 l = some (.lst xs)) ∧ te σ H1 fun y H2 => ∃ xs, H2 l = some (.lst xs) ∧ xs.length < sizeLine ∧ Q .non (upd H2 l (.lst (xs ++ [y])))
/-- a new tuple, a new list; the heap behind a letter -/
def tTupN (t : TA) : TE := fun σ H Q => t σ H fun xs H1 => xs.length ≤ sizeLine ∧ ∀ p H2, H1 p = none → Same H1 H2 → H2 p = some (.tup xs) → Q (.ref p) H2
def tLstN (t : TA) : TE := fun σ H Q => t σ H fun xs H1 => xs.length ≤ sizeLine ∧ ∀ p H2, H1 p = none → Same H1 H2 → H2 p = some (.lst xs) → Q (.ref p) H2
def upA (t : TA) : TA := fun σ H Q => ∃ R : List V → Hp → Prop, t σ H R ∧ ∀ v H', R v H' → Q v H'
theorem PA.up {X : Cx} {es : List Expr} {t : TA} (h : PA X es t) : PA X es (upA t) := ⟨fun pos pins s σ H Q I ⟨R, q, i⟩ => thn (h.run pos pins s σ H R I q) fun u s1 ⟨x, H1, I1, r1, q1⟩ => ⟨x, H1, I1, r1, i x H1 q1⟩⟩
theorem pe_tupN {X : Cx} {es : List Expr} {t : TA} {pos : Pos} {x1} (h : PA X es t) : PE X (.Tuple es x1 pos) (tTupN t) :=
  PE.imp (pe_tup (PA.up h)) fun σ H Q q => ⟨_, q, fun xs H1 ⟨hz, k⟩ => ⟨hz, fun p hp => k p _ hp (Same.new hp) upd_same⟩⟩
theorem pe_lstN {X : Cx} {es : List Expr} {t : TA} {pos : Pos} (h : PA X es t) : PE X (.List es pos) (tLstN t) :=
  PE.imp (pe_lst (PA.up h)) fun σ H Q q => ⟨_, q, fun xs H1 ⟨hz, k⟩ => ⟨hz, fun p hp => k p _ hp (Same.new hp) upd_same⟩⟩
/-- a reading that may be weakened behind -/
def up (t : TE) : TE := fun σ H Q => ∃ R : VK, t σ H R ∧ ∀ v H', R v H' → Q v H'
theorem PE.up {X : Cx} {e : Expr} {t : TE} (h : PE X e t) : PE X e (up t) := ⟨fun pins s σ H Q I ⟨R, q, i⟩ => thn (h.run pins s σ H R I q) fun u s1 ⟨x, H1, I1, r1, q1⟩ => ⟨x, H1, I1, r1, i x H1 q1⟩⟩
def upT (t : TT) : TT := fun σ H Q => ∃ R : Bool → Hp → Prop, t σ H R ∧ ∀ b H', R b H' → Q b H'
theorem PT.up {X : Cx} {e : Expr} {t : TT} (h : PT X e t) : PT X e (upT t) := ⟨fun pins s σ H Q I ⟨R, q, i⟩ => thn (h.run pins s σ H R I q) fun u s1 ⟨H1, I1, q1⟩ => ⟨H1, I1, i u H1 q1⟩⟩
/-- a statement behind which the wish may be weakened -/
def upS (t : TS) : TS := fun D σ H => ∃ N : SS → Hp → Prop, t { D with nx := N } σ H ∧ ∀ σ' H', N σ' H' → D.nx σ' H'
theorem PS.up {X : Cx} {st : Stmt} {t : TS} (h : PS X st t) : PS X st (upS t) := by
  refine ⟨fun pins s σ H D I ⟨N, q, i⟩ => thn (h.run pins s σ H _ I q) fun f s1 z => ?_⟩
  cases f with
  | next =>
    obtain ⟨σ', H', I', z⟩ := z
    exact ⟨σ', H', I', i _ _ z⟩
  | ret v => exact z
  | brk => exact z
  | cont => exact z
theorem pe_app {X : Cx} {o e : Expr} {to te : TE} {apos cpos : Pos} (ho : PE X o to) (he : PE X e te)
    (hbase : attributeBase o "append" X.env (eval o X.env) = eval o X.env := by rfl)
    (hfew : ((backTo cpos (starEach (e :: []) X.env)).all (fun x => !x.1) && (backToKw cpos (keywordEach [] X.env)).all (fun x => x.1.isSome) && decide ((e :: []).length + ([] : List Keyword).length + (if ([] : List Keyword).isEmpty then 0 else 1) < 30)) = true := by rfl)
    (hline : (apos.endLine == cpos.line) = true := by rfl) (hs : starEach (e :: []) X.env = (false, eval e X.env) :: starEach [] X.env := by rfl) :
    PE X (.Call (.Attribute o "append" apos) [e] [] cpos) (tApp to te) := by
  refine PE.imp (pe_bm PySem.F.plainAttrs_list PySem.F.slot_list_append PySem.F.type_list_append mt_append (PE.up ho) (pa_cons (PE.up he) pa_nil hs) hbase hfew hline hs) fun σ H Q h => ⟨_, h, ?_⟩
  rintro x H1 ⟨l, rfl, ⟨xs, hx⟩, h2⟩
  refine ⟨.inl ⟨rfl, _, SqL.of hx⟩, _, h2, ?_⟩
  rintro y H2 ⟨ys, hy, hz, q⟩
  exact ⟨l, ys, y, rfl, rfl, hy, hz, q⟩
/-- l.extend(e), both tracked lists -/
def tExt (to te : TE) : TE := fun σ H Q => to σ H fun x H1 => ∃ l, x = .ref l ∧ (∃ xs, H1 l = some (.lst xs)) ∧ te σ H1 fun y H2 => ∃ b, y = .ref b ∧ ∃ xs zs, H2 l = some (.lst xs) ∧ H2 b = some (.lst zs) ∧ xs.length + zs.length ≤ sizeLine ∧ Q .non (upd H2 l (.lst (xs ++ zs)))
theorem pe_ext {X : Cx} {o e : Expr} {to te : TE} {apos cpos : Pos} (ho : PE X o to) (he : PE X e te)
    (hbase : attributeBase o "extend" X.env (eval o X.env) = eval o X.env := by rfl)
    (hfew : ((backTo cpos (starEach (e :: []) X.env)).all (fun x => !x.1) && (backToKw cpos (keywordEach [] X.env)).all (fun x => x.1.isSome) && decide ((e :: []).length + ([] : List Keyword).length + (if ([] : List Keyword).isEmpty then 0 else 1) < 30)) = true := by rfl)
    (hline : (apos.endLine == cpos.line) = true := by rfl) (hs : starEach (e :: []) X.env = (false, eval e X.env) :: starEach [] X.env := by rfl) :
    PE X (.Call (.Attribute o "extend" apos) [e] [] cpos) (tExt to te) := by
  refine PE.imp (pe_bm PySem.F.plainAttrs_list PySem.F.slot_list_extend PySem.F.type_list_extend mt_extend (PE.up ho) (pa_cons (PE.up he) pa_nil hs) hbase hfew hline hs) fun σ H Q h => ⟨_, h, ?_⟩
  rintro x H1 ⟨l, rfl, ⟨xs, hx⟩, h2⟩
  refine ⟨.inl ⟨rfl, _, SqL.of hx⟩, _, h2, ?_⟩
  rintro y H2 ⟨b, rfl, ys, zs, hy, hb, hz, q⟩
  exact ⟨l, b, ys, zs, rfl, rfl, hy, hb, hz, q⟩
theorem op_eqW {X : Cx} {K : Fr} (hu : X.A.units + 64 < cLine) (hK : X.K = K := by rfl) : OpR X (compareOp .Eq) (rEqD K) := by
  subst hK
  exact op_eqD hu
theorem op_neW {X : Cx} {K : Fr} (hu : X.A.units + 64 < cLine) (hK : X.K = K := by rfl) : OpR X (compareOp .NotEq) (rNeD K) := by
  subst hK
  exact op_neD hu
theorem call_isW {X : Cx} {K : Fr} (hK : X.K = K := by rfl) : CallR X (.builtin "isinstance") (rIsD K) := by
  subst hK
  exact call_isD
theorem pi_tupK {X : Cx} {K : Fr} {tg l : Expr} {tl : TE} (hl : PE X l tl) (hK : X.K = K := by rfl) : PI X tg l (iTup K tl) := by
  subst hK
  exact pi_tup hl
theorem pi_listK {X : Cx} {K : Fr} {tg l : Expr} {tl : TE} (hl : PE X l tl) (hK : X.K = K := by rfl) : PI X tg l (iList K tl) := by
  subst hK
  exact pi_list hl
theorem pe_fldK {X : Cx} {K : Fr} {e : Expr} {ta : TE} {f : Str} {pos : Pos} (he : PE X e ta) (hb : attributeBase e f X.env (eval e X.env) = eval e X.env) (hK : X.K = K := by rfl) : PE X (.Attribute e f pos) (tFld K ta f) := by
  subst hK
  exact pe_fld he hb
theorem pg_tupK {X : Cx} {K : Fr} {es : List Expr} {k : Nat} {t : TGs} {n : Nat} {pos : Pos} (hc : X.calm = true) (h : PGs X es t)
    (hn : (assignEach es X.env).length = n := by rfl) (hst : (assignEach es X.env).findIdx? (·.1) = none := by rfl) (hK : X.K = K := by rfl) : PG X (.Tuple es k pos) (gTup K n t) := by
  subst hK
  exact pg_tup hc h hn hst
theorem pt_truthK {X : Cx} {K : Fr} {a : Expr} {ta : TE} (ha : PE X a ta) (he : ∀ whole, isTrue a X.env whole = (do let v ← whole; standAt a.pos; holding [v] (truthy v))) (hK : X.K = K := by rfl) :
    PT X a (fun σ H Q => ta σ H fun x H' => ∃ k, TruV K x H' k ∧ Q k H') := by
  subst hK
  exact pt_truth ha he
theorem pe_never {X : Cx} {e : Expr} : PE X e (fun _ _ _ => False) := ⟨fun _ _ _ _ _ _ h => h.elim⟩
theorem cxK {CX : CXT} {P : Program} {w : World} {K : PySem.W.Frag} {mg : Str → Option Value} {base : Heap} {N : List Str} {qual : Str} {sc : Scope} {f : Addr} {cd : Value} {A : Around} {o : List Env} {s : Shared} {H : Hp} {E : XK} :
    (cxOf CX P w K mg base N qual sc f cd A o s H E).K = K := rfl
/-! ### a def by its name -/
structure DefB (K : Fr) (mg : Str → Option Value) (x : Str) (st : Stmt) (ps : List Str) (ds : List Value) : Prop where
  ex : ∃ (f : Addr) (fd : FuncData), C8.Def K mg x st f fd ∧ Binds K fd ps ds
section
variable {P : Program} {w : World} {K : Fr} {mg : Str → Option Value} {base : Heap}
theorem cal_of {x : Str} {st : Stmt} {N ps : List Str} {ds : List Value} {dvs : List V} {k : Nat} {sp : Sp} (D : DefB K mg x st ps ds) (d : Vals dvs ds) (S : FnScope N ps (C8.fnScope st)) (len : ∀ vs H Q E, sp vs H Q E → vs.length = ps.length)
    (hbody : ∀ (f : Addr) (cdv : Value) (A : Around) (outer : List Env) (s : Shared) (H : Hp) (vs : List V) (Q : VK) (E : XK), Room k (A.deeper (envOfC x (C8.fnScope st) s.heap.objs.size f cdv)) → sp vs H Q E →
      ∃ t, PSs (cxOf C8.CX0 P w K mg base N x (C8.fnScope st) f cdv A outer s H E).nox (C8.fnBody st) t ∧ t { nx := fun _ H' => Q .non H', rt := Q } (start N vs) H) : C8.Cal P w K mg base (k + 1) x sp dvs := by
  obtain ⟨f, fd, F, b⟩ := D.ex
  exact C8.cal0 F b d S len fun cdv A outer s H vs Q E hr h => hbody f cdv A outer s H vs Q E hr h
end
theorem itN {c A B : Prop} [Decidable c] (h : ¬ c) (b : B) : if c then A else B := by
  rw [if_neg h]
  exact b
theorem itP {c A B : Prop} [Decidable c] (h : c) (a : A) : if c then A else B := by
  rw [if_pos h]
  exact a
theorem iteD {c A B : Prop} [Decidable c] (h1 : c → A) (h2 : ¬ c → B) : if decide c = true then A else B := by
  by_cases h : c
  · rw [if_pos (decide_eq_true h)]
    exact h1 h
  · rw [if_neg (by simpa using h)]
    exact h2 h
theorem lst_int {α β : Type} {f : α → β} {ns : List α} {i : Nat} {y : β} (h : (ns.map f)[i]? = some y) : ∃ u, ns[i]? = some u ∧ y = f u ∧ i < ns.length := by
  have z := (List.getElem?_eq_some_iff.mp h).1
  rw [List.length_map] at z
  rw [List.getElem?_map, List.getElem?_eq_getElem z] at h
  exact ⟨_, List.getElem?_eq_getElem z, (Option.some.inj h).symm, z⟩
theorem Same.wr {H H' : Hp} {p : Addr} {o : HO} (s : Same H H') (h : H p = none) : Same H (upd H' p o) := fun b u e => by
  rw [upd_ne (ne_of_none e h)]
  exact s b u e
theorem ixN_nat {n k : Nat} (h : k < n) : ixN n (k : Int) = some k := by
  unfold ixN
  rw [if_pos (Int.natCast_nonneg _), if_pos (by omega)]
  simp
theorem mem_set {α : Type} {l : List α} {k : Nat} {x y : α} (h : y ∈ l.set k x) : y = x ∨ y ∈ l := by
  rcases List.mem_or_eq_of_mem_set h with h | h
  · exact .inr h
  · exact .inl h
/-! ### the pool of draws -/
structure PoolAt (H : Hp) (p b : Addr) (ds : List Int) (i st : Int) : Prop where
  lst : H p = some (.lst [.ref b, .int i, .int st])
  drawn : H b = some (.lst (ds.map V.int))
  lo : 0 ≤ i
  hi : i ≤ ds.length
def Pool (H : Hp) (p : Addr) : Prop := ∃ b ds i st, PoolAt H p b ds i st
/-- all but the pool at p stands; the pool is one still -/
structure PK (p : Addr) (H H' : Hp) : Prop where
  pool : ∀ b ds i st, PoolAt H p b ds i st → ∃ i' st', PoolAt H' p b ds i' st'
  keep : ∀ b o, b ≠ p → H b = some o → H' b = some o
theorem Pool.isLst {H : Hp} {p : Addr} (h : Pool H p) : ∃ xs, H p = some (.lst xs) := let ⟨_, _, _, _, q⟩ := h; ⟨_, q.lst⟩
theorem PK.pl {H H' : Hp} {p : Addr} (k : PK p H H') (h : Pool H p) : Pool H' p := by
  obtain ⟨b, ds, i, st, q⟩ := h
  obtain ⟨i', st', q'⟩ := k.pool b ds i st q
  exact ⟨b, ds, i', st', q'⟩
theorem PK.refl {p : Addr} (H : Hp) : PK p H H := ⟨fun _ _ i st q => ⟨i, st, q⟩, fun _ _ _ e => e⟩
theorem PK.trans {H H1 H2 : Hp} {p : Addr} (a : PK p H H1) (b : PK p H1 H2) : PK p H H2 := ⟨fun c ds i st q => by
  obtain ⟨i', st', q'⟩ := a.pool c ds i st q
  exact b.pool c ds i' st' q', fun c o n e => b.keep c o n (a.keep c o n e)⟩
theorem PK.tk {H H' : Hp} {p : Addr} (a : PK p H H') (h : Pool H p) : TK H H' := by
  obtain ⟨xs, hp⟩ := h.isLst
  exact ⟨fun c ys e => a.keep c _ (ne_of e hp (fun z => by cases z)) e, fun c o u e => a.keep c _ (ne_of e hp (fun z => by cases z)) e⟩
theorem PoolAt.ne {H : Hp} {p b : Addr} {ds : List Int} {i st : Int} (h : PoolAt H p b ds i st) : b ≠ p := fun e => by
  have q := h.drawn
  rw [e, h.lst] at q
  have q' := congrArg (fun o => match o with | some (HO.lst xs) => xs.head? | _ => none) q
  cases ds with
  | nil => simp at q'
  | cons d ds => simp at q'
theorem PK.same {H H' : Hp} {p : Addr} (s : Same H H') : PK p H H' := ⟨fun _ _ _ _ q => ⟨_, _, s _ _ q.lst, s _ _ q.drawn, q.lo, q.hi⟩, fun b o _ e => s b o e⟩
/-- an object that was not there at first is written -/
theorem PK.wr {H H' : Hp} {p x : Addr} {o : HO} (k : PK p H H') (h : Pool H p) (n : H x = none) : PK p H (upd H' x o) := by
  refine ⟨fun b ds i st q => ?_, fun b u nb e => ?_⟩
  · obtain ⟨i', st', q'⟩ := k.pool b ds i st q
    exact ⟨i', st', by rw [upd_ne (ne_of_none q.lst n)]; exact q'.lst, by rw [upd_ne (ne_of_none q.drawn n)]; exact q'.drawn, q'.lo, q'.hi⟩
  · rw [upd_ne (ne_of_none e n)]
    exact k.keep b u nb e
theorem PK.free {H H' : Hp} {p x : Addr} (k : PK p H H') (h : Pool H p) (n : H' x = none) : H x = none := by
  cases q : H x with
  | none => rfl
  | some o =>
    by_cases e : x = p
    · obtain ⟨xs, hx⟩ := (k.pl h).isLst
      rw [e, hx] at n; cases n
    · rw [k.keep x o e q] at n; cases n
theorem hu0_of {A : Around} {k : Nat} (hr : Room k A) : A.units < cLine := hr.units0
theorem hu64_of {A : Around} {k : Nat} (hr : Room k A) : A.units + 64 < cLine := hr.units
/-- f(): a def without arguments -/
theorem pe_c0 {X : Cx} {k j : Nat} {x : Str} {sp : Sp} {dvs : List V} {p pos : Pos} (c : C8.Cal X.prog X.w X.K X.mg X.base k x sp dvs) (hr : Room j X.A) (hk : k ≤ j) (hg : Gl X x)
    (hdb : (x == ("__debug__" : Str)) = false := by decide) : PE X (.Call (.Name x p) [] [] pos) (tCall sp dvs C8.E0 tNil) := by
  obtain ⟨f, fd, ps, ds, F, hm, kp, b, d⟩ := c.ex
  exact pe_call0 F (hr.mono hk) hg hm kp b d C8.pass0 hdb

/-! ### loops over data -/
theorem while_D {c : TT} {tb : TS} {D : Ends} {σ : SS} {H : Hp} (Pv : SS → Hp → Prop) (μ : SS → Hp → Nat) (h0 : Pv σ H)
    (hs : ∀ σ H, Pv σ H → c σ H fun b H1 => if b = true then ∃ N : SS → Hp → Prop, (∀ σ' H', N σ' H' → ∃ m', m' < μ σ H ∧ m' = μ σ' H' ∧ Pv σ' H') ∧ tb { D with nx := N, ct := N, bk := D.nx } σ H1 else D.nx σ H1) : tWhile c tb D σ H :=
  ⟨fun m σ H => m = μ σ H ∧ Pv σ H, ⟨_, rfl, h0⟩, fun m σ H ⟨e, p⟩ => by
    subst e
    exact hs σ H p⟩
section
variable {K : Fr} {x : V} {ds : List PyData} {g : TG} {tb : TS} {D : Ends} {σ : SS} {H : Hp}
/-- for .. in x, x a datum -/
theorem for_D (hx : Dp K H x (.tuple ds)) (im : immA ds = true) (Pv : Nat → SS → Hp → Prop) (h0 : Pv 0 σ H) (ht : ∀ i σ H', Pv i σ H' → TK H H')
    (hs : ∀ i v d σ H', ds[i]? = some d → Dp K H' v d → Pv i σ H' → g v σ H' fun σ2 H2 => tb { D with nx := Pv (i + 1), ct := Pv (i + 1), bk := D.nx } σ2 H2) (hd : ∀ σ H', Pv ds.length σ H' → D.nx σ H') :
    ∃ a, x = .ref a ∧ (∃ xs, SqT K H a xs) ∧ ∃ W : Nat → Nat → SS → Hp → Prop, (∃ m, W 0 m σ H) ∧ ∀ i m σ H, W i m σ H →
      ((Itt K a).stop i H ∧ D.nx σ H) ∨ ((Itt K a).go i H ∧ ∃ N : SS → Hp → Prop, (∀ σ' H', N σ' H' → ∃ m', m' < m ∧ W (i + 1) m' σ' H') ∧ ∀ x H', (Itt K a).yld i H x H' → g x σ H' fun σ2 H2 => tb { D with nx := N, ct := N, bk := D.nx } σ2 H2) := by
  cases hx with
  | @tup a xs _ hs' ha =>
    refine ⟨a, rfl, ⟨xs, hs'⟩, for_tup (xs := xs) Pv h0 (fun i σ H' _ p => (ht i σ H' p).sqT hs') (fun i v σ H' e p => ?_) (fun σ H' p => hd σ H' (by rw [← DpA.length ha]; exact p))⟩
    obtain ⟨d, e1, e2⟩ := DpA.get ha e
    exact hs i v d σ H' e1 (Dp.tk (ht i σ H' p) _ _ (immA_all.mp im d (List.mem_of_getElem? e1)) e2) p
end
/-- [.. for .. in x], x a datum -/
theorem lc_D {K : Fr} {x : V} {ds : List PyData} {g : TG} {tt : TT} {te : TE} {vs : List Nat} {σ : SS} {H : Hp} {Qd : Addr → Hp → Prop} (hx : Dp K H x (.tuple ds)) (im : immA ds = true) (Pv : Addr → Nat → Hp → Prop) (h0 : ∀ D, H D = none → Pv D 0 (upd H D (.lst []))) (ht : ∀ D i H', H D = none → Pv D i H' → TK H H')
    (hs : ∀ D i v d H', H D = none → ds[i]? = some d → Dp K H' v d → Pv D i H' → g v (wipe σ vs) H' fun σ2 H2 => wipe σ2 vs = wipe σ vs ∧ tt σ2 H2 fun b H3 =>
      if b = true then te σ2 H3 fun y H4 => ∃ acc, H4 D = some (.lst acc) ∧ acc.length < sizeLine ∧ Pv D (i + 1) (upd H4 D (.lst (acc ++ [y]))) else Pv D (i + 1) H3) (hd : ∀ D H', H D = none → Pv D ds.length H' → Qd D H') :
    ∃ a, x = .ref a ∧ (∃ xs, SqT K H a xs) ∧ ∀ D, H D = none → ∃ W : Nat → Nat → Hp → Prop, (∃ m, W 0 m (upd H D (.lst []))) ∧ ∀ i m H, W i m H →
      ((Itt K a).stop i H ∧ Qd D H) ∨ ((Itt K a).go i H ∧ ∃ Nx : Hp → Prop, (∀ H', Nx H' → ∃ m', m' < m ∧ W (i + 1) m' H') ∧ ∀ x H', (Itt K a).yld i H x H' → g x (wipe σ vs) H' fun σ2 H2 => wipe σ2 vs = wipe σ vs ∧ tt σ2 H2 fun b H3 =>
        if b = true then te σ2 H3 fun y H4 => ∃ acc, H4 D = some (.lst acc) ∧ acc.length < sizeLine ∧ Nx (upd H4 D (.lst (acc ++ [y]))) else Nx H3) := by
  cases hx with
  | @tup a xs _ hs' ha =>
    refine ⟨a, rfl, ⟨xs, hs'⟩, fun D hD => lc_tup (xs := xs) (Pv D) (h0 D hD) (fun i H' _ p => (ht D i H' hD p).sqT hs') (fun i v H' e p => ?_) (fun H' p => hd D H' hD (by rw [← DpA.length ha]; exact p))⟩
    obtain ⟨d, e1, e2⟩ := DpA.get ha e
    exact hs D i v d H' hD e1 (Dp.tk (ht D i H' hD p) _ _ (immA_all.mp im d (List.mem_of_getElem? e1)) e2) p
end Ds
/-! ## enumerate(t), t a tuple -/
namespace PySem
open Sem (wp)
open AutoSeq1 (wpAny_loadPart')
theorem ds_newT (l : Addr) (oT : Obj) (items : Array Value) :
    Meets (Builtin.«enumerate.__new__» ⟨[.type "enumerate", .ref l], []⟩) (fun _ R s => (s.heap.get? l = some oT ∧ oT.cls = .type "tuple" ∧ ∃ n, oT.data = .seq items n) ∧
      R (.ok (.ret (.ref (s.heap.push { cls := .type "tuple_iterator", data := .fields #[.ref l, .int 0 0] }).objs.size)))
        { s with heap := (s.heap.push { cls := .type "tuple_iterator", data := .fields #[.ref l, .int 0 0] }).push { cls := .type "enumerate", data := .fields #[.none, .bool false, .ref s.heap.objs.size, rawInt 0, .none, .none] } }) :=
  .of_wp fun prog w A R s h => by
    obtain ⟨oc, od, dt, sl⟩ := oT
    obtain ⟨hp, g, d, tk, os⟩ := s
    obtain ⟨⟨hl, hc, n, hd⟩, h⟩ := h
    simp only at hc hd
    subst hc hd
    have hsub := sub_enumerate
    have hT : Heap.IsTuple (Shared.heap ⟨hp, g, d, tk, os⟩) l items := ⟨_, hl, rfl, n, rfl⟩
    wp_walk using wpAny_loadPart' hl
    refine wpAny_stack_any fun st => wpAny_pure ?_
    split
    · rename_i c _ _ _ _ _
      cases (c == Value.type "enumerate")
      · wp_walk using wpAny_loadPart' hl, wpAny_pyIter_tuple hT
        exact ⟨_, rfl, h⟩
      · wp_walk using wpAny_loadPart' hl, wpAny_pyIter_tuple hT
        exact ⟨_, rfl, h⟩
    · wp_walk using wpAny_loadPart' hl, wpAny_pyIter_tuple hT
      exact ⟨_, rfl, h⟩
theorem ds_enumT {prog : Program} {w : World} {A : Around} {E : Value → Shared → Prop} {s : Shared} {l : Addr} {items : Array Value} {Q : Value → Shared → Prop} (hT : PyProof.Rows.IsTup s.heap l items)
    (h : ∀ h', IsEnum h' (s.heap.objs.size + 1) s.heap.objs.size 0 .none → h'.IsTupleIter s.heap.objs.size l 0 → (∀ b o, s.heap.get? b = some o → h'.get? b = some o) → Q (.ref (s.heap.objs.size + 1)) { s with heap := h' }) :
    wpAny (model prog w) A (call (.type "enumerate") [.ref l]) Q E s := by
  obtain ⟨oT, hl, hc, hd⟩ := hT
  refine callType_new F.called_enumerate (by decide) (F.typeCall_enumerate_1 _) (F.newCall_enumerate_1 _) (fun obj => F.args_object_init_2 obj _) F.entry_enumerate_new (ds_newT l oT items) ⟨⟨hl, hc, hd⟩, ?_⟩
  have hz : (s.heap.push { cls := .type "tuple_iterator", data := .fields #[.ref l, .int 0 0] }).objs.size = s.heap.objs.size + 1 := Heap.size_push ..
  show _ ∧ _
  rw [hz]
  have he := Heap.get?_push_size (s.heap.push { cls := .type "tuple_iterator", data := .fields #[.ref l, .int 0 0] }) (o := { cls := .type "enumerate", data := .fields #[.none, .bool false, .ref s.heap.objs.size, rawInt 0, .none, .none] }) rfl
  rw [hz] at he
  exact ⟨⟨_, he, rfl⟩, h _ he ⟨_, Heap.get?_push_of_some _ (Heap.get?_push_size _ rfl), rfl, rfl⟩ fun b o x => Heap.get?_push_of_some _ (Heap.get?_push_of_some _ x)⟩
end PySem
namespace Ds
open PySem PySem.Spec PyProof.Rows L2
/-- each item of the tuple at a in a new pair with its place -/
def IteT (K : Fr) (a : Addr) : It :=
  ⟨fun i H => ∃ (xs : List V) (x : V), SqT K H a xs ∧ xs[i]? = some x, fun i H v H' => ∃ T x, v = .ref T ∧ H T = none ∧ H' = upd H T (.tup [.int (i : Nat), x]) ∧ ∀ xs, SqT K H a xs → xs[i]? = some x,
    fun i H => ∃ xs : List V, SqT K H a xs ∧ xs.length = i⟩
theorem turn_enumT {P : Program} {w : World} {K : Fr} {elts : List Expr} {kk : Nat} {tpos : Pos} (a e it : Addr) :
    Turn P w K (.Tuple elts kk tpos) (IteT K a) [e, it] e (fun i h => (∃ old, IsEnum h e it ((i : Nat) : Int) old) ∧ h.IsTupleIter it a i ∧ e ≠ it) where
  mem := by simp
  obj := fun i h ⟨⟨old, he⟩, ⟨o, ho, hc, hd⟩, _⟩ b hb => by
    have e' : b = e ∨ b = it := by simpa using hb
    rcases e' with rfl | rfl
    · exact ⟨_, he, fun v q => nomatch q⟩
    · exact ⟨o, ho, fun v q => by rw [hd] at q; cases q⟩
  keep := fun i h h' ⟨⟨old, he⟩, hi, hne⟩ k => ⟨⟨old, k e (by simp) _ he⟩, hi.at fun o q => k it (by simp) o q, hne⟩
  item := by
    intro X hP hw hK hc i pins s σ H E I hf ⟨⟨old, he⟩, hit, hne⟩ ⟨xs, x, hq, hx⟩
    subst hP hw hK
    obtain ⟨its, rv, p, hz⟩ := I.tuple hq
    obtain ⟨u, hu, ru⟩ := rv.get hx
    have hel : e < s.heap.objs.size := Heap.lt_size he
    have hil : it < s.heap.objs.size := by obtain ⟨_, q, _⟩ := hit; exact Heap.lt_size q
    have han : a ≠ it := fun z => by
      obtain ⟨o1, h1, c1, _⟩ := p
      obtain ⟨o2, h2, c2, _⟩ := hit
      rw [z, h2] at h1; cases h1
      rw [c2] at c1; exact absurd (Value.type.inj c1) (by decide)
    have hlt : i < its.toArray.size := by
      have := (List.getElem?_eq_some_iff.mp hu).1
      simpa using this
    have D := Draws.tuple (prog := X.prog) (w := X.w) (A := X.A.in1) (I.ok.hd hc) it a han its.toArray
    have nef : e ∉ [it, a] := by
      simp only [List.mem_cons, List.not_mem_nil, or_false, not_or]
      refine ⟨hne, fun z => ?_⟩
      obtain ⟨o1, h1, c1, _⟩ := p
      have h2 : s.heap.get? e = _ := he
      rw [← z, h2] at h1; cases h1; exact absurd (Value.type.inj c1) (by decide)
    refine wpAny_pyNext_enum_itemD D he ⟨hit, p⟩ hlt hne nef fun y h' tk hy ho hst' hT hsz hk => ?_
    have ey : y = u := by
      have z : its.toArray[i]? = some y := hy
      rw [List.getElem?_toArray, hu] at z
      exact (Option.some.inj z).symm
    subst ey
    refine ⟨_, rfl, wpAny_letOwnedTupleGo_enum (s := { s with heap := h', toks := tk + 1 }) ho fun h'' he' sb => ?_⟩
    have hT2 : h''.get? s.heap.objs.size = some { cls := .type "tuple", data := .seq #[.int i tk, y] } := (sb.2 _ (Nat.ne_of_gt hel)).trans hT
    have nw : ObjOk X.prog X.w (upd H s.heap.objs.size (.tup [.int (i : Nat), x])) h'' s.heap.objs.size (.tup [.int (i : Nat), x]) :=
      ⟨by show 2 ≤ sizeLine; decide, [.int i tk, y], .cons ⟨_, rfl⟩ (.cons ru .nil), ⟨_, hT2, rfl, _, rfl⟩⟩
    have I1 : Inv X pins σ (upd H s.heap.objs.size (.tup [.int (i : Nat), x])) { s with heap := h'', toks := tk + 1 } :=
      I.turnedNew (ch := [e, it]) (fun b ob hb q => (sb.2 b (fun z => hb (by simp [z]))).trans (hk b ob (fun z => hb (by simp [z])) (fun z => hb (by simp [z])) q)) hf (Nat.le_refl _) nw
    refine ⟨.ref s.heap.objs.size, _, I1, rfl, ⟨_, x, rfl, I.hok.fresh (Nat.le_refl _), rfl, fun ys hy => by rw [I.tuple_inj hy hq]; exact hx⟩, ⟨⟨y, ?_⟩, hst'.1.at fun o q => (sb.2 it (Ne.symm hne)).trans q, hne⟩, fun b hb => ?_⟩
    · have e1 : ((i + 1 : Nat) : Int) = (i : Int) + 1 := by omega
      rw [e1]; exact he'
    · have e' : b = e ∨ b = it := by simpa using hb
      have hb' : b < s.heap.objs.size := by
        rcases e' with z | z
        · rw [z]; exact hel
        · rw [z]; exact hil
      rw [upd_ne (Nat.ne_of_lt hb')]
      exact (hf b hb).1
  done := by
    intro X hP hw hK hc i pins s σ H E I hf ⟨⟨old, he⟩, hit, hne⟩ ⟨xs, hq, hx⟩
    subst hP hw hK
    obtain ⟨its, rv, p, hz⟩ := I.tuple hq
    obtain ⟨f0, f1, f2, f3, f4, f5⟩ := hf it (by simp)
    have han : a ≠ it := fun z => by
      obtain ⟨o1, h1, c1, _⟩ := p
      obtain ⟨o2, h2, c2, _⟩ := hit
      rw [z, h2] at h1; cases h1
      rw [c2] at c1; exact absurd (Value.type.inj c1) (by decide)
    have D := Draws.tuple (prog := X.prog) (w := X.w) (A := X.A.in1) (I.ok.hd hc) it a han its.toArray
    have hl : its.toArray.size = i := by
      have := rv.length
      simp only [List.size_toArray]
      omega
    exact wpAny_pyNext_enum_endD D he ⟨by rw [hl]; exact hit, p⟩ fun h' eb => ⟨rfl, I.turned (t' := s.toks) (fun b o hb q => eb b o hb q) f0 f1 f3 f4 f5⟩
  self := fun A i s Q E st h => let ⟨⟨_, he⟩, _⟩ := st; wpAny_pyIter_enum he h
def iEnumT (K : Fr) (ta : TA) : TI := fun σ H R => ta σ H fun vs H1 => ∃ a xs, vs = [.ref a] ∧ SqT K H1 a xs ∧ R (IteT K a) H1
theorem pi_enumT {X : Cx} {K : Fr} {e : Expr} {ta : TA} {p pos tpos : Pos} {elts : List Expr} {kk : Nat} (hg : Gl X "enumerate") (hm : X.mg "enumerate" = none) (ha : PA X [e] ta) (hs : starEach [e] X.env = [(false, eval e X.env)] := by rfl) (hK : X.K = K := by rfl) :
    PI X (.Tuple elts kk tpos) (.Call (.Name "enumerate" p) [e] [] pos) (iEnumT K ta) := by
  subst hK
  refine ⟨fun pins s σ H R I h => ?_⟩
  refine Call_ (ld_blt I hg hm boot_enumerate (PyProof.Rows.callWith_type1 (thn (ha.run pos pins s σ H _ I h) fun us s1 ⟨vs, H1, I1, r1, a, xs, ex, hq, q⟩ => ?_) hs rfl))
  subst ex
  have eu := r1.ref1
  subst eu
  obtain ⟨its, rv, p', hz⟩ := I1.tuple hq
  refine ds_enumT p' fun h' he hit hk => wpAny_pyIter_enum he ?_
  have I2 : Inv X pins σ H1 { s1 with heap := h' } := I1.kept (t' := s1.toks) hk
  refine ⟨s1.heap.objs.size + 1, [s1.heap.objs.size + 1, s1.heap.objs.size], _, _, H1, rfl, I2, turn_enumT a (s1.heap.objs.size + 1) s1.heap.objs.size, ⟨⟨.none, he⟩, hit, Nat.succ_ne_self _⟩, fun b hb => ?_, q⟩
  have hle : s1.heap.objs.size ≤ b := by
    have e' : b = s1.heap.objs.size + 1 ∨ b = s1.heap.objs.size := by simpa using hb
    rcases e' with z | z
    · rw [z]; exact Nat.le_add_right _ _
    · rw [z]; exact Nat.le_refl _
  exact I1.fpOk hle (I1.hok.fresh hle)
/-- for i, y in enumerate(x), x a datum: the pair, new, at T -/
theorem for_enumD {K : Fr} {x : V} {ds : List PyData} {g : TG} {tb : TS} {D : Ends} {σ : SS} {H : Hp} (hx : Dp K H x (.tuple ds)) (im : immA ds = true) (Pv : Nat → SS → Hp → Prop) (h0 : Pv 0 σ H) (ht : ∀ i σ H', Pv i σ H' → TK H H')
    (hs : ∀ i v d σ H' H'' T, ds[i]? = some d → Dp K H'' v d → Pv i σ H' → H' T = none → Same H' H'' → H'' T = some (.tup [.int (i : Nat), v]) → g (.ref T) σ H'' fun σ2 H2 => tb { D with nx := Pv (i + 1), ct := Pv (i + 1), bk := D.nx } σ2 H2) (hd : ∀ σ H', Pv ds.length σ H' → D.nx σ H') :
    ∃ a xs, [x] = [V.ref a] ∧ SqT K H a xs ∧ ∃ W : Nat → Nat → SS → Hp → Prop, (∃ m, W 0 m σ H) ∧ ∀ i m σ H, W i m σ H →
      ((IteT K a).stop i H ∧ D.nx σ H) ∨ ((IteT K a).go i H ∧ ∃ N : SS → Hp → Prop, (∀ σ' H', N σ' H' → ∃ m', m' < m ∧ W (i + 1) m' σ' H') ∧ ∀ x H', (IteT K a).yld i H x H' → g x σ H' fun σ2 H2 => tb { D with nx := N, ct := N, bk := D.nx } σ2 H2) := by
  cases hx with
  | @tup a xs _ hs' ha =>
    have el := DpA.length ha
    refine ⟨a, xs, rfl, hs', fun i m σ H' => m = xs.length - i ∧ i ≤ xs.length ∧ Pv i σ H', ⟨xs.length, by simp, Nat.zero_le _, h0⟩, ?_⟩
    rintro i m σ H' ⟨rfl, hi, p⟩
    have hq := (ht i σ H' p).sqT hs'
    by_cases hlt : i < xs.length
    · refine .inr ⟨⟨xs, xs[i], hq, by simp [hlt]⟩, Pv (i + 1), fun σ' H'' p' => ⟨xs.length - (i + 1), by omega, rfl, hlt, p'⟩, ?_⟩
      rintro y H'' ⟨T, z, rfl, hT, rfl, hz⟩
      have e := hz xs hq
      obtain ⟨d, e1, e2⟩ := DpA.get ha e
      exact hs i z d σ H' _ T e1 (Dp.tk ((ht i σ H' p).trans (TK.new hT)) _ _ (immA_all.mp im d (List.mem_of_getElem? e1)) e2) p hT (Same.new hT) upd_same
    · have e : i = xs.length := by omega
      subst e
      exact .inl ⟨⟨xs, hq, rfl⟩, hd σ H' (by rw [← el]; exact p)⟩

/-! ### loops: the iterator's part apart from the invariant's -/
def LoopF (J : It) (g : TG) (tb : TS) (D : Ends) (σ : SS) (H : Hp) : Prop := ∃ W : Nat → Nat → SS → Hp → Prop, (∃ m, W 0 m σ H) ∧ ∀ i m σ H, W i m σ H → (J.stop i H ∧ D.nx σ H) ∨ (J.go i H ∧ ∃ N : SS → Hp → Prop,
  (∀ σ' H', N σ' H' → ∃ m', m' < m ∧ W (i + 1) m' σ' H') ∧ ∀ x H', J.yld i H x H' → g x σ H' fun σ2 H2 => tb { D with nx := N, ct := N, bk := D.nx } σ2 H2)
theorem tFor_eq {wi : TI} {g : TG} {tb : TS} {D : Ends} {σ : SS} {H : Hp} : tFor wi g tb D σ H = wi σ H fun J H1 => LoopF J g tb D σ H1 := rfl
def LoopC (J : It) (g : TG) (tt : TT) (te : TE) (vs : List Nat) (σ : SS) (Q : VK) (H1 : Hp) : Prop := ∀ D, H1 D = none → ∃ W : Nat → Nat → Hp → Prop, (∃ m, W 0 m (upd H1 D (.lst []))) ∧ ∀ i m H, W i m H →
  (J.stop i H ∧ Q (.ref D) H) ∨ (J.go i H ∧ ∃ Nx : Hp → Prop, (∀ H', Nx H' → ∃ m', m' < m ∧ W (i + 1) m' H') ∧ ∀ x H', J.yld i H x H' → g x (wipe σ vs) H' fun σ2 H2 => wipe σ2 vs = wipe σ vs ∧ tt σ2 H2 fun b H3 =>
    if b = true then te σ2 H3 fun y H4 => ∃ acc, H4 D = some (.lst acc) ∧ acc.length < sizeLine ∧ Nx (upd H4 D (.lst (acc ++ [y]))) else Nx H3)
theorem tLc_eq {wi : TI} {g : TG} {tt : TT} {te : TE} {vs : List Nat} {σ : SS} {H : Hp} {Q : VK} : tLc wi g tt te vs σ H Q = wi σ H fun J H1 => LoopC J g tt te vs σ Q H1 := rfl
/-- over a range of n -/
theorem loop_range {lo : Int} {m n : Nat} {g : TG} {tb : TS} {D : Ends} {σ : SS} {H : Hp} (e : m = n) (Pv : Nat → SS → Hp → Prop) (h0 : Pv 0 σ H)
    (hs : ∀ i σ H, i < n → Pv i σ H → g (.int (lo + i)) σ H fun σ2 H2 => tb { D with nx := Pv (i + 1), ct := Pv (i + 1), bk := D.nx } σ2 H2) (hd : ∀ σ H, Pv n σ H → D.nx σ H) : LoopF (Itr lo m) g tb D σ H := by
  subst e
  exact for_range Pv h0 hs hd
theorem loop_D {K : Fr} {x : V} {ds : List PyData} {g : TG} {tb : TS} {D : Ends} {σ : SS} {H : Hp} (hx : Dp K H x (.tuple ds)) (im : immA ds = true) (Pv : Nat → SS → Hp → Prop) (h0 : Pv 0 σ H) (ht : ∀ i σ H', Pv i σ H' → TK H H')
    (hs : ∀ i v d σ H', ds[i]? = some d → Dp K H' v d → Pv i σ H' → g v σ H' fun σ2 H2 => tb { D with nx := Pv (i + 1), ct := Pv (i + 1), bk := D.nx } σ2 H2) (hd : ∀ σ H', Pv ds.length σ H' → D.nx σ H') :
    ∃ a, x = .ref a ∧ (∃ xs, SqT K H a xs) ∧ LoopF (Itt K a) g tb D σ H := for_D hx im Pv h0 ht hs hd
theorem loop_enumD {K : Fr} {x : V} {ds : List PyData} {g : TG} {tb : TS} {D : Ends} {σ : SS} {H : Hp} (hx : Dp K H x (.tuple ds)) (im : immA ds = true) (Pv : Nat → SS → Hp → Prop) (h0 : Pv 0 σ H) (ht : ∀ i σ H', Pv i σ H' → TK H H')
    (hs : ∀ i v d σ H' H'' T, ds[i]? = some d → Dp K H'' v d → Pv i σ H' → H' T = none → Same H' H'' → H'' T = some (.tup [.int (i : Nat), v]) → g (.ref T) σ H'' fun σ2 H2 => tb { D with nx := Pv (i + 1), ct := Pv (i + 1), bk := D.nx } σ2 H2) (hd : ∀ σ H', Pv ds.length σ H' → D.nx σ H') :
    ∃ a, x = .ref a ∧ (∃ xs, SqT K H a xs) ∧ LoopF (IteT K a) g tb D σ H := by
  obtain ⟨a, xs, e, h1, h2⟩ := for_enumD hx im Pv h0 ht hs hd
  injection e with e
  exact ⟨a, e, ⟨xs, h1⟩, h2⟩
/-- over a tracked list that the body leaves as it is -/
theorem loop_H {K : Fr} {a : Addr} {xs : List V} {g : TG} {tb : TS} {D : Ends} {σ : SS} {H : Hp} (Pv : Nat → SS → Hp → Prop) (h0 : Pv 0 σ H) (hl : ∀ i σ H', Pv i σ H' → SqL K H' a xs)
    (hs : ∀ i v σ H', xs[i]? = some v → Pv i σ H' → g v σ H' fun σ2 H2 => tb { D with nx := Pv (i + 1), ct := Pv (i + 1), bk := D.nx } σ2 H2) (hd : ∀ σ H', Pv xs.length σ H' → D.nx σ H') :
    LoopF (Itl K a) g tb D σ H := for_list Pv h0 (fun i σ H _ p => hl i σ H p) hs hd
/-- comprehensions -/
theorem comp_range {lo : Int} {m n : Nat} {g : TG} {tt : TT} {te : TE} {vs : List Nat} {σ : SS} {H1 : Hp} {Q : VK} (e : m = n) (Pv : Addr → Nat → Hp → Prop) (h0 : ∀ D, H1 D = none → Pv D 0 (upd H1 D (.lst [])))
    (hs : ∀ D i H, H1 D = none → i < n → Pv D i H → g (.int (lo + i)) (wipe σ vs) H fun σ2 H2 => wipe σ2 vs = wipe σ vs ∧ tt σ2 H2 fun b H3 =>
      if b = true then te σ2 H3 fun y H4 => ∃ acc, H4 D = some (.lst acc) ∧ acc.length < sizeLine ∧ Pv D (i + 1) (upd H4 D (.lst (acc ++ [y]))) else Pv D (i + 1) H3) (hd : ∀ D H, H1 D = none → Pv D n H → Q (.ref D) H) :
    LoopC (Itr lo m) g tt te vs σ Q H1 := by
  subst e
  exact fun D hD => lc_range (Pv D) (h0 D hD) (fun i H hi p => hs D i H hD hi p) (fun H p => hd D H hD p)
theorem comp_H {K : Fr} {a : Addr} {xs : List V} {g : TG} {tt : TT} {te : TE} {vs : List Nat} {σ : SS} {H1 : Hp} {Q : VK} (Pv : Addr → Nat → Hp → Prop) (h0 : ∀ D, H1 D = none → Pv D 0 (upd H1 D (.lst []))) (hl : ∀ D i H, H1 D = none → Pv D i H → SqL K H a xs)
    (hs : ∀ D i v H, H1 D = none → xs[i]? = some v → Pv D i H → g v (wipe σ vs) H fun σ2 H2 => wipe σ2 vs = wipe σ vs ∧ tt σ2 H2 fun b H3 =>
      if b = true then te σ2 H3 fun y H4 => ∃ acc, H4 D = some (.lst acc) ∧ acc.length < sizeLine ∧ Pv D (i + 1) (upd H4 D (.lst (acc ++ [y]))) else Pv D (i + 1) H3) (hd : ∀ D H, H1 D = none → Pv D xs.length H → Q (.ref D) H) :
    LoopC (Itl K a) g tt te vs σ Q H1 := fun D hD => lc_list (xs := xs) (Pv D) (h0 D hD) (fun i H _ p => hl D i H hD p) (fun i v H e p => hs D i v H hD e p) (fun H p => hd D H hD p)
theorem comp_D {K : Fr} {x : V} {ds : List PyData} {g : TG} {tt : TT} {te : TE} {vs : List Nat} {σ : SS} {H : Hp} {Q : VK} (hx : Dp K H x (.tuple ds)) (im : immA ds = true) (Pv : Addr → Nat → Hp → Prop) (h0 : ∀ D, H D = none → Pv D 0 (upd H D (.lst []))) (ht : ∀ D i H', H D = none → Pv D i H' → TK H H')
    (hs : ∀ D i v d H', H D = none → ds[i]? = some d → Dp K H' v d → Pv D i H' → g v (wipe σ vs) H' fun σ2 H2 => wipe σ2 vs = wipe σ vs ∧ tt σ2 H2 fun b H3 =>
      if b = true then te σ2 H3 fun y H4 => ∃ acc, H4 D = some (.lst acc) ∧ acc.length < sizeLine ∧ Pv D (i + 1) (upd H4 D (.lst (acc ++ [y]))) else Pv D (i + 1) H3) (hd : ∀ D H', H D = none → Pv D ds.length H' → Q (.ref D) H') :
    ∃ a, x = .ref a ∧ (∃ xs, SqT K H a xs) ∧ LoopC (Itt K a) g tt te vs σ Q H := lc_D (Qd := fun D H' => Q (.ref D) H') hx im Pv h0 ht hs hd
theorem iEnumT_eq {K : Fr} {ta : TA} {σ : SS} {H : Hp} {R : It → Hp → Prop} : iEnumT K ta σ H R = ta σ H fun vs H1 => ∃ x, vs = [x] ∧ ∃ a, x = .ref a ∧ (∃ xs, SqT K H1 a xs) ∧ R (IteT K a) H1 := by
  unfold iEnumT
  congr 1
  funext vs H1
  apply propext
  constructor
  · rintro ⟨a, xs, rfl, h1, h2⟩
    exact ⟨_, rfl, a, rfl, ⟨xs, h1⟩, h2⟩
  · rintro ⟨x, rfl, a, rfl, ⟨xs, h1⟩, h2⟩
    exact ⟨a, xs, rfl, h1, h2⟩
end Ds
/-! ## defs called with keywords -/
namespace Ds
open PySem PySem.Spec PyProof.Rows L2
section
variable {P : Program} {w : World} {K : Fr} {mg : Str → Option Value} {base : Heap}
/-- what a def of the text keeps, whatever object it stands in -/
def Prom (P : Program) (w : World) (K : Fr) (mg : Str → Option Value) (base : Heap) (k : Nat) (x : Str) (st : Stmt) (ps : List Str) (sp : Sp) : Prop := ∀ f fd, C8.Def K mg x st f fd → FnOk P w K mg base C8.CX0 k f fd ps sp
theorem prom_of {x : Str} {st : Stmt} {N ps : List Str} {k : Nat} {sp : Sp} (S : FnScope N ps (C8.fnScope st)) (len : ∀ vs H Q E, sp vs H Q E → vs.length = ps.length)
    (hbody : ∀ (f : Addr) (cdv : Value) (A : Around) (outer : List Env) (s : Shared) (H : Hp) (vs : List V) (Q : VK) (E : XK), Room k (A.deeper (envOfC x (C8.fnScope st) s.heap.objs.size f cdv)) → sp vs H Q E →
      ∃ t, PSs (cxOf C8.CX0 P w K mg base N x (C8.fnScope st) f cdv A outer s H E).nox (C8.fnBody st) t ∧ t { nx := fun _ H' => Q .non H', rt := Q } (start N vs) H) : Prom P w K mg base (k + 1) x st ps sp :=
  fun f fd F => C8.fn0 F.fn S len fun cdv A outer s H vs Q E hr h => hbody f cdv A outer s H vs Q E hr h
theorem Prom.cal {k : Nat} {x : Str} {st : Stmt} {ps : List Str} {sp : Sp} {ds : List Value} {dvs : List V} (p : Prom P w K mg base k x st ps sp) (D : DefB K mg x st ps ds) (d : Vals dvs ds) : C8.Cal P w K mg base k x sp dvs := by
  obtain ⟨f, fd, F, b⟩ := D.ex
  exact ⟨f, fd, ps, ds, p f fd F, F.mgf, F.kp, b, d⟩
structure DefKw (K : Fr) (mg : Str → Option Value) (x : Str) (st : Stmt) (ps : List Str) (n : Nat) (ks : List Str) (gV : List V → List V → List V) : Prop where
  ex : ∃ (f : Addr) (fd : FuncData) (g : List Value → List Value → List Value), C8.Def K mg x st f fd ∧ KBn K fd ps n ks g gV
structure CalK (P : Program) (w : World) (K : Fr) (mg : Str → Option Value) (base : Heap) (k : Nat) (x : Str) (n : Nat) (ks : List Str) (gV : List V → List V → List V) (sp : Sp) : Prop where
  ex : ∃ (f : Addr) (fd : FuncData) (ps : List Str) (g : List Value → List Value → List Value), FnOk P w K mg base C8.CX0 k f fd ps sp ∧ mg x = some (.ref f) ∧ PySem.W.keepIn K (.ref f) = true ∧ KBn K fd ps n ks g gV
theorem Prom.calk {k n : Nat} {x : Str} {st : Stmt} {ps ks : List Str} {gV : List V → List V → List V} {sp : Sp} (p : Prom P w K mg base k x st ps sp) (D : DefKw K mg x st ps n ks gV) : CalK P w K mg base k x n ks gV sp := by
  obtain ⟨f, fd, g, F, b⟩ := D.ex
  exact ⟨f, fd, ps, g, p f fd F, F.mgf, F.kp, b⟩
end
section
variable {X : Cx} {k j n : Nat} {x : Str} {ks : List Str} {gV : List V → List V → List V} {sp : Sp} {p pos : Pos} {e : Expr} {es : List Expr} {kws : List Keyword} {t tk : TA}
/-- x(e, .., k = v, ..) -/
theorem pe_ck (c : CalK X.prog X.w X.K X.mg X.base k x n ks gV sp) (hr : Room j X.A) (hk : k ≤ j) (hg : Gl X x) (ha : PA X (e :: es) t) (hkw : L2.PK X kws tk)
    (hall : (backToKw pos (keywordEach kws X.env)).all (·.1.isSome) = true := by rfl) (hks : (backToKw pos (keywordEach kws X.env)).filterMap (·.1) = ks := by rfl)
    (hdb : (x == ("__debug__" : Str)) = false := by decide) (he : starEach (e :: es) X.env = (false, eval e X.env) :: starEach es X.env := by rfl)
    (hpl : ((backTo pos (starEach (e :: es) X.env)).any (·.1) || (backToKw pos (keywordEach kws X.env)).any (·.1.isNone)) = false := by rfl) :
    PE X (.Call (.Name x p) (e :: es) kws pos) (tCallN n ks.length sp gV C8.E0 t tk) := by
  obtain ⟨f, fd, ps, g, F, hm, kp, b⟩ := c.ex
  exact pe_callN F (hr.mono hk) hg hm kp b C8.pass0 ha hkw hall hks hdb he hpl
/-- x(k = v, ..) -/
theorem pe_ck0 (c : CalK X.prog X.w X.K X.mg X.base k x 0 ks gV sp) (hr : Room j X.A) (hk : k ≤ j) (hg : Gl X x) (hkw : L2.PK X kws tk)
    (hall : (backToKw pos (keywordEach kws X.env)).all (·.1.isSome) = true := by rfl) (hks : (backToKw pos (keywordEach kws X.env)).filterMap (·.1) = ks := by rfl)
    (hdb : (x == ("__debug__" : Str)) = false := by decide)
    (hpl : ((backTo pos (starEach [] X.env)).any (·.1) || (backToKw pos (keywordEach kws X.env)).any (·.1.isNone)) = false := by rfl) :
    PE X (.Call (.Name x p) [] kws pos) (tCallN 0 ks.length sp gV C8.E0 tNil tk) := by
  obtain ⟨f, fd, ps, g, F, hm, kp, b⟩ := c.ex
  refine ⟨fun pins s σ H Q I h => ?_⟩
  refine wpAny_Call_Name_kw (ld_glob I hg hm ?_ hdb)
  refine PySem.W.callWith_KW0 (h₀ := X.base) I.ok.mod.kin kp hall ?_ hpl
  refine thn (hkw.run pos pins s σ H _ I h) fun ws s2 ⟨zs, H2, I2, rz, l1, l2, q2⟩ => ⟨I2.kIn, ?_⟩
  rw [hks]
  exact run_fnN (us := []) (vs := []) F (hr.mono hk) b C8.pass0 I2 .nil rz rfl l2 q2
end
section
variable {P : Program} {w : World} {K : Fr} {mg : Str → Option Value} {base : Heap}
theorem met_of {m qual : Str} {C : Addr} {st : Stmt} {N ps : List Str} {k : Nat} {sp : Sp} (c : Cls K C) (F : ∃ (f : Addr) (fd : FuncData), Meth K C m f ∧ C8.Fun K m qual st f fd ∧ Binds K fd ps []) (S : FnScope N ps (C8.fnScope st)) (len : ∀ vs H Q E, sp vs H Q E → vs.length = ps.length)
    (hbody : ∀ (f : Addr) (cdv : Value) (A : Around) (outer : List Env) (s : Shared) (H : Hp) (vs : List V) (Q : VK) (E : XK), Room k (A.deeper (envOfC qual (C8.fnScope st) s.heap.objs.size f cdv)) → sp vs H Q E →
      ∃ t, PSs (cxOf C8.CX0 P w K mg base N qual (C8.fnScope st) f cdv A outer s H E).nox (C8.fnBody st) t ∧ t { nx := fun _ H' => Q .non H', rt := Q } (start N vs) H) : C8.Met P w K mg base (k + 1) C m sp [] := by
  obtain ⟨f, fd, me, F, b⟩ := F
  exact C8.met0 c me F b S len fun cdv A outer s H vs Q E hr h => hbody f cdv A outer s H vs Q E hr h
theorem mak_of {x qual : Str} {C : Addr} {st : Stmt} {N ps : List Str} {k : Nat} {sp : Sp} (hm : mg x = some (.ref C)) (F : ∃ (f : Addr) (fd : FuncData), Mk K C f ∧ C8.Fun K "__init__" qual st f fd ∧ Binds K fd ps []) (S : FnScope N ps (C8.fnScope st)) (len : ∀ vs H Q E, sp vs H Q E → vs.length = ps.length)
    (hbody : ∀ (f : Addr) (cdv : Value) (A : Around) (outer : List Env) (s : Shared) (H : Hp) (vs : List V) (Q : VK) (E : XK), Room k (A.deeper (envOfC qual (C8.fnScope st) s.heap.objs.size f cdv)) → sp vs H Q E →
      ∃ t, PSs (cxOf C8.CX0 P w K mg base N qual (C8.fnScope st) f cdv A outer s H E).nox (C8.fnBody st) t ∧ t { nx := fun _ H' => Q .non H', rt := Q } (start N vs) H) : C8.Mak P w K mg base (k + 1) x C sp [] := by
  obtain ⟨f, fd, M, F, b⟩ := F
  exact C8.mak0 M hm F b .nil S len fun cdv A outer s H vs Q E hr h => hbody f cdv A outer s H vs Q E hr h
end
/-- a plain def of two parameters, both by keyword, the second one first -/
theorem kbn_swap {K : Fr} {x qual : Str} {st : Stmt} {f : Addr} {fd : FuncData} (F : C8.Fun K x qual st f fd) (df : fd.defaults = .none) {p0 p1 : Str}
    (h : ∀ (kV doc pm : Value) (an : Option Addr) (cdv ct : Value) (u v : Value), bindArgs (PySem.W.fnOf x qual (C8.fnArgs st) (C8.fnBody st) (C8.fnScope st) .none kV doc pm an cdv ct) ⟨[], [(p1, u), (p0, v)]⟩ = pure [(p0, v), (p1, u)]) :
    KBn K fd [p0, p1] 0 [p1, p0] (fun _ ws => ws.reverse) (fun _ zs => zs.reverse) := by
  obtain ⟨oc, od, dV, kV, doc, pm, an, cdv, ct, osl, rfl, lk, hcd⟩ := F.ex
  have e : dV = .none := df
  subst e
  refine ⟨fun s us ws X l1 l2 => ?_, fun r1 r2 => ?_⟩
  · have e1 : us = [] := List.eq_nil_of_length_eq_zero l1
    subst e1
    match ws, l2 with
    | [u, v], _ => exact .of_eq (h kV doc pm an cdv ct u v)
  · exact r2.reverse
theorem tyV_str {K : Fr} {H : Hp} {z : Str} : tyV K "str" (.str z) H = True := eq_true rfl
/-- a new dict, the heap behind a letter -/
def tDKN : TE := fun _ H Q => ∀ p H2, H p = none → Same H H2 → H2 p = some (.dK []) → Q (.ref p) H2
def tDTN : TE := fun _ H Q => ∀ p H2, H p = none → Same H H2 → H2 p = some (.dT []) → Q (.ref p) H2
theorem pe_dnewKN {X : Cx} {pos : Pos} : PE X (.Dict [] [] pos) tDKN := PE.imp pe_dnewK fun σ H Q q p hp => q p _ hp (Same.new hp) upd_same
theorem pe_dnewTN {X : Cx} {pos : Pos} : PE X (.Dict [] [] pos) tDTN := PE.imp pe_dnewT fun σ H Q q p hp => q p _ hp (Same.new hp) upd_same
end Ds
/-! ## what the head has found, as defs -/
namespace Ds
open PySem PySem.Spec PyProof.Rows L2
section
variable {K : Fr} {h : Heap} {mg : Str → Option Value} {x qual : Str} {st : Stmt} {f C D : Addr} {oc kV dV dc pm cd ct : Value} {od an : Option Addr} {sl : Array (Option Value)} {ps : List Str}
theorem def_mk (X : K.In h) (G : h.Ns mainGlobals mg) (a : PySem.W.nsIn K mainGlobals x = some (some (.ref f))) (l : K.lookup f = some ⟨oc, od, .func (PySem.W.fnOf x x (C8.fnArgs st) (C8.fnBody st) (C8.fnScope st) dV kV dc pm an cd ct), sl⟩)
    (c : PySem.W.codeIn K cd x = true) (k : PySem.W.keepIn K (.ref f) = true) : C8.Def K mg x st f (PySem.W.fnOf x x (C8.fnArgs st) (C8.fnBody st) (C8.fnScope st) dV kV dc pm an cd ct) := ⟨⟨oc, od, dV, kV, dc, pm, an, cd, ct, sl, rfl, l, c⟩, PySem.W.mg_of X G a, k⟩
theorem defB_mk (X : K.In h) (G : h.Ns mainGlobals mg) (a : PySem.W.nsIn K mainGlobals x = some (some (.ref f))) (l : K.lookup f = some ⟨oc, od, .func (PySem.W.fnOf x x (C8.fnArgs st) (C8.fnBody st) (C8.fnScope st) .none kV dc pm an cd ct), sl⟩)
    (c : PySem.W.codeIn K cd x = true) (k : PySem.W.keepIn K (.ref f) = true)
    (hb : ∀ (kV doc pm : Value) (an : Option Addr) (cdv ct : Value) (us : List Value), us.length = ps.length → bindArgs (PySem.W.fnOf x x (C8.fnArgs st) (C8.fnBody st) (C8.fnScope st) .none kV doc pm an cdv ct) ⟨us, []⟩ = pure (ps.zip us)) : DefB K mg x st ps [] :=
  ⟨f, _, def_mk X G a l c k, .all (hb kV dc pm an cd ct)⟩
theorem defKw_mk {n : Nat} {ks : List Str} (g : {α : Type} → List α → List α → List α) (X : K.In h) (G : h.Ns mainGlobals mg) (a : PySem.W.nsIn K mainGlobals x = some (some (.ref f))) (l : K.lookup f = some ⟨oc, od, .func (PySem.W.fnOf x x (C8.fnArgs st) (C8.fnBody st) (C8.fnScope st) .none kV dc pm an cd ct), sl⟩)
    (c : PySem.W.codeIn K cd x = true) (k : PySem.W.keepIn K (.ref f) = true)
    (hr : ∀ {vs zs : List V} {us ws : List Value}, Vals vs us → Vals zs ws → Vals (g vs zs) (g us ws))
    (hb : ∀ (kV doc pm : Value) (an : Option Addr) (cdv ct : Value) (us ws : List Value), us.length = n → ws.length = ks.length → bindArgs (PySem.W.fnOf x x (C8.fnArgs st) (C8.fnBody st) (C8.fnScope st) .none kV doc pm an cdv ct) ⟨us, ks.zip ws⟩ = pure (ps.zip (g us ws))) :
    DefKw K mg x st ps n ks (fun vs zs => g vs zs) :=
  ⟨f, _, fun us ws => g us ws, def_mk X G a l c k, ⟨fun s us ws _ l1 l2 => .of_eq (hb kV dc pm an cd ct us ws l1 l2), fun r1 r2 => hr r1 r2⟩⟩
theorem funD_mk {kws : List (Str × V)} (l : K.lookup f = some ⟨oc, od, .func (PySem.W.fnOf x x (C8.fnArgs st) (C8.fnBody st) (C8.fnScope st) .none (.ref D) dc pm an cd ct), sl⟩)
    (c : PySem.W.codeIn K cd x = true) (k : PySem.W.keepIn K (.ref f) = true) (q : ∀ p ∈ kws, ∃ u, PySem.W.nsIn K D p.1 = some (some u) ∧ RelV p.2 u) :
    FunD K x x (C8.fnArgs st) (C8.fnBody st) (C8.fnScope st) [] kws f (PySem.W.fnOf x x (C8.fnArgs st) (C8.fnBody st) (C8.fnScope st) .none (.ref D) dc pm an cd ct) :=
  ⟨⟨oc, od, .none, .ref D, dc, pm, an, cd, ct, sl, rfl, l, c, .inl ⟨rfl, rfl⟩, .inr ⟨D, rfl, q⟩⟩, k⟩
/-- keyword-only parameters, none given -/
theorem kwB_mk {kws : List (Str × V)} (n : Nat) (X : K.In h) (G : h.Ns mainGlobals mg) (a : PySem.W.nsIn K mainGlobals x = some (some (.ref f))) (l : K.lookup f = some ⟨oc, od, .func (PySem.W.fnOf x x (C8.fnArgs st) (C8.fnBody st) (C8.fnScope st) .none (.ref D) dc pm an cd ct), sl⟩)
    (c : PySem.W.codeIn K cd x = true) (k : PySem.W.keepIn K (.ref f) = true) (q : ∀ p ∈ kws, ∃ u, PySem.W.nsIn K D p.1 = some (some u) ∧ RelV p.2 u) (hne : kws ≠ []) (hn : n + kws.length = ps.length)
    (hb : ∀ (D : Addr) (doc pm : Value) (an : Option Addr) (cdv ct : Value) (us ks : List Value), us.length = n → ks.length = kws.length →
      KwChain D ((kws.map (·.1)).zip ks) (bindArgs (PySem.W.fnOf x x (C8.fnArgs st) (C8.fnBody st) (C8.fnScope st) .none (.ref D) doc pm an cdv ct) ⟨us, []⟩) (ps.zip (us ++ ks))) : ∃ ds, DefB K mg x st ps ds ∧ Vals (kws.map (·.2)) ds := by
  obtain ⟨ds, v, b⟩ := FunD.binds0 (ps := ps) (funD_mk l c k q) n hne hn hb
  exact ⟨ds, ⟨f, _, def_mk X G a l c k, b⟩, v⟩
/-- .. some given -/
theorem kwK_mk {kws ms : List (Str × V)} {ks : List Str} (n : Nat) (g : {α : Type} → List α → List α → List α → List α) (X : K.In h) (G : h.Ns mainGlobals mg) (a : PySem.W.nsIn K mainGlobals x = some (some (.ref f))) (l : K.lookup f = some ⟨oc, od, .func (PySem.W.fnOf x x (C8.fnArgs st) (C8.fnBody st) (C8.fnScope st) .none (.ref D) dc pm an cd ct), sl⟩)
    (c : PySem.W.codeIn K cd x = true) (k : PySem.W.keepIn K (.ref f) = true) (q : ∀ p ∈ kws, ∃ u, PySem.W.nsIn K D p.1 = some (some u) ∧ RelV p.2 u) (hne : kws ≠ []) (hms : ∀ q ∈ ms, q ∈ kws)
    (hr : ∀ {vs mz zs : List V} {us mv ws : List Value}, Vals vs us → Vals mz mv → Vals zs ws → Vals (g vs mz zs) (g us mv ws))
    (hb : ∀ (D : Addr) (doc pm : Value) (an : Option Addr) (cdv ct : Value) (us mv ws : List Value), us.length = n → mv.length = ms.length → ws.length = ks.length →
      KwChain D ((ms.map (·.1)).zip mv) (bindArgs (PySem.W.fnOf x x (C8.fnArgs st) (C8.fnBody st) (C8.fnScope st) .none (.ref D) doc pm an cdv ct) ⟨us, ks.zip ws⟩) (ps.zip (g us mv ws))) : DefKw K mg x st ps n ks (fun vs zs => g vs (ms.map (·.2)) zs) := by
  obtain ⟨mv, b⟩ := FunD.kbinds0 (ps := ps) (funD_mk l c k q) n ks ms g hne hms hr hb
  exact ⟨f, _, _, def_mk X G a l c k, b⟩
theorem met_mk {m : Str} (a : PySem.W.findIn K (.ref C) m = some (some (.ref f))) (i : PySem.W.isFn K (.ref f) = true) (l : K.lookup f = some ⟨oc, od, .func (PySem.W.fnOf m qual (C8.fnArgs st) (C8.fnBody st) (C8.fnScope st) .none kV dc pm an cd ct), sl⟩)
    (c : PySem.W.codeIn K cd qual = true) (k : PySem.W.keepIn K (.ref f) = true)
    (hb : ∀ (kV doc pm : Value) (an : Option Addr) (cdv ct : Value) (us : List Value), us.length = ps.length → bindArgs (PySem.W.fnOf m qual (C8.fnArgs st) (C8.fnBody st) (C8.fnScope st) .none kV doc pm an cdv ct) ⟨us, []⟩ = pure (ps.zip us)) :
    ∃ (f : Addr) (fd : FuncData), Meth K C m f ∧ C8.Fun K m qual st f fd ∧ Binds K fd ps [] :=
  ⟨f, _, ⟨a, i, k⟩, ⟨oc, od, .none, kV, dc, pm, an, cd, ct, sl, rfl, l, c⟩, .all (hb kV dc pm an cd ct)⟩
theorem ini_mk (mk : PySem.W.makesIn K C = true) (kc : PySem.W.keepIn K (.ref C) = true) (a : PySem.W.findIn K (.ref C) "__init__" = some (some (.ref f))) (i : PySem.W.isFn K (.ref f) = true) (l : K.lookup f = some ⟨oc, od, .func (PySem.W.fnOf "__init__" qual (C8.fnArgs st) (C8.fnBody st) (C8.fnScope st) .none kV dc pm an cd ct), sl⟩)
    (c : PySem.W.codeIn K cd qual = true)
    (hb : ∀ (kV doc pm : Value) (an : Option Addr) (cdv ct : Value) (us : List Value), us.length = ps.length → bindArgs (PySem.W.fnOf "__init__" qual (C8.fnArgs st) (C8.fnBody st) (C8.fnScope st) .none kV doc pm an cdv ct) ⟨us, []⟩ = pure (ps.zip us)) :
    ∃ (f : Addr) (fd : FuncData), Mk K C f ∧ C8.Fun K "__init__" qual st f fd ∧ Binds K fd ps [] :=
  ⟨f, _, ⟨mk, a, i, kc⟩, ⟨oc, od, .none, kV, dc, pm, an, cd, ct, sl, rfl, l, c⟩, .all (hb kV dc pm an cd ct)⟩
/-- an empty tuple among the defaults -/
theorem sqT_empty {a : Addr} {od : Option Addr} {n : Nat} {sl : Array (Option Value)} (l : K.lookup a = some ⟨.type "tuple", od, .seq #[] n, sl⟩) (H : Hp) : SqT K H a [] := .inr ⟨_, _, n, l, rfl, rfl, Nat.zero_le _, .nil⟩
/-- the law's own def -/
structure LawD (K : Fr) (mg : Str → Option Value) (st : Stmt) : Prop where
  ex : ∃ (f : Addr) (fd : FuncData), C8.Def K mg "law" st f fd ∧ ∀ (s : Shared) (v : Value), BindsTo s fd ⟨[v], []⟩ [("script", v)]
theorem lawD_mk (X : K.In h) (G : h.Ns mainGlobals mg) (a : PySem.W.nsIn K mainGlobals "law" = some (some (.ref f))) (l : K.lookup f = some ⟨oc, od, .func (PySem.W.fnOf "law" "law" (C8.fnArgs st) (C8.fnBody st) (C8.fnScope st) .none kV dc pm an cd ct), sl⟩)
    (c : PySem.W.codeIn K cd "law" = true) (k : PySem.W.keepIn K (.ref f) = true)
    (hb : ∀ (kV doc pm : Value) (an : Option Addr) (cdv ct v : Value), bindArgs (PySem.W.fnOf "law" "law" (C8.fnArgs st) (C8.fnBody st) (C8.fnScope st) .none kV doc pm an cdv ct) ⟨[v], []⟩ = pure [(("script" : Str), v)]) : LawD K mg st :=
  ⟨f, _, def_mk X G a l c k, fun s v => .of_eq (hb kV dc pm an cd ct v)⟩
end
/-- every law's promise: a script of at most 63 ints, and the answer True -/
def spLaw (K : Fr) : Sp := fun vs H Q _ => ∃ (a : Addr) (ns : List Int), vs = [.ref a] ∧ SqL K H a (ns.map V.int) ∧ ns.length ≤ 63 ∧ ∀ H', Q (.bl true) H'
theorem law_fin {P : Program} {w : World} {K : Fr} {mg : Str → Option Value} {fa : Addr} {st : Stmt} {k : Nat} (hfa : mg "law" = some (.ref fa)) (L : LawD K mg st) (p : ∀ base, Prom P w K mg base k "law" st ["script"] (spLaw K)) :
    ∃ fd : FuncData, (∀ (s : Shared) (v : Value), BindsTo s fd ⟨[v], []⟩ [("script", v)]) ∧ ∀ base : Heap, K.In base → base.Ns mainGlobals mg → FnOk P w K mg base C8.CX0 k fa fd ["script"] (spLaw K) := by
  obtain ⟨f, fd, F, b⟩ := L.ex
  have e := hfa.symm.trans F.mgf
  cases e
  exact ⟨fd, b, fun base _ _ => p base fa fd F⟩
theorem walk_law {k : Nat} {l : PySem.W.OpenLaw} {q : Program} {loose : List Str} {XP : (Str → Option Value) → Heap → Prop} {YP : World → Heap → Prop} {d : DefRec} {K : Params → Fr} (hr : Room k callerA) (hn : l.most = some 63) (hdf : d.params.defaults = [])
    (hY : ∀ (w : World) (h : Heap), YP w h → (K w.params).In h)
    (F : ∀ (w : World) (mg : Str → Option Value) (fa : Addr) (h : Heap), (K w.params).In h → h.Ns mainGlobals mg → mg d.name = some (.ref fa) →
      ∃ fd : FuncData, (∀ (s : Shared) (u : Value), BindsTo s fd ⟨[u], []⟩ [("script", u)]) ∧ ∀ base : Heap, (K w.params).In base → base.Ns mainGlobals mg → FnOk l.prog w (K w.params) mg base C8.CX0 k fa fd ["script"] (spLaw (K w.params))) :
    PySem.W.WalkO q loose XP YP l.row.toRowW d [] (fun f vs => PySem.call f vs) :=
  L2.walk_of (n := 63) (k := k) (x := "script") (CX := fun _ => C8.CX0) (sp := fun w => spLaw (K w.params)) hn (by decide) hdf hr hY F (fun _ _ a ns hl _ hS => ⟨a, ns, rfl, hS, hl, fun _ => rfl⟩) fun _ _ _ _ _ z => z
end Ds
namespace K63
open PySem PySem.Spec PyProof.Rows L2 Ds
-- imports
def top (i : Nat) : Stmt := PySem.Challenge.pw_deedstand_k63_paints_least.main.body.getD i (.Pass ⟨0, 0, 0, 0⟩)
abbrev Tile := Str × Int × Int
def tD (t : Tile) : PyData := .tuple [.str t.1, .int t.2.1, .int t.2.2]
def rowD (r : List Tile) : PyData := .tuple (r.map tD)
def scrD (s : List (List Tile)) : PyData := .tuple (s.map rowD)
abbrev Run := Nat × Nat × List Tile
def runD (r : Run) : PyData := .tuple [.int r.1, .int r.2.1, rowD r.2.2]
theorem imm_tD (t : Tile) : imm (tD t) = true := rfl
theorem immA_map {α : Type} {f : α → PyData} (h : ∀ x, imm (f x) = true) (l : List α) : immA (l.map f) = true := immA_all.mpr fun d hd => by
  obtain ⟨x, _, rfl⟩ := List.mem_map.mp hd
  exact h x
theorem immA_tiles (r : List Tile) : immA (r.map tD) = true := immA_map imm_tD r
theorem imm_rowD (r : List Tile) : imm (rowD r) = true := immA_tiles r
theorem imm_scrD (s : List (List Tile)) : imm (scrD s) = true := immA_map imm_rowD s
theorem imm_runD (r : Run) : imm (runD r) = true := by
  show (true && (true && (imm (rowD r.2.2) && true))) = true
  rw [imm_rowD]; rfl
theorem eqv_tD (a b : Tile) : PyData.eqv (tD a) (tD b) = decide (a = b) := by
  obtain ⟨x, i, j⟩ := a
  obtain ⟨y, k, l⟩ := b
  show (x == y && (i == k && (j == l && true))) = _
  rw [Bool.eq_iff_iff]
  simp [Prod.ext_iff]
def okT (t : Tile) : Prop := PyData.strOk t.1 = true
theorem shaped_tD (a : Tile) (h : okT a) : SeqAt.shaped (tD a) = true := by
  have h' : PyData.strOk a.1 = true := h
  simp [SeqAt.shaped, tD, PyData.canLay0, PyData.canLayAll0, PyData.depth, PyData.depthAll, h']
/-- stretches in which d holds: behind the places below k: the closed ones, and where the open one begins -/
def seg (d : Nat → Bool) (n : Nat) : Nat → List (Nat × Nat) × Nat
  | 0 => ([], 0)
  | k + 1 => if k < n ∧ d k = true then seg d n k else ((if (seg d n k).2 < k then (seg d n k).1 ++ [((seg d n k).2, k)] else (seg d n k).1), k + 1)
def diff (old new : List Tile) (k : Nat) : Bool := decide (old[k]? ≠ new[k]?)
def cutRun (row : Nat) (new : List Tile) (p : Nat × Nat) : Run := (row, p.1, (new.drop p.1).take (p.2 - p.1))
def runsRow (row : Nat) (old new : List Tile) : List Run := (seg (diff old new) new.length (new.length + 1)).1.map (cutRun row new)
theorem seg_open {d : Nat → Bool} {n k : Nat} : ∀ {m : Nat}, (∀ j, k ≤ j → j < m → j < n ∧ d j = true) → k ≤ m → seg d n m = seg d n k
  | 0, _, h => by
    have e : k = 0 := by omega
    subst e; rfl
  | m + 1, hd, h => by
    by_cases e : k = m + 1
    · subst e; rfl
    · have q := hd m (by omega) (by omega)
      show (if m < n ∧ d m = true then seg d n m else _) = _
      rw [if_pos q]
      exact seg_open (fun j a b => hd j a (by omega)) (by omega)
theorem seg_shut {d : Nat → Bool} {n k : Nat} (h : ¬ (k < n ∧ d k = true)) : seg d n (k + 1) = ((if (seg d n k).2 < k then (seg d n k).1 ++ [((seg d n k).2, k)] else (seg d n k).1), k + 1) := by
  show (if k < n ∧ d k = true then seg d n k else _) = _
  rw [if_neg h]
structure TFr (K : Fr) (mg : Str → Option Value) (C : Addr) : Prop where
  cl : Cls K C
  mgC : mg "TileFrame" = some (.ref C)
  n_rows : NoAttr K C "_rows"
  n_spans : NoAttr K C "_spans"
  n_shown : NoAttr K C "_shown"
  n_covered : NoAttr K C "_covered"
  f_init : ∃ (f : Addr) (fd : FuncData), Mk K C f ∧ C8.Fun K "__init__" "TileFrame.__init__" (inClass (top 12) 0) f fd ∧ Binds K fd ["self", "rows", "spans", "screen_rows", "hidden"] []
  f_screen : ∃ (f : Addr) (fd : FuncData), Meth K C "screen" f ∧ C8.Fun K "screen" "TileFrame.screen" (inClass (top 12) 1) f fd ∧ Binds K fd ["self", "picks", "top", "width", "height"] []
  f__head_flags : ∃ (f : Addr) (fd : FuncData), Meth K C "_head_flags" f ∧ C8.Fun K "_head_flags" "TileFrame._head_flags" (inClass (top 12) 2) f fd ∧ Binds K fd ["self", "picks", "width"] []
  f__row_tiles : ∃ (f : Addr) (fd : FuncData), Meth K C "_row_tiles" f ∧ C8.Fun K "_row_tiles" "TileFrame._row_tiles" (inClass (top 12) 3) f fd ∧ Binds K fd ["self", "at", "picks", "heads", "width"] []
structure Txt (K : Fr) (mg : Str → Option Value) : Prop where
  b_abs : mg "abs" = none
  b_bool : mg "bool" = none
  b_enumerate : mg "enumerate" = none
  b_int : mg "int" = none
  b_isinstance : mg "isinstance" = none
  b_len : mg "len" = none
  b_list : mg "list" = none
  b_range : mg "range" = none
  b_str : mg "str" = none
  b_tuple : mg "tuple" = none
  f_runs_in : DefB K mg "_runs_in" (top 1) ["row", "old", "new"] []
  f_paints : DefB K mg "paints" (top 2) ["old", "new"] []
  f_painted : DefB K mg "painted" (top 3) ["old", "runs"] []
  f_row_at : DefB K mg "row_at" (top 5) ["screen_rows", "line", "column"] []
  f_selected_between : DefB K mg "selected_between" (top 11) ["picks", "line", "start", "end"] []
  f_piece_end : DefB K mg "_piece_end" (top 14) ["row", "start", "width", "wordwise"] []
  f_rows_of : DefB K mg "rows_of" (top 44) ["text"] []
  f_spot_of : DefB K mg "spot_of" (top 45) ["text", "place"] []
  f_covered_lines : DefB K mg "_covered_lines" (top 47) ["text", "folds"] []
  f_rows_laid : DefB K mg "_rows_laid" (top 48) ["rows", "covered", "width", "wordwise"] []
  f_law_pool : DefB K mg "_law_pool" (top 52) ["script"] []
  f_law_next : DefB K mg "_law_next" (top 53) ["pool", "many"] []
  f_law_signs : DefB K mg "_law_signs" (top 54) [] []
  f_law_same : DefB K mg "_law_same" (top 55) ["one", "due"] []
  f_law_tile : DefB K mg "_law_tile" (top 56) ["pool", "sort"] []
  f_law_near : DefB K mg "_law_near" (top 57) ["pool", "tile"] []
  f_law_screen : DefB K mg "_law_screen" (top 58) ["pool", "wide", "high"] []
  f_law_turned : DefB K mg "_law_turned" (top 59) ["pool", "screen"] []
  f_law_due : DefB K mg "_law_due" (top 60) ["one", "other"] []
  f_law_spread : DefB K mg "_law_spread" (top 61) ["screen", "strokes"] []
  f_law_strokes : DefB K mg "_law_strokes" (top 62) ["pool", "screen", "other"] []
  f_law_pair : DefB K mg "_law_pair" (top 63) ["pool", "one", "other"] []
  f_law_text : DefB K mg "_law_text" (top 64) ["pool"] []
  k_paints : DefKw K mg "paints" (top 2) ["old", "new"] 0 ["new", "old"] (fun _ zs => zs.reverse)
  k_painted : DefKw K mg "painted" (top 3) ["old", "runs"] 0 ["runs", "old"] (fun _ zs => zs.reverse)
  k_laid : DefKw K mg "laid" (top 15) ["row", "width", "wordwise"] 2 ["wordwise"] (fun vs zs => vs ++ zs)
  f_screen_of : ∃ (a b : Addr) (ds : List Value), DefB K mg "screen_of" (top 50) ["text", "width", "height", "wordwise", "book", "picks", "folds", "top"] ds ∧ Vals [.bl false, .non, .ref a, .ref b, .int 0] ds ∧ (∀ H, SqT K H a []) ∧ ∀ H, SqT K H b []
  k_screen_of : ∃ (a b : Addr), DefKw K mg "screen_of" (top 50) ["text", "width", "height", "wordwise", "book", "picks", "folds", "top"] 3 ["wordwise"] (fun vs zs => vs ++ zs ++ [.non, .ref a, .ref b, .int 0]) ∧ (∀ H, SqT K H a []) ∧ ∀ H, SqT K H b []
  tf : ∃ C : Addr, TFr K mg C
  l_law : LawD K mg (top 65)
end K63
namespace K63
open PySem PySem.Spec PyProof.Rows L2 Ds
-- imports A63
abbrev s_runs_in : Stmt := top 1
theorem sc__runs_in : FnScope ["row", "old", "new", "runs", "column", "behind"] ["row", "old", "new"] (C8.fnScope s_runs_in) := C8.fnScope_by (by decide +kernel)
section
variable {P : Program} {w : World} {K : Fr} {mg : Str → Option Value} {base : Heap}
def spRuns (K : Fr) : Sp := fun vs H Q _ => ∃ (row : Nat) (o n : V) (old new : List Tile), vs = [.int row, o, n] ∧ Dp K H o (rowD old) ∧ Dp K H n (rowD new) ∧ old.length = new.length ∧ new.length ≤ 1000 ∧ (∀ t ∈ old, okT t) ∧ (∀ t ∈ new, okT t) ∧
  ∀ H' p xs, Same H H' → H p = none → H' p = some (.lst xs) → DpAll K H' xs ((runsRow row old new).map runD) → Q (.ref p) H'
theorem ok_runs (T : Txt K mg) : C8.Cal P w K mg base 1 "_runs_in" (spRuns K) [] := by
  have nd := sc__runs_in.nd
  refine cal_of T.f_runs_in .nil sc__runs_in (fun vs H Q E h => ?_) (fun f cdv A outer s H vs Q E hr h => ?_)
  · obtain ⟨a, b, c, d, e, rfl, _⟩ := h; rfl
  · obtain ⟨row, o, n, old, new, rfl, ho, hn, hl, hz, hok1, hok2, q⟩ := h
    have hu64 := hu64_of hr
    have nd := sc__runs_in.nd
    have hu := hu_of hr
    have hu0 := hu0_of hr
    have hu64 := hu64_of hr
    refine ⟨_, 
    (pss_cons (ps_set (i := 3) nd rfl (by first | exact Or.inl rfl | exact Or.inr rfl) (pe_lstN pa_nil))
    (pss_cons (ps_set (i := 4) nd rfl (by first | exact Or.inl rfl | exact Or.inr rfl) pe_int)
    (pss_cons (ps_while PassesOwn.never (pt_cmpR op_lt (pv 4) (pe_callB (id := "len") (call_lenD' (K := K)) (by rfl) T.b_len PySem.boot_len (pa_cons (pv 2) pa_nil)) (nomark _)) 
        (pss_cons (ps_set (i := 5) nd rfl (by first | exact Or.inl rfl | exact Or.inr rfl) (pv 4))
        (pss_cons (ps_while PassesOwn.never (PT.up (PW.pt (pw_and (pt_cmpR op_lt (pv 5) (pe_callB (id := "len") (call_lenD' (K := K)) (by rfl) T.b_len PySem.boot_len (pa_cons (pv 2) pa_nil)) (nomark _)) (pw_and1 (pt_cmpR (op_neW (K := K) hu64) (pe_ix (ix_D (K := K)) (pv 1) (pv 5) (fun _ _ => rfl)) (pe_ix (ix_D (K := K)) (pv 2) (pv 5) (fun _ _ => rfl)) (nomark _)))))) 
            (pss_one (ps_aug (i := 5) nd rfl (Or.inl rfl) pe_int ip_add)))
        (pss_cons (ps_if (pt_cmpR op_gt (pv 5) (pv 4) (nomark _)) 
            (pss_one (ps_expr (pe_app (pv 3) (pe_tupN (pa_cons (pv 0) (pa_cons (pv 4) (pa_cons (pe_callTy (T := "tuple") (call_tupD (K := K)) (by rfl) T.b_tuple (by decide +kernel) (pa_cons (pe_slice (sl_D (K := K)) (pv 2) (po_some (pv 4)) (po_some (pv 5))) pa_nil)) pa_nil))))))) pss_nil)
        (pss_one (ps_set (i := 4) nd rfl (by first | exact Or.inl rfl | exact Or.inr rfl) (pe_op op_add (pv 5) pe_int)))))))
    (pss_one (ps_ret (pv 3)))))), ?_⟩
    simp only [tSeq, tIfS, tTest, tB, tOp, tUn, tVar, tC, rI0, rI, rU, CMul, CDiv, CPow, L2.start, tRet, tRetN, tNext, tAsg, gName, tDrop, tCons, tNil, tTup, tLst, tTupN, tLstN, tCB, tCall, tIf, tAnd, tOr, tNot, tAndV, tOrV, tNotV, tIsN, tNotN, tApp, tExt, upT, upS, up, rEq, rNe, scal, tAug, ipI, tPart, tNoPart, tSl, tChain, wipe, tYes, tBreak, tCont, cxK, rNeD, rEqD, rIsD, rIxW, rIxE, rLenD, rSlD, rCatD, rTupD, rListW, tFld, sFld, List.map_cons, List.map_nil, List.length_cons, List.length_nil, List.replicate, List.cons_append, List.nil_append, List.append_nil, List.getElem?_cons_zero, List.getElem?_cons_succ, List.set_cons_zero, List.set_cons_succ, Nat.reduceAdd, Nat.reduceSub, Option.some.injEq, V.int.injEq, V.bl.injEq, V.str.injEq, V.ref.injEq, V.ty.injEq, List.cons.injEq, exists_eq_left, exists_eq_left', exists_eq_right, exists_and_left, and_true, true_and, and_assoc, decide_eq_true_eq, Bool.not_eq_true', decide_eq_false_iff_not, Bool.not_not, reduceCtorEq, false_and, and_false, or_false, false_or, exists_const, false_implies, implies_true, if_false, if_true, Bool.false_eq_true, eq_self, forall_eq', exists_false, decide_true, decide_false, ite_true, ite_false, not_true_eq_false, not_false_eq_true, or_true, true_or, gSub, rSetL, gTup, gCons, gNil, rIxH, rIxS, rLenH, HO.lst.injEq, HO.tup.injEq, atI_0, atI_1, atI_2, ixN_31, ixN_32, Int.reduceNeg, Int.reducePow, Int.reduceLT, Int.reduceLE, Nat.reducePow, Nat.reduceLT, Nat.reduceLeDiff, Int.reduceToNat, Int.reduceAbs, sizeLine_eq, Nat.le_refl, Nat.zero_le, Int.reduceMul, Int.reduceAdd, Int.reduceSub, exists_eq', exists_eq, tBM, tyV_str, tDKN, tDTN]
    intro p H0 hp s0 e0
    refine ⟨fun m σ H' => ∃ (c : Nat) (v : Option V) (xs : List V), σ = [some (.int row), some o, some n, some (.ref p), some (.int c), v] ∧ m = new.length + 1 - c ∧ c ≤ new.length + 1 ∧ Same H H' ∧ H' p = some (.lst xs) ∧
      DpAll K H' xs (((seg (diff old new) new.length c).1.map (cutRun row new)).map runD) ∧ (seg (diff old new) new.length c).2 = c ∧ xs.length ≤ c, ⟨_, 0, none, [], rfl, rfl, by omega, s0, e0, .nil, rfl, Nat.le_refl _⟩, ?_⟩
    rintro m σ H' ⟨c, v, xs, rfl, rfl, hc, s1, hL, hA, e2, hxs⟩
    have hn1 : Dp K H' n (rowD new) := Dp.tk (TK.same s1) _ _ (imm_rowD _) hn
    simp only [tSeq, tIfS, tTest, tB, tOp, tUn, tVar, tC, rI0, rI, rU, CMul, CDiv, CPow, L2.start, tRet, tRetN, tNext, tAsg, gName, tDrop, tCons, tNil, tTup, tLst, tTupN, tLstN, tCB, tCall, tIf, tAnd, tOr, tNot, tAndV, tOrV, tNotV, tIsN, tNotN, tApp, tExt, upT, upS, up, rEq, rNe, scal, tAug, ipI, tPart, tNoPart, tSl, tChain, wipe, tYes, tBreak, tCont, cxK, rNeD, rEqD, rIsD, rIxW, rIxE, rLenD, rSlD, rCatD, rTupD, rListW, tFld, sFld, List.map_cons, List.map_nil, List.length_cons, List.length_nil, List.replicate, List.cons_append, List.nil_append, List.append_nil, List.getElem?_cons_zero, List.getElem?_cons_succ, List.set_cons_zero, List.set_cons_succ, Nat.reduceAdd, Nat.reduceSub, Option.some.injEq, V.int.injEq, V.bl.injEq, V.str.injEq, V.ref.injEq, V.ty.injEq, List.cons.injEq, exists_eq_left, exists_eq_left', exists_eq_right, exists_and_left, and_true, true_and, and_assoc, decide_eq_true_eq, Bool.not_eq_true', decide_eq_false_iff_not, Bool.not_not, reduceCtorEq, false_and, and_false, or_false, false_or, exists_const, false_implies, implies_true, if_false, if_true, Bool.false_eq_true, eq_self, forall_eq', exists_false, decide_true, decide_false, ite_true, ite_false, not_true_eq_false, not_false_eq_true, or_true, true_or, gSub, rSetL, gTup, gCons, gNil, rIxH, rIxS, rLenH, HO.lst.injEq, HO.tup.injEq, atI_0, atI_1, atI_2, ixN_31, ixN_32, Int.reduceNeg, Int.reducePow, Int.reduceLT, Int.reduceLE, Nat.reducePow, Nat.reduceLT, Nat.reduceLeDiff, Int.reduceToNat, Int.reduceAbs, sizeLine_eq, Nat.le_refl, Nat.zero_le, Int.reduceMul, Int.reduceAdd, Int.reduceSub, exists_eq', exists_eq, tBM, tyV_str, tDKN, tDTN]
    refine ⟨_, .inl hn1, ite2 (fun w => ?_) (fun w => ?_)⟩
    · refine ⟨_, fun _ _ h => h, ?_⟩
      rw [List.length_map] at w
      refine ⟨fun m σ H'' => ∃ (b : Nat), σ = [some (.int row), some o, some n, some (.ref p), some (.int c), some (.int b)] ∧ m = new.length - b ∧ c ≤ b ∧ b ≤ new.length ∧ H'' = H' ∧
        ∀ j, c ≤ j → j < b → j < new.length ∧ diff old new j = true, ⟨_, c, rfl, rfl, Nat.le_refl _, by omega, rfl, fun j a b => by omega⟩, ?_⟩
      rintro m σ H'' ⟨b, rfl, rfl, hb1, hb2, rfl, hb3⟩
      have ho1 : Dp K H'' o (rowD old) := Dp.tk (TK.same s1) _ _ (imm_rowD _) ho
      simp only [tSeq, tIfS, tTest, tB, tOp, tUn, tVar, tC, rI0, rI, rU, CMul, CDiv, CPow, L2.start, tRet, tRetN, tNext, tAsg, gName, tDrop, tCons, tNil, tTup, tLst, tTupN, tLstN, tCB, tCall, tIf, tAnd, tOr, tNot, tAndV, tOrV, tNotV, tIsN, tNotN, tApp, tExt, upT, upS, up, rEq, rNe, scal, tAug, ipI, tPart, tNoPart, tSl, tChain, wipe, tYes, tBreak, tCont, cxK, rNeD, rEqD, rIsD, rIxW, rIxE, rLenD, rSlD, rCatD, rTupD, rListW, tFld, sFld, List.map_cons, List.map_nil, List.length_cons, List.length_nil, List.replicate, List.cons_append, List.nil_append, List.append_nil, List.getElem?_cons_zero, List.getElem?_cons_succ, List.set_cons_zero, List.set_cons_succ, Nat.reduceAdd, Nat.reduceSub, Option.some.injEq, V.int.injEq, V.bl.injEq, V.str.injEq, V.ref.injEq, V.ty.injEq, List.cons.injEq, exists_eq_left, exists_eq_left', exists_eq_right, exists_and_left, and_true, true_and, and_assoc, decide_eq_true_eq, Bool.not_eq_true', decide_eq_false_iff_not, Bool.not_not, reduceCtorEq, false_and, and_false, or_false, false_or, exists_const, false_implies, implies_true, if_false, if_true, Bool.false_eq_true, eq_self, forall_eq', exists_false, decide_true, decide_false, ite_true, ite_false, not_true_eq_false, not_false_eq_true, or_true, true_or, gSub, rSetL, gTup, gCons, gNil, rIxH, rIxS, rLenH, HO.lst.injEq, HO.tup.injEq, atI_0, atI_1, atI_2, ixN_31, ixN_32, Int.reduceNeg, Int.reducePow, Int.reduceLT, Int.reduceLE, Nat.reducePow, Nat.reduceLT, Nat.reduceLeDiff, Int.reduceToNat, Int.reduceAbs, sizeLine_eq, Nat.le_refl, Nat.zero_le, Int.reduceMul, Int.reduceAdd, Int.reduceSub, exists_eq', exists_eq, tBM, tyV_str, tDKN, tDTN]
      refine ⟨fun k H1 => k = decide (b < new.length ∧ diff old new b = true) ∧ H1 = H'', ⟨_, .inl hn1, ?_⟩, ?_⟩
      · rw [List.length_map]
        refine ite2 (fun w' => ?_) (fun w' => ?_)
        · have hb : b < new.length := by omega
          have hb' : b < old.length := by omega
          have hg1 : old[b]? = some old[b] := List.getElem?_eq_getElem hb'
          have hg2 : new[b]? = some new[b] := List.getElem?_eq_getElem hb
          refine ⟨_, ho1, tD old[b], atI_nat (by rw [List.getElem?_map, hg1]; rfl), fun v1 hv1 => ⟨_, hn1, tD new[b], atI_nat (by rw [List.getElem?_map, hg2]; rfl), fun v2 hv2 => ?_⟩⟩
          have ed : PyData.eqv (tD old[b]) (tD new[b]) = !diff old new b := by
            rw [eqv_tD, diff, hg1, hg2]
            simp
          refine ⟨_, hv1, _, hv2, shaped_tD _ (hok1 _ (List.getElem_mem _)), shaped_tD _ (hok2 _ (List.getElem_mem _)), ?_⟩
          rw [ed]
          simp [hb]
        · exact ⟨(decide_eq_false (fun z => w' (by omega))).symm, rfl⟩
      · rintro k H1 ⟨rfl, rfl⟩
        refine iteD (fun w' => ?_) (fun w' => ?_)
        · refine ⟨_, fun _ _ h => h, ?_⟩
          refine ⟨_, ?_, b + 1, rfl, rfl, by omega, by omega, rfl, fun j j1 j2 => ?_⟩
          · omega
          · by_cases e : j = b
            · subst e; exact w'
            · exact hb3 j j1 (by omega)
        · have es : seg (diff old new) new.length (b + 1) = ((if c < b then (seg (diff old new) new.length c).1 ++ [(c, b)] else (seg (diff old new) new.length c).1), b + 1) := by
            rw [seg_shut w', seg_open hb3 hb1, e2]
          refine ite2 (fun w2 => ?_) (fun w2 => ?_)
          · have hcb : c < b := by omega
            refine ⟨⟨_, hL⟩, _, hn1, immA_tiles _, fun v2 H2 sm2 hv2 => ⟨_, immA_cut (immA_tiles _), .inr hv2, fun v3 H3 sm3 hv3 t H4 ht sm4 e4 => ⟨xs, ?_⟩⟩⟩
            have sm := Same.trans sm2 (Same.trans sm3 sm4)
            have hL4 : H4 p = some (.lst xs) := sm _ _ hL
            have tk : TK H1 (upd H4 p (.lst (xs ++ [.ref t]))) := (TK.same sm).trans (TK.lst hL4)
            refine ⟨hL4, by have := line63; have : sizeLine = 16777216 := sizeLine_eq; omega, _, ?_, b + 1, by omega, rfl, by omega, Same.wr (Same.trans s1 sm) hp, xs ++ [.ref t], upd_same, ?_, by rw [es], by rw [List.length_append, List.length_singleton]; omega⟩
            · omega
            · rw [es]
              show DpAll K _ _ (((if c < b then _ else _ : List (Nat × Nat)).map (cutRun row new)).map runD)
              rw [if_pos hcb, List.map_append, List.map_append]
              refine DpA.append (DpA.tk tk _ _ (immA_map imm_runD _) hA) (DpA.one ?_)
              refine Dp.tk (TK.lst hL4) _ _ (imm_runD (cutRun row new (c, b))) ?_
              refine .tup (SqT.of e4) (.cons (.int _) (.cons (.int _) (.cons ?_ .nil)))
              have ec : cutD (new.map tD) (some (c : Int)) (some (b : Int)) = ((new.drop c).take (b - c)).map tD := by
                rw [cutD_nat _ _ _ hb1 (by rw [List.length_map]; exact hb2), List.map_take, List.map_drop]
              rw [ec] at hv3
              exact Dp.same sm4 _ _ hv3
          · have hcb : ¬ c < b := by omega
            refine ⟨_, ?_, b + 1, by omega, rfl, by omega, s1, xs, hL, ?_, by rw [es], by omega⟩
            · omega
            · rw [es]
              show DpAll K _ _ (((if c < b then _ else _ : List (Nat × Nat)).map (cutRun row new)).map runD)
              rw [if_neg hcb]
              exact hA
    · rw [List.length_map] at w
      refine q _ _ _ s1 hp hL ?_
      have ee : seg (diff old new) new.length (new.length + 1) = ((seg (diff old new) new.length c).1, new.length + 1) := by
        by_cases z : c = new.length + 1
        · subst z; rw [← e2]; simp [e2]; exact Prod.ext rfl e2
        · have zc : c = new.length := by omega
          subst zc
          rw [seg_shut (by omega), e2]
          simp
      show DpAll K _ _ (((seg (diff old new) new.length (new.length + 1)).1.map (cutRun row new)).map runD)
      rw [ee]
      exact hA
end
end K63
namespace K63
open PySem PySem.Spec PyProof.Rows L2 Ds
-- imports A63
abbrev s_law_next : Stmt := top 53
theorem sc__law_next : FnScope ["pool", "many"] ["pool", "many"] (C8.fnScope s_law_next) := C8.fnScope_by (by decide +kernel)
abbrev s_law_pool : Stmt := top 52
theorem sc__law_pool : FnScope ["script", "drawn", "state", "cell", "size", "turn"] ["script"] (C8.fnScope s_law_pool) := C8.fnScope_by (by decide +kernel)
abbrev s_law_signs : Stmt := top 54
theorem sc__law_signs : FnScope ["signs"] [] (C8.fnScope s_law_signs) := C8.fnScope_by (by decide +kernel)
section
variable {P : Program} {w : World} {K : Fr} {mg : Str → Option Value} {base : Heap}
/-- any number below many -/
def spNext : Sp := fun vs H Q _ => ∃ (p : Addr) (m : Int), vs = [.ref p, .int m] ∧ Pool H p ∧ 0 < m ∧ ∀ (r : Int) H', 0 ≤ r → r < m → PK p H H' → Q (.int r) H'
theorem ok_next (T : Txt K mg) : C8.Cal P w K mg base 1 "_law_next" spNext [] := by
  have nd := sc__law_next.nd
  refine cal_of T.f_law_next .nil sc__law_next (fun vs H Q E h => ?_) (fun f cdv A outer s H vs Q E hr h => ?_)
  · obtain ⟨a, b, rfl, _⟩ := h; rfl
  · obtain ⟨p, m, rfl, ⟨b, ds, i, st, hP⟩, hm, q⟩ := h
    have nd := sc__law_next.nd
    have hu := hu_of hr
    have hu0 := hu0_of hr
    have hu64 := hu64_of hr
    refine ⟨_, 
    (pss_cons (ps_if (pt_cmpR op_lt (pe_ix ix_H (pv 0) pe_int (fun _ _ => rfl)) (pe_callB (id := "len") call_lenH (by rfl) T.b_len PySem.boot_len (pa_cons (pe_ix ix_H (pv 0) pe_int (fun _ _ => rfl)) pa_nil)) (nomark _)) 
        (pss_cons (ps_asg (pe_op op_add (pe_ix ix_H (pv 0) pe_int (fun _ _ => rfl)) pe_int) (pg_sub (pv 0) pe_int set_list))
        (pss_one (ps_ret (pe_op op_mod (pe_callTy (T := "int") call_intI (by rfl) T.b_int (by decide +kernel) (pa_cons (pe_ix ix_H (pe_ix ix_H (pv 0) pe_int (fun _ _ => rfl)) (pe_op op_sub (pe_ix ix_H (pv 0) pe_int (fun _ _ => rfl)) pe_int) (fun _ _ => rfl)) pa_nil)) (pv 1))))) pss_nil)
    (pss_cons (ps_asg (pe_op op_mod (pe_callTy (T := "int") call_intI (by rfl) T.b_int (by decide +kernel) (pa_cons (pe_op op_add (pe_op op_mul (pe_ix ix_H (pv 0) pe_int (fun _ _ => rfl)) pe_int) pe_int) pa_nil)) pe_int) (pg_sub (pv 0) pe_int set_list))
    (pss_one (ps_ret (pe_op op_mod (pe_callTy (T := "int") call_intI (by rfl) T.b_int (by decide +kernel) (pa_cons (pe_op op_fdiv (pe_ix ix_H (pv 0) pe_int (fun _ _ => rfl)) pe_int) pa_nil)) (pv 1)))))), ?_⟩
    simp only [tSeq, tIfS, tTest, tB, tOp, tUn, tVar, tC, rI0, rI, rU, CMul, CDiv, CPow, L2.start, tRet, tRetN, tNext, tAsg, gName, tDrop, tCons, tNil, tTup, tLst, tTupN, tLstN, tCB, tCall, tIf, tAnd, tOr, tNot, tAndV, tOrV, tNotV, tIsN, tNotN, tApp, tExt, upT, upS, up, rEq, rNe, scal, tAug, ipI, tPart, tNoPart, tSl, tChain, wipe, tYes, tBreak, tCont, cxK, rNeD, rEqD, rIsD, rIxW, rIxE, rLenD, rSlD, rCatD, rTupD, rListW, tFld, sFld, List.map_cons, List.map_nil, List.length_cons, List.length_nil, List.replicate, List.cons_append, List.nil_append, List.append_nil, List.getElem?_cons_zero, List.getElem?_cons_succ, List.set_cons_zero, List.set_cons_succ, Nat.reduceAdd, Nat.reduceSub, Option.some.injEq, V.int.injEq, V.bl.injEq, V.str.injEq, V.ref.injEq, V.ty.injEq, List.cons.injEq, exists_eq_left, exists_eq_left', exists_eq_right, exists_and_left, and_true, true_and, and_assoc, decide_eq_true_eq, Bool.not_eq_true', decide_eq_false_iff_not, Bool.not_not, reduceCtorEq, false_and, and_false, or_false, false_or, exists_const, false_implies, implies_true, if_false, if_true, Bool.false_eq_true, eq_self, forall_eq', exists_false, decide_true, decide_false, ite_true, ite_false, not_true_eq_false, not_false_eq_true, or_true, true_or, gSub, rSetL, gTup, gCons, gNil, rIxH, rIxS, rLenH, HO.lst.injEq, HO.tup.injEq, atI_0, atI_1, atI_2, ixN_31, ixN_32, Int.reduceNeg, Int.reducePow, Int.reduceLT, Int.reduceLE, Nat.reducePow, Nat.reduceLT, Nat.reduceLeDiff, Int.reduceToNat, Int.reduceAbs, sizeLine_eq, Nat.le_refl, Nat.zero_le, Int.reduceMul, Int.reduceAdd, Int.reduceSub, exists_eq', exists_eq, tBM, tyV_str, tDKN, tDTN, hP.lst, hP.drawn, upd_same, List.length_map, upd_ne hP.ne]
    have hlo := hP.lo
    have hhi := hP.hi
    have mk : ∀ i' st' : Int, 0 ≤ i' → i' ≤ ds.length → PK p H (upd H p (.lst [.ref b, .int i', .int st'])) := fun i' st' h0 h1 => by
      refine ⟨fun b2 ds2 i2 st2 q2 => ?_, fun c o n e => by rw [upd_ne n]; exact e⟩
      have e1 := hP.lst.symm.trans q2.lst
      injection e1 with e1; injection e1 with e1
      have eb : b = b2 := by injection e1 with e2 _; injection e2
      subst eb
      have e3 := hP.drawn.symm.trans q2.drawn
      injection e3 with e3; injection e3 with e3
      have el : ds.length = ds2.length := by simpa using congrArg List.length e3
      exact ⟨i', st', upd_same, by rw [upd_ne hP.ne]; exact q2.drawn, h0, by omega⟩
    refine ite2 (fun w => ?_) (fun w => ?_)
    · have e : i + 1 - 1 = ((i.toNat : Nat) : Int) := by omega
      have hi : i.toNat < ds.length := by omega
      refine ⟨_, by rw [e]; exact atI_nat (by rw [List.getElem?_map, List.getElem?_eq_getElem hi]; rfl), _, rfl, hm, ?_⟩
      refine q _ _ (Int.emod_nonneg _ (by omega)) (Int.emod_lt_of_pos _ hm) (mk _ _ (by omega) (by omega))
    · refine ⟨hm, q _ _ (Int.emod_nonneg _ (by omega)) (Int.emod_lt_of_pos _ hm) (mk _ _ hlo hhi)⟩
/-- the alphabet as the law writes it -/
def signs : Str := Str.ofString "\n !\"#$&'()*+,-./0123456789:;<=>?@ABCDEFGHIJKLMNOPQRSTUVWXYZ[\\]^_`" ++ Str.ofString "abcdefghijklmnopqrstuvwxyz{|}~"
theorem signs_len : signs.length = 95 := by decide +kernel
theorem signs_ok : PyData.strOk signs = true := by decide +kernel
def spSigns : Sp := fun vs H Q _ => vs = [] ∧ Q (.str signs) H
theorem ok_signs (T : Txt K mg) : C8.Cal P w K mg base 1 "_law_signs" spSigns [] := by
  have nd := sc__law_signs.nd
  refine cal_of T.f_law_signs .nil sc__law_signs (fun vs H Q E h => ?_) (fun f cdv A outer s H vs Q E hr h => ?_)
  · obtain ⟨rfl, _⟩ := h; rfl
  · obtain ⟨rfl, q⟩ := h
    have nd := sc__law_signs.nd
    have hu := hu_of hr
    have hu0 := hu0_of hr
    have hu64 := hu64_of hr
    refine ⟨_, 
    (pss_cons (ps_set (i := 0) nd rfl (by first | exact Or.inl rfl | exact Or.inr rfl) pe_str)
    (pss_one (ps_ret (pe_op op_add_str (pv 0) pe_str)))), ?_⟩
    simp only [tSeq, tIfS, tTest, tB, tOp, tUn, tVar, tC, rI0, rI, rU, CMul, CDiv, CPow, L2.start, tRet, tRetN, tNext, tAsg, gName, tDrop, tCons, tNil, tTup, tLst, tTupN, tLstN, tCB, tCall, tIf, tAnd, tOr, tNot, tAndV, tOrV, tNotV, tIsN, tNotN, tApp, tExt, upT, upS, up, rEq, rNe, scal, tAug, ipI, tPart, tNoPart, tSl, tChain, wipe, tYes, tBreak, tCont, cxK, rNeD, rEqD, rIsD, rIxW, rIxE, rLenD, rSlD, rCatD, rTupD, rListW, tFld, sFld, List.map_cons, List.map_nil, List.length_cons, List.length_nil, List.replicate, List.cons_append, List.nil_append, List.append_nil, List.getElem?_cons_zero, List.getElem?_cons_succ, List.set_cons_zero, List.set_cons_succ, Nat.reduceAdd, Nat.reduceSub, Option.some.injEq, V.int.injEq, V.bl.injEq, V.str.injEq, V.ref.injEq, V.ty.injEq, List.cons.injEq, exists_eq_left, exists_eq_left', exists_eq_right, exists_and_left, and_true, true_and, and_assoc, decide_eq_true_eq, Bool.not_eq_true', decide_eq_false_iff_not, Bool.not_not, reduceCtorEq, false_and, and_false, or_false, false_or, exists_const, false_implies, implies_true, if_false, if_true, Bool.false_eq_true, eq_self, forall_eq', exists_false, decide_true, decide_false, ite_true, ite_false, not_true_eq_false, not_false_eq_true, or_true, true_or, gSub, rSetL, gTup, gCons, gNil, rIxH, rIxS, rLenH, HO.lst.injEq, HO.tup.injEq, atI_0, atI_1, atI_2, ixN_31, ixN_32, Int.reduceNeg, Int.reducePow, Int.reduceLT, Int.reduceLE, Nat.reducePow, Nat.reduceLT, Nat.reduceLeDiff, Int.reduceToNat, Int.reduceAbs, sizeLine_eq, Nat.le_refl, Nat.zero_le, Int.reduceMul, Int.reduceAdd, Int.reduceSub, exists_eq', exists_eq, tBM, tyV_str, tDKN, tDTN]
    exact ⟨by decide +kernel, q⟩
/-- a pool out of the script -/
def spPool (K : Fr) : Sp := fun vs H Q _ => ∃ (a : Addr) (ns : List Int), vs = [.ref a] ∧ SqL K H a (ns.map V.int) ∧ ns.length ≤ 63 ∧ ∀ p H', Same H H' → H p = none → Pool H' p → Q (.ref p) H'
theorem ok_pool (T : Txt K mg) : C8.Cal P w K mg base 1 "_law_pool" (spPool K) [] := by
  have nd := sc__law_pool.nd
  refine cal_of T.f_law_pool .nil sc__law_pool (fun vs H Q E h => ?_) (fun f cdv A outer s H vs Q E hr h => ?_)
  · obtain ⟨a, ns, rfl, _⟩ := h; rfl
  · obtain ⟨a, ns, rfl, hS, hl, q⟩ := h
    have nd := sc__law_pool.nd
    have hu := hu_of hr
    have hu0 := hu0_of hr
    have hu64 := hu64_of hr
    refine ⟨_, 
    (pss_cons (ps_set (i := 1) nd rfl (by first | exact Or.inl rfl | exact Or.inr rfl) (pe_lstN pa_nil))
    (pss_cons (ps_set (i := 2) nd rfl (by first | exact Or.inl rfl | exact Or.inr rfl) pe_int)
    (pss_cons (ps_for PassesOwn.never rfl (pi_listK (K := K) (pv 0)) (pg_name (i := 3) nd rfl (by first | exact Or.inl rfl | exact Or.inr rfl)) 
        (pss_cons (ps_set (i := 4) nd rfl (by first | exact Or.inl rfl | exact Or.inr rfl) (pe_callB (id := "abs") call_abs (by rfl) T.b_abs (by decide +kernel) (pa_cons (pv 3) pa_nil)))
        (pss_cons (ps_set (i := 2) nd rfl (by first | exact Or.inl rfl | exact Or.inr rfl) (pe_op op_mod (pe_callTy (T := "int") call_intI (by rfl) T.b_int (by decide +kernel) (pa_cons (pe_op op_add (pe_op op_add (pe_op op_add (pe_op op_mul (pv 2) pe_int) (pv 4)) (pe_op op_mul pe_int (pe_callTy (T := "int") call_intB (by rfl) T.b_int (by decide +kernel) (pa_cons (pe_cmpR op_lt (pv 3) pe_int (nomark _)) pa_nil)))) pe_int) pa_nil)) pe_int))
        (pss_one (ps_if (pt_cmpR op_lt (pv 4) (pe_op op_pow pe_int pe_int) (nomark _)) 
            (pss_cons (ps_expr (pe_app (pv 1) (pe_op op_mod (pe_callTy (T := "int") call_intI (by rfl) T.b_int (by decide +kernel) (pa_cons (pe_op op_add (pe_op op_mul (pv 4) pe_int) (pe_op op_fdiv (pv 2) pe_int)) pa_nil)) pe_int)))
            (pss_one (ps_expr (pe_app (pv 1) (pe_op op_mod (pe_callTy (T := "int") call_intI (by rfl) T.b_int (by decide +kernel) (pa_cons (pe_op op_add (pe_op op_fdiv (pv 4) pe_int) (pe_op op_mul (pv 2) pe_int)) pa_nil)) pe_int))))) 
            (pss_one (ps_for PassesOwn.never rfl (pi_range1 rfl T.b_range (pa_cons pe_int pa_nil)) (pg_name (i := 5) nd rfl (by first | exact Or.inl rfl | exact Or.inr rfl)) 
                (pss_cons (ps_if (pt_cmpR op_eq (pv 4) pe_int (nomark _)) 
                    (pss_one ps_break) pss_nil)
                (pss_cons (ps_expr (pe_app (pv 1) (pe_op op_mod (pe_callTy (T := "int") call_intI (by rfl) T.b_int (by decide +kernel) (pa_cons (pv 4) pa_nil)) pe_int)))
                (pss_one (ps_set (i := 4) nd rfl (by first | exact Or.inl rfl | exact Or.inr rfl) (pe_op op_fdiv (pv 4) pe_int))))))))))))
    (pss_one (ps_ret (pe_lstN (pa_cons (pv 1) (pa_cons pe_int (pa_cons (pv 2) pa_nil))))))))), ?_⟩
    simp only [tSeq, tIfS, tTest, tB, tOp, tUn, tVar, tC, rI0, rI, rU, CMul, CDiv, CPow, L2.start, tRet, tRetN, tNext, tAsg, gName, tDrop, tCons, tNil, tTup, tLst, tTupN, tLstN, tCB, tCall, tIf, tAnd, tOr, tNot, tAndV, tOrV, tNotV, tIsN, tNotN, tApp, tExt, upT, upS, up, rEq, rNe, scal, tAug, ipI, tPart, tNoPart, tSl, tChain, wipe, tYes, tBreak, tCont, cxK, rNeD, rEqD, rIsD, rIxW, rIxE, rLenD, rSlD, rCatD, rTupD, rListW, tFld, sFld, List.map_cons, List.map_nil, List.length_cons, List.length_nil, List.replicate, List.cons_append, List.nil_append, List.append_nil, List.getElem?_cons_zero, List.getElem?_cons_succ, List.set_cons_zero, List.set_cons_succ, Nat.reduceAdd, Nat.reduceSub, Option.some.injEq, V.int.injEq, V.bl.injEq, V.str.injEq, V.ref.injEq, V.ty.injEq, List.cons.injEq, exists_eq_left, exists_eq_left', exists_eq_right, exists_and_left, and_true, true_and, and_assoc, decide_eq_true_eq, Bool.not_eq_true', decide_eq_false_iff_not, Bool.not_not, reduceCtorEq, false_and, and_false, or_false, false_or, exists_const, false_implies, implies_true, if_false, if_true, Bool.false_eq_true, eq_self, forall_eq', exists_false, decide_true, decide_false, ite_true, ite_false, not_true_eq_false, not_false_eq_true, or_true, true_or, gSub, rSetL, gTup, gCons, gNil, rIxH, rIxS, rLenH, HO.lst.injEq, HO.tup.injEq, atI_0, atI_1, atI_2, ixN_31, ixN_32, Int.reduceNeg, Int.reducePow, Int.reduceLT, Int.reduceLE, Nat.reducePow, Nat.reduceLT, Nat.reduceLeDiff, Int.reduceToNat, Int.reduceAbs, sizeLine_eq, Nat.le_refl, Nat.zero_le, Int.reduceMul, Int.reduceAdd, Int.reduceSub, exists_eq', exists_eq, tBM, tyV_str, tDKN, tDTN]
    intro p H0 hp s0 e0
    refine ⟨_, rfl, a, rfl, ⟨_, s0.seq hS⟩, for_list (K := K) (a := a) (xs := ns.map V.int) (fun i σ H' => ∃ (ds : List Int) (st : Int) (v1 v2 v3 : Option V), σ = [some (.ref a), some (.ref p), some (.int st), v1, v2, v3] ∧ Same H H' ∧ H' p = some (.lst (ds.map V.int)) ∧ ds.length ≤ 60 * i)
      ⟨[], _, none, none, none, rfl, s0, e0, Nat.le_refl _⟩ (fun i σ H' _ ⟨_, _, _, _, _, _, s1, _⟩ => s1.seq hS) ?_ ?_⟩
    · rintro i y σ H' hi ⟨ds, st, v1, v2, v3, rfl, s1, hD, hdl⟩
      obtain ⟨u, _, rfl, hi63⟩ := lst_int hi
      simp only [tSeq, tIfS, tTest, tB, tOp, tUn, tVar, tC, rI0, rI, rU, CMul, CDiv, CPow, L2.start, tRet, tRetN, tNext, tAsg, gName, tDrop, tCons, tNil, tTup, tLst, tTupN, tLstN, tCB, tCall, tIf, tAnd, tOr, tNot, tAndV, tOrV, tNotV, tIsN, tNotN, tApp, tExt, upT, upS, up, rEq, rNe, scal, tAug, ipI, tPart, tNoPart, tSl, tChain, wipe, tYes, tBreak, tCont, cxK, rNeD, rEqD, rIsD, rIxW, rIxE, rLenD, rSlD, rCatD, rTupD, rListW, tFld, sFld, List.map_cons, List.map_nil, List.length_cons, List.length_nil, List.replicate, List.cons_append, List.nil_append, List.append_nil, List.getElem?_cons_zero, List.getElem?_cons_succ, List.set_cons_zero, List.set_cons_succ, Nat.reduceAdd, Nat.reduceSub, Option.some.injEq, V.int.injEq, V.bl.injEq, V.str.injEq, V.ref.injEq, V.ty.injEq, List.cons.injEq, exists_eq_left, exists_eq_left', exists_eq_right, exists_and_left, and_true, true_and, and_assoc, decide_eq_true_eq, Bool.not_eq_true', decide_eq_false_iff_not, Bool.not_not, reduceCtorEq, false_and, and_false, or_false, false_or, exists_const, false_implies, implies_true, if_false, if_true, Bool.false_eq_true, eq_self, forall_eq', exists_false, decide_true, decide_false, ite_true, ite_false, not_true_eq_false, not_false_eq_true, or_true, true_or, gSub, rSetL, gTup, gCons, gNil, rIxH, rIxS, rLenH, HO.lst.injEq, HO.tup.injEq, atI_0, atI_1, atI_2, ixN_31, ixN_32, Int.reduceNeg, Int.reducePow, Int.reduceLT, Int.reduceLE, Nat.reducePow, Nat.reduceLT, Nat.reduceLeDiff, Int.reduceToNat, Int.reduceAbs, sizeLine_eq, Nat.le_refl, Nat.zero_le, Int.reduceMul, Int.reduceAdd, Int.reduceSub, exists_eq', exists_eq, tBM, tyV_str, tDKN, tDTN, hD, upd_same, List.length_map]
      refine ite2 (fun _ => ?_) (fun _ => ?_)
      · have e1 : ∀ a b : Int, ds.map V.int ++ [V.int a] ++ [V.int b] = (ds ++ [a, b]).map V.int := fun a b => by simp
        rw [List.length_append, List.length_map]
        refine ⟨by omega, by simp only [List.length_singleton]; omega, Same.wr (Same.wr s1 hp) hp, _, e1 _ _, ?_⟩
        simp only [List.length_append, List.length_cons, List.length_nil]
        omega
      · refine ⟨60, rfl, by decide, by decide, for_range (n := 60) (fun j σ H' => ∃ (ds' : List Int) (sz st : Int) (v3 : Option V), σ = [some (.ref a), some (.ref p), some (.int st), some (.int u), some (.int sz), v3] ∧ Same H H' ∧ H' p = some (.lst (ds'.map V.int)) ∧ ds'.length ≤ ds.length + j)
          ⟨ds, _, _, v3, rfl, s1, hD, Nat.le_refl _⟩ ?_ ?_⟩
        · rintro j σ H2 hj ⟨ds', sz, st', v3', rfl, s2, hD2, hdl2⟩
          simp only [tSeq, tIfS, tTest, tB, tOp, tUn, tVar, tC, rI0, rI, rU, CMul, CDiv, CPow, L2.start, tRet, tRetN, tNext, tAsg, gName, tDrop, tCons, tNil, tTup, tLst, tTupN, tLstN, tCB, tCall, tIf, tAnd, tOr, tNot, tAndV, tOrV, tNotV, tIsN, tNotN, tApp, tExt, upT, upS, up, rEq, rNe, scal, tAug, ipI, tPart, tNoPart, tSl, tChain, wipe, tYes, tBreak, tCont, cxK, rNeD, rEqD, rIsD, rIxW, rIxE, rLenD, rSlD, rCatD, rTupD, rListW, tFld, sFld, List.map_cons, List.map_nil, List.length_cons, List.length_nil, List.replicate, List.cons_append, List.nil_append, List.append_nil, List.getElem?_cons_zero, List.getElem?_cons_succ, List.set_cons_zero, List.set_cons_succ, Nat.reduceAdd, Nat.reduceSub, Option.some.injEq, V.int.injEq, V.bl.injEq, V.str.injEq, V.ref.injEq, V.ty.injEq, List.cons.injEq, exists_eq_left, exists_eq_left', exists_eq_right, exists_and_left, and_true, true_and, and_assoc, decide_eq_true_eq, Bool.not_eq_true', decide_eq_false_iff_not, Bool.not_not, reduceCtorEq, false_and, and_false, or_false, false_or, exists_const, false_implies, implies_true, if_false, if_true, Bool.false_eq_true, eq_self, forall_eq', exists_false, decide_true, decide_false, ite_true, ite_false, not_true_eq_false, not_false_eq_true, or_true, true_or, gSub, rSetL, gTup, gCons, gNil, rIxH, rIxS, rLenH, HO.lst.injEq, HO.tup.injEq, atI_0, atI_1, atI_2, ixN_31, ixN_32, Int.reduceNeg, Int.reducePow, Int.reduceLT, Int.reduceLE, Nat.reducePow, Nat.reduceLT, Nat.reduceLeDiff, Int.reduceToNat, Int.reduceAbs, sizeLine_eq, Nat.le_refl, Nat.zero_le, Int.reduceMul, Int.reduceAdd, Int.reduceSub, exists_eq', exists_eq, tBM, tyV_str, tDKN, tDTN, hD2, upd_same, List.length_map]
          refine ite2 (fun _ => ?_) (fun _ => ?_)
          · exact ⟨s2, ds', rfl, by omega⟩
          · refine ⟨by omega, Same.wr s2 hp, ds' ++ [sz % 1680], by simp, ?_⟩
            simp only [List.length_append, List.length_cons, List.length_nil]
            omega
        · rintro σ H2 ⟨ds', sz, st', v3', rfl, s2, hD2, hdl2⟩
          exact ⟨ds', _, _, _, _, rfl, s2, hD2, by omega⟩
    · rintro σ H' ⟨ds, st, v1, v2, v3, rfl, s1, hD, hdl⟩
      simp only [tSeq, tIfS, tTest, tB, tOp, tUn, tVar, tC, rI0, rI, rU, CMul, CDiv, CPow, L2.start, tRet, tRetN, tNext, tAsg, gName, tDrop, tCons, tNil, tTup, tLst, tTupN, tLstN, tCB, tCall, tIf, tAnd, tOr, tNot, tAndV, tOrV, tNotV, tIsN, tNotN, tApp, tExt, upT, upS, up, rEq, rNe, scal, tAug, ipI, tPart, tNoPart, tSl, tChain, wipe, tYes, tBreak, tCont, cxK, rNeD, rEqD, rIsD, rIxW, rIxE, rLenD, rSlD, rCatD, rTupD, rListW, tFld, sFld, List.map_cons, List.map_nil, List.length_cons, List.length_nil, List.replicate, List.cons_append, List.nil_append, List.append_nil, List.getElem?_cons_zero, List.getElem?_cons_succ, List.set_cons_zero, List.set_cons_succ, Nat.reduceAdd, Nat.reduceSub, Option.some.injEq, V.int.injEq, V.bl.injEq, V.str.injEq, V.ref.injEq, V.ty.injEq, List.cons.injEq, exists_eq_left, exists_eq_left', exists_eq_right, exists_and_left, and_true, true_and, and_assoc, decide_eq_true_eq, Bool.not_eq_true', decide_eq_false_iff_not, Bool.not_not, reduceCtorEq, false_and, and_false, or_false, false_or, exists_const, false_implies, implies_true, if_false, if_true, Bool.false_eq_true, eq_self, forall_eq', exists_false, decide_true, decide_false, ite_true, ite_false, not_true_eq_false, not_false_eq_true, or_true, true_or, gSub, rSetL, gTup, gCons, gNil, rIxH, rIxS, rLenH, HO.lst.injEq, HO.tup.injEq, atI_0, atI_1, atI_2, ixN_31, ixN_32, Int.reduceNeg, Int.reducePow, Int.reduceLT, Int.reduceLE, Nat.reducePow, Nat.reduceLT, Nat.reduceLeDiff, Int.reduceToNat, Int.reduceAbs, sizeLine_eq, Nat.le_refl, Nat.zero_le, Int.reduceMul, Int.reduceAdd, Int.reduceSub, exists_eq', exists_eq, tBM, tyV_str, tDKN, tDTN]
      intro r H2 hr sr er
      exact q _ _ (Same.trans s1 sr) (s1.free hr) ⟨p, ds, 0, st, er, sr _ _ hD, Int.le_refl _, Int.natCast_nonneg _⟩
end
end K63
namespace K63
open PySem PySem.Spec PyProof.Rows L2 Ds
-- imports A63
/-- no dict in it, no list longer than 100,000, nested below n -/
def fits : Nat → PyData → Prop
  | 0, _ => False
  | n + 1, .tuple ds => ds.length ≤ 100000 ∧ ∀ d ∈ ds, fits n d
  | n + 1, .list ds => ds.length ≤ 100000 ∧ ∀ d ∈ ds, fits n d
  | _ + 1, .dict _ => False
  | _ + 1, _ => True
abbrev s_law_same : Stmt := top 55
theorem sc__law_same : FnScope ["one", "due", "k"] ["one", "due"] (C8.fnScope s_law_same) := C8.fnScope_by (by decide +kernel)
section
variable {P : Program} {w : World} {K : Fr} {mg : Str → Option Value} {base : Heap}
/-- one datum against itself -/
def spSame (K : Fr) (n : Nat) : Sp := fun vs H Q _ => ∃ (x y : V) (d : PyData), vs = [x, y] ∧ fits n d ∧ Dp K H x d ∧ Dp K H y d ∧ ∀ H', Same H H' → Q (.bl true) H'
theorem ok_same (T : Txt K mg) : ∀ n, C8.Cal P w K mg base (n + 1) "_law_same" (spSame K n) []
  | 0 => by
    refine cal_of T.f_law_same .nil sc__law_same (fun vs H Q E h => ?_) (fun f cdv A outer s H vs Q E hr h => ?_)
    · obtain ⟨x, y, d, rfl, _⟩ := h; rfl
    · obtain ⟨x, y, d, rfl, hl, _⟩ := h; exact hl.elim
  | n + 1 => by
    have ih := ok_same T n
    have nd := sc__law_same.nd
    refine cal_of T.f_law_same .nil sc__law_same (fun vs H Q E h => ?_) (fun f cdv A outer s H vs Q E hr h => ?_)
    · obtain ⟨x, y, d, rfl, _⟩ := h; rfl
    · obtain ⟨x, y, d, rfl, hl, hx, hy, q⟩ := h
      have nd := sc__law_same.nd
      have hu := hu_of hr
      have hu0 := hu0_of hr
      have hu64 := hu64_of hr
      refine ⟨_, 
    (pss_cons (ps_if (pt_cmp (pc_isN (pv 1))) 
        (pss_one (ps_ret (pe_cmp (pc_isN (pv 0))))) pss_nil)
    (pss_cons (ps_if (pt_cmpR op_isB (pv 1) pe_bl (nomark _)) 
        (pss_one (ps_ret (pe_cmpR op_isB (pv 0) pe_bl (nomark _)))) pss_nil)
    (pss_cons (ps_if (pt_cmpR op_isB (pv 1) pe_bl (nomark _)) 
        (pss_one (ps_ret (pe_cmpR op_isB (pv 0) pe_bl (nomark _)))) pss_nil)
    (pss_cons (ps_if (pt_val (pe_callB (id := "isinstance") (call_isW (K := K)) (by rfl) T.b_isinstance (by decide +kernel) (pa_cons (pv 1) (pa_cons (pe_bltn (v := .ty "int") (u := .type "int") rfl T.b_int (by decide +kernel) rfl) pa_nil)))) 
        (pss_one (ps_ret (pe_and (pe_callB (id := "isinstance") (call_isW (K := K)) (by rfl) T.b_isinstance (by decide +kernel) (pa_cons (pv 0) (pa_cons (pe_bltn (v := .ty "int") (u := .type "int") rfl T.b_int (by decide +kernel) rfl) pa_nil))) (pe_and (pe_not (pe_callB (id := "isinstance") (call_isW (K := K)) (by rfl) T.b_isinstance (by decide +kernel) (pa_cons (pv 0) (pa_cons (pe_bltn (v := .ty "bool") (u := .type "bool") rfl T.b_bool (by decide +kernel) rfl) pa_nil)))) (pe_one (pe_cmpR op_eq (pv 0) (pv 1) (nomark _))))))) pss_nil)
    (pss_cons (ps_if (pt_val (pe_callB (id := "isinstance") (call_isW (K := K)) (by rfl) T.b_isinstance (by decide +kernel) (pa_cons (pv 1) (pa_cons (pe_bltn (v := .ty "str") (u := .type "str") rfl T.b_str (by decide +kernel) rfl) pa_nil)))) 
        (pss_one (ps_ret (pe_and (pe_callB (id := "isinstance") (call_isW (K := K)) (by rfl) T.b_isinstance (by decide +kernel) (pa_cons (pv 0) (pa_cons (pe_bltn (v := .ty "str") (u := .type "str") rfl T.b_str (by decide +kernel) rfl) pa_nil))) (pe_one (pe_cmpR op_eq (pv 0) (pv 1) (nomark _)))))) pss_nil)
    (pss_cons (ps_if (pt_val (pe_callB (id := "isinstance") (call_isW (K := K)) (by rfl) T.b_isinstance (by decide +kernel) (pa_cons (pv 1) (pa_cons (pe_bltn (v := .ty "list") (u := .type "list") rfl T.b_list (by decide +kernel) rfl) pa_nil)))) 
        (pss_one (ps_if (pt_not (pt_val (pe_callB (id := "isinstance") (call_isW (K := K)) (by rfl) T.b_isinstance (by decide +kernel) (pa_cons (pv 0) (pa_cons (pe_bltn (v := .ty "list") (u := .type "list") rfl T.b_list (by decide +kernel) rfl) pa_nil))))) 
            (pss_one (ps_ret pe_bl)) pss_nil)) 
        (pss_one (ps_if (pt_not (pt_val (pe_callB (id := "isinstance") (call_isW (K := K)) (by rfl) T.b_isinstance (by decide +kernel) (pa_cons (pv 0) (pa_cons (pe_bltn (v := .ty "tuple") (u := .type "tuple") rfl T.b_tuple (by decide +kernel) rfl) pa_nil))))) 
            (pss_one (ps_ret pe_bl)) pss_nil)))
    (pss_cons (ps_if (pt_cmpR op_ne (pe_callB (id := "len") (call_lenD' (K := K)) (by rfl) T.b_len PySem.boot_len (pa_cons (pv 0) pa_nil)) (pe_callB (id := "len") (call_lenD' (K := K)) (by rfl) T.b_len PySem.boot_len (pa_cons (pv 1) pa_nil)) (nomark _)) 
        (pss_one (ps_ret pe_bl)) pss_nil)
    (pss_cons (ps_for PassesOwn.never rfl (pi_range1 rfl T.b_range (pa_cons (pe_callB (id := "len") (call_lenD' (K := K)) (by rfl) T.b_len PySem.boot_len (pa_cons (pv 1) pa_nil)) pa_nil)) (pg_name (i := 2) nd rfl (by first | exact Or.inl rfl | exact Or.inr rfl)) 
        (pss_one (ps_if (pt_not (pt_val (C8.pe_c ih hr (Nat.le_refl _) rfl (pa_cons (pe_ix (ix_E (K := K)) (pv 0) (pv 2) (fun _ _ => rfl)) (pa_cons (pe_ix (ix_E (K := K)) (pv 1) (pv 2) (fun _ _ => rfl)) pa_nil))))) 
            (pss_one (ps_ret pe_bl)) pss_nil)))
    (pss_one (ps_ret pe_bl)))))))))), ?_⟩
      cases d with
      | none =>
        cases hx; cases hy
        simp only [tSeq, tIfS, tTest, tB, tOp, tUn, tVar, tC, rI0, rI, rU, CMul, CDiv, CPow, L2.start, tRet, tRetN, tNext, tAsg, gName, tDrop, tCons, tNil, tTup, tLst, tTupN, tLstN, tCB, tCall, tIf, tAnd, tOr, tNot, tAndV, tOrV, tNotV, tIsN, tNotN, tApp, tExt, upT, upS, up, rEq, rNe, scal, tAug, ipI, tPart, tNoPart, tSl, tChain, wipe, tYes, tBreak, tCont, cxK, rNeD, rEqD, rIsD, rIxW, rIxE, rLenD, rSlD, rCatD, rTupD, rListW, tFld, sFld, List.map_cons, List.map_nil, List.length_cons, List.length_nil, List.replicate, List.cons_append, List.nil_append, List.append_nil, List.getElem?_cons_zero, List.getElem?_cons_succ, List.set_cons_zero, List.set_cons_succ, Nat.reduceAdd, Nat.reduceSub, Option.some.injEq, V.int.injEq, V.bl.injEq, V.str.injEq, V.ref.injEq, V.ty.injEq, List.cons.injEq, exists_eq_left, exists_eq_left', exists_eq_right, exists_and_left, and_true, true_and, and_assoc, decide_eq_true_eq, Bool.not_eq_true', decide_eq_false_iff_not, Bool.not_not, reduceCtorEq, false_and, and_false, or_false, false_or, exists_const, false_implies, implies_true, if_false, if_true, Bool.false_eq_true, eq_self, forall_eq', exists_false, decide_true, decide_false, ite_true, ite_false, not_true_eq_false, not_false_eq_true, or_true, true_or, gSub, rSetL, gTup, gCons, gNil, rIxH, rIxS, rLenH, HO.lst.injEq, HO.tup.injEq, atI_0, atI_1, atI_2, ixN_31, ixN_32, Int.reduceNeg, Int.reducePow, Int.reduceLT, Int.reduceLE, Nat.reducePow, Nat.reduceLT, Nat.reduceLeDiff, Int.reduceToNat, Int.reduceAbs, sizeLine_eq, Nat.le_refl, Nat.zero_le, Int.reduceMul, Int.reduceAdd, Int.reduceSub, exists_eq', exists_eq, tBM, tyV_str, tDKN, tDTN]
        exact q _ (Same.refl H)
      | bool b =>
        cases hx; cases hy
        simp only [tSeq, tIfS, tTest, tB, tOp, tUn, tVar, tC, rI0, rI, rU, CMul, CDiv, CPow, L2.start, tRet, tRetN, tNext, tAsg, gName, tDrop, tCons, tNil, tTup, tLst, tTupN, tLstN, tCB, tCall, tIf, tAnd, tOr, tNot, tAndV, tOrV, tNotV, tIsN, tNotN, tApp, tExt, upT, upS, up, rEq, rNe, scal, tAug, ipI, tPart, tNoPart, tSl, tChain, wipe, tYes, tBreak, tCont, cxK, rNeD, rEqD, rIsD, rIxW, rIxE, rLenD, rSlD, rCatD, rTupD, rListW, tFld, sFld, List.map_cons, List.map_nil, List.length_cons, List.length_nil, List.replicate, List.cons_append, List.nil_append, List.append_nil, List.getElem?_cons_zero, List.getElem?_cons_succ, List.set_cons_zero, List.set_cons_succ, Nat.reduceAdd, Nat.reduceSub, Option.some.injEq, V.int.injEq, V.bl.injEq, V.str.injEq, V.ref.injEq, V.ty.injEq, List.cons.injEq, exists_eq_left, exists_eq_left', exists_eq_right, exists_and_left, and_true, true_and, and_assoc, decide_eq_true_eq, Bool.not_eq_true', decide_eq_false_iff_not, Bool.not_not, reduceCtorEq, false_and, and_false, or_false, false_or, exists_const, false_implies, implies_true, if_false, if_true, Bool.false_eq_true, eq_self, forall_eq', exists_false, decide_true, decide_false, ite_true, ite_false, not_true_eq_false, not_false_eq_true, or_true, true_or, gSub, rSetL, gTup, gCons, gNil, rIxH, rIxS, rLenH, HO.lst.injEq, HO.tup.injEq, atI_0, atI_1, atI_2, ixN_31, ixN_32, Int.reduceNeg, Int.reducePow, Int.reduceLT, Int.reduceLE, Nat.reducePow, Nat.reduceLT, Nat.reduceLeDiff, Int.reduceToNat, Int.reduceAbs, sizeLine_eq, Nat.le_refl, Nat.zero_le, Int.reduceMul, Int.reduceAdd, Int.reduceSub, exists_eq', exists_eq, tBM, tyV_str, tDKN, tDTN]
        cases b <;> (simp only [tSeq, tIfS, tTest, tB, tOp, tUn, tVar, tC, rI0, rI, rU, CMul, CDiv, CPow, L2.start, tRet, tRetN, tNext, tAsg, gName, tDrop, tCons, tNil, tTup, tLst, tTupN, tLstN, tCB, tCall, tIf, tAnd, tOr, tNot, tAndV, tOrV, tNotV, tIsN, tNotN, tApp, tExt, upT, upS, up, rEq, rNe, scal, tAug, ipI, tPart, tNoPart, tSl, tChain, wipe, tYes, tBreak, tCont, cxK, rNeD, rEqD, rIsD, rIxW, rIxE, rLenD, rSlD, rCatD, rTupD, rListW, tFld, sFld, List.map_cons, List.map_nil, List.length_cons, List.length_nil, List.replicate, List.cons_append, List.nil_append, List.append_nil, List.getElem?_cons_zero, List.getElem?_cons_succ, List.set_cons_zero, List.set_cons_succ, Nat.reduceAdd, Nat.reduceSub, Option.some.injEq, V.int.injEq, V.bl.injEq, V.str.injEq, V.ref.injEq, V.ty.injEq, List.cons.injEq, exists_eq_left, exists_eq_left', exists_eq_right, exists_and_left, and_true, true_and, and_assoc, decide_eq_true_eq, Bool.not_eq_true', decide_eq_false_iff_not, Bool.not_not, reduceCtorEq, false_and, and_false, or_false, false_or, exists_const, false_implies, implies_true, if_false, if_true, Bool.false_eq_true, eq_self, forall_eq', exists_false, decide_true, decide_false, ite_true, ite_false, not_true_eq_false, not_false_eq_true, or_true, true_or, gSub, rSetL, gTup, gCons, gNil, rIxH, rIxS, rLenH, HO.lst.injEq, HO.tup.injEq, atI_0, atI_1, atI_2, ixN_31, ixN_32, Int.reduceNeg, Int.reducePow, Int.reduceLT, Int.reduceLE, Nat.reducePow, Nat.reduceLT, Nat.reduceLeDiff, Int.reduceToNat, Int.reduceAbs, sizeLine_eq, Nat.le_refl, Nat.zero_le, Int.reduceMul, Int.reduceAdd, Int.reduceSub, exists_eq', exists_eq, tBM, tyV_str, tDKN, tDTN]; exact q _ (Same.refl H))
      | int i =>
        cases hx; cases hy
        simp only [tSeq, tIfS, tTest, tB, tOp, tUn, tVar, tC, rI0, rI, rU, CMul, CDiv, CPow, L2.start, tRet, tRetN, tNext, tAsg, gName, tDrop, tCons, tNil, tTup, tLst, tTupN, tLstN, tCB, tCall, tIf, tAnd, tOr, tNot, tAndV, tOrV, tNotV, tIsN, tNotN, tApp, tExt, upT, upS, up, rEq, rNe, scal, tAug, ipI, tPart, tNoPart, tSl, tChain, wipe, tYes, tBreak, tCont, cxK, rNeD, rEqD, rIsD, rIxW, rIxE, rLenD, rSlD, rCatD, rTupD, rListW, tFld, sFld, List.map_cons, List.map_nil, List.length_cons, List.length_nil, List.replicate, List.cons_append, List.nil_append, List.append_nil, List.getElem?_cons_zero, List.getElem?_cons_succ, List.set_cons_zero, List.set_cons_succ, Nat.reduceAdd, Nat.reduceSub, Option.some.injEq, V.int.injEq, V.bl.injEq, V.str.injEq, V.ref.injEq, V.ty.injEq, List.cons.injEq, exists_eq_left, exists_eq_left', exists_eq_right, exists_and_left, and_true, true_and, and_assoc, decide_eq_true_eq, Bool.not_eq_true', decide_eq_false_iff_not, Bool.not_not, reduceCtorEq, false_and, and_false, or_false, false_or, exists_const, false_implies, implies_true, if_false, if_true, Bool.false_eq_true, eq_self, forall_eq', exists_false, decide_true, decide_false, ite_true, ite_false, not_true_eq_false, not_false_eq_true, or_true, true_or, gSub, rSetL, gTup, gCons, gNil, rIxH, rIxS, rLenH, HO.lst.injEq, HO.tup.injEq, atI_0, atI_1, atI_2, ixN_31, ixN_32, Int.reduceNeg, Int.reducePow, Int.reduceLT, Int.reduceLE, Nat.reducePow, Nat.reduceLT, Nat.reduceLeDiff, Int.reduceToNat, Int.reduceAbs, sizeLine_eq, Nat.le_refl, Nat.zero_le, Int.reduceMul, Int.reduceAdd, Int.reduceSub, exists_eq', exists_eq, tBM, tyV_str, tDKN, tDTN]
        exact ⟨_, .int i, rfl, itP (by show isiB "int" "int" = true; decide) ⟨_, .int i, rfl, itP (by show isiB "int" "int" = true; decide) ⟨_, .int i, rfl, itP (by show isiB "int" "bool" = false; decide) (q _ (Same.refl H))⟩⟩⟩
      | str z =>
        cases hx; cases hy
        simp only [tSeq, tIfS, tTest, tB, tOp, tUn, tVar, tC, rI0, rI, rU, CMul, CDiv, CPow, L2.start, tRet, tRetN, tNext, tAsg, gName, tDrop, tCons, tNil, tTup, tLst, tTupN, tLstN, tCB, tCall, tIf, tAnd, tOr, tNot, tAndV, tOrV, tNotV, tIsN, tNotN, tApp, tExt, upT, upS, up, rEq, rNe, scal, tAug, ipI, tPart, tNoPart, tSl, tChain, wipe, tYes, tBreak, tCont, cxK, rNeD, rEqD, rIsD, rIxW, rIxE, rLenD, rSlD, rCatD, rTupD, rListW, tFld, sFld, List.map_cons, List.map_nil, List.length_cons, List.length_nil, List.replicate, List.cons_append, List.nil_append, List.append_nil, List.getElem?_cons_zero, List.getElem?_cons_succ, List.set_cons_zero, List.set_cons_succ, Nat.reduceAdd, Nat.reduceSub, Option.some.injEq, V.int.injEq, V.bl.injEq, V.str.injEq, V.ref.injEq, V.ty.injEq, List.cons.injEq, exists_eq_left, exists_eq_left', exists_eq_right, exists_and_left, and_true, true_and, and_assoc, decide_eq_true_eq, Bool.not_eq_true', decide_eq_false_iff_not, Bool.not_not, reduceCtorEq, false_and, and_false, or_false, false_or, exists_const, false_implies, implies_true, if_false, if_true, Bool.false_eq_true, eq_self, forall_eq', exists_false, decide_true, decide_false, ite_true, ite_false, not_true_eq_false, not_false_eq_true, or_true, true_or, gSub, rSetL, gTup, gCons, gNil, rIxH, rIxS, rLenH, HO.lst.injEq, HO.tup.injEq, atI_0, atI_1, atI_2, ixN_31, ixN_32, Int.reduceNeg, Int.reducePow, Int.reduceLT, Int.reduceLE, Nat.reducePow, Nat.reduceLT, Nat.reduceLeDiff, Int.reduceToNat, Int.reduceAbs, sizeLine_eq, Nat.le_refl, Nat.zero_le, Int.reduceMul, Int.reduceAdd, Int.reduceSub, exists_eq', exists_eq, tBM, tyV_str, tDKN, tDTN]
        exact ⟨_, .str z, rfl, itN (by show ¬ isiB "str" "int" = true; decide) ⟨_, .str z, rfl, itP (by show isiB "str" "str" = true; decide) ⟨_, .str z, rfl, itP (by show isiB "str" "str" = true; decide) (q _ (Same.refl H))⟩⟩⟩
      | list ds =>
        cases hy with
        | @lst a ys _ hs ha =>
        have hy : Dp K H (.ref a) (.list ds) := .lst hs ha
        simp only [tSeq, tIfS, tTest, tB, tOp, tUn, tVar, tC, rI0, rI, rU, CMul, CDiv, CPow, L2.start, tRet, tRetN, tNext, tAsg, gName, tDrop, tCons, tNil, tTup, tLst, tTupN, tLstN, tCB, tCall, tIf, tAnd, tOr, tNot, tAndV, tOrV, tNotV, tIsN, tNotN, tApp, tExt, upT, upS, up, rEq, rNe, scal, tAug, ipI, tPart, tNoPart, tSl, tChain, wipe, tYes, tBreak, tCont, cxK, rNeD, rEqD, rIsD, rIxW, rIxE, rLenD, rSlD, rCatD, rTupD, rListW, tFld, sFld, List.map_cons, List.map_nil, List.length_cons, List.length_nil, List.replicate, List.cons_append, List.nil_append, List.append_nil, List.getElem?_cons_zero, List.getElem?_cons_succ, List.set_cons_zero, List.set_cons_succ, Nat.reduceAdd, Nat.reduceSub, Option.some.injEq, V.int.injEq, V.bl.injEq, V.str.injEq, V.ref.injEq, V.ty.injEq, List.cons.injEq, exists_eq_left, exists_eq_left', exists_eq_right, exists_and_left, and_true, true_and, and_assoc, decide_eq_true_eq, Bool.not_eq_true', decide_eq_false_iff_not, Bool.not_not, reduceCtorEq, false_and, and_false, or_false, false_or, exists_const, false_implies, implies_true, if_false, if_true, Bool.false_eq_true, eq_self, forall_eq', exists_false, decide_true, decide_false, ite_true, ite_false, not_true_eq_false, not_false_eq_true, or_true, true_or, gSub, rSetL, gTup, gCons, gNil, rIxH, rIxS, rLenH, HO.lst.injEq, HO.tup.injEq, atI_0, atI_1, atI_2, ixN_31, ixN_32, Int.reduceNeg, Int.reducePow, Int.reduceLT, Int.reduceLE, Nat.reducePow, Nat.reduceLT, Nat.reduceLeDiff, Int.reduceToNat, Int.reduceAbs, sizeLine_eq, Nat.le_refl, Nat.zero_le, Int.reduceMul, Int.reduceAdd, Int.reduceSub, exists_eq', exists_eq, tBM, tyV_str, tDKN, tDTN]
        refine ⟨_, hy, rfl, itN (by show ¬ isiB "list" "int" = true; decide) ⟨_, hy, rfl, itN (by show ¬ isiB "list" "str" = true; decide) ⟨_, hy, rfl, itP (by show isiB "list" "list" = true; decide) ⟨_, hx, rfl, itN (by show ¬ isiB "list" "list" = false; decide) ⟨_, .inr hx, _, .inr hy, itN (fun z => z rfl) ?_⟩⟩⟩⟩⟩
        obtain ⟨hz, hf⟩ : ds.length ≤ 100000 ∧ ∀ d ∈ ds, fits n d := hl
        refine ⟨_, rfl, _, _, rfl, .inr hy, _, rfl, by omega, by omega, for_range (n := ds.length) (fun k σ H' => ∃ v, σ = [some x, some (.ref a), v] ∧ Same H H') ⟨none, rfl, Same.refl H⟩ ?_ ?_⟩
        · rintro k σ H' hk ⟨v, rfl, s1⟩
          simp only [tSeq, tIfS, tTest, tB, tOp, tUn, tVar, tC, rI0, rI, rU, CMul, CDiv, CPow, L2.start, tRet, tRetN, tNext, tAsg, gName, tDrop, tCons, tNil, tTup, tLst, tTupN, tLstN, tCB, tCall, tIf, tAnd, tOr, tNot, tAndV, tOrV, tNotV, tIsN, tNotN, tApp, tExt, upT, upS, up, rEq, rNe, scal, tAug, ipI, tPart, tNoPart, tSl, tChain, wipe, tYes, tBreak, tCont, cxK, rNeD, rEqD, rIsD, rIxW, rIxE, rLenD, rSlD, rCatD, rTupD, rListW, tFld, sFld, List.map_cons, List.map_nil, List.length_cons, List.length_nil, List.replicate, List.cons_append, List.nil_append, List.append_nil, List.getElem?_cons_zero, List.getElem?_cons_succ, List.set_cons_zero, List.set_cons_succ, Nat.reduceAdd, Nat.reduceSub, Option.some.injEq, V.int.injEq, V.bl.injEq, V.str.injEq, V.ref.injEq, V.ty.injEq, List.cons.injEq, exists_eq_left, exists_eq_left', exists_eq_right, exists_and_left, and_true, true_and, and_assoc, decide_eq_true_eq, Bool.not_eq_true', decide_eq_false_iff_not, Bool.not_not, reduceCtorEq, false_and, and_false, or_false, false_or, exists_const, false_implies, implies_true, if_false, if_true, Bool.false_eq_true, eq_self, forall_eq', exists_false, decide_true, decide_false, ite_true, ite_false, not_true_eq_false, not_false_eq_true, or_true, true_or, gSub, rSetL, gTup, gCons, gNil, rIxH, rIxS, rLenH, HO.lst.injEq, HO.tup.injEq, atI_0, atI_1, atI_2, ixN_31, ixN_32, Int.reduceNeg, Int.reducePow, Int.reduceLT, Int.reduceLE, Nat.reducePow, Nat.reduceLT, Nat.reduceLeDiff, Int.reduceToNat, Int.reduceAbs, sizeLine_eq, Nat.le_refl, Nat.zero_le, Int.reduceMul, Int.reduceAdd, Int.reduceSub, exists_eq', exists_eq, tBM, tyV_str, tDKN, tDTN]
          have e : (0 : Int) + (k : Int) = ((k : Nat) : Int) := by omega
          have hg : ds[k]? = some ds[k] := List.getElem?_eq_getElem hk
          rw [e]
          refine ⟨_, .inr (Dp.same s1 _ _ hx), ds[k], atI_nat hg, fun v1 h1 => ⟨_, .inr (Dp.same s1 _ _ hy), ds[k], atI_nat hg, fun v2 h2 => ?_⟩⟩
          refine ⟨v1, v2, _, rfl, hf _ (List.getElem_mem _), h1, h2, fun H2 s2 => ⟨true, rfl, itN (by simp) (Same.trans s1 s2)⟩⟩
        · rintro σ H' ⟨v, rfl, s1⟩
          simp only [tSeq, tIfS, tTest, tB, tOp, tUn, tVar, tC, rI0, rI, rU, CMul, CDiv, CPow, L2.start, tRet, tRetN, tNext, tAsg, gName, tDrop, tCons, tNil, tTup, tLst, tTupN, tLstN, tCB, tCall, tIf, tAnd, tOr, tNot, tAndV, tOrV, tNotV, tIsN, tNotN, tApp, tExt, upT, upS, up, rEq, rNe, scal, tAug, ipI, tPart, tNoPart, tSl, tChain, wipe, tYes, tBreak, tCont, cxK, rNeD, rEqD, rIsD, rIxW, rIxE, rLenD, rSlD, rCatD, rTupD, rListW, tFld, sFld, List.map_cons, List.map_nil, List.length_cons, List.length_nil, List.replicate, List.cons_append, List.nil_append, List.append_nil, List.getElem?_cons_zero, List.getElem?_cons_succ, List.set_cons_zero, List.set_cons_succ, Nat.reduceAdd, Nat.reduceSub, Option.some.injEq, V.int.injEq, V.bl.injEq, V.str.injEq, V.ref.injEq, V.ty.injEq, List.cons.injEq, exists_eq_left, exists_eq_left', exists_eq_right, exists_and_left, and_true, true_and, and_assoc, decide_eq_true_eq, Bool.not_eq_true', decide_eq_false_iff_not, Bool.not_not, reduceCtorEq, false_and, and_false, or_false, false_or, exists_const, false_implies, implies_true, if_false, if_true, Bool.false_eq_true, eq_self, forall_eq', exists_false, decide_true, decide_false, ite_true, ite_false, not_true_eq_false, not_false_eq_true, or_true, true_or, gSub, rSetL, gTup, gCons, gNil, rIxH, rIxS, rLenH, HO.lst.injEq, HO.tup.injEq, atI_0, atI_1, atI_2, ixN_31, ixN_32, Int.reduceNeg, Int.reducePow, Int.reduceLT, Int.reduceLE, Nat.reducePow, Nat.reduceLT, Nat.reduceLeDiff, Int.reduceToNat, Int.reduceAbs, sizeLine_eq, Nat.le_refl, Nat.zero_le, Int.reduceMul, Int.reduceAdd, Int.reduceSub, exists_eq', exists_eq, tBM, tyV_str, tDKN, tDTN]
          exact q _ s1
      | tuple ds =>
        cases hy with
        | @tup a ys _ hs ha =>
        have hy : Dp K H (.ref a) (.tuple ds) := .tup hs ha
        simp only [tSeq, tIfS, tTest, tB, tOp, tUn, tVar, tC, rI0, rI, rU, CMul, CDiv, CPow, L2.start, tRet, tRetN, tNext, tAsg, gName, tDrop, tCons, tNil, tTup, tLst, tTupN, tLstN, tCB, tCall, tIf, tAnd, tOr, tNot, tAndV, tOrV, tNotV, tIsN, tNotN, tApp, tExt, upT, upS, up, rEq, rNe, scal, tAug, ipI, tPart, tNoPart, tSl, tChain, wipe, tYes, tBreak, tCont, cxK, rNeD, rEqD, rIsD, rIxW, rIxE, rLenD, rSlD, rCatD, rTupD, rListW, tFld, sFld, List.map_cons, List.map_nil, List.length_cons, List.length_nil, List.replicate, List.cons_append, List.nil_append, List.append_nil, List.getElem?_cons_zero, List.getElem?_cons_succ, List.set_cons_zero, List.set_cons_succ, Nat.reduceAdd, Nat.reduceSub, Option.some.injEq, V.int.injEq, V.bl.injEq, V.str.injEq, V.ref.injEq, V.ty.injEq, List.cons.injEq, exists_eq_left, exists_eq_left', exists_eq_right, exists_and_left, and_true, true_and, and_assoc, decide_eq_true_eq, Bool.not_eq_true', decide_eq_false_iff_not, Bool.not_not, reduceCtorEq, false_and, and_false, or_false, false_or, exists_const, false_implies, implies_true, if_false, if_true, Bool.false_eq_true, eq_self, forall_eq', exists_false, decide_true, decide_false, ite_true, ite_false, not_true_eq_false, not_false_eq_true, or_true, true_or, gSub, rSetL, gTup, gCons, gNil, rIxH, rIxS, rLenH, HO.lst.injEq, HO.tup.injEq, atI_0, atI_1, atI_2, ixN_31, ixN_32, Int.reduceNeg, Int.reducePow, Int.reduceLT, Int.reduceLE, Nat.reducePow, Nat.reduceLT, Nat.reduceLeDiff, Int.reduceToNat, Int.reduceAbs, sizeLine_eq, Nat.le_refl, Nat.zero_le, Int.reduceMul, Int.reduceAdd, Int.reduceSub, exists_eq', exists_eq, tBM, tyV_str, tDKN, tDTN]
        refine ⟨_, hy, rfl, itN (by show ¬ isiB "tuple" "int" = true; decide) ⟨_, hy, rfl, itN (by show ¬ isiB "tuple" "str" = true; decide) ⟨_, hy, rfl, itN (by show ¬ isiB "tuple" "list" = true; decide) ⟨_, hx, rfl, itN (by show ¬ isiB "tuple" "tuple" = false; decide) ⟨_, .inl hx, _, .inl hy, itN (fun z => z rfl) ?_⟩⟩⟩⟩⟩
        obtain ⟨hz, hf⟩ : ds.length ≤ 100000 ∧ ∀ d ∈ ds, fits n d := hl
        refine ⟨_, rfl, _, _, rfl, .inl hy, _, rfl, by omega, by omega, for_range (n := ds.length) (fun k σ H' => ∃ v, σ = [some x, some (.ref a), v] ∧ Same H H') ⟨none, rfl, Same.refl H⟩ ?_ ?_⟩
        · rintro k σ H' hk ⟨v, rfl, s1⟩
          simp only [tSeq, tIfS, tTest, tB, tOp, tUn, tVar, tC, rI0, rI, rU, CMul, CDiv, CPow, L2.start, tRet, tRetN, tNext, tAsg, gName, tDrop, tCons, tNil, tTup, tLst, tTupN, tLstN, tCB, tCall, tIf, tAnd, tOr, tNot, tAndV, tOrV, tNotV, tIsN, tNotN, tApp, tExt, upT, upS, up, rEq, rNe, scal, tAug, ipI, tPart, tNoPart, tSl, tChain, wipe, tYes, tBreak, tCont, cxK, rNeD, rEqD, rIsD, rIxW, rIxE, rLenD, rSlD, rCatD, rTupD, rListW, tFld, sFld, List.map_cons, List.map_nil, List.length_cons, List.length_nil, List.replicate, List.cons_append, List.nil_append, List.append_nil, List.getElem?_cons_zero, List.getElem?_cons_succ, List.set_cons_zero, List.set_cons_succ, Nat.reduceAdd, Nat.reduceSub, Option.some.injEq, V.int.injEq, V.bl.injEq, V.str.injEq, V.ref.injEq, V.ty.injEq, List.cons.injEq, exists_eq_left, exists_eq_left', exists_eq_right, exists_and_left, and_true, true_and, and_assoc, decide_eq_true_eq, Bool.not_eq_true', decide_eq_false_iff_not, Bool.not_not, reduceCtorEq, false_and, and_false, or_false, false_or, exists_const, false_implies, implies_true, if_false, if_true, Bool.false_eq_true, eq_self, forall_eq', exists_false, decide_true, decide_false, ite_true, ite_false, not_true_eq_false, not_false_eq_true, or_true, true_or, gSub, rSetL, gTup, gCons, gNil, rIxH, rIxS, rLenH, HO.lst.injEq, HO.tup.injEq, atI_0, atI_1, atI_2, ixN_31, ixN_32, Int.reduceNeg, Int.reducePow, Int.reduceLT, Int.reduceLE, Nat.reducePow, Nat.reduceLT, Nat.reduceLeDiff, Int.reduceToNat, Int.reduceAbs, sizeLine_eq, Nat.le_refl, Nat.zero_le, Int.reduceMul, Int.reduceAdd, Int.reduceSub, exists_eq', exists_eq, tBM, tyV_str, tDKN, tDTN]
          have e : (0 : Int) + (k : Int) = ((k : Nat) : Int) := by omega
          have hg : ds[k]? = some ds[k] := List.getElem?_eq_getElem hk
          rw [e]
          refine ⟨_, .inl (Dp.same s1 _ _ hx), ds[k], atI_nat hg, fun v1 h1 => ⟨_, .inl (Dp.same s1 _ _ hy), ds[k], atI_nat hg, fun v2 h2 => ?_⟩⟩
          refine ⟨v1, v2, _, rfl, hf _ (List.getElem_mem _), h1, h2, fun H2 s2 => ⟨true, rfl, itN (by simp) (Same.trans s1 s2)⟩⟩
        · rintro σ H' ⟨v, rfl, s1⟩
          simp only [tSeq, tIfS, tTest, tB, tOp, tUn, tVar, tC, rI0, rI, rU, CMul, CDiv, CPow, L2.start, tRet, tRetN, tNext, tAsg, gName, tDrop, tCons, tNil, tTup, tLst, tTupN, tLstN, tCB, tCall, tIf, tAnd, tOr, tNot, tAndV, tOrV, tNotV, tIsN, tNotN, tApp, tExt, upT, upS, up, rEq, rNe, scal, tAug, ipI, tPart, tNoPart, tSl, tChain, wipe, tYes, tBreak, tCont, cxK, rNeD, rEqD, rIsD, rIxW, rIxE, rLenD, rSlD, rCatD, rTupD, rListW, tFld, sFld, List.map_cons, List.map_nil, List.length_cons, List.length_nil, List.replicate, List.cons_append, List.nil_append, List.append_nil, List.getElem?_cons_zero, List.getElem?_cons_succ, List.set_cons_zero, List.set_cons_succ, Nat.reduceAdd, Nat.reduceSub, Option.some.injEq, V.int.injEq, V.bl.injEq, V.str.injEq, V.ref.injEq, V.ty.injEq, List.cons.injEq, exists_eq_left, exists_eq_left', exists_eq_right, exists_and_left, and_true, true_and, and_assoc, decide_eq_true_eq, Bool.not_eq_true', decide_eq_false_iff_not, Bool.not_not, reduceCtorEq, false_and, and_false, or_false, false_or, exists_const, false_implies, implies_true, if_false, if_true, Bool.false_eq_true, eq_self, forall_eq', exists_false, decide_true, decide_false, ite_true, ite_false, not_true_eq_false, not_false_eq_true, or_true, true_or, gSub, rSetL, gTup, gCons, gNil, rIxH, rIxS, rLenH, HO.lst.injEq, HO.tup.injEq, atI_0, atI_1, atI_2, ixN_31, ixN_32, Int.reduceNeg, Int.reducePow, Int.reduceLT, Int.reduceLE, Nat.reducePow, Nat.reduceLT, Nat.reduceLeDiff, Int.reduceToNat, Int.reduceAbs, sizeLine_eq, Nat.le_refl, Nat.zero_le, Int.reduceMul, Int.reduceAdd, Int.reduceSub, exists_eq', exists_eq, tBM, tyV_str, tDKN, tDTN]
          exact q _ s1
      | dict kvs => cases hx
end
end K63
namespace K63
open PySem PySem.Spec PyProof.Rows L2 Ds
-- imports A63 B63b
abbrev s_law_tile : Stmt := top 56
theorem sc__law_tile : FnScope ["pool", "sort", "signs"] ["pool", "sort"] (C8.fnScope s_law_tile) := C8.fnScope_by (by decide +kernel)
abbrev s_law_near : Stmt := top 57
theorem sc__law_near : FnScope ["pool", "tile", "signs", "kind"] ["pool", "tile"] (C8.fnScope s_law_near) := C8.fnScope_by (by decide +kernel)
abbrev s_law_screen : Stmt := top 58
theorem sc__law_screen : FnScope ["pool", "wide", "high", "blank", "sort", "k", "j"] ["pool", "wide", "high"] (C8.fnScope s_law_screen) := C8.fnScope_by (by decide +kernel)
abbrev s_law_turned : Stmt := top 59
theorem sc__law_turned : FnScope ["pool", "screen", "often", "made", "band", "tiles", "k"] ["pool", "screen"] (C8.fnScope s_law_turned) := C8.fnScope_by (by decide +kernel)
theorem sign_at {i : Int} (h0 : 0 ≤ i) (h1 : i < 95) : ∃ c, atI signs.cps.toList i = some c ∧ PyData.strOk ⟨#[c]⟩ = true := by
  have hl : signs.cps.toList.length = 95 := by rw [Array.length_toList]; exact signs_len
  have hi : i.toNat < signs.cps.toList.length := by omega
  have e : i = ((i.toNat : Nat) : Int) := by omega
  refine ⟨signs.cps.toList[i.toNat], (congrArg (atI _) e).trans (atI_nat (List.getElem?_eq_getElem hi)), ?_⟩
  have q := signs_ok
  unfold PyData.strOk at q ⊢
  rw [← Array.all_toList, List.all_eq_true] at q
  have := q _ (List.getElem_mem hi)
  simpa using this
section
variable {P : Program} {w : World} {K : Fr} {mg : Str → Option Value} {base : Heap}
def spTile (K : Fr) : Sp := fun vs H Q _ => ∃ (p so : Addr) (xs : List V) (ts : List Tile), vs = [.ref p, .ref so] ∧ Pool H p ∧ so ≠ p ∧ H so = some (.lst xs) ∧ DpAll K H xs (ts.map tD) ∧ ts ≠ [] ∧ (∀ t ∈ ts, okT t) ∧
  ∀ t v H', okT t → PK p H H' → Dp K H' v (tD t) → Q v H'
theorem ok_tile (T : Txt K mg) : C8.Cal P w K mg base 2 "_law_tile" (spTile K) [] := by
  have C__law_next := ok_next (P := P) (w := w) (base := base) T
  have C__law_signs := ok_signs (P := P) (w := w) (base := base) T
  refine cal_of T.f_law_tile .nil sc__law_tile (fun vs H Q E h => ?_) (fun f cdv A outer s H vs Q E hr h => ?_)
  · obtain ⟨a, b, c, d, rfl, _⟩ := h; rfl
  · obtain ⟨p, so, xs, ts, rfl, hP, hne, hS, hA, hts, hok, q⟩ := h
    have nd := sc__law_tile.nd
    have hu := hu_of hr
    have hu0 := hu0_of hr
    have hu64 := hu64_of hr
    refine ⟨_, 
    (pss_cons (ps_set (i := 2) nd rfl (by first | exact Or.inl rfl | exact Or.inr rfl) (pe_c0 C__law_signs hr (by decide) rfl))
    (pss_cons (ps_if (pt_cmpR op_eq (C8.pe_c C__law_next hr (by decide) rfl (pa_cons (pv 0) (pa_cons pe_int pa_nil))) pe_int (nomark _)) 
        (pss_one (ps_ret (pe_ix ix_H (pv 1) (C8.pe_c C__law_next hr (by decide) rfl (pa_cons (pv 0) (pa_cons (pe_callB (id := "len") call_lenH (by rfl) T.b_len PySem.boot_len (pa_cons (pv 1) pa_nil)) pa_nil))) (fun _ _ => rfl)))) pss_nil)
    (pss_one (ps_ret (pe_tupN (pa_cons (pe_ix ix_str (pv 2) (pe_op op_add pe_int (C8.pe_c C__law_next hr (by decide) rfl (pa_cons (pv 0) (pa_cons pe_int pa_nil)))) (fun _ _ => rfl)) (pa_cons (C8.pe_c C__law_next hr (by decide) rfl (pa_cons (pv 0) (pa_cons pe_int pa_nil))) (pa_cons (C8.pe_c C__law_next hr (by decide) rfl (pa_cons (pv 0) (pa_cons pe_int pa_nil))) pa_nil)))))))), ?_⟩
    simp only [tSeq, tIfS, tTest, tB, tOp, tUn, tVar, tC, rI0, rI, rU, CMul, CDiv, CPow, L2.start, tRet, tRetN, tNext, tAsg, gName, tDrop, tCons, tNil, tTup, tLst, tTupN, tLstN, tCB, tCall, tIf, tAnd, tOr, tNot, tAndV, tOrV, tNotV, tIsN, tNotN, tApp, tExt, upT, upS, up, rEq, rNe, scal, tAug, ipI, tPart, tNoPart, tSl, tChain, wipe, tYes, tBreak, tCont, cxK, rNeD, rEqD, rIsD, rIxW, rIxE, rLenD, rSlD, rCatD, rTupD, rListW, tFld, sFld, List.map_cons, List.map_nil, List.length_cons, List.length_nil, List.replicate, List.cons_append, List.nil_append, List.append_nil, List.getElem?_cons_zero, List.getElem?_cons_succ, List.set_cons_zero, List.set_cons_succ, Nat.reduceAdd, Nat.reduceSub, Option.some.injEq, V.int.injEq, V.bl.injEq, V.str.injEq, V.ref.injEq, V.ty.injEq, List.cons.injEq, exists_eq_left, exists_eq_left', exists_eq_right, exists_and_left, and_true, true_and, and_assoc, decide_eq_true_eq, Bool.not_eq_true', decide_eq_false_iff_not, Bool.not_not, reduceCtorEq, false_and, and_false, or_false, false_or, exists_const, false_implies, implies_true, if_false, if_true, Bool.false_eq_true, eq_self, forall_eq', exists_false, decide_true, decide_false, ite_true, ite_false, not_true_eq_false, not_false_eq_true, or_true, true_or, gSub, rSetL, gTup, gCons, gNil, rIxH, rIxS, rLenH, HO.lst.injEq, HO.tup.injEq, atI_0, atI_1, atI_2, ixN_31, ixN_32, Int.reduceNeg, Int.reducePow, Int.reduceLT, Int.reduceLE, Nat.reducePow, Nat.reduceLT, Nat.reduceLeDiff, Int.reduceToNat, Int.reduceAbs, sizeLine_eq, Nat.le_refl, Nat.zero_le, Int.reduceMul, Int.reduceAdd, Int.reduceSub, exists_eq', exists_eq, tBM, tyV_str, tDKN, tDTN]
    refine ⟨rfl, ?_⟩
    simp only [tSeq, tIfS, tTest, tB, tOp, tUn, tVar, tC, rI0, rI, rU, CMul, CDiv, CPow, L2.start, tRet, tRetN, tNext, tAsg, gName, tDrop, tCons, tNil, tTup, tLst, tTupN, tLstN, tCB, tCall, tIf, tAnd, tOr, tNot, tAndV, tOrV, tNotV, tIsN, tNotN, tApp, tExt, upT, upS, up, rEq, rNe, scal, tAug, ipI, tPart, tNoPart, tSl, tChain, wipe, tYes, tBreak, tCont, cxK, rNeD, rEqD, rIsD, rIxW, rIxE, rLenD, rSlD, rCatD, rTupD, rListW, tFld, sFld, List.map_cons, List.map_nil, List.length_cons, List.length_nil, List.replicate, List.cons_append, List.nil_append, List.append_nil, List.getElem?_cons_zero, List.getElem?_cons_succ, List.set_cons_zero, List.set_cons_succ, Nat.reduceAdd, Nat.reduceSub, Option.some.injEq, V.int.injEq, V.bl.injEq, V.str.injEq, V.ref.injEq, V.ty.injEq, List.cons.injEq, exists_eq_left, exists_eq_left', exists_eq_right, exists_and_left, and_true, true_and, and_assoc, decide_eq_true_eq, Bool.not_eq_true', decide_eq_false_iff_not, Bool.not_not, reduceCtorEq, false_and, and_false, or_false, false_or, exists_const, false_implies, implies_true, if_false, if_true, Bool.false_eq_true, eq_self, forall_eq', exists_false, decide_true, decide_false, ite_true, ite_false, not_true_eq_false, not_false_eq_true, or_true, true_or, gSub, rSetL, gTup, gCons, gNil, rIxH, rIxS, rLenH, HO.lst.injEq, HO.tup.injEq, atI_0, atI_1, atI_2, ixN_31, ixN_32, Int.reduceNeg, Int.reducePow, Int.reduceLT, Int.reduceLE, Nat.reducePow, Nat.reduceLT, Nat.reduceLeDiff, Int.reduceToNat, Int.reduceAbs, sizeLine_eq, Nat.le_refl, Nat.zero_le, Int.reduceMul, Int.reduceAdd, Int.reduceSub, exists_eq', exists_eq, tBM, tyV_str, tDKN, tDTN]
    refine ⟨p, 2, rfl, hP, by decide, fun r H1 r0 r1 k1 => ?_⟩
    simp only [tSeq, tIfS, tTest, tB, tOp, tUn, tVar, tC, rI0, rI, rU, CMul, CDiv, CPow, L2.start, tRet, tRetN, tNext, tAsg, gName, tDrop, tCons, tNil, tTup, tLst, tTupN, tLstN, tCB, tCall, tIf, tAnd, tOr, tNot, tAndV, tOrV, tNotV, tIsN, tNotN, tApp, tExt, upT, upS, up, rEq, rNe, scal, tAug, ipI, tPart, tNoPart, tSl, tChain, wipe, tYes, tBreak, tCont, cxK, rNeD, rEqD, rIsD, rIxW, rIxE, rLenD, rSlD, rCatD, rTupD, rListW, tFld, sFld, List.map_cons, List.map_nil, List.length_cons, List.length_nil, List.replicate, List.cons_append, List.nil_append, List.append_nil, List.getElem?_cons_zero, List.getElem?_cons_succ, List.set_cons_zero, List.set_cons_succ, Nat.reduceAdd, Nat.reduceSub, Option.some.injEq, V.int.injEq, V.bl.injEq, V.str.injEq, V.ref.injEq, V.ty.injEq, List.cons.injEq, exists_eq_left, exists_eq_left', exists_eq_right, exists_and_left, and_true, true_and, and_assoc, decide_eq_true_eq, Bool.not_eq_true', decide_eq_false_iff_not, Bool.not_not, reduceCtorEq, false_and, and_false, or_false, false_or, exists_const, false_implies, implies_true, if_false, if_true, Bool.false_eq_true, eq_self, forall_eq', exists_false, decide_true, decide_false, ite_true, ite_false, not_true_eq_false, not_false_eq_true, or_true, true_or, gSub, rSetL, gTup, gCons, gNil, rIxH, rIxS, rLenH, HO.lst.injEq, HO.tup.injEq, atI_0, atI_1, atI_2, ixN_31, ixN_32, Int.reduceNeg, Int.reducePow, Int.reduceLT, Int.reduceLE, Nat.reducePow, Nat.reduceLT, Nat.reduceLeDiff, Int.reduceToNat, Int.reduceAbs, sizeLine_eq, Nat.le_refl, Nat.zero_le, Int.reduceMul, Int.reduceAdd, Int.reduceSub, exists_eq', exists_eq, tBM, tyV_str, tDKN, tDTN]
    refine ite2 (fun _ => ?_) (fun _ => ?_)
    · have hS1 := k1.keep _ _ hne hS
      refine ⟨_, hS1, p, _, rfl, k1.pl hP, ?_, fun r2 H2 a0 a1 k2 => ?_⟩
      · rw [DpA.length hA, List.length_map]
        have := List.length_pos_iff.mpr hts
        omega
      · have hS2 := k2.keep _ _ hne hS1
        rw [DpA.length hA, List.length_map] at a1
        have hi : r2.toNat < ts.length := by omega
        have e : r2 = ((r2.toNat : Nat) : Int) := by omega
        obtain ⟨v, hv, hd⟩ := DpA.at (i := r2.toNat) (d := tD ts[r2.toNat]) hA (by rw [List.getElem?_map, List.getElem?_eq_getElem hi]; rfl)
        have kk := k1.trans k2
        refine ⟨xs, r2, rfl, hS2, v, (congrArg (atI _) e).trans (atI_nat hv), ?_⟩
        exact q _ _ _ (hok _ (List.getElem_mem hi)) kk (Dp.tk (kk.tk hP) _ _ rfl hd)
    · refine ⟨p, 94, rfl, k1.pl hP, by decide, fun r2 H2 a0 a1 k2 => ?_⟩
      obtain ⟨c, hc, hcok⟩ := sign_at (i := 1 + r2) (by omega) (by omega)
      simp only [tSeq, tIfS, tTest, tB, tOp, tUn, tVar, tC, rI0, rI, rU, CMul, CDiv, CPow, L2.start, tRet, tRetN, tNext, tAsg, gName, tDrop, tCons, tNil, tTup, tLst, tTupN, tLstN, tCB, tCall, tIf, tAnd, tOr, tNot, tAndV, tOrV, tNotV, tIsN, tNotN, tApp, tExt, upT, upS, up, rEq, rNe, scal, tAug, ipI, tPart, tNoPart, tSl, tChain, wipe, tYes, tBreak, tCont, cxK, rNeD, rEqD, rIsD, rIxW, rIxE, rLenD, rSlD, rCatD, rTupD, rListW, tFld, sFld, List.map_cons, List.map_nil, List.length_cons, List.length_nil, List.replicate, List.cons_append, List.nil_append, List.append_nil, List.getElem?_cons_zero, List.getElem?_cons_succ, List.set_cons_zero, List.set_cons_succ, Nat.reduceAdd, Nat.reduceSub, Option.some.injEq, V.int.injEq, V.bl.injEq, V.str.injEq, V.ref.injEq, V.ty.injEq, List.cons.injEq, exists_eq_left, exists_eq_left', exists_eq_right, exists_and_left, and_true, true_and, and_assoc, decide_eq_true_eq, Bool.not_eq_true', decide_eq_false_iff_not, Bool.not_not, reduceCtorEq, false_and, and_false, or_false, false_or, exists_const, false_implies, implies_true, if_false, if_true, Bool.false_eq_true, eq_self, forall_eq', exists_false, decide_true, decide_false, ite_true, ite_false, not_true_eq_false, not_false_eq_true, or_true, true_or, gSub, rSetL, gTup, gCons, gNil, rIxH, rIxS, rLenH, HO.lst.injEq, HO.tup.injEq, atI_0, atI_1, atI_2, ixN_31, ixN_32, Int.reduceNeg, Int.reducePow, Int.reduceLT, Int.reduceLE, Nat.reducePow, Nat.reduceLT, Nat.reduceLeDiff, Int.reduceToNat, Int.reduceAbs, sizeLine_eq, Nat.le_refl, Nat.zero_le, Int.reduceMul, Int.reduceAdd, Int.reduceSub, exists_eq', exists_eq, tBM, tyV_str, tDKN, tDTN]
      refine ⟨by rw [signs_len]; decide, c, hc, ?_⟩
      refine ⟨p, 9, rfl, k2.pl (k1.pl hP), by decide, fun r3 H3 _ _ k3 => ?_⟩
      refine ⟨p, 8, rfl, k3.pl (k2.pl (k1.pl hP)), by decide, fun r4 H4 _ _ k4 => fun x H5 hx sx ex => ?_⟩
      have kk := ((k1.trans k2).trans k3).trans k4
      refine q (⟨#[c]⟩, r3, r4) _ _ hcok (kk.trans (PK.same sx)) ?_
      exact .tup (SqT.of ex) (.cons (.str _) (.cons (.int _) (.cons (.int _) .nil)))
/-- a tile like another one -/
def spNear (K : Fr) : Sp := fun vs H Q _ => ∃ (p : Addr) (x : V) (t : Tile), vs = [.ref p, x] ∧ Pool H p ∧ Dp K H x (tD t) ∧ okT t ∧ ∀ t' v H', okT t' → PK p H H' → Dp K H' v (tD t') → Q v H'
theorem ok_near (T : Txt K mg) : C8.Cal P w K mg base 2 "_law_near" (spNear K) [] := by
  have C__law_next := ok_next (P := P) (w := w) (base := base) T
  have C__law_signs := ok_signs (P := P) (w := w) (base := base) T
  refine cal_of T.f_law_near .nil sc__law_near (fun vs H Q E h => ?_) (fun f cdv A outer s H vs Q E hr h => ?_)
  · obtain ⟨a, b, c, rfl, _⟩ := h; rfl
  · obtain ⟨p, x, t, rfl, hP, hx, hok, q⟩ := h
    have nd := sc__law_near.nd
    have hu := hu_of hr
    have hu0 := hu0_of hr
    have hu64 := hu64_of hr
    refine ⟨_, 
    (pss_cons (ps_set (i := 2) nd rfl (by first | exact Or.inl rfl | exact Or.inr rfl) (pe_c0 C__law_signs hr (by decide) rfl))
    (pss_cons (ps_set (i := 3) nd rfl (by first | exact Or.inl rfl | exact Or.inr rfl) (C8.pe_c C__law_next hr (by decide) rfl (pa_cons (pv 0) (pa_cons pe_int pa_nil))))
    (pss_cons (ps_if (pt_cmpR op_eq (pv 3) pe_int (nomark _)) 
        (pss_one (ps_ret (pe_tupN (pa_cons (pe_ix ix_str (pv 2) (pe_op op_add pe_int (C8.pe_c C__law_next hr (by decide) rfl (pa_cons (pv 0) (pa_cons pe_int pa_nil)))) (fun _ _ => rfl)) (pa_cons (pe_ix (ix_D (K := K)) (pv 1) pe_int (fun _ _ => rfl)) (pa_cons (pe_ix (ix_D (K := K)) (pv 1) pe_int (fun _ _ => rfl)) pa_nil)))))) pss_nil)
    (pss_cons (ps_if (pt_cmpR op_eq (pv 3) pe_int (nomark _)) 
        (pss_one (ps_ret (pe_tupN (pa_cons (pe_ix (ix_D (K := K)) (pv 1) pe_int (fun _ _ => rfl)) (pa_cons (C8.pe_c C__law_next hr (by decide) rfl (pa_cons (pv 0) (pa_cons pe_int pa_nil))) (pa_cons (pe_ix (ix_D (K := K)) (pv 1) pe_int (fun _ _ => rfl)) pa_nil)))))) pss_nil)
    (pss_one (ps_ret (pe_tupN (pa_cons (pe_ix (ix_D (K := K)) (pv 1) pe_int (fun _ _ => rfl)) (pa_cons (pe_ix (ix_D (K := K)) (pv 1) pe_int (fun _ _ => rfl)) (pa_cons (C8.pe_c C__law_next hr (by decide) rfl (pa_cons (pv 0) (pa_cons pe_int pa_nil))) pa_nil)))))))))), ?_⟩
    simp only [tSeq, tIfS, tTest, tB, tOp, tUn, tVar, tC, rI0, rI, rU, CMul, CDiv, CPow, L2.start, tRet, tRetN, tNext, tAsg, gName, tDrop, tCons, tNil, tTup, tLst, tTupN, tLstN, tCB, tCall, tIf, tAnd, tOr, tNot, tAndV, tOrV, tNotV, tIsN, tNotN, tApp, tExt, upT, upS, up, rEq, rNe, scal, tAug, ipI, tPart, tNoPart, tSl, tChain, wipe, tYes, tBreak, tCont, cxK, rNeD, rEqD, rIsD, rIxW, rIxE, rLenD, rSlD, rCatD, rTupD, rListW, tFld, sFld, List.map_cons, List.map_nil, List.length_cons, List.length_nil, List.replicate, List.cons_append, List.nil_append, List.append_nil, List.getElem?_cons_zero, List.getElem?_cons_succ, List.set_cons_zero, List.set_cons_succ, Nat.reduceAdd, Nat.reduceSub, Option.some.injEq, V.int.injEq, V.bl.injEq, V.str.injEq, V.ref.injEq, V.ty.injEq, List.cons.injEq, exists_eq_left, exists_eq_left', exists_eq_right, exists_and_left, and_true, true_and, and_assoc, decide_eq_true_eq, Bool.not_eq_true', decide_eq_false_iff_not, Bool.not_not, reduceCtorEq, false_and, and_false, or_false, false_or, exists_const, false_implies, implies_true, if_false, if_true, Bool.false_eq_true, eq_self, forall_eq', exists_false, decide_true, decide_false, ite_true, ite_false, not_true_eq_false, not_false_eq_true, or_true, true_or, gSub, rSetL, gTup, gCons, gNil, rIxH, rIxS, rLenH, HO.lst.injEq, HO.tup.injEq, atI_0, atI_1, atI_2, ixN_31, ixN_32, Int.reduceNeg, Int.reducePow, Int.reduceLT, Int.reduceLE, Nat.reducePow, Nat.reduceLT, Nat.reduceLeDiff, Int.reduceToNat, Int.reduceAbs, sizeLine_eq, Nat.le_refl, Nat.zero_le, Int.reduceMul, Int.reduceAdd, Int.reduceSub, exists_eq', exists_eq, tBM, tyV_str, tDKN, tDTN]
    refine ⟨rfl, ?_⟩
    simp only [tSeq, tIfS, tTest, tB, tOp, tUn, tVar, tC, rI0, rI, rU, CMul, CDiv, CPow, L2.start, tRet, tRetN, tNext, tAsg, gName, tDrop, tCons, tNil, tTup, tLst, tTupN, tLstN, tCB, tCall, tIf, tAnd, tOr, tNot, tAndV, tOrV, tNotV, tIsN, tNotN, tApp, tExt, upT, upS, up, rEq, rNe, scal, tAug, ipI, tPart, tNoPart, tSl, tChain, wipe, tYes, tBreak, tCont, cxK, rNeD, rEqD, rIsD, rIxW, rIxE, rLenD, rSlD, rCatD, rTupD, rListW, tFld, sFld, List.map_cons, List.map_nil, List.length_cons, List.length_nil, List.replicate, List.cons_append, List.nil_append, List.append_nil, List.getElem?_cons_zero, List.getElem?_cons_succ, List.set_cons_zero, List.set_cons_succ, Nat.reduceAdd, Nat.reduceSub, Option.some.injEq, V.int.injEq, V.bl.injEq, V.str.injEq, V.ref.injEq, V.ty.injEq, List.cons.injEq, exists_eq_left, exists_eq_left', exists_eq_right, exists_and_left, and_true, true_and, and_assoc, decide_eq_true_eq, Bool.not_eq_true', decide_eq_false_iff_not, Bool.not_not, reduceCtorEq, false_and, and_false, or_false, false_or, exists_const, false_implies, implies_true, if_false, if_true, Bool.false_eq_true, eq_self, forall_eq', exists_false, decide_true, decide_false, ite_true, ite_false, not_true_eq_false, not_false_eq_true, or_true, true_or, gSub, rSetL, gTup, gCons, gNil, rIxH, rIxS, rLenH, HO.lst.injEq, HO.tup.injEq, atI_0, atI_1, atI_2, ixN_31, ixN_32, Int.reduceNeg, Int.reducePow, Int.reduceLT, Int.reduceLE, Nat.reducePow, Nat.reduceLT, Nat.reduceLeDiff, Int.reduceToNat, Int.reduceAbs, sizeLine_eq, Nat.le_refl, Nat.zero_le, Int.reduceMul, Int.reduceAdd, Int.reduceSub, exists_eq', exists_eq, tBM, tyV_str, tDKN, tDTN]
    refine ⟨p, 3, rfl, hP, by decide, fun r H1 r0 r1 k1 => ?_⟩
    have hx1 := Dp.tk (k1.tk hP) _ _ rfl hx
    simp only [tSeq, tIfS, tTest, tB, tOp, tUn, tVar, tC, rI0, rI, rU, CMul, CDiv, CPow, L2.start, tRet, tRetN, tNext, tAsg, gName, tDrop, tCons, tNil, tTup, tLst, tTupN, tLstN, tCB, tCall, tIf, tAnd, tOr, tNot, tAndV, tOrV, tNotV, tIsN, tNotN, tApp, tExt, upT, upS, up, rEq, rNe, scal, tAug, ipI, tPart, tNoPart, tSl, tChain, wipe, tYes, tBreak, tCont, cxK, rNeD, rEqD, rIsD, rIxW, rIxE, rLenD, rSlD, rCatD, rTupD, rListW, tFld, sFld, List.map_cons, List.map_nil, List.length_cons, List.length_nil, List.replicate, List.cons_append, List.nil_append, List.append_nil, List.getElem?_cons_zero, List.getElem?_cons_succ, List.set_cons_zero, List.set_cons_succ, Nat.reduceAdd, Nat.reduceSub, Option.some.injEq, V.int.injEq, V.bl.injEq, V.str.injEq, V.ref.injEq, V.ty.injEq, List.cons.injEq, exists_eq_left, exists_eq_left', exists_eq_right, exists_and_left, and_true, true_and, and_assoc, decide_eq_true_eq, Bool.not_eq_true', decide_eq_false_iff_not, Bool.not_not, reduceCtorEq, false_and, and_false, or_false, false_or, exists_const, false_implies, implies_true, if_false, if_true, Bool.false_eq_true, eq_self, forall_eq', exists_false, decide_true, decide_false, ite_true, ite_false, not_true_eq_false, not_false_eq_true, or_true, true_or, gSub, rSetL, gTup, gCons, gNil, rIxH, rIxS, rLenH, HO.lst.injEq, HO.tup.injEq, atI_0, atI_1, atI_2, ixN_31, ixN_32, Int.reduceNeg, Int.reducePow, Int.reduceLT, Int.reduceLE, Nat.reducePow, Nat.reduceLT, Nat.reduceLeDiff, Int.reduceToNat, Int.reduceAbs, sizeLine_eq, Nat.le_refl, Nat.zero_le, Int.reduceMul, Int.reduceAdd, Int.reduceSub, exists_eq', exists_eq, tBM, tyV_str, tDKN, tDTN]
    have mkT : ∀ (c : Str) (i j : Int) (H2 : Hp), PyData.strOk c = true → PK p H H2 → ∀ x H3, H2 x = none → Same H2 H3 → H3 x = some (.tup [.str c, .int i, .int j]) → Q (.ref x) H3 := fun c i j H2 hc kk x H3 hx sx ex =>
      q (c, i, j) _ _ hc (kk.trans (PK.same sx)) (.tup (SqT.of ex) (.cons (.str _) (.cons (.int _) (.cons (.int _) .nil))))
    refine ite2 (fun _ => ?_) (fun _ => ite2 (fun _ => ?_) (fun _ => ?_))
    · refine ⟨p, 94, rfl, k1.pl hP, by decide, fun r2 H2 a0 a1 k2 => ?_⟩
      obtain ⟨c, hc, hcok⟩ := sign_at (i := 1 + r2) (by omega) (by omega)
      have hx2 := Dp.tk (k2.tk (k1.pl hP)) _ _ rfl hx1
      simp only [tSeq, tIfS, tTest, tB, tOp, tUn, tVar, tC, rI0, rI, rU, CMul, CDiv, CPow, L2.start, tRet, tRetN, tNext, tAsg, gName, tDrop, tCons, tNil, tTup, tLst, tTupN, tLstN, tCB, tCall, tIf, tAnd, tOr, tNot, tAndV, tOrV, tNotV, tIsN, tNotN, tApp, tExt, upT, upS, up, rEq, rNe, scal, tAug, ipI, tPart, tNoPart, tSl, tChain, wipe, tYes, tBreak, tCont, cxK, rNeD, rEqD, rIsD, rIxW, rIxE, rLenD, rSlD, rCatD, rTupD, rListW, tFld, sFld, List.map_cons, List.map_nil, List.length_cons, List.length_nil, List.replicate, List.cons_append, List.nil_append, List.append_nil, List.getElem?_cons_zero, List.getElem?_cons_succ, List.set_cons_zero, List.set_cons_succ, Nat.reduceAdd, Nat.reduceSub, Option.some.injEq, V.int.injEq, V.bl.injEq, V.str.injEq, V.ref.injEq, V.ty.injEq, List.cons.injEq, exists_eq_left, exists_eq_left', exists_eq_right, exists_and_left, and_true, true_and, and_assoc, decide_eq_true_eq, Bool.not_eq_true', decide_eq_false_iff_not, Bool.not_not, reduceCtorEq, false_and, and_false, or_false, false_or, exists_const, false_implies, implies_true, if_false, if_true, Bool.false_eq_true, eq_self, forall_eq', exists_false, decide_true, decide_false, ite_true, ite_false, not_true_eq_false, not_false_eq_true, or_true, true_or, gSub, rSetL, gTup, gCons, gNil, rIxH, rIxS, rLenH, HO.lst.injEq, HO.tup.injEq, atI_0, atI_1, atI_2, ixN_31, ixN_32, Int.reduceNeg, Int.reducePow, Int.reduceLT, Int.reduceLE, Nat.reducePow, Nat.reduceLT, Nat.reduceLeDiff, Int.reduceToNat, Int.reduceAbs, sizeLine_eq, Nat.le_refl, Nat.zero_le, Int.reduceMul, Int.reduceAdd, Int.reduceSub, exists_eq', exists_eq, tBM, tyV_str, tDKN, tDTN]
      refine ⟨by rw [signs_len]; decide, c, hc, _, hx2, _, atI_1 _ _ _, fun v hv => ⟨_, hx2, _, atI_2 _ _ _ _, fun v1 hv1 => ?_⟩⟩
      cases hv
      cases hv1
      exact mkT _ _ _ _ hcok (k1.trans k2)
    · refine ⟨_, hx1, _, atI_0 _ _, fun v hv => ?_⟩
      cases hv
      refine ⟨p, 9, rfl, k1.pl hP, by decide, fun r2 H2 a0 a1 k2 => ?_⟩
      have hx2 := Dp.tk (k2.tk (k1.pl hP)) _ _ rfl hx1
      simp only [tSeq, tIfS, tTest, tB, tOp, tUn, tVar, tC, rI0, rI, rU, CMul, CDiv, CPow, L2.start, tRet, tRetN, tNext, tAsg, gName, tDrop, tCons, tNil, tTup, tLst, tTupN, tLstN, tCB, tCall, tIf, tAnd, tOr, tNot, tAndV, tOrV, tNotV, tIsN, tNotN, tApp, tExt, upT, upS, up, rEq, rNe, scal, tAug, ipI, tPart, tNoPart, tSl, tChain, wipe, tYes, tBreak, tCont, cxK, rNeD, rEqD, rIsD, rIxW, rIxE, rLenD, rSlD, rCatD, rTupD, rListW, tFld, sFld, List.map_cons, List.map_nil, List.length_cons, List.length_nil, List.replicate, List.cons_append, List.nil_append, List.append_nil, List.getElem?_cons_zero, List.getElem?_cons_succ, List.set_cons_zero, List.set_cons_succ, Nat.reduceAdd, Nat.reduceSub, Option.some.injEq, V.int.injEq, V.bl.injEq, V.str.injEq, V.ref.injEq, V.ty.injEq, List.cons.injEq, exists_eq_left, exists_eq_left', exists_eq_right, exists_and_left, and_true, true_and, and_assoc, decide_eq_true_eq, Bool.not_eq_true', decide_eq_false_iff_not, Bool.not_not, reduceCtorEq, false_and, and_false, or_false, false_or, exists_const, false_implies, implies_true, if_false, if_true, Bool.false_eq_true, eq_self, forall_eq', exists_false, decide_true, decide_false, ite_true, ite_false, not_true_eq_false, not_false_eq_true, or_true, true_or, gSub, rSetL, gTup, gCons, gNil, rIxH, rIxS, rLenH, HO.lst.injEq, HO.tup.injEq, atI_0, atI_1, atI_2, ixN_31, ixN_32, Int.reduceNeg, Int.reducePow, Int.reduceLT, Int.reduceLE, Nat.reducePow, Nat.reduceLT, Nat.reduceLeDiff, Int.reduceToNat, Int.reduceAbs, sizeLine_eq, Nat.le_refl, Nat.zero_le, Int.reduceMul, Int.reduceAdd, Int.reduceSub, exists_eq', exists_eq, tBM, tyV_str, tDKN, tDTN]
      refine ⟨_, hx2, _, atI_2 _ _ _ _, fun v1 hv1 => ?_⟩
      cases hv1
      exact mkT _ _ _ _ hok (k1.trans k2)
    · refine ⟨_, hx1, _, atI_0 _ _, fun v hv => ⟨_, hx1, _, atI_1 _ _ _, fun v1 hv1 => ?_⟩⟩
      cases hv
      cases hv1
      refine ⟨p, 8, rfl, k1.pl hP, by decide, fun r2 H2 a0 a1 k2 => ?_⟩
      exact mkT _ _ _ _ hok (k1.trans k2)
def spScreen (K : Fr) : Sp := fun vs H Q _ => ∃ (p : Addr) (wi hi : Nat), vs = [.ref p, .int wi, .int hi] ∧ Pool H p ∧ wi ≤ 100 ∧ hi ≤ 100 ∧ 
  ∀ sc v H', sc.length = hi → (∀ r ∈ sc, r.length = wi ∧ ∀ t ∈ r, okT t) → PK p H H' → Dp K H' v (scrD sc) → Q v H'
theorem ok_screen (T : Txt K mg) : C8.Cal P w K mg base 3 "_law_screen" (spScreen K) [] := by
  have C__law_next := ok_next (P := P) (w := w) (base := base) T
  have C__law_tile := ok_tile (P := P) (w := w) (base := base) T
  refine cal_of T.f_law_screen .nil sc__law_screen (fun vs H Q E h => ?_) (fun f cdv A outer s H vs Q E hr h => ?_)
  · obtain ⟨a, b, c, rfl, _⟩ := h; rfl
  · obtain ⟨p, wi, hi, rfl, hP, hw1, hh1, q⟩ := h
    have nd := sc__law_screen.nd
    have hu := hu_of hr
    have hu0 := hu0_of hr
    have hu64 := hu64_of hr
    refine ⟨_, 
    (pss_cons (ps_set (i := 3) nd rfl (by first | exact Or.inl rfl | exact Or.inr rfl) (pe_tupN (pa_cons pe_str (pa_cons pe_int (pa_cons pe_int pa_nil)))))
    (pss_cons (ps_set (i := 4) nd rfl (by first | exact Or.inl rfl | exact Or.inr rfl) (pe_lstN (pa_cons (pv 3) (pa_cons (pv 3) (pa_cons (pe_tupN (pa_cons pe_str (pa_cons pe_int (pa_cons pe_int pa_nil)))) (pa_cons (pe_tupN (pa_cons pe_str (pa_cons pe_int (pa_cons pe_int pa_nil)))) (pa_cons (pe_tupN (pa_cons pe_str (pa_cons pe_int (pa_cons pe_int pa_nil)))) (pa_cons (pe_tupN (pa_cons pe_str (pa_cons pe_int (pa_cons pe_int pa_nil)))) pa_nil))))))))
    (pss_one (ps_ret (pe_callTy (T := "tuple") (call_tupD (K := K)) (by rfl) T.b_tuple (by decide +kernel) (pa_cons (pe_lc (own := [("j", 6)]) rfl nd (pi_range1 rfl T.b_range (pa_cons (pv 2) pa_nil)) (blkOk_by (own := [("j", 6)]) (by first | decide +kernel | kernel_rfl | rfl)) (fun _ _ _ _ _ => (pg_name (i := 6) nd rfl (by first | exact Or.inl rfl | exact Or.inr rfl))) (fun _ _ _ _ _ => pts_nil) (fun _ _ _ _ _ => (pe_callTy (T := "tuple") (call_tupD (K := K)) (by rfl) T.b_tuple (by decide +kernel) (pa_cons (pe_lc (own := [("k", 5)]) rfl nd (pi_range1 rfl T.b_range (pa_cons (pv 1) pa_nil)) (blkOk_by (own := [("k", 5)]) (by first | decide +kernel | kernel_rfl | rfl)) (fun _ _ _ _ _ => (pg_name (i := 5) nd rfl (by first | exact Or.inl rfl | exact Or.inr rfl))) (fun _ _ _ _ _ => pts_nil) (fun _ _ _ _ _ => (C8.pe_c C__law_tile hr (by decide) rfl (pa_cons (pv 0) (pa_cons (pv 4) pa_nil))))) pa_nil)))) pa_nil)))))), ?_⟩
    simp only [tSeq, tIfS, tTest, tB, tOp, tUn, tVar, tC, rI0, rI, rU, CMul, CDiv, CPow, L2.start, tRet, tRetN, tNext, tAsg, gName, tDrop, tCons, tNil, tTup, tLst, tTupN, tLstN, tCB, tCall, tIf, tAnd, tOr, tNot, tAndV, tOrV, tNotV, tIsN, tNotN, tApp, tExt, upT, upS, up, rEq, rNe, scal, tAug, ipI, tPart, tNoPart, tSl, tChain, wipe, tYes, tBreak, tCont, cxK, rNeD, rEqD, rIsD, rIxW, rIxE, rLenD, rSlD, rCatD, rTupD, rListW, tFld, sFld, List.map_cons, List.map_nil, List.length_cons, List.length_nil, List.replicate, List.cons_append, List.nil_append, List.append_nil, List.getElem?_cons_zero, List.getElem?_cons_succ, List.set_cons_zero, List.set_cons_succ, Nat.reduceAdd, Nat.reduceSub, Option.some.injEq, V.int.injEq, V.bl.injEq, V.str.injEq, V.ref.injEq, V.ty.injEq, List.cons.injEq, exists_eq_left, exists_eq_left', exists_eq_right, exists_and_left, and_true, true_and, and_assoc, decide_eq_true_eq, Bool.not_eq_true', decide_eq_false_iff_not, Bool.not_not, reduceCtorEq, false_and, and_false, or_false, false_or, exists_const, false_implies, implies_true, if_false, if_true, Bool.false_eq_true, eq_self, forall_eq', exists_false, decide_true, decide_false, ite_true, ite_false, not_true_eq_false, not_false_eq_true, or_true, true_or, gSub, rSetL, gTup, gCons, gNil, rIxH, rIxS, rLenH, HO.lst.injEq, HO.tup.injEq, atI_0, atI_1, atI_2, ixN_31, ixN_32, Int.reduceNeg, Int.reducePow, Int.reduceLT, Int.reduceLE, Nat.reducePow, Nat.reduceLT, Nat.reduceLeDiff, Int.reduceToNat, Int.reduceAbs, sizeLine_eq, Nat.le_refl, Nat.zero_le, Int.reduceMul, Int.reduceAdd, Int.reduceSub, exists_eq', exists_eq, tBM, tyV_str, tDKN, tDTN]
    intro a1 H1 n1 s1 e1
    intro a2 H2 n2 s2 e2
    intro a3 H3 n3 s3 e3
    intro a4 H4 n4 s4 e4
    intro a5 H5 n5 s5 e5
    intro so H6 n6 s6 e6
    have t45 := Same.trans s5 s6
    have t35 := Same.trans s4 t45
    have t25 := Same.trans s3 t35
    have t15 := Same.trans s2 t25
    have t05 := Same.trans s1 t15
    have hP6 := (PK.same t05).pl hP
    have soP : so ≠ p := fun z => by
      obtain ⟨_, q⟩ := hP.isLst
      have := Same.trans s1 (Same.trans s2 (Same.trans s3 (Same.trans s4 s5))) _ _ q
      rw [z, this] at n6; cases n6
    have mk : ∀ (a : Addr) (c : Str) (i j : Int) (Ha : Hp), Ha a = some (.tup [.str c, .int i, .int j]) → Same Ha H6 → Dp K H6 (.ref a) (tD (c, i, j)) := fun a c i j Ha e sm => .tup (SqT.of (sm _ _ e)) (.cons (.str _) (.cons (.int _) (.cons (.int _) .nil)))
    have hA6 : DpAll K H6 [.ref a1, .ref a1, .ref a2, .ref a3, .ref a4, .ref a5] ([(Str.ofString " ", 0, 0), (Str.ofString " ", 0, 0), (Str.ofString "a", 0, 0), (Str.ofString "a", 3, 0), (Str.ofString "a", 0, 1), (Str.ofString " ", 0, 4)].map tD) :=
      .cons (mk _ _ _ _ _ e1 t15) (.cons (mk _ _ _ _ _ e1 t15) (.cons (mk _ _ _ _ _ e2 t25) (.cons (mk _ _ _ _ _ e3 t35) (.cons (mk _ _ _ _ _ e4 t45) (.cons (mk _ _ _ _ _ e5 s6) .nil)))))
    have hok6 : ∀ t ∈ ([(Str.ofString " ", 0, 0), (Str.ofString " ", 0, 0), (Str.ofString "a", 0, 0), (Str.ofString "a", 3, 0), (Str.ofString "a", 0, 1), (Str.ofString " ", 0, 4)] : List Tile), okT t := by
      have o1 : PyData.strOk (Str.ofString " ") = true := by decide +kernel
      have o2 : PyData.strOk (Str.ofString "a") = true := by decide +kernel
      intro t ht
      simp only [List.mem_cons, List.not_mem_nil, or_false] at ht
      rcases ht with rfl | rfl | rfl | rfl | rfl | rfl <;> first | exact o1 | exact o2
    refine ⟨_, rfl, hi, rfl, by omega, by omega, fun D hD => lc_range (n := hi) (fun j H' => ∃ (rows : List (List Tile)) (xs : List V), H' D = some (.lst xs) ∧ DpAll K H' xs (rows.map rowD) ∧ rows.length = j ∧ (∀ r ∈ rows, r.length = wi ∧ ∀ t ∈ r, okT t) ∧ PK p H6 H')
      ⟨[], [], upd_same, .nil, rfl, fun _ h => (by simp at h), PK.same (Same.new hD)⟩ ?_ ?_⟩
    · rintro j H' hj ⟨rows, xs, hDl, hrA, hrl, hrk, kk⟩
      refine ⟨rfl, ?_⟩
      simp only [tSeq, tIfS, tTest, tB, tOp, tUn, tVar, tC, rI0, rI, rU, CMul, CDiv, CPow, L2.start, tRet, tRetN, tNext, tAsg, gName, tDrop, tCons, tNil, tTup, tLst, tTupN, tLstN, tCB, tCall, tIf, tAnd, tOr, tNot, tAndV, tOrV, tNotV, tIsN, tNotN, tApp, tExt, upT, upS, up, rEq, rNe, scal, tAug, ipI, tPart, tNoPart, tSl, tChain, wipe, tYes, tBreak, tCont, cxK, rNeD, rEqD, rIsD, rIxW, rIxE, rLenD, rSlD, rCatD, rTupD, rListW, tFld, sFld, List.map_cons, List.map_nil, List.length_cons, List.length_nil, List.replicate, List.cons_append, List.nil_append, List.append_nil, List.getElem?_cons_zero, List.getElem?_cons_succ, List.set_cons_zero, List.set_cons_succ, Nat.reduceAdd, Nat.reduceSub, Option.some.injEq, V.int.injEq, V.bl.injEq, V.str.injEq, V.ref.injEq, V.ty.injEq, List.cons.injEq, exists_eq_left, exists_eq_left', exists_eq_right, exists_and_left, and_true, true_and, and_assoc, decide_eq_true_eq, Bool.not_eq_true', decide_eq_false_iff_not, Bool.not_not, reduceCtorEq, false_and, and_false, or_false, false_or, exists_const, false_implies, implies_true, if_false, if_true, Bool.false_eq_true, eq_self, forall_eq', exists_false, decide_true, decide_false, ite_true, ite_false, not_true_eq_false, not_false_eq_true, or_true, true_or, gSub, rSetL, gTup, gCons, gNil, rIxH, rIxS, rLenH, HO.lst.injEq, HO.tup.injEq, atI_0, atI_1, atI_2, ixN_31, ixN_32, Int.reduceNeg, Int.reducePow, Int.reduceLT, Int.reduceLE, Nat.reducePow, Nat.reduceLT, Nat.reduceLeDiff, Int.reduceToNat, Int.reduceAbs, sizeLine_eq, Nat.le_refl, Nat.zero_le, Int.reduceMul, Int.reduceAdd, Int.reduceSub, exists_eq', exists_eq, tBM, tyV_str, tDKN, tDTN]
      refine ⟨_, rfl, wi, rfl, by omega, by omega, fun E hE => lc_range (n := wi) (fun i H'' => ∃ (row : List Tile) (ys : List V), H'' E = some (.lst ys) ∧ DpAll K H'' ys (row.map tD) ∧ row.length = i ∧ (∀ t ∈ row, okT t) ∧ PK p H' H'')
        ⟨[], [], upd_same, .nil, rfl, fun _ h => (by simp at h), PK.same (Same.new hE)⟩ ?_ ?_⟩
      · rintro i H'' hi2 ⟨row, ys, hEl, hyA, hyl, hyk, kk2⟩
        refine ⟨rfl, ?_⟩
        simp only [tSeq, tIfS, tTest, tB, tOp, tUn, tVar, tC, rI0, rI, rU, CMul, CDiv, CPow, L2.start, tRet, tRetN, tNext, tAsg, gName, tDrop, tCons, tNil, tTup, tLst, tTupN, tLstN, tCB, tCall, tIf, tAnd, tOr, tNot, tAndV, tOrV, tNotV, tIsN, tNotN, tApp, tExt, upT, upS, up, rEq, rNe, scal, tAug, ipI, tPart, tNoPart, tSl, tChain, wipe, tYes, tBreak, tCont, cxK, rNeD, rEqD, rIsD, rIxW, rIxE, rLenD, rSlD, rCatD, rTupD, rListW, tFld, sFld, List.map_cons, List.map_nil, List.length_cons, List.length_nil, List.replicate, List.cons_append, List.nil_append, List.append_nil, List.getElem?_cons_zero, List.getElem?_cons_succ, List.set_cons_zero, List.set_cons_succ, Nat.reduceAdd, Nat.reduceSub, Option.some.injEq, V.int.injEq, V.bl.injEq, V.str.injEq, V.ref.injEq, V.ty.injEq, List.cons.injEq, exists_eq_left, exists_eq_left', exists_eq_right, exists_and_left, and_true, true_and, and_assoc, decide_eq_true_eq, Bool.not_eq_true', decide_eq_false_iff_not, Bool.not_not, reduceCtorEq, false_and, and_false, or_false, false_or, exists_const, false_implies, implies_true, if_false, if_true, Bool.false_eq_true, eq_self, forall_eq', exists_false, decide_true, decide_false, ite_true, ite_false, not_true_eq_false, not_false_eq_true, or_true, true_or, gSub, rSetL, gTup, gCons, gNil, rIxH, rIxS, rLenH, HO.lst.injEq, HO.tup.injEq, atI_0, atI_1, atI_2, ixN_31, ixN_32, Int.reduceNeg, Int.reducePow, Int.reduceLT, Int.reduceLE, Nat.reducePow, Nat.reduceLT, Nat.reduceLeDiff, Int.reduceToNat, Int.reduceAbs, sizeLine_eq, Nat.le_refl, Nat.zero_le, Int.reduceMul, Int.reduceAdd, Int.reduceSub, exists_eq', exists_eq, tBM, tyV_str, tDKN, tDTN]
        have k3 := kk.trans kk2
        refine ⟨p, so, _, _, rfl, k3.pl hP6, soP, k3.keep _ _ soP e6, DpA.tk (k3.tk hP6) _ _ (immA_tiles _) hA6, by simp, hok6, fun t v H3 ht k4 hv => ?_⟩
        have E1 := hEl
        have Ep : E ≠ p := fun z => by
          obtain ⟨_, q2⟩ := (kk.pl hP6).isLst
          rw [z, q2] at hE; cases hE
        have hE3 := k4.keep _ _ Ep hEl
        have tk3 : TK H'' (upd H3 E (.lst (ys ++ [v]))) := (k4.tk (k3.pl hP6)).trans (TK.lst hE3)
        refine ⟨ys, hE3, ?_, row ++ [t], ys ++ [v], upd_same, ?_, by simp [hyl], ?_, (kk2.trans k4).wr (kk.pl hP6) hE⟩
        · rw [DpA.length hyA, List.length_map]; have := sizeLine_eq; omega
        · rw [List.map_append]
          exact DpA.append (DpA.tk tk3 _ _ (immA_tiles _) hyA) (DpA.one (Dp.tk (TK.lst hE3) _ _ (imm_tD t) hv))
        · intro t' ht'
          rcases List.mem_append.mp ht' with h | h
          · exact hyk _ h
          · simp only [List.mem_singleton] at h; subst h; exact ht
      · rintro H'' ⟨row, ys, hEl, hyA, hyl, hyk, kk2⟩
        refine ⟨_, immA_tiles row, .inl ⟨E, rfl, ys, hEl, hyA⟩, fun v H3 s3 hv => ?_⟩
        have hDp : D ≠ p := fun z => by
          obtain ⟨_, q2⟩ := hP6.isLst
          rw [z, q2] at hD; cases hD
        have k3 := kk2.trans (PK.same s3)
        have hD3 := k3.keep _ _ hDp hDl
        have tk3 : TK H' (upd H3 D (.lst (xs ++ [v]))) := (k3.tk (kk.pl hP6)).trans (TK.lst hD3)
        refine ⟨xs, hD3, ?_, rows ++ [row], xs ++ [v], upd_same, ?_, by simp [hrl], ?_, (kk.trans k3).wr hP6 hD⟩
        · rw [DpA.length hrA, List.length_map]; have := sizeLine_eq; omega
        · rw [List.map_append]
          exact DpA.append (DpA.tk tk3 _ _ (immA_map imm_rowD _) hrA) (DpA.one (Dp.tk (TK.lst hD3) _ _ (imm_rowD row) hv))
        · intro r hr
          rcases List.mem_append.mp hr with h | h
          · exact hrk _ h
          · simp only [List.mem_singleton] at h; subst h; exact ⟨hyl, hyk⟩
    · rintro H' ⟨rows, xs, hDl, hrA, hrl, hrk, kk⟩
      refine ⟨_, immA_map imm_rowD rows, .inl ⟨D, rfl, xs, hDl, hrA⟩, fun v H3 s3 hv => ?_⟩
      exact q rows v H3 hrl hrk ((PK.same t05).trans (kk.trans (PK.same s3))) hv
def spTurned (K : Fr) : Sp := fun vs H Q _ => ∃ (p : Addr) (x : V) (sc : List (List Tile)) (wi : Nat), vs = [.ref p, x] ∧ Pool H p ∧ Dp K H x (scrD sc) ∧ sc.length ≤ 100 ∧ wi ≤ 100 ∧ (∀ r ∈ sc, r.length = wi ∧ ∀ t ∈ r, okT t) ∧
  ∀ sc' v H', sc'.length = sc.length → (∀ r ∈ sc', r.length = wi ∧ ∀ t ∈ r, okT t) → PK p H H' → Dp K H' v (scrD sc') → Q v H'
theorem ok_turned (T : Txt K mg) : C8.Cal P w K mg base 3 "_law_turned" (spTurned K) [] := by
  have C__law_next := ok_next (P := P) (w := w) (base := base) T
  have C__law_near := ok_near (P := P) (w := w) (base := base) T
  refine cal_of T.f_law_turned .nil sc__law_turned (fun vs H Q E h => ?_) (fun f cdv A outer s H vs Q E hr h => ?_)
  · obtain ⟨a, b, c, d, rfl, _⟩ := h; rfl
  · obtain ⟨p, x, sc, wi, rfl, hP, hx, hs1, hw1, hok, q⟩ := h
    have nd := sc__law_turned.nd
    have hu := hu_of hr
    have hu0 := hu0_of hr
    have hu64 := hu64_of hr
    refine ⟨_, 
    (pss_cons (ps_set (i := 2) nd rfl (by first | exact Or.inl rfl | exact Or.inr rfl) (pe_op op_add pe_int (C8.pe_c C__law_next hr (by decide) rfl (pa_cons (pv 0) (pa_cons pe_int pa_nil)))))
    (pss_cons (ps_set (i := 3) nd rfl (by first | exact Or.inl rfl | exact Or.inr rfl) (pe_lstN pa_nil))
    (pss_cons (ps_for PassesOwn.never rfl (pi_tupK (K := K) (pv 1)) (pg_name (i := 4) nd rfl (by first | exact Or.inl rfl | exact Or.inr rfl)) 
        (pss_cons (ps_set (i := 5) nd rfl (by first | exact Or.inl rfl | exact Or.inr rfl) (pe_callTy (T := "list") (call_listD (K := K)) (by rfl) T.b_list (by decide +kernel) (pa_cons (pv 4) pa_nil)))
        (pss_cons (ps_for PassesOwn.never rfl (pi_range1 rfl T.b_range (pa_cons (pe_callB (id := "len") call_lenH (by rfl) T.b_len PySem.boot_len (pa_cons (pv 5) pa_nil)) pa_nil)) (pg_name (i := 6) nd rfl (by first | exact Or.inl rfl | exact Or.inr rfl)) 
            (pss_one (ps_if (pt_cmpR op_eq (C8.pe_c C__law_next hr (by decide) rfl (pa_cons (pv 0) (pa_cons (pv 2) pa_nil))) pe_int (nomark _)) 
                (pss_one (ps_asg (C8.pe_c C__law_near hr (by decide) rfl (pa_cons (pv 0) (pa_cons (pe_ix ix_H (pv 5) (pv 6) (fun _ _ => rfl)) pa_nil))) (pg_sub (pv 5) (pv 6) set_list))) pss_nil)))
        (pss_one (ps_expr (pe_app (pv 3) (pe_callTy (T := "tuple") (call_tupD (K := K)) (by rfl) T.b_tuple (by decide +kernel) (pa_cons (pv 5) pa_nil))))))))
    (pss_one (ps_ret (pe_callTy (T := "tuple") (call_tupD (K := K)) (by rfl) T.b_tuple (by decide +kernel) (pa_cons (pv 3) pa_nil))))))), ?_⟩
    simp only [tSeq, tIfS, tTest, tB, tOp, tUn, tVar, tC, rI0, rI, rU, CMul, CDiv, CPow, L2.start, tRet, tRetN, tNext, tAsg, gName, tDrop, tCons, tNil, tTup, tLst, tTupN, tLstN, tCB, tCall, tIf, tAnd, tOr, tNot, tAndV, tOrV, tNotV, tIsN, tNotN, tApp, tExt, upT, upS, up, rEq, rNe, scal, tAug, ipI, tPart, tNoPart, tSl, tChain, wipe, tYes, tBreak, tCont, cxK, rNeD, rEqD, rIsD, rIxW, rIxE, rLenD, rSlD, rCatD, rTupD, rListW, tFld, sFld, List.map_cons, List.map_nil, List.length_cons, List.length_nil, List.replicate, List.cons_append, List.nil_append, List.append_nil, List.getElem?_cons_zero, List.getElem?_cons_succ, List.set_cons_zero, List.set_cons_succ, Nat.reduceAdd, Nat.reduceSub, Option.some.injEq, V.int.injEq, V.bl.injEq, V.str.injEq, V.ref.injEq, V.ty.injEq, List.cons.injEq, exists_eq_left, exists_eq_left', exists_eq_right, exists_and_left, and_true, true_and, and_assoc, decide_eq_true_eq, Bool.not_eq_true', decide_eq_false_iff_not, Bool.not_not, reduceCtorEq, false_and, and_false, or_false, false_or, exists_const, false_implies, implies_true, if_false, if_true, Bool.false_eq_true, eq_self, forall_eq', exists_false, decide_true, decide_false, ite_true, ite_false, not_true_eq_false, not_false_eq_true, or_true, true_or, gSub, rSetL, gTup, gCons, gNil, rIxH, rIxS, rLenH, HO.lst.injEq, HO.tup.injEq, atI_0, atI_1, atI_2, ixN_31, ixN_32, Int.reduceNeg, Int.reducePow, Int.reduceLT, Int.reduceLE, Nat.reducePow, Nat.reduceLT, Nat.reduceLeDiff, Int.reduceToNat, Int.reduceAbs, sizeLine_eq, Nat.le_refl, Nat.zero_le, Int.reduceMul, Int.reduceAdd, Int.reduceSub, exists_eq', exists_eq, tBM, tyV_str, tDKN, tDTN]
    refine ⟨p, 8, rfl, hP, by decide, fun r0 H0 z0 z1 k0 => ⟨r0, rfl, ?_⟩⟩
    intro made H1 nm s1 e1
    have k1 : PK p H H1 := k0.trans (PK.same s1)
    have hP0 := k0.pl hP
    have nm0 : H made = none := k0.free hP nm
    have mp : made ≠ p := fun z => by
      obtain ⟨_, q2⟩ := hP.isLst
      rw [z, q2] at nm0; cases nm0
    obtain ⟨Pv, hPv⟩ : ∃ Pv : Nat → SS → Hp → Prop, Pv = fun i σ H' => ∃ (rows : List (List Tile)) (xs : List V) (v4 v5 v6 : Option V), σ = [some (.ref p), some x, some (.int (1 + r0)), some (.ref made), v4, v5, v6] ∧ H' made = some (.lst xs) ∧
        DpAll K H' xs (rows.map rowD) ∧ rows.length = i ∧ (∀ r ∈ rows, r.length = wi ∧ ∀ t ∈ r, okT t) ∧ PK p H H' ∧ TK H1 H' := ⟨_, rfl⟩
    refine ⟨_, rfl, for_D (ds := sc.map rowD) (Dp.tk (k1.tk hP) _ _ (imm_scrD sc) hx) (immA_map imm_rowD _) Pv
      (by rw [hPv]; exact ⟨[], [], none, none, none, rfl, e1, .nil, rfl, fun _ h => (by simp at h), k1, TK.refl _⟩) (fun i σ H' hp => by rw [hPv] at hp; obtain ⟨_, _, _, _, _, _, _, _, _, _, _, t⟩ := hp; exact t) ?_ ?_⟩
    · intro i v d σ H' hi hv hp
      rw [hPv] at hp
      obtain ⟨rows, xs, v4, v5, v6, rfl, hL, hA, hl, hk, kk, tk⟩ := hp
      obtain ⟨r, hr1, rfl, hlt⟩ := lst_int hi
      have hrm := hok r (List.mem_of_getElem? hr1)
      simp only [tSeq, tIfS, tTest, tB, tOp, tUn, tVar, tC, rI0, rI, rU, CMul, CDiv, CPow, L2.start, tRet, tRetN, tNext, tAsg, gName, tDrop, tCons, tNil, tTup, tLst, tTupN, tLstN, tCB, tCall, tIf, tAnd, tOr, tNot, tAndV, tOrV, tNotV, tIsN, tNotN, tApp, tExt, upT, upS, up, rEq, rNe, scal, tAug, ipI, tPart, tNoPart, tSl, tChain, wipe, tYes, tBreak, tCont, cxK, rNeD, rEqD, rIsD, rIxW, rIxE, rLenD, rSlD, rCatD, rTupD, rListW, tFld, sFld, List.map_cons, List.map_nil, List.length_cons, List.length_nil, List.replicate, List.cons_append, List.nil_append, List.append_nil, List.getElem?_cons_zero, List.getElem?_cons_succ, List.set_cons_zero, List.set_cons_succ, Nat.reduceAdd, Nat.reduceSub, Option.some.injEq, V.int.injEq, V.bl.injEq, V.str.injEq, V.ref.injEq, V.ty.injEq, List.cons.injEq, exists_eq_left, exists_eq_left', exists_eq_right, exists_and_left, and_true, true_and, and_assoc, decide_eq_true_eq, Bool.not_eq_true', decide_eq_false_iff_not, Bool.not_not, reduceCtorEq, false_and, and_false, or_false, false_or, exists_const, false_implies, implies_true, if_false, if_true, Bool.false_eq_true, eq_self, forall_eq', exists_false, decide_true, decide_false, ite_true, ite_false, not_true_eq_false, not_false_eq_true, or_true, true_or, gSub, rSetL, gTup, gCons, gNil, rIxH, rIxS, rLenH, HO.lst.injEq, HO.tup.injEq, atI_0, atI_1, atI_2, ixN_31, ixN_32, Int.reduceNeg, Int.reducePow, Int.reduceLT, Int.reduceLE, Nat.reducePow, Nat.reduceLT, Nat.reduceLeDiff, Int.reduceToNat, Int.reduceAbs, sizeLine_eq, Nat.le_refl, Nat.zero_le, Int.reduceMul, Int.reduceAdd, Int.reduceSub, exists_eq', exists_eq, tBM, tyV_str, tDKN, tDTN]
      refine ⟨_, immA_tiles r, hv, fun l ys H2 nl s2 el ha => ?_⟩
      have k2 := kk.trans (PK.same s2)
      have nl0 : H l = none := kk.free hP nl
      have lp : l ≠ p := fun z => by
        obtain ⟨_, q2⟩ := hP.isLst
        rw [z, q2] at nl0; cases nl0
      have lm : l ≠ made := fun z => by rw [z, hL] at nl; cases nl
      have hyl : ys.length = r.length := by rw [DpA.length ha, List.length_map]
      obtain ⟨Pj, hPj⟩ : ∃ Pj : Nat → SS → Hp → Prop, Pj = fun j σ H3 => ∃ (row : List Tile) (zs : List V) (v6 : Option V), σ = [some (.ref p), some x, some (.int (1 + r0)), some (.ref made), some v, some (.ref l), v6] ∧ H3 l = some (.lst zs) ∧
          DpAll K H3 zs (row.map tD) ∧ row.length = wi ∧ (∀ t ∈ row, okT t) ∧ PK p H H3 ∧ TK H2 H3 ∧ H3 made = some (.lst xs) := ⟨_, rfl⟩
      refine ⟨_, rfl, l, ys, rfl, el, _, rfl, by omega, by omega, for_range (n := ys.length) Pj (by rw [hPj]; exact ⟨r, ys, v6, rfl, el, ha, hrm.1, hrm.2, k2, TK.refl _, s2 _ _ hL⟩) ?_ ?_⟩
      · intro j σ H3 hj hp
        rw [hPj] at hp
        obtain ⟨row, zs, v6, rfl, hz, hzA, hzl, hzk, k3, t3, hm3⟩ := hp
        simp only [tSeq, tIfS, tTest, tB, tOp, tUn, tVar, tC, rI0, rI, rU, CMul, CDiv, CPow, L2.start, tRet, tRetN, tNext, tAsg, gName, tDrop, tCons, tNil, tTup, tLst, tTupN, tLstN, tCB, tCall, tIf, tAnd, tOr, tNot, tAndV, tOrV, tNotV, tIsN, tNotN, tApp, tExt, upT, upS, up, rEq, rNe, scal, tAug, ipI, tPart, tNoPart, tSl, tChain, wipe, tYes, tBreak, tCont, cxK, rNeD, rEqD, rIsD, rIxW, rIxE, rLenD, rSlD, rCatD, rTupD, rListW, tFld, sFld, List.map_cons, List.map_nil, List.length_cons, List.length_nil, List.replicate, List.cons_append, List.nil_append, List.append_nil, List.getElem?_cons_zero, List.getElem?_cons_succ, List.set_cons_zero, List.set_cons_succ, Nat.reduceAdd, Nat.reduceSub, Option.some.injEq, V.int.injEq, V.bl.injEq, V.str.injEq, V.ref.injEq, V.ty.injEq, List.cons.injEq, exists_eq_left, exists_eq_left', exists_eq_right, exists_and_left, and_true, true_and, and_assoc, decide_eq_true_eq, Bool.not_eq_true', decide_eq_false_iff_not, Bool.not_not, reduceCtorEq, false_and, and_false, or_false, false_or, exists_const, false_implies, implies_true, if_false, if_true, Bool.false_eq_true, eq_self, forall_eq', exists_false, decide_true, decide_false, ite_true, ite_false, not_true_eq_false, not_false_eq_true, or_true, true_or, gSub, rSetL, gTup, gCons, gNil, rIxH, rIxS, rLenH, HO.lst.injEq, HO.tup.injEq, atI_0, atI_1, atI_2, ixN_31, ixN_32, Int.reduceNeg, Int.reducePow, Int.reduceLT, Int.reduceLE, Nat.reducePow, Nat.reduceLT, Nat.reduceLeDiff, Int.reduceToNat, Int.reduceAbs, sizeLine_eq, Nat.le_refl, Nat.zero_le, Int.reduceMul, Int.reduceAdd, Int.reduceSub, exists_eq', exists_eq, tBM, tyV_str, tDKN, tDTN]
        refine ⟨p, _, rfl, k3.pl hP, by omega, fun r2 H4 a0 a1 k4 => ?_⟩
        have hz4 := k4.keep _ _ lp hz
        have hm4 := k4.keep _ _ mp hm3
        have t4 := k4.tk (k3.pl hP)
        have hzA4 := DpA.tk t4 _ _ (immA_tiles row) hzA
        simp only [tSeq, tIfS, tTest, tB, tOp, tUn, tVar, tC, rI0, rI, rU, CMul, CDiv, CPow, L2.start, tRet, tRetN, tNext, tAsg, gName, tDrop, tCons, tNil, tTup, tLst, tTupN, tLstN, tCB, tCall, tIf, tAnd, tOr, tNot, tAndV, tOrV, tNotV, tIsN, tNotN, tApp, tExt, upT, upS, up, rEq, rNe, scal, tAug, ipI, tPart, tNoPart, tSl, tChain, wipe, tYes, tBreak, tCont, cxK, rNeD, rEqD, rIsD, rIxW, rIxE, rLenD, rSlD, rCatD, rTupD, rListW, tFld, sFld, List.map_cons, List.map_nil, List.length_cons, List.length_nil, List.replicate, List.cons_append, List.nil_append, List.append_nil, List.getElem?_cons_zero, List.getElem?_cons_succ, List.set_cons_zero, List.set_cons_succ, Nat.reduceAdd, Nat.reduceSub, Option.some.injEq, V.int.injEq, V.bl.injEq, V.str.injEq, V.ref.injEq, V.ty.injEq, List.cons.injEq, exists_eq_left, exists_eq_left', exists_eq_right, exists_and_left, and_true, true_and, and_assoc, decide_eq_true_eq, Bool.not_eq_true', decide_eq_false_iff_not, Bool.not_not, reduceCtorEq, false_and, and_false, or_false, false_or, exists_const, false_implies, implies_true, if_false, if_true, Bool.false_eq_true, eq_self, forall_eq', exists_false, decide_true, decide_false, ite_true, ite_false, not_true_eq_false, not_false_eq_true, or_true, true_or, gSub, rSetL, gTup, gCons, gNil, rIxH, rIxS, rLenH, HO.lst.injEq, HO.tup.injEq, atI_0, atI_1, atI_2, ixN_31, ixN_32, Int.reduceNeg, Int.reducePow, Int.reduceLT, Int.reduceLE, Nat.reducePow, Nat.reduceLT, Nat.reduceLeDiff, Int.reduceToNat, Int.reduceAbs, sizeLine_eq, Nat.le_refl, Nat.zero_le, Int.reduceMul, Int.reduceAdd, Int.reduceSub, exists_eq', exists_eq, tBM, tyV_str, tDKN, tDTN]
        refine ite2 (fun _ => ?_) (fun _ => ?_)
        · have ej : (0 : Int) + (j : Int) = ((j : Nat) : Int) := by omega
          have hjr : j < row.length := by omega
          obtain ⟨v1, hv1, hd1⟩ := DpA.at (i := j) (d := tD row[j]) hzA4 (by rw [List.getElem?_map, List.getElem?_eq_getElem hjr]; rfl)
          refine ⟨zs, hz4, v1, (congrArg (atI _) ej).trans (atI_nat hv1), ?_⟩
          refine ⟨p, v1, row[j], rfl, k4.pl (k3.pl hP), hd1, hzk _ (List.getElem_mem hjr), fun t' v2 H5 ht' k5 hv2 => ?_⟩
          have hz5 := k5.keep _ _ lp hz4
          have hm5 := k5.keep _ _ mp hm4
          have t5 := k5.tk (k4.pl (k3.pl hP))
          refine ⟨zs, hz5, j, ?_, ?_⟩
          · rw [ej]; exact ixN_nat (by rw [DpA.length hzA4, List.length_map]; exact hjr)
          rw [hPj]
          refine ⟨row.set j t', zs.set j v2, _, rfl, upd_same, ?_, by rw [List.length_set]; exact hzl, ?_, (k3.trans (k4.trans k5)).wr hP nl0, (t3.trans t4).trans (t5.trans (TK.lst hz5)), by rw [upd_ne (Ne.symm lm)]; exact hm5⟩
          · rw [List.map_set]
            exact DpA.set (Dp.tk (TK.lst hz5) _ _ (imm_tD _) hv2) _ (DpA.tk (t5.trans (TK.lst hz5)) _ _ (immA_tiles row) hzA4)
          · intro t ht
            rcases mem_set ht with h | h
            · rw [h]; exact ht'
            · exact hzk _ h
        · rw [hPj]
          exact ⟨row, zs, _, rfl, hz4, hzA4, hzl, hzk, k3.trans k4, t3.trans t4, hm4⟩
      · intro σ H3 hp
        rw [hPj] at hp
        obtain ⟨row, zs, v6, rfl, hz, hzA, hzl, hzk, k3, t3, hm3⟩ := hp
        simp only [tSeq, tIfS, tTest, tB, tOp, tUn, tVar, tC, rI0, rI, rU, CMul, CDiv, CPow, L2.start, tRet, tRetN, tNext, tAsg, gName, tDrop, tCons, tNil, tTup, tLst, tTupN, tLstN, tCB, tCall, tIf, tAnd, tOr, tNot, tAndV, tOrV, tNotV, tIsN, tNotN, tApp, tExt, upT, upS, up, rEq, rNe, scal, tAug, ipI, tPart, tNoPart, tSl, tChain, wipe, tYes, tBreak, tCont, cxK, rNeD, rEqD, rIsD, rIxW, rIxE, rLenD, rSlD, rCatD, rTupD, rListW, tFld, sFld, List.map_cons, List.map_nil, List.length_cons, List.length_nil, List.replicate, List.cons_append, List.nil_append, List.append_nil, List.getElem?_cons_zero, List.getElem?_cons_succ, List.set_cons_zero, List.set_cons_succ, Nat.reduceAdd, Nat.reduceSub, Option.some.injEq, V.int.injEq, V.bl.injEq, V.str.injEq, V.ref.injEq, V.ty.injEq, List.cons.injEq, exists_eq_left, exists_eq_left', exists_eq_right, exists_and_left, and_true, true_and, and_assoc, decide_eq_true_eq, Bool.not_eq_true', decide_eq_false_iff_not, Bool.not_not, reduceCtorEq, false_and, and_false, or_false, false_or, exists_const, false_implies, implies_true, if_false, if_true, Bool.false_eq_true, eq_self, forall_eq', exists_false, decide_true, decide_false, ite_true, ite_false, not_true_eq_false, not_false_eq_true, or_true, true_or, gSub, rSetL, gTup, gCons, gNil, rIxH, rIxS, rLenH, HO.lst.injEq, HO.tup.injEq, atI_0, atI_1, atI_2, ixN_31, ixN_32, Int.reduceNeg, Int.reducePow, Int.reduceLT, Int.reduceLE, Nat.reducePow, Nat.reduceLT, Nat.reduceLeDiff, Int.reduceToNat, Int.reduceAbs, sizeLine_eq, Nat.le_refl, Nat.zero_le, Int.reduceMul, Int.reduceAdd, Int.reduceSub, exists_eq', exists_eq, tBM, tyV_str, tDKN, tDTN]
        refine ⟨⟨_, hm3⟩, _, immA_tiles row, .inl ⟨zs, hz, hzA⟩, fun v7 H4 s4 hv7 => ⟨xs, s4 _ _ hm3, ?_, ?_⟩⟩
        · rw [DpA.length hA, List.length_map]; omega
        rw [hPv]
        have hm4 := s4 _ _ hm3
        have tt : TK H' (upd H4 made (.lst (xs ++ [v7]))) := ((TK.same s2).trans t3).trans ((TK.same s4).trans (TK.lst hm4))
        refine ⟨rows ++ [row], xs ++ [v7], _, _, _, rfl, upd_same, ?_, by simp [hl], ?_, (k3.trans (PK.same s4)).wr hP nm0, tk.trans tt⟩
        · rw [List.map_append]
          exact DpA.append (DpA.tk tt _ _ (immA_map imm_rowD _) hA) (DpA.one (Dp.tk (TK.lst hm4) _ _ (imm_rowD row) hv7))
        · intro r' hr'
          rcases List.mem_append.mp hr' with h | h
          · exact hk _ h
          · simp only [List.mem_singleton] at h; subst h; exact ⟨hzl, hzk⟩
    · intro σ H' hp
      rw [hPv] at hp
      obtain ⟨rows, xs, v4, v5, v6, rfl, hL, hA, hl, hk, kk, tk⟩ := hp
      simp only [tSeq, tIfS, tTest, tB, tOp, tUn, tVar, tC, rI0, rI, rU, CMul, CDiv, CPow, L2.start, tRet, tRetN, tNext, tAsg, gName, tDrop, tCons, tNil, tTup, tLst, tTupN, tLstN, tCB, tCall, tIf, tAnd, tOr, tNot, tAndV, tOrV, tNotV, tIsN, tNotN, tApp, tExt, upT, upS, up, rEq, rNe, scal, tAug, ipI, tPart, tNoPart, tSl, tChain, wipe, tYes, tBreak, tCont, cxK, rNeD, rEqD, rIsD, rIxW, rIxE, rLenD, rSlD, rCatD, rTupD, rListW, tFld, sFld, List.map_cons, List.map_nil, List.length_cons, List.length_nil, List.replicate, List.cons_append, List.nil_append, List.append_nil, List.getElem?_cons_zero, List.getElem?_cons_succ, List.set_cons_zero, List.set_cons_succ, Nat.reduceAdd, Nat.reduceSub, Option.some.injEq, V.int.injEq, V.bl.injEq, V.str.injEq, V.ref.injEq, V.ty.injEq, List.cons.injEq, exists_eq_left, exists_eq_left', exists_eq_right, exists_and_left, and_true, true_and, and_assoc, decide_eq_true_eq, Bool.not_eq_true', decide_eq_false_iff_not, Bool.not_not, reduceCtorEq, false_and, and_false, or_false, false_or, exists_const, false_implies, implies_true, if_false, if_true, Bool.false_eq_true, eq_self, forall_eq', exists_false, decide_true, decide_false, ite_true, ite_false, not_true_eq_false, not_false_eq_true, or_true, true_or, gSub, rSetL, gTup, gCons, gNil, rIxH, rIxS, rLenH, HO.lst.injEq, HO.tup.injEq, atI_0, atI_1, atI_2, ixN_31, ixN_32, Int.reduceNeg, Int.reducePow, Int.reduceLT, Int.reduceLE, Nat.reducePow, Nat.reduceLT, Nat.reduceLeDiff, Int.reduceToNat, Int.reduceAbs, sizeLine_eq, Nat.le_refl, Nat.zero_le, Int.reduceMul, Int.reduceAdd, Int.reduceSub, exists_eq', exists_eq, tBM, tyV_str, tDKN, tDTN]
      refine ⟨_, immA_map imm_rowD rows, .inl ⟨xs, hL, hA⟩, fun v H3 s3 hv => ?_⟩
      rw [List.length_map] at hl
      exact q rows v H3 hl hk (kk.trans (PK.same s3)) hv
end
end K63
namespace K63
open PySem PySem.Spec PyProof.Rows L2 Ds
-- imports A63 B63a
abbrev spaints : Stmt := top 2
theorem sc_paints : FnScope ["old", "new", "runs", "row", "tiles"] ["old", "new"] (C8.fnScope spaints) := C8.fnScope_by (by decide +kernel)
abbrev s_law_due : Stmt := top 60
theorem sc__law_due : FnScope ["one", "other", "due", "j", "begin", "k"] ["one", "other"] (C8.fnScope s_law_due) := C8.fnScope_by (by decide +kernel)
theorem app_snoc {α β : Type} {A : List β} {S : List α} {x : α} {c : α → β} : A ++ (S ++ [x]).map c = (A ++ S.map c) ++ [c x] := by simp
theorem seg_len (d : Nat → Bool) (n : Nat) : ∀ k, (seg d n k).1.length ≤ k
  | 0 => Nat.le_refl _
  | k + 1 => by
    have ih := seg_len d n k
    show (if k < n ∧ d k = true then seg d n k else _).1.length ≤ k + 1
    split
    · omega
    · show (if (seg d n k).2 < k then _ else _ : List (Nat × Nat)).length ≤ _
      split
      · rw [List.length_append, List.length_singleton]; omega
      · omega
theorem runsRow_len (j : Nat) (old new : List Tile) : (runsRow j old new).length ≤ new.length + 1 := by
  unfold runsRow
  rw [List.length_map]
  exact seg_len _ _ _
/-- the runs of the rows below k -/
def dueUp (old new : List (List Tile)) (k : Nat) : List Run := (List.range k).flatMap fun j => runsRow j (old.getD j []) (new.getD j [])
def dueL (old new : List (List Tile)) : List Run := dueUp old new new.length
theorem dueUp_succ (old new : List (List Tile)) (k : Nat) : dueUp old new (k + 1) = dueUp old new k ++ runsRow k (old.getD k []) (new.getD k []) := by
  unfold dueUp
  rw [List.range_succ, List.flatMap_append]
  simp
theorem dueUp_len {old new : List (List Tile)} (h : ∀ r ∈ new, r.length ≤ 100) : ∀ k, (dueUp old new k).length ≤ 101 * k
  | 0 => by simp [dueUp]
  | k + 1 => by
    rw [dueUp_succ, List.length_append]
    have h1 := dueUp_len (old := old) h k
    have h2 := runsRow_len k (old.getD k []) (new.getD k [])
    have h3 : (new.getD k []).length ≤ 100 := by
      by_cases e : k < new.length
      · rw [List.getD_eq_getElem?_getD, List.getElem?_eq_getElem e]
        exact h _ (List.getElem_mem e)
      · rw [List.getD_eq_getElem?_getD, List.getElem?_eq_none (by omega)]
        simp
    omega
/-- two screens of one size -/
structure Twin (old new : List (List Tile)) : Prop where
  len : old.length = new.length
  high : new.length ≤ 100
  row : ∀ (j : Nat) r s, old[j]? = some r → new[j]? = some s → r.length = s.length
  wide : ∀ r ∈ new, r.length ≤ 100
  ok1 : ∀ r ∈ old, ∀ t ∈ r, okT t
  ok2 : ∀ r ∈ new, ∀ t ∈ r, okT t
section
variable {P : Program} {w : World} {K : Fr} {mg : Str → Option Value} {base : Heap}
def spPaints (K : Fr) : Sp := fun vs H Q _ => ∃ (o n : V) (old new : List (List Tile)), vs = [o, n] ∧ Dp K H o (scrD old) ∧ Dp K H n (scrD new) ∧ Twin old new ∧
  ∀ v H', Same H H' → Dp K H' v (.tuple ((dueL old new).map runD)) → Q v H'
theorem pr_paints (T : Txt K mg) : Prom P w K mg base 2 "paints" spaints ["old", "new"] (spPaints K) := by
  have C__runs_in := ok_runs (P := P) (w := w) (base := base) T
  refine prom_of sc_paints (fun vs H Q E h => ?_) (fun f cdv A outer s H vs Q E hr h => ?_)
  · obtain ⟨a, b, c, d, rfl, _⟩ := h; rfl
  · obtain ⟨o, n, old, new, rfl, ho, hn, tw, q⟩ := h
    have nd := sc_paints.nd
    have hu := hu_of hr
    have hu0 := hu0_of hr
    have hu64 := hu64_of hr
    refine ⟨_, 
    (pss_cons (ps_set (i := 2) nd rfl (by first | exact Or.inl rfl | exact Or.inr rfl) (pe_lstN pa_nil))
    (pss_cons (ps_for PassesOwn.never rfl (pi_enumT (K := K) (by rfl) T.b_enumerate (pa_cons (pv 1) pa_nil)) (pg_tupK (K := K) (n := 2) rfl (pgs_cons (pg_name (i := 3) nd rfl (by first | exact Or.inl rfl | exact Or.inr rfl)) (pgs_cons (pg_name (i := 4) nd rfl (by first | exact Or.inl rfl | exact Or.inr rfl)) pgs_nil))) 
        (pss_one (ps_expr (pe_ext (pv 2) (C8.pe_c C__runs_in hr (by decide) rfl (pa_cons (pv 3) (pa_cons (pe_ix (ix_D (K := K)) (pv 0) (pv 3) (fun _ _ => rfl)) (pa_cons (pv 4) pa_nil))))))))
    (pss_one (ps_ret (pe_callTy (T := "tuple") (call_tupD (K := K)) (by rfl) T.b_tuple (by decide +kernel) (pa_cons (pv 2) pa_nil)))))), ?_⟩
    simp only [tSeq, tIfS, tTest, tB, tOp, tUn, tVar, tC, rI0, rI, rU, CMul, CDiv, CPow, L2.start, tRet, tRetN, tNext, tAsg, gName, tDrop, tCons, tNil, tTup, tLst, tTupN, tLstN, tCB, tCall, tIf, tAnd, tOr, tNot, tAndV, tOrV, tNotV, tIsN, tNotN, tApp, tExt, upT, upS, up, rEq, rNe, scal, tAug, ipI, tPart, tNoPart, tSl, tChain, wipe, tYes, tBreak, tCont, cxK, rNeD, rEqD, rIsD, rIxW, rIxE, rLenD, rSlD, rCatD, rTupD, rListW, tFld, sFld, List.map_cons, List.map_nil, List.length_cons, List.length_nil, List.replicate, List.cons_append, List.nil_append, List.append_nil, List.getElem?_cons_zero, List.getElem?_cons_succ, List.set_cons_zero, List.set_cons_succ, Nat.reduceAdd, Nat.reduceSub, Option.some.injEq, V.int.injEq, V.bl.injEq, V.str.injEq, V.ref.injEq, V.ty.injEq, List.cons.injEq, exists_eq_left, exists_eq_left', exists_eq_right, exists_and_left, and_true, true_and, and_assoc, decide_eq_true_eq, Bool.not_eq_true', decide_eq_false_iff_not, Bool.not_not, reduceCtorEq, false_and, and_false, or_false, false_or, exists_const, false_implies, implies_true, if_false, if_true, Bool.false_eq_true, eq_self, forall_eq', exists_false, decide_true, decide_false, ite_true, ite_false, not_true_eq_false, not_false_eq_true, or_true, true_or, gSub, rSetL, gTup, gCons, gNil, rIxH, rIxS, rLenH, HO.lst.injEq, HO.tup.injEq, atI_0, atI_1, atI_2, ixN_31, ixN_32, Int.reduceNeg, Int.reducePow, Int.reduceLT, Int.reduceLE, Nat.reducePow, Nat.reduceLT, Nat.reduceLeDiff, Int.reduceToNat, Int.reduceAbs, sizeLine_eq, Nat.le_refl, Nat.zero_le, Int.reduceMul, Int.reduceAdd, Int.reduceSub, exists_eq', exists_eq, tBM, tyV_str, tDKN, tDTN]
    intro p H1 np s1 e1
    obtain ⟨Pv, hPv⟩ : ∃ Pv : Nat → SS → Hp → Prop, Pv = fun i σ H' => ∃ (xs : List V) (v3 v4 : Option V), σ = [some o, some n, some (.ref p), v3, v4] ∧ H' p = some (.lst xs) ∧ DpAll K H' xs ((dueUp old new i).map runD) ∧ Same H H' ∧ TK H1 H' := ⟨_, rfl⟩
    refine ⟨_, rfl, for_enumD (ds := new.map rowD) (Dp.same s1 _ _ hn) (immA_map imm_rowD _) Pv (by rw [hPv]; exact ⟨[], none, none, rfl, e1, .nil, s1, TK.refl _⟩) (fun i σ H' hp => by rw [hPv] at hp; obtain ⟨_, _, _, _, _, _, _, t⟩ := hp; exact t) ?_ ?_⟩
    · intro i v d σ H' H2 T' hi hv hp nT s2 eT
      rw [hPv] at hp
      obtain ⟨xs, v3, v4, rfl, hL, hA, sm, tk⟩ := hp
      obtain ⟨r, hr1, rfl, hlt⟩ := lst_int hi
      simp only [tSeq, tIfS, tTest, tB, tOp, tUn, tVar, tC, rI0, rI, rU, CMul, CDiv, CPow, L2.start, tRet, tRetN, tNext, tAsg, gName, tDrop, tCons, tNil, tTup, tLst, tTupN, tLstN, tCB, tCall, tIf, tAnd, tOr, tNot, tAndV, tOrV, tNotV, tIsN, tNotN, tApp, tExt, upT, upS, up, rEq, rNe, scal, tAug, ipI, tPart, tNoPart, tSl, tChain, wipe, tYes, tBreak, tCont, cxK, rNeD, rEqD, rIsD, rIxW, rIxE, rLenD, rSlD, rCatD, rTupD, rListW, tFld, sFld, List.map_cons, List.map_nil, List.length_cons, List.length_nil, List.replicate, List.cons_append, List.nil_append, List.append_nil, List.getElem?_cons_zero, List.getElem?_cons_succ, List.set_cons_zero, List.set_cons_succ, Nat.reduceAdd, Nat.reduceSub, Option.some.injEq, V.int.injEq, V.bl.injEq, V.str.injEq, V.ref.injEq, V.ty.injEq, List.cons.injEq, exists_eq_left, exists_eq_left', exists_eq_right, exists_and_left, and_true, true_and, and_assoc, decide_eq_true_eq, Bool.not_eq_true', decide_eq_false_iff_not, Bool.not_not, reduceCtorEq, false_and, and_false, or_false, false_or, exists_const, false_implies, implies_true, if_false, if_true, Bool.false_eq_true, eq_self, forall_eq', exists_false, decide_true, decide_false, ite_true, ite_false, not_true_eq_false, not_false_eq_true, or_true, true_or, gSub, rSetL, gTup, gCons, gNil, rIxH, rIxS, rLenH, HO.lst.injEq, HO.tup.injEq, atI_0, atI_1, atI_2, ixN_31, ixN_32, Int.reduceNeg, Int.reducePow, Int.reduceLT, Int.reduceLE, Nat.reducePow, Nat.reduceLT, Nat.reduceLeDiff, Int.reduceToNat, Int.reduceAbs, sizeLine_eq, Nat.le_refl, Nat.zero_le, Int.reduceMul, Int.reduceAdd, Int.reduceSub, exists_eq', exists_eq, tBM, tyV_str, tDKN, tDTN]
      have hL2 := s2 _ _ hL
      have hio : i < old.length := by rw [tw.len]; exact hlt
      have hg1 : old[i]? = some old[i] := List.getElem?_eq_getElem hio
      have sm2 := Same.trans sm s2
      refine ⟨_, SqT.of eT, rfl, _, _, rfl, _, _, rfl, rfl, ⟨xs, hL2⟩, _, Dp.same sm2 _ _ ho, _, rfl, rowD old[i], atI_nat (by rw [List.getElem?_map, hg1]; rfl), fun v2 hv2 => ?_⟩
      refine ⟨i, v2, v, old[i], r, rfl, hv2, hv, tw.row i _ _ hg1 hr1, Nat.le_trans (tw.wide _ (List.mem_of_getElem? hr1)) (by decide), tw.ok1 _ (List.getElem_mem hio), tw.ok2 _ (List.mem_of_getElem? hr1), fun H3 c zs s3 nc ec hc => ⟨c, rfl, xs, s3 _ _ hL2, zs, ec, ?_, ?_⟩⟩
      · rw [DpA.length hA, DpA.length hc, List.length_map, List.length_map]
        have h1 := dueUp_len (old := old) tw.wide i
        have h2 := runsRow_len i old[i] r
        have h3 := tw.wide _ (List.mem_of_getElem? hr1)
        have h4 := tw.high
        omega
      · rw [hPv]
        have hL3 := s3 _ _ hL2
        have tt : TK H' (upd H3 p (.lst (xs ++ zs))) := (TK.same s2).trans ((TK.same s3).trans (TK.lst hL3))
        refine ⟨xs ++ zs, _, _, rfl, upd_same, ?_, Same.wr (Same.trans sm2 s3) np, tk.trans tt⟩
        rw [dueUp_succ, List.map_append]
        have eg1 : old.getD i [] = old[i] := by rw [List.getD_eq_getElem?_getD, hg1]; rfl
        have eg2 : new.getD i [] = r := by rw [List.getD_eq_getElem?_getD, hr1]; rfl
        rw [eg1, eg2]
        exact DpA.append (DpA.tk tt _ _ (immA_map imm_runD _) hA) (DpA.tk (TK.lst hL3) _ _ (immA_map imm_runD _) hc)
    · intro σ H' hp
      rw [hPv] at hp
      obtain ⟨xs, v3, v4, rfl, hL, hA, sm, tk⟩ := hp
      simp only [tSeq, tIfS, tTest, tB, tOp, tUn, tVar, tC, rI0, rI, rU, CMul, CDiv, CPow, L2.start, tRet, tRetN, tNext, tAsg, gName, tDrop, tCons, tNil, tTup, tLst, tTupN, tLstN, tCB, tCall, tIf, tAnd, tOr, tNot, tAndV, tOrV, tNotV, tIsN, tNotN, tApp, tExt, upT, upS, up, rEq, rNe, scal, tAug, ipI, tPart, tNoPart, tSl, tChain, wipe, tYes, tBreak, tCont, cxK, rNeD, rEqD, rIsD, rIxW, rIxE, rLenD, rSlD, rCatD, rTupD, rListW, tFld, sFld, List.map_cons, List.map_nil, List.length_cons, List.length_nil, List.replicate, List.cons_append, List.nil_append, List.append_nil, List.getElem?_cons_zero, List.getElem?_cons_succ, List.set_cons_zero, List.set_cons_succ, Nat.reduceAdd, Nat.reduceSub, Option.some.injEq, V.int.injEq, V.bl.injEq, V.str.injEq, V.ref.injEq, V.ty.injEq, List.cons.injEq, exists_eq_left, exists_eq_left', exists_eq_right, exists_and_left, and_true, true_and, and_assoc, decide_eq_true_eq, Bool.not_eq_true', decide_eq_false_iff_not, Bool.not_not, reduceCtorEq, false_and, and_false, or_false, false_or, exists_const, false_implies, implies_true, if_false, if_true, Bool.false_eq_true, eq_self, forall_eq', exists_false, decide_true, decide_false, ite_true, ite_false, not_true_eq_false, not_false_eq_true, or_true, true_or, gSub, rSetL, gTup, gCons, gNil, rIxH, rIxS, rLenH, HO.lst.injEq, HO.tup.injEq, atI_0, atI_1, atI_2, ixN_31, ixN_32, Int.reduceNeg, Int.reducePow, Int.reduceLT, Int.reduceLE, Nat.reducePow, Nat.reduceLT, Nat.reduceLeDiff, Int.reduceToNat, Int.reduceAbs, sizeLine_eq, Nat.le_refl, Nat.zero_le, Int.reduceMul, Int.reduceAdd, Int.reduceSub, exists_eq', exists_eq, tBM, tyV_str, tDKN, tDTN]
      rw [List.length_map] at hA
      exact ⟨_, immA_map imm_runD _, .inl ⟨xs, hL, hA⟩, fun v H3 s3 hv => q v H3 (Same.trans sm s3) hv⟩
theorem ok_paints (T : Txt K mg) : C8.Cal P w K mg base 2 "paints" (spPaints K) [] := (pr_paints T).cal T.f_paints .nil
theorem ok_due (T : Txt K mg) : C8.Cal P w K mg base 1 "_law_due" (spPaints K) [] := by
  refine cal_of T.f_law_due .nil sc__law_due (fun vs H Q E h => ?_) (fun f cdv A outer s H vs Q E hr h => ?_)
  · obtain ⟨a, b, c, d, rfl, _⟩ := h; rfl
  · obtain ⟨o, n, old, new, rfl, ho, hn, tw, q⟩ := h
    have nd := sc__law_due.nd
    have hu := hu_of hr
    have hu0 := hu0_of hr
    have hu64 := hu64_of hr
    refine ⟨_, 
    (pss_cons (ps_set (i := 2) nd rfl (by first | exact Or.inl rfl | exact Or.inr rfl) (pe_lstN pa_nil))
    (pss_cons (ps_for PassesOwn.never rfl (pi_range1 rfl T.b_range (pa_cons (pe_callB (id := "len") (call_lenD' (K := K)) (by rfl) T.b_len PySem.boot_len (pa_cons (pv 0) pa_nil)) pa_nil)) (pg_name (i := 3) nd rfl (by first | exact Or.inl rfl | exact Or.inr rfl)) 
        (pss_cons (ps_set (i := 4) nd rfl (by first | exact Or.inl rfl | exact Or.inr rfl) pe_int)
        (pss_one (ps_for PassesOwn.never rfl (pi_range1 rfl T.b_range (pa_cons (pe_op op_add (pe_callB (id := "len") (call_lenD' (K := K)) (by rfl) T.b_len PySem.boot_len (pa_cons (pe_ix (ix_D (K := K)) (pv 0) (pv 3) (fun _ _ => rfl)) pa_nil)) pe_int) pa_nil)) (pg_name (i := 5) nd rfl (by first | exact Or.inl rfl | exact Or.inr rfl)) 
            (pss_one (ps_if (PT.up (PW.pt (pw_or (pt_cmpR op_eq (pv 5) (pe_callB (id := "len") (call_lenD' (K := K)) (by rfl) T.b_len PySem.boot_len (pa_cons (pe_ix (ix_D (K := K)) (pv 0) (pv 3) (fun _ _ => rfl)) pa_nil)) (nomark _)) (pw_or1 (pt_cmpR (op_eqW (K := K) hu64) (pe_ix (ix_D (K := K)) (pe_ix (ix_D (K := K)) (pv 0) (pv 3) (fun _ _ => rfl)) (pv 5) (fun _ _ => rfl)) (pe_ix (ix_D (K := K)) (pe_ix (ix_D (K := K)) (pv 1) (pv 3) (fun _ _ => rfl)) (pv 5) (fun _ _ => rfl)) (nomark _)))))) 
                (pss_cons (ps_if (pt_cmpR op_lt (pv 4) (pv 5) (nomark _)) 
                    (pss_one (ps_expr (pe_app (pv 2) (pe_tupN (pa_cons (pv 3) (pa_cons (pv 4) (pa_cons (pe_slice (sl_D (K := K)) (pe_ix (ix_D (K := K)) (pv 1) (pv 3) (fun _ _ => rfl)) (po_some (pv 4)) (po_some (pv 5))) pa_nil))))))) pss_nil)
                (pss_one (ps_set (i := 4) nd rfl (by first | exact Or.inl rfl | exact Or.inr rfl) (pe_op op_add (pv 5) pe_int)))) pss_nil))))))
    (pss_one (ps_ret (pe_callTy (T := "tuple") (call_tupD (K := K)) (by rfl) T.b_tuple (by decide +kernel) (pa_cons (pv 2) pa_nil)))))), ?_⟩
    simp only [tSeq, tIfS, tTest, tB, tOp, tUn, tVar, tC, rI0, rI, rU, CMul, CDiv, CPow, L2.start, tRet, tRetN, tNext, tAsg, gName, tDrop, tCons, tNil, tTup, tLst, tTupN, tLstN, tCB, tCall, tIf, tAnd, tOr, tNot, tAndV, tOrV, tNotV, tIsN, tNotN, tApp, tExt, upT, upS, up, rEq, rNe, scal, tAug, ipI, tPart, tNoPart, tSl, tChain, wipe, tYes, tBreak, tCont, cxK, rNeD, rEqD, rIsD, rIxW, rIxE, rLenD, rSlD, rCatD, rTupD, rListW, tFld, sFld, List.map_cons, List.map_nil, List.length_cons, List.length_nil, List.replicate, List.cons_append, List.nil_append, List.append_nil, List.getElem?_cons_zero, List.getElem?_cons_succ, List.set_cons_zero, List.set_cons_succ, Nat.reduceAdd, Nat.reduceSub, Option.some.injEq, V.int.injEq, V.bl.injEq, V.str.injEq, V.ref.injEq, V.ty.injEq, List.cons.injEq, exists_eq_left, exists_eq_left', exists_eq_right, exists_and_left, and_true, true_and, and_assoc, decide_eq_true_eq, Bool.not_eq_true', decide_eq_false_iff_not, Bool.not_not, reduceCtorEq, false_and, and_false, or_false, false_or, exists_const, false_implies, implies_true, if_false, if_true, Bool.false_eq_true, eq_self, forall_eq', exists_false, decide_true, decide_false, ite_true, ite_false, not_true_eq_false, not_false_eq_true, or_true, true_or, gSub, rSetL, gTup, gCons, gNil, rIxH, rIxS, rLenH, HO.lst.injEq, HO.tup.injEq, atI_0, atI_1, atI_2, ixN_31, ixN_32, Int.reduceNeg, Int.reducePow, Int.reduceLT, Int.reduceLE, Nat.reducePow, Nat.reduceLT, Nat.reduceLeDiff, Int.reduceToNat, Int.reduceAbs, sizeLine_eq, Nat.le_refl, Nat.zero_le, Int.reduceMul, Int.reduceAdd, Int.reduceSub, exists_eq', exists_eq, tBM, tyV_str, tDKN, tDTN, tFor_eq, tLc_eq, iRng1, iRng2, iTup, iList, iEnumT_eq]
    intro p H1 np s1 e1
    have hh := tw.high
    have hlo : (old.map rowD).length = new.length := by rw [List.length_map, tw.len]
    refine ⟨_, .inl (Dp.same s1 _ _ ho), ?_⟩
    rw [hlo]
    obtain ⟨Pv, hPv⟩ : ∃ Pv : Nat → SS → Hp → Prop, Pv = fun i σ H' => ∃ (xs : List V) (v3 v4 v5 : Option V), σ = [some o, some n, some (.ref p), v3, v4, v5] ∧ H' p = some (.lst xs) ∧ DpAll K H' xs ((dueUp old new i).map runD) ∧ Same H H' := ⟨_, rfl⟩
    refine ⟨by omega, by omega, loop_range (n := new.length) (by omega) Pv (by rw [hPv]; exact ⟨[], none, none, none, rfl, e1, .nil, s1⟩) ?_ ?_⟩
    · intro j σ H' hjn hp
      rw [hPv] at hp
      obtain ⟨xs, v3, v4, v5, rfl, hL, hA, sm⟩ := hp
      have hj : j < old.length := by rw [tw.len]; exact hjn
      have hg1 : old[j]? = some old[j] := List.getElem?_eq_getElem hj
      have hg2 : new[j]? = some new[j] := List.getElem?_eq_getElem hjn
      have ej : (0 : Int) + (j : Int) = ((j : Nat) : Int) := by omega
      have at1 : atI (old.map rowD) (j : Int) = some (rowD old[j]) := atI_nat (by rw [List.getElem?_map, hg1]; rfl)
      have at2 : atI (new.map rowD) (j : Int) = some (rowD new[j]) := atI_nat (by rw [List.getElem?_map, hg2]; rfl)
      have hlr : old[j].length = new[j].length := tw.row j _ _ hg1 hg2
      have hwr := tw.wide _ (List.getElem_mem hjn)
      have ok1 := tw.ok1 _ (List.getElem_mem hj)
      have ok2 := tw.ok2 _ (List.getElem_mem hjn)
      rw [ej]
      generalize hr1 : old[j] = r1 at *
      generalize hr2 : new[j] = r2 at *
      obtain ⟨Pk, hPk⟩ : ∃ Pk : Nat → SS → Hp → Prop, Pk = fun k σ H2 => ∃ (ys : List V) (v5 : Option V), σ = [some o, some n, some (.ref p), some (.int j), some (.int ((seg (diff r1 r2) r2.length k).2 : Nat)), v5] ∧ H2 p = some (.lst ys) ∧
          DpAll K H2 ys ((dueUp old new j ++ (seg (diff r1 r2) r2.length k).1.map (cutRun j r2)).map runD) ∧ Same H H2 := ⟨_, rfl⟩
      simp only [tSeq, tIfS, tTest, tB, tOp, tUn, tVar, tC, rI0, rI, rU, CMul, CDiv, CPow, L2.start, tRet, tRetN, tNext, tAsg, gName, tDrop, tCons, tNil, tTup, tLst, tTupN, tLstN, tCB, tCall, tIf, tAnd, tOr, tNot, tAndV, tOrV, tNotV, tIsN, tNotN, tApp, tExt, upT, upS, up, rEq, rNe, scal, tAug, ipI, tPart, tNoPart, tSl, tChain, wipe, tYes, tBreak, tCont, cxK, rNeD, rEqD, rIsD, rIxW, rIxE, rLenD, rSlD, rCatD, rTupD, rListW, tFld, sFld, List.map_cons, List.map_nil, List.length_cons, List.length_nil, List.replicate, List.cons_append, List.nil_append, List.append_nil, List.getElem?_cons_zero, List.getElem?_cons_succ, List.set_cons_zero, List.set_cons_succ, Nat.reduceAdd, Nat.reduceSub, Option.some.injEq, V.int.injEq, V.bl.injEq, V.str.injEq, V.ref.injEq, V.ty.injEq, List.cons.injEq, exists_eq_left, exists_eq_left', exists_eq_right, exists_and_left, and_true, true_and, and_assoc, decide_eq_true_eq, Bool.not_eq_true', decide_eq_false_iff_not, Bool.not_not, reduceCtorEq, false_and, and_false, or_false, false_or, exists_const, false_implies, implies_true, if_false, if_true, Bool.false_eq_true, eq_self, forall_eq', exists_false, decide_true, decide_false, ite_true, ite_false, not_true_eq_false, not_false_eq_true, or_true, true_or, gSub, rSetL, gTup, gCons, gNil, rIxH, rIxS, rLenH, HO.lst.injEq, HO.tup.injEq, atI_0, atI_1, atI_2, ixN_31, ixN_32, Int.reduceNeg, Int.reducePow, Int.reduceLT, Int.reduceLE, Nat.reducePow, Nat.reduceLT, Nat.reduceLeDiff, Int.reduceToNat, Int.reduceAbs, sizeLine_eq, Nat.le_refl, Nat.zero_le, Int.reduceMul, Int.reduceAdd, Int.reduceSub, exists_eq', exists_eq, tBM, tyV_str, tDKN, tDTN, tFor_eq, tLc_eq, iRng1, iRng2, iTup, iList, iEnumT_eq]
      refine ⟨_, Dp.same sm _ _ ho, _, at1, fun v hv => ⟨_, .inl hv, ?_⟩⟩
      have hlm : (r1.map tD).length = r2.length := by rw [List.length_map, hlr]
      rw [hlm]
      refine ⟨by omega, by omega, loop_range (n := r2.length + 1) (by omega) Pk (by rw [hPk]; exact ⟨xs, v5, rfl, hL, by simpa [seg] using hA, sm⟩) ?_ ?_⟩
      · intro k σ H2 hk hp
        rw [hPk] at hp
        obtain ⟨ys, v5, rfl, hL2, hA2, sm2⟩ := hp
        have ek : (0 : Int) + (k : Int) = ((k : Nat) : Int) := by omega
        rw [ek]
        simp only [tSeq, tIfS, tTest, tB, tOp, tUn, tVar, tC, rI0, rI, rU, CMul, CDiv, CPow, L2.start, tRet, tRetN, tNext, tAsg, gName, tDrop, tCons, tNil, tTup, tLst, tTupN, tLstN, tCB, tCall, tIf, tAnd, tOr, tNot, tAndV, tOrV, tNotV, tIsN, tNotN, tApp, tExt, upT, upS, up, rEq, rNe, scal, tAug, ipI, tPart, tNoPart, tSl, tChain, wipe, tYes, tBreak, tCont, cxK, rNeD, rEqD, rIsD, rIxW, rIxE, rLenD, rSlD, rCatD, rTupD, rListW, tFld, sFld, List.map_cons, List.map_nil, List.length_cons, List.length_nil, List.replicate, List.cons_append, List.nil_append, List.append_nil, List.getElem?_cons_zero, List.getElem?_cons_succ, List.set_cons_zero, List.set_cons_succ, Nat.reduceAdd, Nat.reduceSub, Option.some.injEq, V.int.injEq, V.bl.injEq, V.str.injEq, V.ref.injEq, V.ty.injEq, List.cons.injEq, exists_eq_left, exists_eq_left', exists_eq_right, exists_and_left, and_true, true_and, and_assoc, decide_eq_true_eq, Bool.not_eq_true', decide_eq_false_iff_not, Bool.not_not, reduceCtorEq, false_and, and_false, or_false, false_or, exists_const, false_implies, implies_true, if_false, if_true, Bool.false_eq_true, eq_self, forall_eq', exists_false, decide_true, decide_false, ite_true, ite_false, not_true_eq_false, not_false_eq_true, or_true, true_or, gSub, rSetL, gTup, gCons, gNil, rIxH, rIxS, rLenH, HO.lst.injEq, HO.tup.injEq, atI_0, atI_1, atI_2, ixN_31, ixN_32, Int.reduceNeg, Int.reducePow, Int.reduceLT, Int.reduceLE, Nat.reducePow, Nat.reduceLT, Nat.reduceLeDiff, Int.reduceToNat, Int.reduceAbs, sizeLine_eq, Nat.le_refl, Nat.zero_le, Int.reduceMul, Int.reduceAdd, Int.reduceSub, exists_eq', exists_eq, tBM, tyV_str, tDKN, tDTN, tFor_eq, tLc_eq, iRng1, iRng2, iTup, iList, iEnumT_eq]
        have ho2 := Dp.same sm2 _ _ ho
        have hn2 := Dp.same sm2 _ _ hn
        refine ⟨fun b H3 => b = decide (¬ (k < r2.length ∧ diff r1 r2 k = true)) ∧ H3 = H2, ⟨_, ho2, _, at1, fun v hv => ⟨_, .inl hv, ?_⟩⟩, ?_⟩
        · rw [hlm]
          refine ite2 (fun e => ?_) (fun e => ?_)
          · exact ⟨(decide_eq_true (by omega)).symm, rfl⟩
          · have hkr : k < r2.length := by omega
            have hkr1 : k < r1.length := by omega
            have hq1 : r1[k]? = some r1[k] := List.getElem?_eq_getElem hkr1
            have hq2 : r2[k]? = some r2[k] := List.getElem?_eq_getElem hkr
            refine ⟨_, ho2, _, at1, fun v1 hv1 => ⟨_, hv1, tD r1[k], atI_nat (by rw [List.getElem?_map, hq1]; rfl), fun v2 hv2 => ⟨_, hn2, _, at2, fun v3 hv3 => ⟨_, hv3, tD r2[k], atI_nat (by rw [List.getElem?_map, hq2]; rfl), fun v4 hv4 => ?_⟩⟩⟩⟩
            refine ⟨_, hv2, _, hv4, shaped_tD _ (ok1 _ (List.getElem_mem hkr1)), shaped_tD _ (ok2 _ (List.getElem_mem hkr)), ?_, rfl⟩
            rw [eqv_tD, diff, hq1, hq2]
            simp [hkr]
        · rintro b H3 ⟨rfl, rfl⟩
          refine iteD (fun w' => ?_) (fun w' => ?_)
          · have es := seg_shut (d := diff r1 r2) (n := r2.length) w'
            have fin : ∀ H4 (zs : List V), H4 p = some (.lst zs) → DpAll K H4 zs ((dueUp old new j ++ (seg (diff r1 r2) r2.length (k + 1)).1.map (cutRun j r2)).map runD) → Same H H4 →
                Pk (k + 1) [some o, some n, some (.ref p), some (.int j), some (.int ((k : Int) + 1)), some (.int k)] H4 := fun H4 zs a b c => by
              rw [hPk]
              exact ⟨zs, some (.int k), by rw [es]; rfl, a, b, c⟩
            refine ite2 (fun w2 => ?_) (fun w2 => ?_)
            · have hcb : (seg (diff r1 r2) r2.length k).2 < k := by omega
              refine ⟨⟨_, hL2⟩, _, hn2, _, at2, fun v1 hv1 => ⟨_, hv1, immA_tiles _, fun v2 H4 sm4 hv2 t H5 nt sm5 e5 => ⟨ys, ?_⟩⟩⟩
              have smm := Same.trans sm4 sm5
              have hL5 := smm _ _ hL2
              have tk : TK H3 (upd H5 p (.lst (ys ++ [.ref t]))) := (TK.same smm).trans (TK.lst hL5)
              refine ⟨hL5, ?_, fin _ _ upd_same ?_ (Same.wr (Same.trans sm2 smm) np)⟩
              · rw [DpA.length hA2, List.length_map, List.length_append, List.length_map]
                have q1 := dueUp_len (old := old) tw.wide j
                have q2 := seg_len (diff r1 r2) r2.length k
                omega
              · rw [es]
                show DpAll K _ _ ((dueUp old new j ++ (if (seg (diff r1 r2) r2.length k).2 < k then _ else _ : List (Nat × Nat)).map (cutRun j r2)).map runD)
                rw [if_pos hcb, app_snoc, List.map_append]
                refine DpA.append (DpA.tk tk _ _ (immA_map imm_runD _) hA2) (DpA.one ?_)
                refine Dp.tk (TK.lst hL5) _ _ (imm_runD (cutRun j r2 (_, k))) ?_
                refine .tup (SqT.of e5) (.cons (.int _) (.cons (.int _) (.cons ?_ .nil)))
                have ec : cutD (r2.map tD) (some (((seg (diff r1 r2) r2.length k).2 : Nat) : Int)) (some (k : Int)) = ((r2.drop (seg (diff r1 r2) r2.length k).2).take (k - (seg (diff r1 r2) r2.length k).2)).map tD := by
                  rw [cutD_nat _ _ _ (by omega) (by rw [List.length_map]; omega), List.map_take, List.map_drop]
                rw [ec] at hv2
                exact Dp.same sm5 _ _ hv2
            · have hcb : ¬ (seg (diff r1 r2) r2.length k).2 < k := by omega
              refine fin _ _ hL2 ?_ sm2
              rw [es]
              show DpAll K _ _ ((dueUp old new j ++ (if (seg (diff r1 r2) r2.length k).2 < k then _ else _ : List (Nat × Nat)).map (cutRun j r2)).map runD)
              rw [if_neg hcb]
              exact hA2
          · have w3 : k < r2.length ∧ diff r1 r2 k = true := Decidable.not_not.mp w'
            have es : seg (diff r1 r2) r2.length (k + 1) = seg (diff r1 r2) r2.length k := by
              show (if k < r2.length ∧ diff r1 r2 k = true then _ else _) = _
              rw [if_pos w3]
            rw [hPk]
            exact ⟨ys, _, by rw [es], hL2, by rw [es]; exact hA2, sm2⟩
      · intro σ H2 hp
        rw [hPk] at hp
        obtain ⟨ys, v5, rfl, hL2, hA2, sm2⟩ := hp
        rw [hPv]
        refine ⟨ys, _, _, _, rfl, hL2, ?_, sm2⟩
        rw [dueUp_succ]
        have eg1 : old.getD j [] = r1 := by rw [List.getD_eq_getElem?_getD, hg1]; rfl
        have eg2 : new.getD j [] = r2 := by rw [List.getD_eq_getElem?_getD, hg2]; rfl
        rw [eg1, eg2]
        exact hA2
    · intro σ H' hp
      rw [hPv] at hp
      obtain ⟨xs, v3, v4, v5, rfl, hL, hA, sm⟩ := hp
      simp only [tSeq, tIfS, tTest, tB, tOp, tUn, tVar, tC, rI0, rI, rU, CMul, CDiv, CPow, L2.start, tRet, tRetN, tNext, tAsg, gName, tDrop, tCons, tNil, tTup, tLst, tTupN, tLstN, tCB, tCall, tIf, tAnd, tOr, tNot, tAndV, tOrV, tNotV, tIsN, tNotN, tApp, tExt, upT, upS, up, rEq, rNe, scal, tAug, ipI, tPart, tNoPart, tSl, tChain, wipe, tYes, tBreak, tCont, cxK, rNeD, rEqD, rIsD, rIxW, rIxE, rLenD, rSlD, rCatD, rTupD, rListW, tFld, sFld, List.map_cons, List.map_nil, List.length_cons, List.length_nil, List.replicate, List.cons_append, List.nil_append, List.append_nil, List.getElem?_cons_zero, List.getElem?_cons_succ, List.set_cons_zero, List.set_cons_succ, Nat.reduceAdd, Nat.reduceSub, Option.some.injEq, V.int.injEq, V.bl.injEq, V.str.injEq, V.ref.injEq, V.ty.injEq, List.cons.injEq, exists_eq_left, exists_eq_left', exists_eq_right, exists_and_left, and_true, true_and, and_assoc, decide_eq_true_eq, Bool.not_eq_true', decide_eq_false_iff_not, Bool.not_not, reduceCtorEq, false_and, and_false, or_false, false_or, exists_const, false_implies, implies_true, if_false, if_true, Bool.false_eq_true, eq_self, forall_eq', exists_false, decide_true, decide_false, ite_true, ite_false, not_true_eq_false, not_false_eq_true, or_true, true_or, gSub, rSetL, gTup, gCons, gNil, rIxH, rIxS, rLenH, HO.lst.injEq, HO.tup.injEq, atI_0, atI_1, atI_2, ixN_31, ixN_32, Int.reduceNeg, Int.reducePow, Int.reduceLT, Int.reduceLE, Nat.reducePow, Nat.reduceLT, Nat.reduceLeDiff, Int.reduceToNat, Int.reduceAbs, sizeLine_eq, Nat.le_refl, Nat.zero_le, Int.reduceMul, Int.reduceAdd, Int.reduceSub, exists_eq', exists_eq, tBM, tyV_str, tDKN, tDTN]
      exact ⟨_, immA_map imm_runD _, .inl ⟨xs, hL, hA⟩, fun v H3 s3 hv => q v H3 (Same.trans sm s3) hv⟩
end
end K63
namespace K63
open PySem PySem.Spec PyProof.Rows L2 Ds
-- imports A63 B63e
abbrev spainted : Stmt := top 3
theorem sc_painted : FnScope ["old", "runs", "lines", "tiles", "row", "column", "at", "tile"] ["old", "runs"] (C8.fnScope spainted) := C8.fnScope_by (by decide +kernel)
abbrev s_law_spread : Stmt := top 61
theorem sc__law_spread : FnScope ["screen", "strokes", "made", "band", "stroke", "k"] ["screen", "strokes"] (C8.fnScope s_law_spread) := C8.fnScope_by (by decide +kernel)
/-! painting: rows as lists, tiles put one by one -/
def put1 (sc : List (List Tile)) (row c : Nat) (t : Tile) : List (List Tile) := sc.set row ((sc.getD row []).set c t)
def putN (sc : List (List Tile)) (row c : Nat) (ts : List Tile) : Nat → List (List Tile)
  | 0 => sc
  | k + 1 => match ts[k]? with
    | some t => put1 (putN sc row c ts k) row (c + k) t
    | none => putN sc row c ts k
def paintK (sc : List (List Tile)) (runs : List Run) : Nat → List (List Tile)
  | 0 => sc
  | k + 1 => match runs[k]? with
    | some r => putN (paintK sc runs k) r.1 r.2.1 r.2.2 r.2.2.length
    | none => paintK sc runs k
def paintL (sc : List (List Tile)) (runs : List Run) : List (List Tile) := paintK sc runs runs.length
structure Shape (wi : Nat) (hi : Nat) (sc : List (List Tile)) : Prop where
  len : sc.length = hi
  row : ∀ r ∈ sc, r.length = wi ∧ ∀ t ∈ r, okT t
theorem Shape.put1 {wi hi : Nat} {sc : List (List Tile)} (h : Shape wi hi sc) {row c : Nat} {t : Tile} (ht : okT t) : Shape wi hi (put1 sc row c t) := by
  refine ⟨by unfold K63.put1; rw [List.length_set]; exact h.len, fun r hr => ?_⟩
  unfold K63.put1 at hr
  by_cases e : row < sc.length
  · rcases mem_set hr with q | q
    · subst q
      have hg : sc[row]? = some sc[row] := List.getElem?_eq_getElem e
      have eg : sc.getD row [] = sc[row] := by rw [List.getD_eq_getElem?_getD, hg]; rfl
      rw [eg]
      have := h.row _ (List.getElem_mem e)
      refine ⟨by rw [List.length_set]; exact this.1, fun t' ht' => ?_⟩
      rcases mem_set ht' with z | z
      · rw [z]; exact ht
      · exact this.2 _ z
    · exact h.row _ q
  · rw [List.set_eq_of_length_le (by omega)] at hr
    exact h.row _ hr
theorem Shape.putN {wi hi : Nat} {sc : List (List Tile)} (h : Shape wi hi sc) {row c : Nat} {ts : List Tile} (ht : ∀ t ∈ ts, okT t) : ∀ k, Shape wi hi (putN sc row c ts k)
  | 0 => h
  | k + 1 => by
    unfold K63.putN
    cases e : ts[k]? with
    | none => exact Shape.putN h ht k
    | some t => exact (Shape.putN h ht k).put1 (ht _ (List.mem_of_getElem? e))
/-- runs that lie within a screen -/
def RunsOk (wi hi : Nat) (runs : List Run) : Prop := ∀ r ∈ runs, r.1 < hi ∧ r.2.1 + r.2.2.length ≤ wi ∧ ∀ t ∈ r.2.2, okT t
theorem Shape.paintK {wi hi : Nat} {sc : List (List Tile)} (h : Shape wi hi sc) {runs : List Run} (hr : RunsOk wi hi runs) : ∀ k, Shape wi hi (paintK sc runs k)
  | 0 => h
  | k + 1 => by
    unfold K63.paintK
    cases e : runs[k]? with
    | none => exact Shape.paintK h hr k
    | some r => exact (Shape.paintK h hr k).putN (hr _ (List.mem_of_getElem? e)).2.2 _
/-- the rows of a screen as tracked lists -/
structure Grid (K : Fr) (H : Hp) (as : List Addr) (sc : List (List Tile)) : Prop where
  len : as.length = sc.length
  nd : as.Nodup
  row : ∀ (j : Nat) (a : Addr) (r : List Tile), as[j]? = some a → sc[j]? = some r → ∃ ys, H a = some (.lst ys) ∧ DpAll K H ys (r.map tD)
theorem Grid.same {K : Fr} {H H' : Hp} {as : List Addr} {sc : List (List Tile)} (g : Grid K H as sc) (s : Same H H') : Grid K H' as sc := ⟨g.len, g.nd, fun j a r e1 e2 => by
  obtain ⟨ys, h1, h2⟩ := g.row j a r e1 e2
  exact ⟨ys, s _ _ h1, DpA.same s _ _ h2⟩⟩
theorem Grid.put {K : Fr} {H : Hp} {as : List Addr} {sc : List (List Tile)} (g : Grid K H as sc) {j : Nat} {a : Addr} {r : List Tile} {ys : List V} {v : V} {t : Tile} {c : Nat} (e1 : as[j]? = some a) (e2 : sc[j]? = some r) (hy : H a = some (.lst ys)) (hv : Dp K H v (tD t)) (hA : DpAll K H ys (r.map tD)) :
    Grid K (upd H a (.lst (ys.set c v))) as (put1 sc j c t) := by
  have hj : j < sc.length := (List.getElem?_eq_some_iff.mp e2).1
  have eg : sc.getD j [] = r := by rw [List.getD_eq_getElem?_getD, e2]; rfl
  unfold put1
  rw [eg]
  refine ⟨by rw [List.length_set]; exact g.len, g.nd, fun i b s f1 f2 => ?_⟩
  by_cases e : i = j
  · subst e
    rw [e1] at f1; cases f1
    rw [List.getElem?_set_self hj] at f2; cases f2
    refine ⟨_, upd_same, ?_⟩
    rw [List.map_set]
    exact DpA.set (Dp.tk (TK.lst hy) _ _ (imm_tD t) hv) _ (DpA.tk (TK.lst hy) _ _ (immA_tiles r) hA)
  · rw [List.getElem?_set_ne (Ne.symm e)] at f2
    obtain ⟨zs, h1, h2⟩ := g.row i b s f1 f2
    have hab : b ≠ a := fun z => by
      subst z
      have i1 := (List.getElem?_eq_some_iff.mp f1)
      have i2 := (List.getElem?_eq_some_iff.mp e1)
      exact e ((List.getElem_inj g.nd).mp (i1.2.trans i2.2.symm))
    exact ⟨zs, by rw [upd_ne hab]; exact h1, DpA.tk (TK.lst hy) _ _ (immA_tiles s) h2⟩
/-- all of a grid is younger than H -/
structure Young (H H' : Hp) (L : Addr) (as : List Addr) : Prop where
  lst : H' L = some (.lst (as.map V.ref))
  nin : L ∉ as
  newL : H L = none
  new : ∀ a ∈ as, H a = none
  same : Same H H'
theorem Young.put {H H' : Hp} {L a : Addr} {as : List Addr} {o : HO} (y : Young H H' L as) (ha : a ∈ as) : Young H (upd H' a o) L as :=
  ⟨by rw [upd_ne (show L ≠ a from fun z => y.nin (by rw [z]; exact ha))]; exact y.lst, y.nin, y.newL, y.new, Same.wr y.same (y.new a ha)⟩
section
variable {P : Program} {w : World} {K : Fr} {mg : Str → Option Value} {base : Heap}
/-- [list(x) for x in screen] -/
theorem grid_make {σ : SS} {H : Hp} {Q : VK} {x : V} {sc : List (List Tile)} {j : Nat} (hj : j < σ.length) (hx : Dp K H x (scrD sc)) (hl : sc.length ≤ 1000) (hq : ∀ L as H', Young H H' L as → Grid K H' as sc → Q (.ref L) H') :
    ∃ a, x = .ref a ∧ (∃ xs, SqT K H a xs) ∧ LoopC (Itt K a) (gName j) tYes (tCB (rListW K) (tCons (tVar j) tNil)) [j] σ Q H := by
  refine comp_D (ds := sc.map rowD) hx (immA_map imm_rowD _) (fun D i H' => ∃ as, Young H H' D as ∧ Grid K H' as (sc.take i)) (fun D hD => ⟨[], ⟨upd_same, by simp, hD, by simp, Same.new hD⟩, by simp, by simp, by simp⟩) (fun D i H' hD ⟨as, y, g⟩ => TK.same y.same) ?_ ?_
  · rintro D i v d H' hD hi hv ⟨as, y, g⟩
    obtain ⟨r, hr, rfl, hlt⟩ := lst_int hi
    have hg : (σ.set j none |>.set j (some v))[j]? = some (some v) := List.getElem?_set_self (by rw [List.length_set]; exact hj)
    have hw : wipe (wipe σ [j] |>.set j (some v)) [j] = wipe σ [j] := by
      show ((σ.set j none).set j (some v)).set j none = σ.set j none
      rw [List.set_set, List.set_set]
    refine ⟨hw, ?_⟩
    show tCB (rListW K) (tCons (tVar j) tNil) ((σ.set j none).set j (some v)) H' _
    refine ⟨v, hg, v, r.map tD, rfl, immA_tiles r, hv, fun l ys H2 nl s2 el ha => ?_⟩
    have lD : l ≠ D := fun z => by rw [z, y.lst] at nl; cases nl
    have hD2 := s2 _ _ y.lst
    have s3 := Same.trans y.same s2
    have lH : H l = none := y.same.free nl
    have las : l ∉ as := fun hm => by
      obtain ⟨i', hi'⟩ := List.getElem?_of_mem hm
      have hlt' : i' < (sc.take i).length := by rw [← g.len]; exact (List.getElem?_eq_some_iff.mp hi').1
      obtain ⟨zs, h1, _⟩ := g.row i' l _ hi' (List.getElem?_eq_getElem hlt')
      rw [h1] at nl; cases nl
    have s4 : Same H' (upd H2 D (.lst (as.map V.ref ++ [.ref l]))) → True := fun _ => trivial
    refine ⟨as.map V.ref, hD2, ?_, as ++ [l], ⟨?_, ?_, hD, ?_, Same.wr s3 hD⟩, ⟨?_, ?_, ?_⟩⟩
    · rw [List.length_map, g.len, List.length_take]; have := sizeLine_eq; omega
    · rw [upd_same, List.map_append]; rfl
    · intro hm
      rcases List.mem_append.mp hm with q | q
      · exact y.nin q
      · simp only [List.mem_singleton] at q; exact lD q.symm
    · intro a ha
      rcases List.mem_append.mp ha with q | q
      · exact y.new a q
      · simp only [List.mem_singleton] at q; rw [q]; exact lH
    · rw [List.length_append, g.len, List.length_take, List.length_take, List.length_singleton]; omega
    · rw [List.nodup_append]
      refine ⟨g.nd, by simp, ?_⟩
      intro a ha b hb
      simp only [List.mem_singleton] at hb
      rw [hb]
      exact fun z => las (z ▸ ha)
    · intro k a s f1 f2
      by_cases e : k < as.length
      · rw [List.getElem?_append_left e] at f1
        have hk : k < i := by
          have := g.len; rw [List.length_take] at this; omega
        have f3 : (sc.take i)[k]? = some s := by
          rw [List.getElem?_take_of_lt hk]
          rw [List.getElem?_take_of_lt (by omega)] at f2
          exact f2
        obtain ⟨zs, h1, h2⟩ := g.row k a s f1 f3
        have aD : a ≠ D := fun z => y.nin (z ▸ List.mem_of_getElem? f1)
        exact ⟨zs, by rw [upd_ne aD]; exact s2 _ _ h1, DpA.tk ((TK.same s2).trans (TK.lst hD2)) _ _ (immA_tiles s) h2⟩
      · have hkl : k = as.length := by
          have := (List.getElem?_eq_some_iff.mp f1).1
          rw [List.length_append, List.length_singleton] at this; omega
        subst hkl
        rw [List.getElem?_append_right (Nat.le_refl _)] at f1
        simp at f1
        subst f1
        have ei : as.length = i := by rw [g.len, List.length_take]; omega
        rw [ei, List.getElem?_take_of_lt (by omega), hr] at f2
        cases f2
        exact ⟨ys, by rw [upd_ne lD]; exact el, DpA.tk (TK.lst hD2) _ _ (immA_tiles r) ha⟩
  · rintro D H' hD ⟨as, y, g⟩
    rw [List.length_map, List.take_length] at g
    exact hq D as H' y g
/-- tuple([tuple(x) for x in rows]) -/
theorem grid_fin {σ : SS} {H0 H : Hp} {Q : VK} {L : Addr} {as : List Addr} {sc : List (List Tile)} {j : Nat} (hj : j < σ.length) (y : Young H0 H L as) (g : Grid K H as sc) (hl : sc.length ≤ 1000) (hq : ∀ D acc H', Same H H' → H' D = some (.lst acc) → DpAll K H' acc (sc.map rowD) → Q (.ref D) H') :
    LoopC (Itl K L) (gName j) tYes (tCB (rTupD K) (tCons (tVar j) tNil)) [j] σ Q H := by
  refine comp_H (xs := as.map V.ref) (fun D i H' => ∃ acc, H' D = some (.lst acc) ∧ DpAll K H' acc ((sc.take i).map rowD) ∧ Same H H') (fun D hD => ⟨[], upd_same, by simpa using DpAll.nil, Same.new hD⟩) (fun D i H' hD ⟨_, _, _, s⟩ => s.seq (SqL.of y.lst)) ?_ ?_
  · rintro D i v H' hD hi ⟨acc, hacc, hA, s1⟩
    obtain ⟨a, ha, rfl, hlt⟩ := lst_int hi
    have hs : i < sc.length := by rw [← g.len]; exact hlt
    obtain ⟨ys, h1, h2⟩ := g.row i a _ ha (List.getElem?_eq_getElem hs)
    have hg : (σ.set j none |>.set j (some (.ref a)))[j]? = some (some (.ref a)) := List.getElem?_set_self (by rw [List.length_set]; exact hj)
    have hw : wipe (wipe σ [j] |>.set j (some (.ref a))) [j] = wipe σ [j] := by
      show ((σ.set j none).set j (some (.ref a))).set j none = σ.set j none
      rw [List.set_set, List.set_set]
    refine ⟨hw, ?_⟩
    show tCB (rTupD K) (tCons (tVar j) tNil) ((σ.set j none).set j (some (.ref a))) H' _
    refine ⟨.ref a, hg, .ref a, _, rfl, immA_tiles sc[i], .inl ⟨a, ys, rfl, s1 _ _ h1, DpA.same s1 _ _ h2⟩, fun v H2 s2 hv => ⟨acc, s2 _ _ hacc, ?_, acc ++ [v], upd_same, ?_, Same.wr (Same.trans s1 s2) hD⟩⟩
    · rw [DpA.length hA, List.length_map, List.length_take]; have := sizeLine_eq; omega
    · have et : sc.take (i + 1) = sc.take i ++ [sc[i]] := by rw [List.take_succ, List.getElem?_eq_getElem hs]; rfl
      rw [et, List.map_append]
      have hD2 := s2 _ _ hacc
      exact DpA.append (DpA.tk ((TK.same s2).trans (TK.lst hD2)) _ _ (immA_map imm_rowD _) hA) (DpA.one (Dp.tk (TK.lst hD2) _ _ (imm_rowD _) hv))
  · rintro D H' hD ⟨acc, hacc, hA, s1⟩
    rw [List.length_map, g.len, List.take_length] at hA
    exact hq D acc H' s1 hacc hA
def spPainted (K : Fr) : Sp := fun vs H Q _ => ∃ (o n : V) (sc : List (List Tile)) (runs : List Run) (wi : Nat), vs = [o, n] ∧ Dp K H o (scrD sc) ∧ Dp K H n (.tuple (runs.map runD)) ∧ Shape wi sc.length sc ∧ RunsOk wi sc.length runs ∧ sc.length ≤ 1000 ∧ wi ≤ 1000 ∧
  ∀ v H', Same H H' → Dp K H' v (scrD (paintL sc runs)) → Q v H'
theorem pr_painted (T : Txt K mg) : Prom P w K mg base 1 "painted" spainted ["old", "runs"] (spPainted K) := by
  refine prom_of sc_painted (fun vs H Q E h => ?_) (fun f cdv A outer s H vs Q E hr h => ?_)
  · obtain ⟨a, b, c, d, e, rfl, _⟩ := h; rfl
  · obtain ⟨o, n, sc, runs, wi, rfl, ho, hn, sh, ro, hs1, hw1, q⟩ := h
    have nd := sc_painted.nd
    have hu := hu_of hr
    have hu0 := hu0_of hr
    have hu64 := hu64_of hr
    refine ⟨_, 
    (pss_cons (ps_setLc (i := 2) (own := [("tiles", 3)]) rfl nd rfl rfl (sw_true rfl rfl rfl (by decide +kernel)) (pi_tupK (K := K) (pv 0)) (blkOk_by (own := [("tiles", 3)]) (by first | decide +kernel | kernel_rfl | rfl)) (fun _ _ _ _ _ => (pg_name (i := 3) nd rfl (by first | exact Or.inl rfl | exact Or.inr rfl))) (fun _ _ _ _ _ => pts_nil) (fun _ _ _ _ _ => (pe_callTy (T := "list") (call_listD (K := K)) (by rfl) T.b_list (by decide +kernel) (pa_cons (pv 3) pa_nil))))
    (pss_cons (ps_for PassesOwn.never rfl (pi_tupK (K := K) (pv 1)) (pg_tupK (K := K) (n := 3) rfl (pgs_cons (pg_name (i := 4) nd rfl (by first | exact Or.inl rfl | exact Or.inr rfl)) (pgs_cons (pg_name (i := 5) nd rfl (by first | exact Or.inl rfl | exact Or.inr rfl)) (pgs_cons (pg_name (i := 3) nd rfl (by first | exact Or.inl rfl | exact Or.inr rfl)) pgs_nil)))) 
        (pss_one (ps_for PassesOwn.never rfl (pi_enumT (K := K) (by rfl) T.b_enumerate (pa_cons (pv 3) pa_nil)) (pg_tupK (K := K) (n := 2) rfl (pgs_cons (pg_name (i := 6) nd rfl (by first | exact Or.inl rfl | exact Or.inr rfl)) (pgs_cons (pg_name (i := 7) nd rfl (by first | exact Or.inl rfl | exact Or.inr rfl)) pgs_nil))) 
            (pss_one (ps_asg (pv 7) (pg_sub (pe_ix ix_H (pv 2) (pv 4) (fun _ _ => rfl)) (pe_op op_add (pv 5) (pv 6)) set_list))))))
    (pss_one (ps_ret (pe_callTy (T := "tuple") (call_tupD (K := K)) (by rfl) T.b_tuple (by decide +kernel) (pa_cons (pe_lc (own := [("tiles", 3)]) rfl nd (pi_listK (K := K) (pv 2)) (blkOk_by (own := [("tiles", 3)]) (by first | decide +kernel | kernel_rfl | rfl)) (fun _ _ _ _ _ => (pg_name (i := 3) nd rfl (by first | exact Or.inl rfl | exact Or.inr rfl))) (fun _ _ _ _ _ => pts_nil) (fun _ _ _ _ _ => (pe_callTy (T := "tuple") (call_tupD (K := K)) (by rfl) T.b_tuple (by decide +kernel) (pa_cons (pv 3) pa_nil)))) pa_nil)))))), ?_⟩
    simp only [tSeq, tIfS, tTest, tB, tOp, tUn, tVar, tC, rI0, rI, rU, CMul, CDiv, CPow, L2.start, tRet, tRetN, tNext, tAsg, gName, tDrop, tCons, tNil, tTup, tLst, tTupN, tLstN, tCB, tCall, tIf, tAnd, tOr, tNot, tAndV, tOrV, tNotV, tIsN, tNotN, tApp, tExt, upT, upS, up, rEq, rNe, scal, tAug, ipI, tPart, tNoPart, tSl, tChain, wipe, tYes, tBreak, tCont, cxK, rNeD, rEqD, rIsD, rIxW, rIxE, rLenD, rSlD, rCatD, rTupD, rListW, tFld, sFld, List.map_cons, List.map_nil, List.length_cons, List.length_nil, List.replicate, List.cons_append, List.nil_append, List.append_nil, List.getElem?_cons_zero, List.getElem?_cons_succ, List.set_cons_zero, List.set_cons_succ, Nat.reduceAdd, Nat.reduceSub, Option.some.injEq, V.int.injEq, V.bl.injEq, V.str.injEq, V.ref.injEq, V.ty.injEq, List.cons.injEq, exists_eq_left, exists_eq_left', exists_eq_right, exists_and_left, and_true, true_and, and_assoc, decide_eq_true_eq, Bool.not_eq_true', decide_eq_false_iff_not, Bool.not_not, reduceCtorEq, false_and, and_false, or_false, false_or, exists_const, false_implies, implies_true, if_false, if_true, Bool.false_eq_true, eq_self, forall_eq', exists_false, decide_true, decide_false, ite_true, ite_false, not_true_eq_false, not_false_eq_true, or_true, true_or, gSub, rSetL, gTup, gCons, gNil, rIxH, rIxS, rLenH, HO.lst.injEq, HO.tup.injEq, atI_0, atI_1, atI_2, ixN_31, ixN_32, Int.reduceNeg, Int.reducePow, Int.reduceLT, Int.reduceLE, Nat.reducePow, Nat.reduceLT, Nat.reduceLeDiff, Int.reduceToNat, Int.reduceAbs, sizeLine_eq, Nat.le_refl, Nat.zero_le, Int.reduceMul, Int.reduceAdd, Int.reduceSub, exists_eq', exists_eq, tBM, tyV_str, tDKN, tDTN, tFor_eq, tLc_eq, iRng1, iRng2, iTup, iList, iEnumT_eq]
    refine grid_make (j := 3) (by simp) ho hs1 fun L as H1 y g => ?_
    obtain ⟨Pv, hPv⟩ : ∃ Pv : Nat → SS → Hp → Prop, Pv = fun i σ H' => ∃ (v3 v4 v5 v6 v7 : Option V), σ = [some o, some n, some (.ref L), v3, v4, v5, v6, v7] ∧ Young H H' L as ∧ Grid K H' as (paintK sc runs i) ∧ TK H1 H' := ⟨_, rfl⟩
    refine loop_D (ds := runs.map runD) (Dp.same y.same _ _ hn) (immA_map imm_runD _) Pv (by rw [hPv]; exact ⟨_, _, _, _, _, rfl, y, g, TK.refl _⟩) (fun i σ H' hp => by rw [hPv] at hp; obtain ⟨_, _, _, _, _, _, _, _, t⟩ := hp; exact t) ?_ ?_
    · intro i v d σ H' hi hv hp
      rw [hPv] at hp
      obtain ⟨v3, v4, v5, v6, v7, rfl, y2, g2, tk⟩ := hp
      obtain ⟨r, hr1, rfl, hlt⟩ := lst_int hi
      have rok := ro _ (List.mem_of_getElem? hr1)
      have hv' : Dp K H' v (.tuple [.int r.1, .int r.2.1, rowD r.2.2]) := hv
      cases hv' with
      | tup hsq ha =>
      cases ha with
      | cons a1 ha =>
      cases ha with
      | cons a2 ha =>
      cases ha with
      | cons a3 ha =>
      cases a1
      cases a2
      cases ha
      simp only [tSeq, tIfS, tTest, tB, tOp, tUn, tVar, tC, rI0, rI, rU, CMul, CDiv, CPow, L2.start, tRet, tRetN, tNext, tAsg, gName, tDrop, tCons, tNil, tTup, tLst, tTupN, tLstN, tCB, tCall, tIf, tAnd, tOr, tNot, tAndV, tOrV, tNotV, tIsN, tNotN, tApp, tExt, upT, upS, up, rEq, rNe, scal, tAug, ipI, tPart, tNoPart, tSl, tChain, wipe, tYes, tBreak, tCont, cxK, rNeD, rEqD, rIsD, rIxW, rIxE, rLenD, rSlD, rCatD, rTupD, rListW, tFld, sFld, List.map_cons, List.map_nil, List.length_cons, List.length_nil, List.replicate, List.cons_append, List.nil_append, List.append_nil, List.getElem?_cons_zero, List.getElem?_cons_succ, List.set_cons_zero, List.set_cons_succ, Nat.reduceAdd, Nat.reduceSub, Option.some.injEq, V.int.injEq, V.bl.injEq, V.str.injEq, V.ref.injEq, V.ty.injEq, List.cons.injEq, exists_eq_left, exists_eq_left', exists_eq_right, exists_and_left, and_true, true_and, and_assoc, decide_eq_true_eq, Bool.not_eq_true', decide_eq_false_iff_not, Bool.not_not, reduceCtorEq, false_and, and_false, or_false, false_or, exists_const, false_implies, implies_true, if_false, if_true, Bool.false_eq_true, eq_self, forall_eq', exists_false, decide_true, decide_false, ite_true, ite_false, not_true_eq_false, not_false_eq_true, or_true, true_or, gSub, rSetL, gTup, gCons, gNil, rIxH, rIxS, rLenH, HO.lst.injEq, HO.tup.injEq, atI_0, atI_1, atI_2, ixN_31, ixN_32, Int.reduceNeg, Int.reducePow, Int.reduceLT, Int.reduceLE, Nat.reducePow, Nat.reduceLT, Nat.reduceLeDiff, Int.reduceToNat, Int.reduceAbs, sizeLine_eq, Nat.le_refl, Nat.zero_le, Int.reduceMul, Int.reduceAdd, Int.reduceSub, exists_eq', exists_eq, tBM, tyV_str, tDKN, tDTN, tFor_eq, tLc_eq, iRng1, iRng2, iTup, iList, iEnumT_eq]
      obtain ⟨Pj, hPj⟩ : ∃ Pj : Nat → SS → Hp → Prop, Pj = fun j σ H2 => ∃ (z v6 v7 : Option V), σ = [some o, some n, some (.ref L), z, some (.int r.1), some (.int r.2.1), v6, v7] ∧ Young H H2 L as ∧ Grid K H2 as (putN (paintK sc runs i) r.1 r.2.1 r.2.2 j) ∧ TK H' H2 := ⟨_, rfl⟩
      refine ⟨_, hsq, rfl, _, _, rfl, _, _, rfl, _, _, rfl, rfl, loop_enumD (ds := r.2.2.map tD) a3 (immA_tiles _) Pj (by rw [hPj]; exact ⟨_, _, _, rfl, y2, g2, TK.refl _⟩) (fun i σ H' hp => by rw [hPj] at hp; obtain ⟨_, _, _, _, _, _, t⟩ := hp; exact t) ?_ ?_⟩
      · intro j v1 d1 σ H2 H3 T1 hj hv1 hp nT s3 eT
        rw [hPj] at hp
        obtain ⟨z, v6, v7, rfl, y3, g3, t3⟩ := hp
        obtain ⟨t, ht1, rfl, hj2⟩ := lst_int hj
        have y3 : Young H H3 L as := ⟨s3 _ _ y3.lst, y3.nin, y3.newL, y3.new, Same.trans y3.same s3⟩
        have g3 := g3.same s3

        have hj2 : j < r.2.2.length := hj2
        have hgt : r.2.2[j]? = some r.2.2[j] := List.getElem?_eq_getElem hj2
        have shp := (sh.paintK ro i).putN (row := r.1) (c := r.2.1) rok.2.2 j
        have hrow : r.1 < (putN (paintK sc runs i) r.1 r.2.1 r.2.2 j).length := by rw [shp.len]; exact rok.1
        have hra : r.1 < as.length := by rw [g3.len]; exact hrow
        have ga : as[r.1]? = some as[r.1] := List.getElem?_eq_getElem hra
        have gs : (putN (paintK sc runs i) r.1 r.2.1 r.2.2 j)[r.1]? = some (putN (paintK sc runs i) r.1 r.2.1 r.2.2 j)[r.1] := List.getElem?_eq_getElem hrow
        obtain ⟨ys, hy, hyA⟩ := g3.row _ _ _ ga gs
        have hyl : ys.length = wi := by rw [DpA.length hyA, List.length_map]; exact (shp.row _ (List.getElem_mem hrow)).1
        have hix : ixN ys.length ((r.2.1 : Int) + (j : Int)) = some (r.2.1 + j) := by
          have e : (r.2.1 : Int) + (j : Int) = ((r.2.1 + j : Nat) : Int) := by omega
          rw [e]; exact ixN_nat (by rw [hyl]; have := rok.2.1; omega)
        have atr : atI (as.map V.ref) (r.1 : Int) = some (.ref as[r.1]) := atI_nat (by rw [List.getElem?_map, ga]; rfl)
        have eput : putN (paintK sc runs i) r.1 r.2.1 r.2.2 (j + 1) = put1 (putN (paintK sc runs i) r.1 r.2.1 r.2.2 j) r.1 (r.2.1 + j) r.2.2[j] := by
          show (match r.2.2[j]? with | some t => _ | none => _) = _
          rw [hgt]
        have et : r.2.2[j] = t := by rw [hgt] at ht1; exact Option.some.inj ht1
        simp only [tSeq, tIfS, tTest, tB, tOp, tUn, tVar, tC, rI0, rI, rU, CMul, CDiv, CPow, L2.start, tRet, tRetN, tNext, tAsg, gName, tDrop, tCons, tNil, tTup, tLst, tTupN, tLstN, tCB, tCall, tIf, tAnd, tOr, tNot, tAndV, tOrV, tNotV, tIsN, tNotN, tApp, tExt, upT, upS, up, rEq, rNe, scal, tAug, ipI, tPart, tNoPart, tSl, tChain, wipe, tYes, tBreak, tCont, cxK, rNeD, rEqD, rIsD, rIxW, rIxE, rLenD, rSlD, rCatD, rTupD, rListW, tFld, sFld, List.map_cons, List.map_nil, List.length_cons, List.length_nil, List.replicate, List.cons_append, List.nil_append, List.append_nil, List.getElem?_cons_zero, List.getElem?_cons_succ, List.set_cons_zero, List.set_cons_succ, Nat.reduceAdd, Nat.reduceSub, Option.some.injEq, V.int.injEq, V.bl.injEq, V.str.injEq, V.ref.injEq, V.ty.injEq, List.cons.injEq, exists_eq_left, exists_eq_left', exists_eq_right, exists_and_left, and_true, true_and, and_assoc, decide_eq_true_eq, Bool.not_eq_true', decide_eq_false_iff_not, Bool.not_not, reduceCtorEq, false_and, and_false, or_false, false_or, exists_const, false_implies, implies_true, if_false, if_true, Bool.false_eq_true, eq_self, forall_eq', exists_false, decide_true, decide_false, ite_true, ite_false, not_true_eq_false, not_false_eq_true, or_true, true_or, gSub, rSetL, gTup, gCons, gNil, rIxH, rIxS, rLenH, HO.lst.injEq, HO.tup.injEq, atI_0, atI_1, atI_2, ixN_31, ixN_32, Int.reduceNeg, Int.reducePow, Int.reduceLT, Int.reduceLE, Nat.reducePow, Nat.reduceLT, Nat.reduceLeDiff, Int.reduceToNat, Int.reduceAbs, sizeLine_eq, Nat.le_refl, Nat.zero_le, Int.reduceMul, Int.reduceAdd, Int.reduceSub, exists_eq', exists_eq, tBM, tyV_str, tDKN, tDTN, tFor_eq, tLc_eq, iRng1, iRng2, iTup, iList, iEnumT_eq]
        refine ⟨_, SqT.of eT, rfl, _, _, rfl, _, _, rfl, rfl, _, y3.lst, _, atr, _, rfl, _, rfl, ys, hy, _, hix, ?_⟩
        rw [hPj]
        refine ⟨_, _, _, rfl, y3.put (List.getElem_mem hra), ?_, t3.trans ((TK.same s3).trans (TK.lst hy))⟩
        rw [eput, et]
        exact g3.put ga gs hy hv1 hyA
      · intro σ H2 hp
        rw [hPj] at hp
        obtain ⟨z, v6, v7, rfl, y3, g3, t3⟩ := hp
        rw [hPv]
        rw [List.length_map] at g3
        refine ⟨_, _, _, _, _, rfl, y3, ?_, tk.trans t3⟩
        show Grid K H2 as (match runs[i]? with | some r => _ | none => _)
        rw [hr1]
        exact g3
    · intro σ H' hp
      rw [hPv] at hp
      obtain ⟨v3, v4, v5, v6, v7, rfl, y2, g2, tk⟩ := hp
      simp only [tSeq, tIfS, tTest, tB, tOp, tUn, tVar, tC, rI0, rI, rU, CMul, CDiv, CPow, L2.start, tRet, tRetN, tNext, tAsg, gName, tDrop, tCons, tNil, tTup, tLst, tTupN, tLstN, tCB, tCall, tIf, tAnd, tOr, tNot, tAndV, tOrV, tNotV, tIsN, tNotN, tApp, tExt, upT, upS, up, rEq, rNe, scal, tAug, ipI, tPart, tNoPart, tSl, tChain, wipe, tYes, tBreak, tCont, cxK, rNeD, rEqD, rIsD, rIxW, rIxE, rLenD, rSlD, rCatD, rTupD, rListW, tFld, sFld, List.map_cons, List.map_nil, List.length_cons, List.length_nil, List.replicate, List.cons_append, List.nil_append, List.append_nil, List.getElem?_cons_zero, List.getElem?_cons_succ, List.set_cons_zero, List.set_cons_succ, Nat.reduceAdd, Nat.reduceSub, Option.some.injEq, V.int.injEq, V.bl.injEq, V.str.injEq, V.ref.injEq, V.ty.injEq, List.cons.injEq, exists_eq_left, exists_eq_left', exists_eq_right, exists_and_left, and_true, true_and, and_assoc, decide_eq_true_eq, Bool.not_eq_true', decide_eq_false_iff_not, Bool.not_not, reduceCtorEq, false_and, and_false, or_false, false_or, exists_const, false_implies, implies_true, if_false, if_true, Bool.false_eq_true, eq_self, forall_eq', exists_false, decide_true, decide_false, ite_true, ite_false, not_true_eq_false, not_false_eq_true, or_true, true_or, gSub, rSetL, gTup, gCons, gNil, rIxH, rIxS, rLenH, HO.lst.injEq, HO.tup.injEq, atI_0, atI_1, atI_2, ixN_31, ixN_32, Int.reduceNeg, Int.reducePow, Int.reduceLT, Int.reduceLE, Nat.reducePow, Nat.reduceLT, Nat.reduceLeDiff, Int.reduceToNat, Int.reduceAbs, sizeLine_eq, Nat.le_refl, Nat.zero_le, Int.reduceMul, Int.reduceAdd, Int.reduceSub, exists_eq', exists_eq, tBM, tyV_str, tDKN, tDTN, tFor_eq, tLc_eq, iRng1, iRng2, iTup, iList, iEnumT_eq]
      rw [List.length_map] at g2
      have shf := sh.paintK ro runs.length
      exact ⟨⟨_, SqL.of y2.lst⟩, grid_fin (by simp) y2 g2 (by rw [shf.len]; exact hs1) fun D acc H3 s3 hD hA => ⟨_, immA_map imm_rowD _, .inl ⟨D, rfl, acc, hD, hA⟩, fun v H4 s4 hv => q v H4 (Same.trans y2.same (Same.trans s3 s4)) hv⟩⟩
theorem ok_painted (T : Txt K mg) : C8.Cal P w K mg base 1 "painted" (spPainted K) [] := (pr_painted T).cal T.f_painted .nil
theorem ok_spread (T : Txt K mg) : C8.Cal P w K mg base 1 "_law_spread" (spPainted K) [] := by
  refine cal_of T.f_law_spread .nil sc__law_spread (fun vs H Q E h => ?_) (fun f cdv A outer s H vs Q E hr h => ?_)
  · obtain ⟨a, b, c, d, e, rfl, _⟩ := h; rfl
  · obtain ⟨o, n, sc, runs, wi, rfl, ho, hn, sh, ro, hs1, hw1, q⟩ := h
    have nd := sc__law_spread.nd
    have hu := hu_of hr
    have hu0 := hu0_of hr
    have hu64 := hu64_of hr
    refine ⟨_, 
    (pss_cons (ps_setLc (i := 2) (own := [("band", 3)]) rfl nd rfl rfl (sw_true rfl rfl rfl (by decide +kernel)) (pi_tupK (K := K) (pv 0)) (blkOk_by (own := [("band", 3)]) (by first | decide +kernel | kernel_rfl | rfl)) (fun _ _ _ _ _ => (pg_name (i := 3) nd rfl (by first | exact Or.inl rfl | exact Or.inr rfl))) (fun _ _ _ _ _ => pts_nil) (fun _ _ _ _ _ => (pe_callTy (T := "list") (call_listD (K := K)) (by rfl) T.b_list (by decide +kernel) (pa_cons (pv 3) pa_nil))))
    (pss_cons (ps_for PassesOwn.never rfl (pi_tupK (K := K) (pv 1)) (pg_name (i := 4) nd rfl (by first | exact Or.inl rfl | exact Or.inr rfl)) 
        (pss_one (ps_for PassesOwn.never rfl (pi_range1 rfl T.b_range (pa_cons (pe_callB (id := "len") (call_lenD' (K := K)) (by rfl) T.b_len PySem.boot_len (pa_cons (pe_ix (ix_D (K := K)) (pv 4) pe_int (fun _ _ => rfl)) pa_nil)) pa_nil)) (pg_name (i := 5) nd rfl (by first | exact Or.inl rfl | exact Or.inr rfl)) 
            (pss_one (ps_asg (pe_ix (ix_D (K := K)) (pe_ix (ix_D (K := K)) (pv 4) pe_int (fun _ _ => rfl)) (pv 5) (fun _ _ => rfl)) (pg_sub (pe_ix ix_H (pv 2) (pe_ix (ix_D (K := K)) (pv 4) pe_int (fun _ _ => rfl)) (fun _ _ => rfl)) (pe_op op_add (pe_ix (ix_D (K := K)) (pv 4) pe_int (fun _ _ => rfl)) (pv 5)) set_list))))))
    (pss_one (ps_ret (pe_callTy (T := "tuple") (call_tupD (K := K)) (by rfl) T.b_tuple (by decide +kernel) (pa_cons (pe_lc (own := [("band", 3)]) rfl nd (pi_listK (K := K) (pv 2)) (blkOk_by (own := [("band", 3)]) (by first | decide +kernel | kernel_rfl | rfl)) (fun _ _ _ _ _ => (pg_name (i := 3) nd rfl (by first | exact Or.inl rfl | exact Or.inr rfl))) (fun _ _ _ _ _ => pts_nil) (fun _ _ _ _ _ => (pe_callTy (T := "tuple") (call_tupD (K := K)) (by rfl) T.b_tuple (by decide +kernel) (pa_cons (pv 3) pa_nil)))) pa_nil)))))), ?_⟩
    simp only [tSeq, tIfS, tTest, tB, tOp, tUn, tVar, tC, rI0, rI, rU, CMul, CDiv, CPow, L2.start, tRet, tRetN, tNext, tAsg, gName, tDrop, tCons, tNil, tTup, tLst, tTupN, tLstN, tCB, tCall, tIf, tAnd, tOr, tNot, tAndV, tOrV, tNotV, tIsN, tNotN, tApp, tExt, upT, upS, up, rEq, rNe, scal, tAug, ipI, tPart, tNoPart, tSl, tChain, wipe, tYes, tBreak, tCont, cxK, rNeD, rEqD, rIsD, rIxW, rIxE, rLenD, rSlD, rCatD, rTupD, rListW, tFld, sFld, List.map_cons, List.map_nil, List.length_cons, List.length_nil, List.replicate, List.cons_append, List.nil_append, List.append_nil, List.getElem?_cons_zero, List.getElem?_cons_succ, List.set_cons_zero, List.set_cons_succ, Nat.reduceAdd, Nat.reduceSub, Option.some.injEq, V.int.injEq, V.bl.injEq, V.str.injEq, V.ref.injEq, V.ty.injEq, List.cons.injEq, exists_eq_left, exists_eq_left', exists_eq_right, exists_and_left, and_true, true_and, and_assoc, decide_eq_true_eq, Bool.not_eq_true', decide_eq_false_iff_not, Bool.not_not, reduceCtorEq, false_and, and_false, or_false, false_or, exists_const, false_implies, implies_true, if_false, if_true, Bool.false_eq_true, eq_self, forall_eq', exists_false, decide_true, decide_false, ite_true, ite_false, not_true_eq_false, not_false_eq_true, or_true, true_or, gSub, rSetL, gTup, gCons, gNil, rIxH, rIxS, rLenH, HO.lst.injEq, HO.tup.injEq, atI_0, atI_1, atI_2, ixN_31, ixN_32, Int.reduceNeg, Int.reducePow, Int.reduceLT, Int.reduceLE, Nat.reducePow, Nat.reduceLT, Nat.reduceLeDiff, Int.reduceToNat, Int.reduceAbs, sizeLine_eq, Nat.le_refl, Nat.zero_le, Int.reduceMul, Int.reduceAdd, Int.reduceSub, exists_eq', exists_eq, tBM, tyV_str, tDKN, tDTN, tFor_eq, tLc_eq, iRng1, iRng2, iTup, iList, iEnumT_eq]
    refine grid_make (j := 3) (by simp) ho hs1 fun L as H1 y g => ?_
    obtain ⟨Pv, hPv⟩ : ∃ Pv : Nat → SS → Hp → Prop, Pv = fun i σ H' => ∃ (v3 v4 v5 : Option V), σ = [some o, some n, some (.ref L), v3, v4, v5] ∧ Young H H' L as ∧ Grid K H' as (paintK sc runs i) ∧ TK H1 H' := ⟨_, rfl⟩
    refine loop_D (ds := runs.map runD) (Dp.same y.same _ _ hn) (immA_map imm_runD _) Pv (by rw [hPv]; exact ⟨_, _, _, rfl, y, g, TK.refl _⟩) (fun i σ H' hp => by rw [hPv] at hp; obtain ⟨_, _, _, _, _, _, t⟩ := hp; exact t) ?_ ?_
    · intro i v d σ H' hi hv hp
      rw [hPv] at hp
      obtain ⟨v3, v4, v5, rfl, y2, g2, tk⟩ := hp
      obtain ⟨r, hr1, rfl, hlt⟩ := lst_int hi
      have rok := ro _ (List.mem_of_getElem? hr1)
      have hv' : Dp K H' v (.tuple [.int r.1, .int r.2.1, rowD r.2.2]) := hv
      simp only [tSeq, tIfS, tTest, tB, tOp, tUn, tVar, tC, rI0, rI, rU, CMul, CDiv, CPow, L2.start, tRet, tRetN, tNext, tAsg, gName, tDrop, tCons, tNil, tTup, tLst, tTupN, tLstN, tCB, tCall, tIf, tAnd, tOr, tNot, tAndV, tOrV, tNotV, tIsN, tNotN, tApp, tExt, upT, upS, up, rEq, rNe, scal, tAug, ipI, tPart, tNoPart, tSl, tChain, wipe, tYes, tBreak, tCont, cxK, rNeD, rEqD, rIsD, rIxW, rIxE, rLenD, rSlD, rCatD, rTupD, rListW, tFld, sFld, List.map_cons, List.map_nil, List.length_cons, List.length_nil, List.replicate, List.cons_append, List.nil_append, List.append_nil, List.getElem?_cons_zero, List.getElem?_cons_succ, List.set_cons_zero, List.set_cons_succ, Nat.reduceAdd, Nat.reduceSub, Option.some.injEq, V.int.injEq, V.bl.injEq, V.str.injEq, V.ref.injEq, V.ty.injEq, List.cons.injEq, exists_eq_left, exists_eq_left', exists_eq_right, exists_and_left, and_true, true_and, and_assoc, decide_eq_true_eq, Bool.not_eq_true', decide_eq_false_iff_not, Bool.not_not, reduceCtorEq, false_and, and_false, or_false, false_or, exists_const, false_implies, implies_true, if_false, if_true, Bool.false_eq_true, eq_self, forall_eq', exists_false, decide_true, decide_false, ite_true, ite_false, not_true_eq_false, not_false_eq_true, or_true, true_or, gSub, rSetL, gTup, gCons, gNil, rIxH, rIxS, rLenH, HO.lst.injEq, HO.tup.injEq, atI_0, atI_1, atI_2, ixN_31, ixN_32, Int.reduceNeg, Int.reducePow, Int.reduceLT, Int.reduceLE, Nat.reducePow, Nat.reduceLT, Nat.reduceLeDiff, Int.reduceToNat, Int.reduceAbs, sizeLine_eq, Nat.le_refl, Nat.zero_le, Int.reduceMul, Int.reduceAdd, Int.reduceSub, exists_eq', exists_eq, tBM, tyV_str, tDKN, tDTN, tFor_eq, tLc_eq, iRng1, iRng2, iTup, iList, iEnumT_eq]
      obtain ⟨Pj, hPj⟩ : ∃ Pj : Nat → SS → Hp → Prop, Pj = fun j σ H2 => ∃ (z v5 : Option V), σ = [some o, some n, some (.ref L), z, some v, v5] ∧ Young H H2 L as ∧ Grid K H2 as (putN (paintK sc runs i) r.1 r.2.1 r.2.2 j) ∧ TK H' H2 := ⟨_, rfl⟩
      refine ⟨_, hv', _, atI_2 _ _ _ _, fun x1 hx1 => ⟨_, .inl hx1, ?_⟩⟩
      rw [List.length_map]
      have hrl := rok.2.1
      refine ⟨by omega, by omega, loop_range (n := r.2.2.length) (by omega) Pj (by rw [hPj]; exact ⟨_, _, rfl, y2, g2, TK.refl _⟩) ?_ ?_⟩
      · intro j σ H2 hj hp
        rw [hPj] at hp
        obtain ⟨z, v5, rfl, y3, g3, t3⟩ := hp
        have ej : (0 : Int) + (j : Int) = ((j : Nat) : Int) := by omega
        rw [ej]

        have hj2 : j < r.2.2.length := hj
        have hgt : r.2.2[j]? = some r.2.2[j] := List.getElem?_eq_getElem hj2
        have shp := (sh.paintK ro i).putN (row := r.1) (c := r.2.1) rok.2.2 j
        have hrow : r.1 < (putN (paintK sc runs i) r.1 r.2.1 r.2.2 j).length := by rw [shp.len]; exact rok.1
        have hra : r.1 < as.length := by rw [g3.len]; exact hrow
        have ga : as[r.1]? = some as[r.1] := List.getElem?_eq_getElem hra
        have gs : (putN (paintK sc runs i) r.1 r.2.1 r.2.2 j)[r.1]? = some (putN (paintK sc runs i) r.1 r.2.1 r.2.2 j)[r.1] := List.getElem?_eq_getElem hrow
        obtain ⟨ys, hy, hyA⟩ := g3.row _ _ _ ga gs
        have hyl : ys.length = wi := by rw [DpA.length hyA, List.length_map]; exact (shp.row _ (List.getElem_mem hrow)).1
        have hix : ixN ys.length ((r.2.1 : Int) + (j : Int)) = some (r.2.1 + j) := by
          have e : (r.2.1 : Int) + (j : Int) = ((r.2.1 + j : Nat) : Int) := by omega
          rw [e]; exact ixN_nat (by rw [hyl]; have := rok.2.1; omega)
        have atr : atI (as.map V.ref) (r.1 : Int) = some (.ref as[r.1]) := atI_nat (by rw [List.getElem?_map, ga]; rfl)
        have eput : putN (paintK sc runs i) r.1 r.2.1 r.2.2 (j + 1) = put1 (putN (paintK sc runs i) r.1 r.2.1 r.2.2 j) r.1 (r.2.1 + j) r.2.2[j] := by
          show (match r.2.2[j]? with | some t => _ | none => _) = _
          rw [hgt]
        have hv2 := Dp.tk t3 _ _ (imm_runD r) hv
        have hv2' : Dp K H2 v (.tuple [.int r.1, .int r.2.1, rowD r.2.2]) := hv2
        simp only [tSeq, tIfS, tTest, tB, tOp, tUn, tVar, tC, rI0, rI, rU, CMul, CDiv, CPow, L2.start, tRet, tRetN, tNext, tAsg, gName, tDrop, tCons, tNil, tTup, tLst, tTupN, tLstN, tCB, tCall, tIf, tAnd, tOr, tNot, tAndV, tOrV, tNotV, tIsN, tNotN, tApp, tExt, upT, upS, up, rEq, rNe, scal, tAug, ipI, tPart, tNoPart, tSl, tChain, wipe, tYes, tBreak, tCont, cxK, rNeD, rEqD, rIsD, rIxW, rIxE, rLenD, rSlD, rCatD, rTupD, rListW, tFld, sFld, List.map_cons, List.map_nil, List.length_cons, List.length_nil, List.replicate, List.cons_append, List.nil_append, List.append_nil, List.getElem?_cons_zero, List.getElem?_cons_succ, List.set_cons_zero, List.set_cons_succ, Nat.reduceAdd, Nat.reduceSub, Option.some.injEq, V.int.injEq, V.bl.injEq, V.str.injEq, V.ref.injEq, V.ty.injEq, List.cons.injEq, exists_eq_left, exists_eq_left', exists_eq_right, exists_and_left, and_true, true_and, and_assoc, decide_eq_true_eq, Bool.not_eq_true', decide_eq_false_iff_not, Bool.not_not, reduceCtorEq, false_and, and_false, or_false, false_or, exists_const, false_implies, implies_true, if_false, if_true, Bool.false_eq_true, eq_self, forall_eq', exists_false, decide_true, decide_false, ite_true, ite_false, not_true_eq_false, not_false_eq_true, or_true, true_or, gSub, rSetL, gTup, gCons, gNil, rIxH, rIxS, rLenH, HO.lst.injEq, HO.tup.injEq, atI_0, atI_1, atI_2, ixN_31, ixN_32, Int.reduceNeg, Int.reducePow, Int.reduceLT, Int.reduceLE, Nat.reducePow, Nat.reduceLT, Nat.reduceLeDiff, Int.reduceToNat, Int.reduceAbs, sizeLine_eq, Nat.le_refl, Nat.zero_le, Int.reduceMul, Int.reduceAdd, Int.reduceSub, exists_eq', exists_eq, tBM, tyV_str, tDKN, tDTN, tFor_eq, tLc_eq, iRng1, iRng2, iTup, iList, iEnumT_eq]
        refine ⟨_, hv2', _, atI_2 _ _ _ _, fun x2 hx2 => ⟨_, hx2, tD r.2.2[j], atI_nat (by rw [List.getElem?_map, hgt]; rfl), fun x3 hx3 => ⟨_, hv2', _, atI_0 _ _, fun x4 hx4 => ?_⟩⟩⟩
        cases hx4
        refine ⟨_, _, rfl, y3.lst, _, atr, _, hv2', _, atI_1 _ _ _, fun x5 hx5 => ?_⟩
        cases hx5
        refine ⟨_, rfl, _, rfl, ys, hy, _, hix, ?_⟩
        rw [hPj]
        refine ⟨_, _, rfl, y3.put (List.getElem_mem hra), ?_, t3.trans (TK.lst hy)⟩
        rw [eput]
        exact g3.put ga gs hy hx3 hyA
      · intro σ H2 hp
        rw [hPj] at hp
        obtain ⟨z, v5, rfl, y3, g3, t3⟩ := hp
        rw [hPv]
        refine ⟨_, _, _, rfl, y3, ?_, tk.trans t3⟩
        show Grid K H2 as (match runs[i]? with | some r => _ | none => _)
        rw [hr1]
        exact g3
    · intro σ H' hp
      rw [hPv] at hp
      obtain ⟨v3, v4, v5, rfl, y2, g2, tk⟩ := hp
      simp only [tSeq, tIfS, tTest, tB, tOp, tUn, tVar, tC, rI0, rI, rU, CMul, CDiv, CPow, L2.start, tRet, tRetN, tNext, tAsg, gName, tDrop, tCons, tNil, tTup, tLst, tTupN, tLstN, tCB, tCall, tIf, tAnd, tOr, tNot, tAndV, tOrV, tNotV, tIsN, tNotN, tApp, tExt, upT, upS, up, rEq, rNe, scal, tAug, ipI, tPart, tNoPart, tSl, tChain, wipe, tYes, tBreak, tCont, cxK, rNeD, rEqD, rIsD, rIxW, rIxE, rLenD, rSlD, rCatD, rTupD, rListW, tFld, sFld, List.map_cons, List.map_nil, List.length_cons, List.length_nil, List.replicate, List.cons_append, List.nil_append, List.append_nil, List.getElem?_cons_zero, List.getElem?_cons_succ, List.set_cons_zero, List.set_cons_succ, Nat.reduceAdd, Nat.reduceSub, Option.some.injEq, V.int.injEq, V.bl.injEq, V.str.injEq, V.ref.injEq, V.ty.injEq, List.cons.injEq, exists_eq_left, exists_eq_left', exists_eq_right, exists_and_left, and_true, true_and, and_assoc, decide_eq_true_eq, Bool.not_eq_true', decide_eq_false_iff_not, Bool.not_not, reduceCtorEq, false_and, and_false, or_false, false_or, exists_const, false_implies, implies_true, if_false, if_true, Bool.false_eq_true, eq_self, forall_eq', exists_false, decide_true, decide_false, ite_true, ite_false, not_true_eq_false, not_false_eq_true, or_true, true_or, gSub, rSetL, gTup, gCons, gNil, rIxH, rIxS, rLenH, HO.lst.injEq, HO.tup.injEq, atI_0, atI_1, atI_2, ixN_31, ixN_32, Int.reduceNeg, Int.reducePow, Int.reduceLT, Int.reduceLE, Nat.reducePow, Nat.reduceLT, Nat.reduceLeDiff, Int.reduceToNat, Int.reduceAbs, sizeLine_eq, Nat.le_refl, Nat.zero_le, Int.reduceMul, Int.reduceAdd, Int.reduceSub, exists_eq', exists_eq, tBM, tyV_str, tDKN, tDTN, tFor_eq, tLc_eq, iRng1, iRng2, iTup, iList, iEnumT_eq]
      rw [List.length_map] at g2
      have shf := sh.paintK ro runs.length
      exact ⟨⟨_, SqL.of y2.lst⟩, grid_fin (by simp) y2 g2 (by rw [shf.len]; exact hs1) fun D acc H3 s3 hD hA => ⟨_, immA_map imm_rowD _, .inl ⟨D, rfl, acc, hD, hA⟩, fun v H4 s4 hv => q v H4 (Same.trans y2.same (Same.trans s3 s4)) hv⟩⟩
end
end K63
namespace K63
open PySem PySem.Spec PyProof.Rows L2 Ds
-- imports A63 B63e B63f
/-! painting the runs that differ makes the other screen -/
def cell (sc : List (List Tile)) (j k : Nat) : Option Tile := (sc.getD j [])[k]?
theorem getD_of {α : Type} {l : List (List α)} {j : Nat} {r : List α} (h : l[j]? = some r) : l.getD j [] = r := by
  rw [List.getD_eq_getElem?_getD, h]; rfl
theorem cell_put1 {sc : List (List Tile)} {row c : Nat} {t : Tile} (hr : row < sc.length) (hc : c < (sc.getD row []).length) (j k : Nat) :
    cell (put1 sc row c t) j k = if j = row ∧ k = c then some t else cell sc j k := by
  unfold cell put1
  by_cases e : j = row
  · subst e
    rw [getD_of (List.getElem?_set_self hr)]
    by_cases f : k = c
    · subst f
      rw [if_pos ⟨rfl, rfl⟩, List.getElem?_set_self hc]
    · rw [if_neg (fun z => f z.2), List.getElem?_set_ne (Ne.symm f)]
  · rw [if_neg (fun z => e z.1)]
    rw [List.getD_eq_getElem?_getD, List.getElem?_set_ne (Ne.symm e), ← List.getD_eq_getElem?_getD]
theorem Shape.rowlen {wi hi : Nat} {sc : List (List Tile)} (h : Shape wi hi sc) {j : Nat} (hj : j < hi) : (sc.getD j []).length = wi := by
  have hj' : j < sc.length := by rw [h.len]; exact hj
  rw [getD_of (List.getElem?_eq_getElem hj')]
  exact (h.row _ (List.getElem_mem hj')).1
theorem cell_putN {wi hi : Nat} {sc : List (List Tile)} (h : Shape wi hi sc) {row c : Nat} {ts : List Tile} (hr : row < hi) (hc : c + ts.length ≤ wi) (ht : ∀ t ∈ ts, okT t) :
    ∀ (n : Nat), n ≤ ts.length → ∀ j k, cell (putN sc row c ts n) j k = if j = row ∧ c ≤ k ∧ k < c + n then ts[k - c]? else cell sc j k
  | 0, _, j, k => by
    rw [if_neg (by omega)]; rfl
  | n + 1, hn, j, k => by
    have ih := cell_putN h hr hc ht n (by omega)
    have sh := h.putN (row := row) (c := c) ht n
    have hg : ts[n]? = some ts[n] := List.getElem?_eq_getElem (by omega)
    have e : putN sc row c ts (n + 1) = put1 (putN sc row c ts n) row (c + n) ts[n] := by
      show (match ts[n]? with | some t => _ | none => _) = _
      rw [hg]
    rw [e, cell_put1 (by rw [sh.len]; exact hr) (by rw [sh.rowlen hr]; omega), ih]
    by_cases f : j = row ∧ k = c + n
    · rw [if_pos f, if_pos (by omega)]
      have : k - c = n := by omega
      rw [this, hg]
    · rw [if_neg f]
      by_cases g : j = row ∧ c ≤ k ∧ k < c + n
      · rw [if_pos g, if_pos (by omega)]
      · rw [if_neg g, if_neg (by omega)]
theorem cell_ext {wi hi : Nat} {a b : List (List Tile)} (ha : Shape wi hi a) (hb : Shape wi hi b) (h : ∀ j k, j < hi → k < wi → cell a j k = cell b j k) : a = b := by
  refine List.ext_getElem (by rw [ha.len, hb.len]) fun j h1 h2 => ?_
  have hj : j < hi := by rw [← ha.len]; exact h1
  have ra := ha.row _ (List.getElem_mem h1)
  have rb := hb.row _ (List.getElem_mem h2)
  refine List.ext_getElem? fun k => ?_
  by_cases hk : k < wi
  · have q := h j k hj hk
    unfold cell at q
    rw [getD_of (List.getElem?_eq_getElem h1), getD_of (List.getElem?_eq_getElem h2)] at q
    exact q
  · rw [List.getElem?_eq_none (by omega), List.getElem?_eq_none (by omega)]
theorem seg_inv (d : Nat → Bool) (n : Nat) : ∀ k, k ≤ n + 1 → (∀ p ∈ (seg d n k).1, p.1 < p.2 ∧ p.2 ≤ n) ∧ (seg d n k).2 ≤ k ∧ ∀ j, j < k → j < n → d j = true → (∃ p ∈ (seg d n k).1, p.1 ≤ j ∧ j < p.2) ∨ (seg d n k).2 ≤ j
  | 0, _ => ⟨fun p h => by simp [seg] at h, Nat.le_refl _, fun j h => by omega⟩
  | k + 1, hk => by
    obtain ⟨h1, h2, h3⟩ := seg_inv d n k (by omega)
    by_cases e : k < n ∧ d k = true
    · have es : seg d n (k + 1) = seg d n k := by
        show (if k < n ∧ d k = true then _ else _) = _
        rw [if_pos e]
      rw [es]
      refine ⟨h1, by omega, fun j a b c => ?_⟩
      by_cases f : j < k
      · exact h3 j f b c
      · exact .inr (by omega)
    · rw [seg_shut e]
      refine ⟨fun p hp => ?_, Nat.le_refl _, fun j a b c => .inl ?_⟩
      · by_cases f : (seg d n k).2 < k
        · rw [if_pos f] at hp
          rcases List.mem_append.mp hp with q | q
          · exact h1 _ q
          · simp only [List.mem_singleton] at q
            rw [q]
            exact ⟨f, by show k ≤ n; omega⟩
        · rw [if_neg f] at hp
          exact h1 _ hp
      · have jk : j < k := by
          by_cases g : j = k
          · subst g; exact absurd ⟨b, c⟩ e
          · omega
        rcases h3 j jk b c with ⟨p, hp, q⟩ | q
        · refine ⟨p, ?_, q⟩
          show p ∈ (if (seg d n k).2 < k then _ else _ : List (Nat × Nat))
          split
          · exact List.mem_append_left _ hp
          · exact hp
        · refine ⟨((seg d n k).2, k), ?_, q, jk⟩
          show _ ∈ (if (seg d n k).2 < k then _ else _ : List (Nat × Nat))
          rw [if_pos (by omega)]
          exact List.mem_append_right _ (by simp)
/-- what is true of the runs of one row -/
theorem runsRow_in {j : Nat} {old new : List Tile} {r : Run} (h : r ∈ runsRow j old new) : r.1 = j ∧ r.2.1 + r.2.2.length ≤ new.length ∧ 0 < r.2.2.length ∧ ∀ k, r.2.1 ≤ k → k < r.2.1 + r.2.2.length → r.2.2[k - r.2.1]? = new[k]? := by
  unfold runsRow at h
  obtain ⟨p, hp, rfl⟩ := List.mem_map.mp h
  have q := (seg_inv (diff old new) new.length (new.length + 1) (Nat.le_refl _)).1 p hp
  have hl : (cutRun j new p).2.2.length = p.2 - p.1 := by
    show ((new.drop p.1).take (p.2 - p.1)).length = _
    rw [List.length_take, List.length_drop]; omega
  refine ⟨rfl, by rw [hl]; show p.1 + _ ≤ _; omega, by rw [hl]; omega, fun k a b => ?_⟩
  rw [hl] at b
  have a' : p.1 ≤ k := a
  have b' : k < p.1 + (p.2 - p.1) := b
  show ((new.drop p.1).take (p.2 - p.1))[k - p.1]? = _
  rw [List.getElem?_take_of_lt (by omega), List.getElem?_drop]
  congr 1
  omega
theorem runsRow_all {j : Nat} {old new : List Tile} {k : Nat} (hk : k < new.length) (hd : old[k]? ≠ new[k]?) : ∃ r ∈ runsRow j old new, r.2.1 ≤ k ∧ k < r.2.1 + r.2.2.length := by
  have q := (seg_inv (diff old new) new.length (new.length + 1) (Nat.le_refl _))
  have e : (seg (diff old new) new.length (new.length + 1)).2 = new.length + 1 := by rw [seg_shut (by omega)]
  rcases q.2.2 k (by omega) hk (by simpa [diff] using hd) with ⟨p, hp, h1, h2⟩ | h
  · have hq := q.1 p hp
    refine ⟨cutRun j new p, List.mem_map.mpr ⟨p, hp, rfl⟩, h1, ?_⟩
    have hl : (cutRun j new p).2.2.length = p.2 - p.1 := by
      show ((new.drop p.1).take (p.2 - p.1)).length = _
      rw [List.length_take, List.length_drop]; omega
    rw [hl]
    show k < p.1 + _
    omega
  · omega
theorem mem_due {old new : List (List Tile)} {n : Nat} {r : Run} : r ∈ dueUp old new n ↔ ∃ j, j < n ∧ r ∈ runsRow j (old.getD j []) (new.getD j []) := by
  unfold dueUp
  rw [List.mem_flatMap]
  constructor
  · rintro ⟨j, hj, h⟩; exact ⟨j, List.mem_range.mp hj, h⟩
  · rintro ⟨j, hj, h⟩; exact ⟨j, List.mem_range.mpr hj, h⟩
theorem mem_cut {j : Nat} {old new : List Tile} {r : Run} (h : r ∈ runsRow j old new) : ∀ t ∈ r.2.2, t ∈ new := by
  obtain ⟨p, hp, rfl⟩ := List.mem_map.mp h
  intro t ht
  exact List.mem_of_mem_drop (List.mem_of_mem_take ht)
theorem due_ok {wi hi : Nat} {old new : List (List Tile)} (hn : Shape wi hi new) : RunsOk wi hi (dueL old new) := by
  intro r hr
  obtain ⟨j, hj, h⟩ := mem_due.mp hr
  have hj' : j < hi := by rw [← hn.len]; exact hj
  obtain ⟨h1, h2, _, _⟩ := runsRow_in h
  rw [hn.rowlen hj'] at h2
  refine ⟨by rw [h1]; exact hj', h2, fun t ht => ?_⟩
  have := mem_cut h t ht
  rw [getD_of (List.getElem?_eq_getElem hj)] at this
  exact (hn.row _ (List.getElem_mem hj)).2 t this
theorem RunsOk.sub {wi hi : Nat} {rs ss : List Run} (h : RunsOk wi hi rs) (s : ∀ r ∈ ss, r ∈ rs) : RunsOk wi hi ss := fun r hr => h r (s r hr)
def covers (r : Run) (j k : Nat) : Prop := j = r.1 ∧ r.2.1 ≤ k ∧ k < r.2.1 + r.2.2.length
theorem paintK_due {wi hi : Nat} {old new : List (List Tile)} (ho : Shape wi hi old) (hn : Shape wi hi new) : ∀ i j k, (∃ r ∈ (dueL old new).take i, covers r j k) → cell (paintK old (dueL old new) i) j k = cell new j k := by
  intro i
  have ro := due_ok (old := old) hn
  induction i with
  | zero => rintro j k ⟨r, hr, _⟩; simp at hr
  | succ i ih =>
    intro j k h
    cases e : (dueL old new)[i]? with
    | none =>
      have hl : (dueL old new).length ≤ i := List.getElem?_eq_none_iff.mp e
      have e2 : paintK old (dueL old new) (i + 1) = paintK old (dueL old new) i := by
        show (match (dueL old new)[i]? with | some r => _ | none => _) = _
        rw [e]
      rw [e2]
      refine ih j k ?_
      obtain ⟨r, hr, c⟩ := h
      rw [List.take_of_length_le (by omega)] at hr
      exact ⟨r, by rw [List.take_of_length_le hl]; exact hr, c⟩
    | some r =>
      have e2 : paintK old (dueL old new) (i + 1) = putN (paintK old (dueL old new) i) r.1 r.2.1 r.2.2 r.2.2.length := by
        show (match (dueL old new)[i]? with | some r => _ | none => _) = _
        rw [e]
      have hr := List.mem_of_getElem? e
      have rr := ro r hr
      rw [e2, cell_putN (ho.paintK ro i) rr.1 rr.2.1 rr.2.2 _ (Nat.le_refl _)]
      by_cases f : j = r.1 ∧ r.2.1 ≤ k ∧ k < r.2.1 + r.2.2.length
      · rw [if_pos f]
        obtain ⟨j', hj', h'⟩ := mem_due.mp hr
        obtain ⟨h1, _, _, h4⟩ := runsRow_in h'
        rw [h4 k f.2.1 f.2.2, f.1, h1]
        rfl
      · rw [if_neg f]
        refine ih j k ?_
        obtain ⟨s, hs, c⟩ := h
        have et : (dueL old new).take (i + 1) = (dueL old new).take i ++ [r] := by rw [List.take_succ, e]; rfl
        rw [et] at hs
        rcases List.mem_append.mp hs with q | q
        · exact ⟨s, q, c⟩
        · simp only [List.mem_singleton] at q
          subst q
          exact absurd c f
theorem paintK_else {wi hi : Nat} {old : List (List Tile)} {runs : List Run} (ho : Shape wi hi old) (ro : RunsOk wi hi runs) : ∀ i j k, (¬ ∃ r ∈ runs, covers r j k) → cell (paintK old runs i) j k = cell old j k := by
  intro i
  induction i with
  | zero => intro j k _; rfl
  | succ i ih =>
    intro j k h
    cases e : runs[i]? with
    | none =>
      have e2 : paintK old runs (i + 1) = paintK old runs i := by
        show (match runs[i]? with | some r => _ | none => _) = _
        rw [e]
      rw [e2]; exact ih j k h
    | some r =>
      have e2 : paintK old runs (i + 1) = putN (paintK old runs i) r.1 r.2.1 r.2.2 r.2.2.length := by
        show (match runs[i]? with | some r => _ | none => _) = _
        rw [e]
      have hr := List.mem_of_getElem? e
      have rr := ro r hr
      rw [e2, cell_putN (ho.paintK ro i) rr.1 rr.2.1 rr.2.2 _ (Nat.le_refl _), if_neg (show ¬ (j = r.1 ∧ r.2.1 ≤ k ∧ k < r.2.1 + r.2.2.length) from fun f => h ⟨r, hr, f⟩)]
      exact ih j k h
/-- THE LAW: painted(one, paints(one, other)) is other -/
theorem paint_due {wi hi : Nat} {old new : List (List Tile)} (ho : Shape wi hi old) (hn : Shape wi hi new) : paintL old (dueL old new) = new := by
  have ro := due_ok (old := old) hn
  refine cell_ext (ho.paintK ro _) hn fun j k hj hk => ?_
  by_cases h : ∃ r ∈ dueL old new, covers r j k
  · exact paintK_due ho hn _ j k (by rw [List.take_length]; exact h)
  · have e0 : cell (paintL old (dueL old new)) j k = cell old j k := paintK_else ho ro _ j k h
    rw [e0]
    by_cases e : cell old j k = cell new j k
    · exact e
    · refine absurd ?_ h
      have hj2 : j < new.length := by rw [hn.len]; exact hj
      obtain ⟨r, hr, c1, c2⟩ := runsRow_all (j := j) (old := old.getD j []) (new := new.getD j []) (k := k) (by rw [hn.rowlen hj]; exact hk) e
      exact ⟨r, mem_due.mpr ⟨j, hj2, hr⟩, (runsRow_in hr).1.symm, c1, c2⟩
theorem Shape.twin {wi hi : Nat} {old new : List (List Tile)} (ho : Shape wi hi old) (hn : Shape wi hi new) (h1 : hi ≤ 100) (h2 : wi ≤ 100) : Twin old new where
  len := by rw [ho.len, hn.len]
  high := by rw [hn.len]; exact h1
  row := fun j r s e1 e2 => by rw [(ho.row _ (List.mem_of_getElem? e1)).1, (hn.row _ (List.mem_of_getElem? e2)).1]
  wide := fun r hr => by rw [(hn.row r hr).1]; exact h2
  ok1 := fun r hr => (ho.row r hr).2
  ok2 := fun r hr => (hn.row r hr).2
theorem due_len {wi hi : Nat} {old new : List (List Tile)} (hn : Shape wi hi new) (h1 : hi ≤ 100) (h2 : wi ≤ 100) : (dueL old new).length ≤ 10100 := by
  have := dueUp_len (old := old) (new := new) (fun r hr => by rw [(hn.row r hr).1]; exact h2) new.length
  have e := hn.len
  unfold dueL
  have : 101 * new.length ≤ 101 * 100 := Nat.mul_le_mul_left _ (by omega)
  omega
theorem due_self (a : List (List Tile)) : dueL a a = [] := by
  refine List.eq_nil_iff_forall_not_mem.mpr fun r hr => ?_
  obtain ⟨j, hj, h⟩ := mem_due.mp hr
  have q : ∀ k, (seg (diff (a.getD j []) (a.getD j [])) (a.getD j []).length k).1 = [] ∧ (seg (diff (a.getD j []) (a.getD j [])) (a.getD j []).length k).2 = k := fun k => by
    induction k with
    | zero => exact ⟨rfl, rfl⟩
    | succ k ih =>
      rw [seg_shut (by simp [diff]), ih.1, ih.2]
      simp
  unfold runsRow at h
  rw [(q _).1] at h
  simp at h
end K63
namespace K63
open PySem PySem.Spec PyProof.Rows L2 Ds
-- imports A63 B63b B63d M63
abbrev s_law_strokes : Stmt := top 62
theorem sc__law_strokes : FnScope ["pool", "screen", "other", "strokes", "turn", "j", "begin", "end"] ["pool", "screen", "other"] (C8.fnScope s_law_strokes) := C8.fnScope_by (by decide +kernel)
section
variable {P : Program} {w : World} {K : Fr} {mg : Str → Option Value} {base : Heap}
theorem RunsOk.nil {wi hi : Nat} : RunsOk wi hi [] := fun r h => by cases h
theorem RunsOk.snoc {wi hi : Nat} {rs : List Run} {r : Run} (h : RunsOk wi hi rs) (h1 : r.1 < hi) (h2 : r.2.1 + r.2.2.length ≤ wi) (h3 : ∀ t ∈ r.2.2, okT t) : RunsOk wi hi (rs ++ [r]) := fun s hs => by
  rcases List.mem_append.mp hs with q | q
  · exact h s q
  · simp only [List.mem_singleton] at q
    subst q
    exact ⟨h1, h2, h3⟩
def spStrokes (K : Fr) : Sp := fun vs H Q _ => ∃ (p : Addr) (x y : V) (a b : List (List Tile)) (wi hi : Nat), vs = [.ref p, x, y] ∧ Pool H p ∧ Dp K H x (scrD a) ∧ Dp K H y (scrD b) ∧ Shape wi hi a ∧ Shape wi hi b ∧ 1 ≤ wi ∧ 1 ≤ hi ∧
  ∀ runs v H', RunsOk wi hi runs → runs.length ≤ 6 → PK p H H' → Dp K H' v (.tuple (runs.map runD)) → Q v H'
theorem ok_strokes (T : Txt K mg) : C8.Cal P w K mg base 2 "_law_strokes" (spStrokes K) [] := by
  have C__law_next := ok_next (P := P) (w := w) (base := base) T
  refine cal_of T.f_law_strokes .nil sc__law_strokes (fun vs H Q E h => ?_) (fun f cdv A outer s H vs Q E hr h => ?_)
  · obtain ⟨a, b, c, d, e, g, i, rfl, _⟩ := h; rfl
  · obtain ⟨p, x, y, a, b, wi, hi, rfl, hP, hx, hy, sa, sb, hw1, hh1, q⟩ := h
    have nd := sc__law_strokes.nd
    have hu := hu_of hr
    have hu0 := hu0_of hr
    have hu64 := hu64_of hr
    refine ⟨_, 
    (pss_cons (ps_set (i := 3) nd rfl (by first | exact Or.inl rfl | exact Or.inr rfl) (pe_lstN pa_nil))
    (pss_cons (ps_for PassesOwn.never rfl (pi_range1 rfl T.b_range (pa_cons (C8.pe_c C__law_next hr (by decide) rfl (pa_cons (pv 0) (pa_cons pe_int pa_nil))) pa_nil)) (pg_name (i := 4) nd rfl (by first | exact Or.inl rfl | exact Or.inr rfl)) 
        (pss_cons (ps_set (i := 5) nd rfl (by first | exact Or.inl rfl | exact Or.inr rfl) (C8.pe_c C__law_next hr (by decide) rfl (pa_cons (pv 0) (pa_cons (pe_callB (id := "len") (call_lenD' (K := K)) (by rfl) T.b_len PySem.boot_len (pa_cons (pv 1) pa_nil)) pa_nil))))
        (pss_cons (ps_set (i := 6) nd rfl (by first | exact Or.inl rfl | exact Or.inr rfl) (C8.pe_c C__law_next hr (by decide) rfl (pa_cons (pv 0) (pa_cons (pe_callB (id := "len") (call_lenD' (K := K)) (by rfl) T.b_len PySem.boot_len (pa_cons (pe_ix (ix_D (K := K)) (pv 1) pe_int (fun _ _ => rfl)) pa_nil)) pa_nil))))
        (pss_cons (ps_set (i := 7) nd rfl (by first | exact Or.inl rfl | exact Or.inr rfl) (pe_op op_add (pe_op op_add (pv 6) pe_int) (C8.pe_c C__law_next hr (by decide) rfl (pa_cons (pv 0) (pa_cons (pe_op op_sub (pe_callB (id := "len") (call_lenD' (K := K)) (by rfl) T.b_len PySem.boot_len (pa_cons (pe_ix (ix_D (K := K)) (pv 1) pe_int (fun _ _ => rfl)) pa_nil)) (pv 6)) pa_nil)))))
        (pss_one (ps_expr (pe_app (pv 3) (pe_tupN (pa_cons (pv 5) (pa_cons (pv 6) (pa_cons (pe_slice (sl_D (K := K)) (pe_ix (ix_D (K := K)) (pe_ix ix_H (pe_lstN (pa_cons (pv 1) (pa_cons (pv 2) pa_nil))) (C8.pe_c C__law_next hr (by decide) rfl (pa_cons (pv 0) (pa_cons pe_int pa_nil))) (fun _ _ => rfl)) (pv 5) (fun _ _ => rfl)) (po_some (pv 6)) (po_some (pv 7))) pa_nil)))))))))))
    (pss_cons (ps_if (PT.up (PW.pt (pw_and (pt_cmpR op_gt (pe_callB (id := "len") call_lenH (by rfl) T.b_len PySem.boot_len (pa_cons (pv 3) pa_nil)) pe_int (nomark _)) (pw_and1 (pt_cmpR op_eq (C8.pe_c C__law_next hr (by decide) rfl (pa_cons (pv 0) (pa_cons pe_int pa_nil))) pe_int (nomark _)))))) 
        (pss_one (ps_expr (pe_app (pv 3) (pe_tupN (pa_cons (pe_ix (ix_D (K := K)) (pe_ix ix_H (pv 3) pe_int (fun _ _ => rfl)) pe_int (fun _ _ => rfl)) (pa_cons (pe_ix (ix_D (K := K)) (pe_ix ix_H (pv 3) pe_int (fun _ _ => rfl)) pe_int (fun _ _ => rfl)) (pa_cons (pe_tupN (pa_cons (pe_tupN (pa_cons pe_str (pa_cons pe_int (pa_cons pe_int pa_nil)))) pa_nil)) pa_nil))))))) pss_nil)
    (pss_one (ps_ret (pe_callTy (T := "tuple") (call_tupD (K := K)) (by rfl) T.b_tuple (by decide +kernel) (pa_cons (pv 3) pa_nil))))))), ?_⟩
    simp only [tSeq, tIfS, tTest, tB, tOp, tUn, tVar, tC, rI0, rI, rU, CMul, CDiv, CPow, L2.start, tRet, tRetN, tNext, tAsg, gName, tDrop, tCons, tNil, tTup, tLst, tTupN, tLstN, tCB, tCall, tIf, tAnd, tOr, tNot, tAndV, tOrV, tNotV, tIsN, tNotN, tApp, tExt, upT, upS, up, rEq, rNe, scal, tAug, ipI, tPart, tNoPart, tSl, tChain, wipe, tYes, tBreak, tCont, cxK, rNeD, rEqD, rIsD, rIxW, rIxE, rLenD, rSlD, rCatD, rTupD, rListW, tFld, sFld, List.map_cons, List.map_nil, List.length_cons, List.length_nil, List.replicate, List.cons_append, List.nil_append, List.append_nil, List.getElem?_cons_zero, List.getElem?_cons_succ, List.set_cons_zero, List.set_cons_succ, Nat.reduceAdd, Nat.reduceSub, Option.some.injEq, V.int.injEq, V.bl.injEq, V.str.injEq, V.ref.injEq, V.ty.injEq, List.cons.injEq, exists_eq_left, exists_eq_left', exists_eq_right, exists_and_left, and_true, true_and, and_assoc, decide_eq_true_eq, Bool.not_eq_true', decide_eq_false_iff_not, Bool.not_not, reduceCtorEq, false_and, and_false, or_false, false_or, exists_const, false_implies, implies_true, if_false, if_true, Bool.false_eq_true, eq_self, forall_eq', exists_false, decide_true, decide_false, ite_true, ite_false, not_true_eq_false, not_false_eq_true, or_true, true_or, gSub, rSetL, gTup, gCons, gNil, rIxH, rIxS, rLenH, HO.lst.injEq, HO.tup.injEq, atI_0, atI_1, atI_2, ixN_31, ixN_32, Int.reduceNeg, Int.reducePow, Int.reduceLT, Int.reduceLE, Nat.reducePow, Nat.reduceLT, Nat.reduceLeDiff, Int.reduceToNat, Int.reduceAbs, sizeLine_eq, Nat.le_refl, Nat.zero_le, Int.reduceMul, Int.reduceAdd, Int.reduceSub, exists_eq', exists_eq, tBM, tyV_str, tDKN, tDTN, tFor_eq, tLc_eq, iRng1, iRng2, iTup, iList, iEnumT_eq]
    intro S H1 nS s1 e1
    have k1 : PK p H H1 := PK.same s1
    have Sp : S ≠ p := fun z => by
      obtain ⟨_, q2⟩ := hP.isLst
      rw [z, q2] at nS; cases nS
    refine ⟨p, 6, rfl, k1.pl hP, by decide, fun r H2 r0 r1 k2 => ⟨r, rfl, by omega, by omega, ?_⟩⟩
    obtain ⟨n, rfl⟩ : ∃ n : Nat, r = n := ⟨r.toNat, by omega⟩
    obtain ⟨Pv, hPv⟩ : ∃ Pv : Nat → SS → Hp → Prop, Pv = fun i σ H' => ∃ (runs : List Run) (xs : List V) (v4 v5 v6 v7 : Option V), σ = [some (.ref p), some x, some y, some (.ref S), v4, v5, v6, v7] ∧ H' S = some (.lst xs) ∧ DpAll K H' xs (runs.map runD) ∧ RunsOk wi hi runs ∧ runs.length ≤ i ∧ PK p H H' ∧ ∀ r ∈ runs, r.2.1 < wi := ⟨_, rfl⟩
    have put : ∀ (H' : Hp) (runs : List Run) (xs : List V) (r : Run) (v : V), H' S = some (.lst xs) → DpAll K H' xs (runs.map runD) → PK p H H' → Dp K H' v (runD r) → DpAll K (upd H' S (.lst (xs ++ [v]))) (xs ++ [v]) ((runs ++ [r]).map runD) ∧ PK p H (upd H' S (.lst (xs ++ [v]))) := fun H' runs xs r v hS hA kk hv => by
      refine ⟨?_, kk.wr hP nS⟩
      rw [List.map_append]
      exact DpA.append (DpA.tk (TK.lst hS) _ _ (immA_map imm_runD _) hA) (DpA.one (Dp.tk (TK.lst hS) _ _ (imm_runD r) hv))
    refine loop_range (n := n) (by omega) Pv (by rw [hPv]; exact ⟨[], [], _, _, _, _, rfl, k2.keep _ _ Sp e1, .nil, RunsOk.nil, Nat.zero_le _, k1.trans k2, fun _ h => nomatch h⟩) ?_ ?_
    · intro i σ H' hi' hp
      rw [hPv] at hp
      obtain ⟨runs, xs, v4, v5, v6, v7, rfl, hS, hA, ro, hl, kk, hlt⟩ := hp
      simp only [tSeq, tIfS, tTest, tB, tOp, tUn, tVar, tC, rI0, rI, rU, CMul, CDiv, CPow, L2.start, tRet, tRetN, tNext, tAsg, gName, tDrop, tCons, tNil, tTup, tLst, tTupN, tLstN, tCB, tCall, tIf, tAnd, tOr, tNot, tAndV, tOrV, tNotV, tIsN, tNotN, tApp, tExt, upT, upS, up, rEq, rNe, scal, tAug, ipI, tPart, tNoPart, tSl, tChain, wipe, tYes, tBreak, tCont, cxK, rNeD, rEqD, rIsD, rIxW, rIxE, rLenD, rSlD, rCatD, rTupD, rListW, tFld, sFld, List.map_cons, List.map_nil, List.length_cons, List.length_nil, List.replicate, List.cons_append, List.nil_append, List.append_nil, List.getElem?_cons_zero, List.getElem?_cons_succ, List.set_cons_zero, List.set_cons_succ, Nat.reduceAdd, Nat.reduceSub, Option.some.injEq, V.int.injEq, V.bl.injEq, V.str.injEq, V.ref.injEq, V.ty.injEq, List.cons.injEq, exists_eq_left, exists_eq_left', exists_eq_right, exists_and_left, and_true, true_and, and_assoc, decide_eq_true_eq, Bool.not_eq_true', decide_eq_false_iff_not, Bool.not_not, reduceCtorEq, false_and, and_false, or_false, false_or, exists_const, false_implies, implies_true, if_false, if_true, Bool.false_eq_true, eq_self, forall_eq', exists_false, decide_true, decide_false, ite_true, ite_false, not_true_eq_false, not_false_eq_true, or_true, true_or, gSub, rSetL, gTup, gCons, gNil, rIxH, rIxS, rLenH, HO.lst.injEq, HO.tup.injEq, atI_0, atI_1, atI_2, ixN_31, ixN_32, Int.reduceNeg, Int.reducePow, Int.reduceLT, Int.reduceLE, Nat.reducePow, Nat.reduceLT, Nat.reduceLeDiff, Int.reduceToNat, Int.reduceAbs, sizeLine_eq, Nat.le_refl, Nat.zero_le, Int.reduceMul, Int.reduceAdd, Int.reduceSub, exists_eq', exists_eq, tBM, tyV_str, tDKN, tDTN, tFor_eq, tLc_eq, iRng1, iRng2, iTup, iList, iEnumT_eq]
      have hx' := Dp.tk (kk.tk hP) _ _ (imm_scrD a) hx
      refine ⟨_, .inl hx', p, _, rfl, kk.pl hP, ?_⟩
      rw [List.length_map, sa.len]
      refine ⟨by omega, fun j H3 j0 j1 k3 => ?_⟩
      obtain ⟨j, rfl⟩ : ∃ n : Nat, j = n := ⟨j.toNat, by omega⟩
      have hP3 := k3.pl (kk.pl hP)
      have kk3 := kk.trans k3
      have hx3 := Dp.tk (kk3.tk hP) _ _ (imm_scrD a) hx
      have ha0 : 0 < a.length := by rw [sa.len]; exact hh1
      have gr : atI (a.map rowD) 0 = some (rowD a[0]) := atI_nat (j := 0) (by rw [List.getElem?_map, List.getElem?_eq_getElem ha0]; rfl)
      have hrl : (a[0].map tD).length = wi := by rw [List.length_map]; exact (sa.row _ (List.getElem_mem ha0)).1
      refine ⟨_, hx3, _, gr, fun v1 hv1 => ⟨_, .inl hv1, p, _, rfl, hP3, ?_⟩⟩
      rw [hrl]
      refine ⟨by omega, fun b0 H4 c0 c1 k4 => ⟨b0, rfl, ?_⟩⟩
      obtain ⟨b0, rfl⟩ : ∃ n : Nat, b0 = n := ⟨b0.toNat, by omega⟩
      have kk4 := kk3.trans k4
      have hP4 := k4.pl hP3
      have hx4 := Dp.tk (kk4.tk hP) _ _ (imm_scrD a) hx
      refine ⟨_, hx4, _, gr, fun v2 hv2 => ⟨_, .inl hv2, b0, rfl, p, _, rfl, hP4, ?_⟩⟩
      rw [hrl]
      refine ⟨by omega, fun l0 H5 d0 d1 k5 => ⟨l0, rfl, ?_⟩⟩
      obtain ⟨l0, rfl⟩ : ∃ n : Nat, l0 = n := ⟨l0.toNat, by omega⟩
      have kk5 := kk4.trans k5
      have hP5 := k5.pl hP4
      have hS5 := k5.keep _ _ Sp (k4.keep _ _ Sp (k3.keep _ _ Sp hS))
      refine ⟨⟨_, hS5⟩, fun D H6 nD s6 e6 => ?_⟩
      have kk6 := kk5.trans (PK.same s6)
      have hP6 := (PK.same s6).pl hP5
      have Dp' : D ≠ p := fun z => by
        obtain ⟨_, q2⟩ := hP5.isLst
        rw [z, q2] at nD; cases nD
      refine ⟨p, 2, rfl, hP6, by decide, fun z H7 z0 z1 k7 => ?_⟩
      have kk7 := kk6.trans k7
      have hP7 := k7.pl hP6
      have hD7 := k7.keep _ _ Dp' e6
      have hS7 := k7.keep _ _ Sp (s6 _ _ hS5)
      have hA7 : DpAll K H7 xs (runs.map runD) := DpA.tk ((((k3.trans k4).trans k5).trans ((PK.same s6).trans k7)).tk (kk.pl hP)) _ _ (immA_map imm_runD _) hA
      have hx7 := Dp.tk (kk7.tk hP) _ _ (imm_scrD a) hx
      have hy7 := Dp.tk (kk7.tk hP) _ _ (imm_scrD b) hy
      obtain ⟨sc, v, ss, hv, ez⟩ : ∃ (sc : List (List Tile)) (v : V), Shape wi hi sc ∧ Dp K H7 v (scrD sc) ∧ atI [x, y] z = some v := by
        rcases (show z = 0 ∨ z = 1 by omega) with rfl | rfl
        · exact ⟨a, x, sa, hx7, atI_0 _ _⟩
        · exact ⟨b, y, sb, hy7, atI_1 _ _ _⟩
      have hjs : j < sc.length := by rw [ss.len]; omega
      have gj : atI (sc.map rowD) ((j : Nat) : Int) = some (rowD sc[j]) := atI_nat (by rw [List.getElem?_map, List.getElem?_eq_getElem hjs]; rfl)
      have rsj := ss.row _ (List.getElem_mem hjs)
      refine ⟨_, z, rfl, hD7, v, ez, ?_⟩
      refine ⟨_, hv, _, rfl, _, gj, fun v3 hv3 => ⟨_, rfl, _, hv3, immA_tiles _, fun v4 H8 s8 hv4 t H9 nt s9 e9 => ⟨xs, ?_⟩⟩⟩
      have s79 := Same.trans s8 s9
      have hS9 := s79 _ _ hS7
      have kk9 := kk7.trans (PK.same s79)
      obtain ⟨c1, c2⟩ := put H9 runs xs (j, b0, (sc[j].drop b0).take (l0 + 1)) (.ref t) hS9 (DpA.same s79 _ _ hA7) kk9 (by
        refine .tup (SqT.of e9) (.cons (.int _) (.cons (.int _) (.cons ?_ .nil)))
        have ee : ((b0 : Int) + 1 + (l0 : Int)) = ((b0 + 1 + l0 : Nat) : Int) := by omega
        rw [ee, cutD_nat _ _ _ (by omega) (by rw [List.length_map, rsj.1]; omega)] at hv4
        have e2 : b0 + 1 + l0 - b0 = l0 + 1 := by omega
        rw [e2, ← List.map_drop, ← List.map_take] at hv4
        exact Dp.same s9 _ _ hv4)
      refine ⟨hS9, by rw [DpA.length hA, List.length_map]; omega, ?_⟩
      rw [hPv]
      refine ⟨_, _, _, _, _, _, rfl, upd_same, c1, ro.snoc ?_ ?_ ?_, by simp; omega, c2, ?_⟩
      · omega
      · show b0 + ((sc[j].drop b0).take (l0 + 1)).length ≤ wi
        rw [List.length_take, List.length_drop, rsj.1]; omega
      · intro t ht
        exact rsj.2 t (List.mem_of_mem_drop (List.mem_of_mem_take ht))
      · intro r hr
        rcases List.mem_append.mp hr with q | q
        · exact hlt r q
        · simp only [List.mem_singleton] at q
          subst q
          show b0 < wi
          omega
    · intro σ H' hp
      rw [hPv] at hp
      obtain ⟨runs, xs, v4, v5, v6, v7, rfl, hS, hA, ro, hl, kk, hlt⟩ := hp
      simp only [tSeq, tIfS, tTest, tB, tOp, tUn, tVar, tC, rI0, rI, rU, CMul, CDiv, CPow, L2.start, tRet, tRetN, tNext, tAsg, gName, tDrop, tCons, tNil, tTup, tLst, tTupN, tLstN, tCB, tCall, tIf, tAnd, tOr, tNot, tAndV, tOrV, tNotV, tIsN, tNotN, tApp, tExt, upT, upS, up, rEq, rNe, scal, tAug, ipI, tPart, tNoPart, tSl, tChain, wipe, tYes, tBreak, tCont, cxK, rNeD, rEqD, rIsD, rIxW, rIxE, rLenD, rSlD, rCatD, rTupD, rListW, tFld, sFld, List.map_cons, List.map_nil, List.length_cons, List.length_nil, List.replicate, List.cons_append, List.nil_append, List.append_nil, List.getElem?_cons_zero, List.getElem?_cons_succ, List.set_cons_zero, List.set_cons_succ, Nat.reduceAdd, Nat.reduceSub, Option.some.injEq, V.int.injEq, V.bl.injEq, V.str.injEq, V.ref.injEq, V.ty.injEq, List.cons.injEq, exists_eq_left, exists_eq_left', exists_eq_right, exists_and_left, and_true, true_and, and_assoc, decide_eq_true_eq, Bool.not_eq_true', decide_eq_false_iff_not, Bool.not_not, reduceCtorEq, false_and, and_false, or_false, false_or, exists_const, false_implies, implies_true, if_false, if_true, Bool.false_eq_true, eq_self, forall_eq', exists_false, decide_true, decide_false, ite_true, ite_false, not_true_eq_false, not_false_eq_true, or_true, true_or, gSub, rSetL, gTup, gCons, gNil, rIxH, rIxS, rLenH, HO.lst.injEq, HO.tup.injEq, atI_0, atI_1, atI_2, ixN_31, ixN_32, Int.reduceNeg, Int.reducePow, Int.reduceLT, Int.reduceLE, Nat.reducePow, Nat.reduceLT, Nat.reduceLeDiff, Int.reduceToNat, Int.reduceAbs, sizeLine_eq, Nat.le_refl, Nat.zero_le, Int.reduceMul, Int.reduceAdd, Int.reduceSub, exists_eq', exists_eq, tBM, tyV_str, tDKN, tDTN, tFor_eq, tLc_eq, iRng1, iRng2, iTup, iList, iEnumT_eq]
      have hP' := kk.pl hP
      have done : ∀ (H' : Hp) (runs : List Run) (xs : List V), H' S = some (.lst xs) → DpAll K H' xs (runs.map runD) → RunsOk wi hi runs → runs.length ≤ 6 → PK p H H' → ∃ x, immA x = true ∧ ((∃ ys, H' S = some (.lst ys) ∧ DpAll K H' ys x) ∨ Dp K H' (.ref S) (.tuple x)) ∧ ∀ v H'1, Same H' H'1 → Dp K H'1 v (.tuple x) → Q v H'1 :=
        fun H' runs xs hS hA ro hl kk => ⟨_, immA_map imm_runD _, .inl ⟨xs, hS, hA⟩, fun v H9 s9 hv => q runs v H9 ro hl (kk.trans (PK.same s9)) hv⟩
      refine ⟨fun b H9 => ∃ xs', H9 S = some (.lst xs) ∧ PK p H' H9 ∧ (b = true → runs ≠ []) ∧ xs' = xs, ⟨xs, hS, ?_⟩, ?_⟩
      · refine ite2 (fun hh => ⟨p, 2, rfl, hP', by decide, fun z H9 _ _ k9 => ⟨rfl, xs, k9.keep _ _ Sp hS, k9, fun _ e => ?_, rfl⟩⟩) (fun _ => ⟨xs, hS, PK.refl _, (fun z => Bool.noConfusion z), rfl⟩)
        subst e
        cases hA
        simp at hh
      · rintro b9 H9 ⟨_, hS9, k9, hne, _⟩
        have kk9 := kk.trans k9
        have hA9 := DpA.tk (k9.tk hP') _ _ (immA_map imm_runD _) hA
        refine ite2 (fun hb => ?_) (fun _ => done H9 runs xs hS9 hA9 ro (by omega) kk9)
        obtain ⟨r, rs, rfl⟩ := List.exists_cons_of_ne_nil (hne hb)
        cases hA9 with
        | @cons v vs d ds h1 h2 =>
        have hr0 := ro r List.mem_cons_self
        refine ⟨⟨_, hS9⟩, _, hS9, v, atI_0 _ _, _, h1, _, atI_0 _ _, fun u1 hu1 => ⟨_, hS9, v, atI_0 _ _, _, h1, _, atI_1 _ _ _, fun u2 hu2 => ?_⟩⟩
        intro t1 Ha na sA eA t2 Hb nb sB eB t3 Hc nc sC eC
        cases hu1
        cases hu2
        have s9c := Same.trans sA (Same.trans sB sC)
        have hSc := s9c _ _ hS9
        have kkc := kk9.trans (PK.same s9c)
        have ok1 : PyData.strOk (Str.ofString "z") = true := by decide +kernel
        have d3 : Dp K Hc (.ref t3) (runD (r.1, r.2.1, [(Str.ofString "z", 8, 7)])) :=
          .tup (SqT.of eC) (.cons (.int _) (.cons (.int _) (.cons (.tup (SqT.of (sC _ _ eB)) (.cons (.tup (SqT.of ((Same.trans sB sC) _ _ eA)) (.cons (.str _) (.cons (.int _) (.cons (.int _) .nil)))) .nil)) .nil)))
        obtain ⟨c1, c2⟩ := put Hc (r :: rs) (v :: vs) (r.1, r.2.1, [(Str.ofString "z", 8, 7)]) (.ref t3) hSc (DpA.same s9c _ _ (.cons h1 h2)) kkc d3
        refine ⟨_, hSc, ?_, done _ ((r :: rs) ++ [(r.1, r.2.1, [(Str.ofString "z", 8, 7)])]) _ upd_same c1 (ro.snoc hr0.1 ?_ ?_) ?_ c2⟩
        · rw [DpA.length hA, List.length_map]; omega
        · show r.2.1 + 1 ≤ wi
          have := hlt r List.mem_cons_self; omega
        · intro t ht
          simp only [List.mem_singleton] at ht
          subst ht; exact ok1
        · rw [List.length_append, List.length_singleton]; omega
end
end K63
namespace K63
open PySem PySem.Spec PyProof.Rows L2 Ds
-- imports A63 B63b B63d M63 B63g
abbrev s_law_text : Stmt := top 64
theorem sc__law_text : FnScope ["pool", "signs", "sort", "k"] ["pool"] (C8.fnScope s_law_text) := C8.fnScope_by (by decide +kernel)
abbrev s_law_pair : Stmt := top 63
theorem sc__law_pair : FnScope ["pool", "one", "other", "due", "k", "rest", "strokes"] ["pool", "one", "other"] (C8.fnScope s_law_pair) := C8.fnScope_by (by decide +kernel)
abbrev S := SX.S
def okC (c : Nat) : Prop := PyData.strOk (S [c]) = true
theorem strOk_S {cs : List Nat} : PyData.strOk (S cs) = true ↔ ∀ c ∈ cs, okC c := by
  unfold okC PyData.strOk
  simp [SX.S]
theorem joinL_ones : ∀ cs : List Nat, TL.joinL [] (cs.map fun c => [c]) = cs
  | [] => rfl
  | [c] => rfl
  | c :: d :: r => by
    show [c] ++ ([] ++ TL.joinL [] ((d :: r).map fun c => [c])) = _
    rw [joinL_ones (d :: r)]
    rfl
theorem join_ones (cs : List Nat) : Txt.join (Str.ofString "") (cs.map fun c => S [c]) = S cs := by
  have e := SX.join_S [] (cs.map fun c => [c])
  rw [List.map_map, joinL_ones] at e
  exact e
theorem sum_ones : ∀ cs : List Nat, ((cs.map fun c => S [c]).map (fun x => x.length)).sum = cs.length
  | [] => rfl
  | c :: cs => by
    rw [List.map_cons, List.map_cons, List.sum_cons, sum_ones cs, List.length_cons]
    show 1 + cs.length = _
    omega
section
variable {P : Program} {w : World} {K : Fr} {mg : Str → Option Value} {base : Heap}
def spText : Sp := fun vs H Q _ => ∃ (p : Addr), vs = [.ref p] ∧ Pool H p ∧ ∀ t H', PyData.strOk t = true → t.length ≤ 23 → PK p H H' → Q (.str t) H'
theorem ok_text (T : Txt K mg) : C8.Cal P w K mg base 2 "_law_text" spText [] := by
  have C__law_next := ok_next (P := P) (w := w) (base := base) T
  have C__law_signs := ok_signs (P := P) (w := w) (base := base) T
  refine cal_of T.f_law_text .nil sc__law_text (fun vs H Q E h => ?_) (fun f cdv A outer s H vs Q E hr h => ?_)
  · obtain ⟨a, rfl, _⟩ := h; rfl
  · obtain ⟨p, rfl, hP, q⟩ := h
    have nd := sc__law_text.nd
    have hu := hu_of hr
    have hu0 := hu0_of hr
    have hu64 := hu64_of hr
    refine ⟨_, 
    (pss_cons (ps_set (i := 1) nd rfl (by first | exact Or.inl rfl | exact Or.inr rfl) (pe_c0 C__law_signs hr (by decide) rfl))
    (pss_cons (ps_set (i := 2) nd rfl (by first | exact Or.inl rfl | exact Or.inr rfl) (pe_op op_add_str pe_str (pe_ix ix_str (pv 1) (C8.pe_c C__law_next hr (by decide) rfl (pa_cons (pv 0) (pa_cons pe_int pa_nil))) (fun _ _ => rfl))))
    (pss_one (ps_ret (pe_bm PySem.F.plainAttrs_str PySem.F.slot_str_join PySem.F.type_str_join mt_join pe_str (pa_cons (pe_lc (own := [("k", 3)]) rfl nd (pi_range1 rfl T.b_range (pa_cons (C8.pe_c C__law_next hr (by decide) rfl (pa_cons (pv 0) (pa_cons pe_int pa_nil))) pa_nil)) (blkOk_by (own := [("k", 3)]) (by first | decide +kernel | kernel_rfl | rfl)) (fun _ _ _ _ _ => (pg_name (i := 3) nd rfl (by first | exact Or.inl rfl | exact Or.inr rfl))) (fun _ _ _ _ _ => pts_nil) (fun _ _ _ _ _ => (pe_ix ix_str (pv 2) (C8.pe_c C__law_next hr (by decide) rfl (pa_cons (pv 0) (pa_cons (pe_callB (id := "len") call_len_str (by rfl) T.b_len PySem.boot_len (pa_cons (pv 2) pa_nil)) pa_nil))) (fun _ _ => rfl)))) pa_nil)))))), ?_⟩
    simp only [tSeq, tIfS, tTest, tB, tOp, tUn, tVar, tC, rI0, rI, rU, CMul, CDiv, CPow, L2.start, tRet, tRetN, tNext, tAsg, gName, tDrop, tCons, tNil, tTup, tLst, tTupN, tLstN, tCB, tCall, tIf, tAnd, tOr, tNot, tAndV, tOrV, tNotV, tIsN, tNotN, tApp, tExt, upT, upS, up, rEq, rNe, scal, tAug, ipI, tPart, tNoPart, tSl, tChain, wipe, tYes, tBreak, tCont, cxK, rNeD, rEqD, rIsD, rIxW, rIxE, rLenD, rSlD, rCatD, rTupD, rListW, tFld, sFld, List.map_cons, List.map_nil, List.length_cons, List.length_nil, List.replicate, List.cons_append, List.nil_append, List.append_nil, List.getElem?_cons_zero, List.getElem?_cons_succ, List.set_cons_zero, List.set_cons_succ, Nat.reduceAdd, Nat.reduceSub, Option.some.injEq, V.int.injEq, V.bl.injEq, V.str.injEq, V.ref.injEq, V.ty.injEq, List.cons.injEq, exists_eq_left, exists_eq_left', exists_eq_right, exists_and_left, and_true, true_and, and_assoc, decide_eq_true_eq, Bool.not_eq_true', decide_eq_false_iff_not, Bool.not_not, reduceCtorEq, false_and, and_false, or_false, false_or, exists_const, false_implies, implies_true, if_false, if_true, Bool.false_eq_true, eq_self, forall_eq', exists_false, decide_true, decide_false, ite_true, ite_false, not_true_eq_false, not_false_eq_true, or_true, true_or, gSub, rSetL, gTup, gCons, gNil, rIxH, rIxS, rLenH, HO.lst.injEq, HO.tup.injEq, atI_0, atI_1, atI_2, ixN_31, ixN_32, Int.reduceNeg, Int.reducePow, Int.reduceLT, Int.reduceLE, Nat.reducePow, Nat.reduceLT, Nat.reduceLeDiff, Int.reduceToNat, Int.reduceAbs, sizeLine_eq, Nat.le_refl, Nat.zero_le, Int.reduceMul, Int.reduceAdd, Int.reduceSub, exists_eq', exists_eq, tBM, tyV_str, tDKN, tDTN, tFor_eq, tLc_eq, iRng1, iRng2, iTup, iList, iEnumT_eq]
    refine ⟨rfl, p, 95, rfl, hP, by decide, fun r H1 r0 r1 k1 => ?_⟩
    obtain ⟨c, hc, hcok⟩ := sign_at (i := r) r0 r1
    refine ⟨_, rfl, r, rfl, by rw [signs_len]; decide, c, hc, ?_, ?_⟩
    · show (Str.ofString "ab \n").length + 1 ≤ 16777216
      decide
    have ez : Str.ofString "ab \n" ++ ⟨#[c]⟩ = S [97, 98, 32, 10, c] := by
      have e0 : Str.ofString "ab \n" = S [97, 98, 32, 10] := by decide +kernel
      rw [e0]; rfl
    have okz : ∀ d ∈ [97, 98, 32, 10, c], okC d := by
      intro d hd
      simp only [List.mem_cons, List.not_mem_nil, or_false] at hd
      rcases hd with rfl | rfl | rfl | rfl | rfl
      · show PyData.strOk _ = true; decide +kernel
      · show PyData.strOk _ = true; decide +kernel
      · show PyData.strOk _ = true; decide +kernel
      · show PyData.strOk _ = true; decide +kernel
      · exact hcok
    refine ⟨p, 24, rfl, k1.pl hP, by decide, fun n H2 n0 n1 k2 => ⟨n, rfl, by omega, by omega, ?_⟩⟩
    rw [ez]
    obtain ⟨n, rfl⟩ : ∃ m : Nat, n = m := ⟨n.toNat, by omega⟩
    have kk := k1.trans k2
    have hP2 := kk.pl hP
    refine comp_range (n := n) (by omega) (fun D i H3 => ∃ cs : List Nat, H3 D = some (.lst (cs.map fun c => V.str (S [c]))) ∧ cs.length = i ∧ (∀ c ∈ cs, okC c) ∧ PK p H2 H3)
      (fun D hD => ⟨[], upd_same, rfl, (fun _ h => nomatch h), PK.same (Same.new hD)⟩) ?_ ?_
    · rintro D i H3 hD hi ⟨cs, hL, hl, hok, k3⟩
      refine ⟨rfl, ?_⟩
      show tOp rIxS (tVar 2) _ _ _ _
      have Dp' : D ≠ p := fun z => by
        obtain ⟨_, q2⟩ := hP2.isLst
        rw [z, q2] at hD; cases hD
      simp only [tSeq, tIfS, tTest, tB, tOp, tUn, tVar, tC, rI0, rI, rU, CMul, CDiv, CPow, L2.start, tRet, tRetN, tNext, tAsg, gName, tDrop, tCons, tNil, tTup, tLst, tTupN, tLstN, tCB, tCall, tIf, tAnd, tOr, tNot, tAndV, tOrV, tNotV, tIsN, tNotN, tApp, tExt, upT, upS, up, rEq, rNe, scal, tAug, ipI, tPart, tNoPart, tSl, tChain, wipe, tYes, tBreak, tCont, cxK, rNeD, rEqD, rIsD, rIxW, rIxE, rLenD, rSlD, rCatD, rTupD, rListW, tFld, sFld, List.map_cons, List.map_nil, List.length_cons, List.length_nil, List.replicate, List.cons_append, List.nil_append, List.append_nil, List.getElem?_cons_zero, List.getElem?_cons_succ, List.set_cons_zero, List.set_cons_succ, Nat.reduceAdd, Nat.reduceSub, Option.some.injEq, V.int.injEq, V.bl.injEq, V.str.injEq, V.ref.injEq, V.ty.injEq, List.cons.injEq, exists_eq_left, exists_eq_left', exists_eq_right, exists_and_left, and_true, true_and, and_assoc, decide_eq_true_eq, Bool.not_eq_true', decide_eq_false_iff_not, Bool.not_not, reduceCtorEq, false_and, and_false, or_false, false_or, exists_const, false_implies, implies_true, if_false, if_true, Bool.false_eq_true, eq_self, forall_eq', exists_false, decide_true, decide_false, ite_true, ite_false, not_true_eq_false, not_false_eq_true, or_true, true_or, gSub, rSetL, gTup, gCons, gNil, rIxH, rIxS, rLenH, HO.lst.injEq, HO.tup.injEq, atI_0, atI_1, atI_2, ixN_31, ixN_32, Int.reduceNeg, Int.reducePow, Int.reduceLT, Int.reduceLE, Nat.reducePow, Nat.reduceLT, Nat.reduceLeDiff, Int.reduceToNat, Int.reduceAbs, sizeLine_eq, Nat.le_refl, Nat.zero_le, Int.reduceMul, Int.reduceAdd, Int.reduceSub, exists_eq', exists_eq, tBM, tyV_str, tDKN, tDTN, tFor_eq, tLc_eq, iRng1, iRng2, iTup, iList, iEnumT_eq]
      refine ⟨by show (5 : Nat) ≤ 16777216; decide, p, 5, rfl, k3.pl hP2, by decide, fun m H4 m0 m1 k4 => ?_⟩
      obtain ⟨m, rfl⟩ : ∃ q : Nat, m = q := ⟨m.toNat, by omega⟩
      have hm : m < [97, 98, 32, 10, c].length := by simp; omega
      refine ⟨_, rfl, by show (5 : Nat) ≤ 16777216; decide, _, atI_nat (List.getElem?_eq_getElem hm), _, k4.keep _ _ Dp' hL, ?_, ?_⟩
      · rw [List.length_map]; have := sizeLine_eq; omega
      · refine ⟨cs ++ [[97, 98, 32, 10, c][m]], by rw [upd_same, List.map_append]; rfl, by rw [List.length_append, hl]; rfl, fun d hd => ?_, (k3.trans k4).wr hP2 hD⟩
        rcases List.mem_append.mp hd with h | h
        · exact hok d h
        · simp only [List.mem_singleton] at h
          rw [h]
          exact okz _ (List.getElem_mem hm)
    · rintro D H3 hD ⟨cs, hL, hl, hok, k3⟩
      refine ⟨D, rfl, cs.map (fun c => S [c]), .inl (SqL.of (by rw [hL, List.map_map]; rfl)), ?_, ?_⟩
      · have e1 := sum_ones cs
        rw [e1, List.length_map]
        have e2 : (Str.ofString "").length = 0 := rfl
        rw [e2]
        omega
      · rw [join_ones]
        exact q _ _ (strOk_S.mpr hok) (by rw [SX.S_len]; omega) (kk.trans k3)
end
end K63
namespace K63
open PySem PySem.Spec PyProof.Rows L2 Ds
-- imports A63 B63b B63c B63d B63e B63f M63 B63g B63h
theorem fits_mono : ∀ (n : Nat) (d : PyData), fits n d → fits (n + 1) d
  | 0, _, h => h.elim
  | n + 1, .tuple ds, h => ⟨h.1, fun d hd => fits_mono n d (h.2 d hd)⟩
  | n + 1, .list ds, h => ⟨h.1, fun d hd => fits_mono n d (h.2 d hd)⟩
  | n + 1, .dict _, h => h
  | n + 1, .none, h => trivial
  | n + 1, .bool _, h => trivial
  | n + 1, .int _, h => trivial
  | n + 1, .str _, h => trivial
theorem fits_tD (t : Tile) : fits 2 (tD t) := ⟨by show 3 ≤ 100000; decide, fun d hd => by
  simp only [List.mem_cons, List.not_mem_nil, or_false] at hd
  rcases hd with rfl | rfl | rfl <;> trivial⟩
theorem fits_rowD {r : List Tile} (h : r.length ≤ 1000) : fits 3 (rowD r) := ⟨by rw [List.length_map]; omega, fun d hd => by
  obtain ⟨t, _, rfl⟩ := List.mem_map.mp hd
  exact fits_tD t⟩
theorem fits_scrD {s : List (List Tile)} (h : s.length ≤ 1000) (h2 : ∀ r ∈ s, r.length ≤ 1000) : fits 5 (scrD s) := fits_mono 4 _ ⟨by rw [List.length_map]; omega, fun d hd => by
  obtain ⟨r, hr, rfl⟩ := List.mem_map.mp hd
  exact fits_rowD (h2 r hr)⟩
theorem fits_runs {s : List Run} (h : s.length ≤ 100000) (h2 : ∀ r ∈ s, r.2.2.length ≤ 1000) : fits 5 (.tuple (s.map runD)) := ⟨by rw [List.length_map]; exact h, fun d hd => by
  obtain ⟨r, hr, rfl⟩ := List.mem_map.mp hd
  refine ⟨by show 3 ≤ 100000; decide, fun d hd => ?_⟩
  simp only [List.mem_cons, List.not_mem_nil, or_false] at hd
  rcases hd with rfl | rfl | rfl
  · trivial
  · trivial
  · exact fits_rowD (h2 r hr)⟩
theorem Shape.fits {wi hi : Nat} {s : List (List Tile)} (h : Shape wi hi s) (h1 : hi ≤ 100) (h2 : wi ≤ 100) : fits 5 (scrD s) :=
  fits_scrD (by rw [h.len]; omega) fun r hr => by rw [(h.row r hr).1]; omega
theorem RunsOk.fits {wi hi : Nat} {s : List Run} (h : RunsOk wi hi s) (h1 : s.length ≤ 100000) (h2 : wi ≤ 100) : fits 5 (.tuple (s.map runD)) :=
  fits_runs h1 fun r hr => by have := (h r hr).2.1; omega
theorem cutD_to (ds : List PyData) (k : Nat) (h : k ≤ ds.length) : cutD ds none (some (k : Int)) = ds.take k := by
  unfold Ds.cutD
  rw [HT.sIx_none, HT.sIx_nat, Nat.min_eq_left h]
  simp
theorem cutD_from (ds : List PyData) (k : Nat) (h : k ≤ ds.length) : cutD ds (some (k : Int)) none = ds.drop k := by
  unfold Ds.cutD
  rw [HT.sIx_none, HT.sIx_nat, Nat.min_eq_left h]
  rw [List.take_of_length_le (by rw [List.length_drop]; omega)]
theorem Shape.paintL {wi hi : Nat} {sc : List (List Tile)} (h : Shape wi hi sc) {runs : List Run} (hr : RunsOk wi hi runs) : Shape wi hi (paintL sc runs) := h.paintK hr _
section
variable {P : Program} {w : World} {K : Fr} {mg : Str → Option Value} {base : Heap}
def spPair (K : Fr) : Sp := fun vs H Q _ => ∃ (p : Addr) (x y : V) (a b : List (List Tile)) (wi hi : Nat), vs = [.ref p, x, y] ∧ Pool H p ∧ Dp K H x (scrD a) ∧ Dp K H y (scrD b) ∧ Shape wi hi a ∧ Shape wi hi b ∧ 1 ≤ wi ∧ 1 ≤ hi ∧ wi ≤ 100 ∧ hi ≤ 100 ∧
  ∀ H', PK p H H' → Q (.bl true) H'
theorem ok_pair (T : Txt K mg) : C8.Cal P w K mg base 7 "_law_pair" (spPair K) [] := by
  have C__law_next := ok_next (P := P) (w := w) (base := base) T
  have C__law_due := ok_due (P := P) (w := w) (base := base) T
  have C__law_spread := ok_spread (P := P) (w := w) (base := base) T
  have C__law_strokes := ok_strokes (P := P) (w := w) (base := base) T
  have C__law_same := ok_same (P := P) (w := w) (base := base) T 5
  have C_paints := ok_paints (P := P) (w := w) (base := base) T
  have C_painted := ok_painted (P := P) (w := w) (base := base) T
  have CK_paints_new_old := (pr_paints (P := P) (w := w) (base := base) T).calk T.k_paints
  have CK_painted_runs_old := (pr_painted (P := P) (w := w) (base := base) T).calk T.k_painted
  refine cal_of T.f_law_pair .nil sc__law_pair (fun vs H Q E h => ?_) (fun f cdv A outer s H vs Q E hr h => ?_)
  · obtain ⟨a, b, c, d, e, g, i, rfl, _⟩ := h; rfl
  · obtain ⟨p, x, y, a, b, wi, hi, rfl, hP, hx, hy, sa, sb, hw1, hh1, hw2, hh2, q⟩ := h
    have nd := sc__law_pair.nd
    have hu := hu_of hr
    have hu0 := hu0_of hr
    have hu64 := hu64_of hr
    refine ⟨_, 
    (pss_cons (ps_set (i := 3) nd rfl (by first | exact Or.inl rfl | exact Or.inr rfl) (C8.pe_c C__law_due hr (by decide) rfl (pa_cons (pv 1) (pa_cons (pv 2) pa_nil))))
    (pss_cons (ps_if (PT.up (PW.pt (pw_or (pt_not (pt_val (C8.pe_c C__law_same hr (by decide) rfl (pa_cons (C8.pe_c C_paints hr (by decide) rfl (pa_cons (pv 1) (pa_cons (pv 2) pa_nil))) (pa_cons (pv 3) pa_nil))))) (pw_or1 (pt_not (pt_val (C8.pe_c C__law_same hr (by decide) rfl (pa_cons (pe_ck0 CK_paints_new_old hr (by decide) rfl (pk_cons (pv 2) (pk_cons (pv 1) pk_nil))) (pa_cons (pv 3) pa_nil))))))))) 
        (pss_one (ps_ret pe_bl)) pss_nil)
    (pss_cons (ps_if (PT.up (PW.pt (pw_or (pt_not (pt_val (C8.pe_c C__law_same hr (by decide) rfl (pa_cons (C8.pe_c C_painted hr (by decide) rfl (pa_cons (pv 1) (pa_cons (pv 3) pa_nil))) (pa_cons (pv 2) pa_nil))))) (pw_or1 (pt_not (pt_val (C8.pe_c C__law_same hr (by decide) rfl (pa_cons (C8.pe_c C_painted hr (by decide) rfl (pa_cons (pv 1) (pa_cons (pe_tupN pa_nil) pa_nil))) (pa_cons (pv 1) pa_nil))))))))) 
        (pss_one (ps_ret pe_bl)) pss_nil)
    (pss_cons (ps_if (pt_cmpR op_gt (pe_callB (id := "len") (call_lenD' (K := K)) (by rfl) T.b_len PySem.boot_len (pa_cons (pv 3) pa_nil)) pe_int (nomark _)) 
        (pss_cons (ps_set (i := 4) nd rfl (by first | exact Or.inl rfl | exact Or.inr rfl) (C8.pe_c C__law_next hr (by decide) rfl (pa_cons (pv 0) (pa_cons (pe_callB (id := "len") (call_lenD' (K := K)) (by rfl) T.b_len PySem.boot_len (pa_cons (pv 3) pa_nil)) pa_nil))))
        (pss_cons (ps_set (i := 5) nd rfl (by first | exact Or.inl rfl | exact Or.inr rfl) (pe_op (op_catD (K := K)) (pe_slice (sl_D (K := K)) (pv 3) po_none (po_some (pv 4))) (pe_slice (sl_D (K := K)) (pv 3) (po_some (pe_op op_add (pv 4) pe_int)) po_none)))
        (pss_one (ps_if (pt_not (pt_val (C8.pe_c C__law_same hr (by decide) rfl (pa_cons (C8.pe_c C_painted hr (by decide) rfl (pa_cons (pv 1) (pa_cons (pv 5) pa_nil))) (pa_cons (C8.pe_c C__law_spread hr (by decide) rfl (pa_cons (pv 1) (pa_cons (pv 5) pa_nil))) pa_nil))))) 
            (pss_one (ps_ret pe_bl)) pss_nil)))) pss_nil)
    (pss_cons (ps_set (i := 6) nd rfl (by first | exact Or.inl rfl | exact Or.inr rfl) (C8.pe_c C__law_strokes hr (by decide) rfl (pa_cons (pv 0) (pa_cons (pv 1) (pa_cons (pv 2) pa_nil)))))
    (pss_one (ps_ret (C8.pe_c C__law_same hr (by decide) rfl (pa_cons (pe_ck0 CK_painted_runs_old hr (by decide) rfl (pk_cons (pv 6) (pk_cons (pv 1) pk_nil))) (pa_cons (C8.pe_c C__law_spread hr (by decide) rfl (pa_cons (pv 1) (pa_cons (pv 6) pa_nil))) pa_nil)))))))))), ?_⟩
    simp only [tSeq, tIfS, tTest, tB, tOp, tUn, tVar, tC, rI0, rI, rU, CMul, CDiv, CPow, L2.start, tRet, tRetN, tNext, tAsg, gName, tDrop, tCons, tNil, tTup, tLst, tTupN, tLstN, tCB, tCall, tIf, tAnd, tOr, tNot, tAndV, tOrV, tNotV, tIsN, tNotN, tApp, tExt, upT, upS, up, rEq, rNe, scal, tAug, ipI, tPart, tNoPart, tSl, tChain, wipe, tYes, tBreak, tCont, cxK, rNeD, rEqD, rIsD, rIxW, rIxE, rLenD, rSlD, rCatD, rTupD, rListW, tFld, sFld, List.map_cons, List.map_nil, List.length_cons, List.length_nil, List.replicate, List.cons_append, List.nil_append, List.append_nil, List.getElem?_cons_zero, List.getElem?_cons_succ, List.set_cons_zero, List.set_cons_succ, Nat.reduceAdd, Nat.reduceSub, Option.some.injEq, V.int.injEq, V.bl.injEq, V.str.injEq, V.ref.injEq, V.ty.injEq, List.cons.injEq, exists_eq_left, exists_eq_left', exists_eq_right, exists_and_left, and_true, true_and, and_assoc, decide_eq_true_eq, Bool.not_eq_true', decide_eq_false_iff_not, Bool.not_not, reduceCtorEq, false_and, and_false, or_false, false_or, exists_const, false_implies, implies_true, if_false, if_true, Bool.false_eq_true, eq_self, forall_eq', exists_false, decide_true, decide_false, ite_true, ite_false, not_true_eq_false, not_false_eq_true, or_true, true_or, gSub, rSetL, gTup, gCons, gNil, rIxH, rIxS, rLenH, HO.lst.injEq, HO.tup.injEq, atI_0, atI_1, atI_2, ixN_31, ixN_32, Int.reduceNeg, Int.reducePow, Int.reduceLT, Int.reduceLE, Nat.reducePow, Nat.reduceLT, Nat.reduceLeDiff, Int.reduceToNat, Int.reduceAbs, sizeLine_eq, Nat.le_refl, Nat.zero_le, Int.reduceMul, Int.reduceAdd, Int.reduceSub, exists_eq', exists_eq, tBM, tyV_str, tDKN, tDTN, tFor_eq, tLc_eq, iRng1, iRng2, iTup, iList, iEnumT_eq, tCallN, List.reverse_cons, List.reverse_nil]
    have tw := sa.twin sb hh2 hw2
    have ro : RunsOk wi hi (dueL a b) := due_ok sb
    have dl : (dueL a b).length ≤ 10100 := due_len sb hh2 hw2
    have shE : Shape wi a.length a := by rw [sa.len]; exact sa
    have roE : ∀ {rs : List Run}, RunsOk wi hi rs → RunsOk wi a.length rs := fun h => by rw [sa.len]; exact h
    have al : a.length ≤ 1000 := by rw [sa.len]; omega
    refine ⟨x, y, a, b, rfl, hx, hy, tw, fun due H1 s1 hdue => ⟨fun b9 H9 => b9 = false ∧ Same H1 H9, ?_, ?_⟩⟩
    · refine ⟨x, y, a, b, rfl, Dp.same s1 _ _ hx, Dp.same s1 _ _ hy, tw, fun v2 H2 s2 hv2 => ?_⟩
      refine ⟨v2, due, _, rfl, ro.fits (by omega) hw2, hv2, Dp.same s2 _ _ hdue, fun H3 s3 => ⟨true, rfl, itN (by simp) ?_⟩⟩
      have s13 := Same.trans s2 s3
      have s03 := Same.trans s1 s13
      refine ⟨x, y, a, b, rfl, Dp.same s03 _ _ hx, Dp.same s03 _ _ hy, tw, fun v4 H4 s4 hv4 => ?_⟩
      exact ⟨v4, due, _, rfl, ro.fits (by omega) hw2, hv4, Dp.same (Same.trans s13 s4) _ _ hdue, fun H5 s5 => ⟨true, rfl, rfl, Same.trans s13 (Same.trans s4 s5)⟩⟩
    · rintro b9 H2 ⟨rfl, s12⟩
      refine itN (by simp) ?_
      have s02 := Same.trans s1 s12
      have hx2 := Dp.same s02 _ _ hx
      have hy2 := Dp.same s02 _ _ hy
      have hd2 := Dp.same s12 _ _ hdue
      refine ⟨fun b9 H9 => b9 = false ∧ Same H2 H9, ?_, ?_⟩
      · refine ⟨x, due, a, dueL a b, wi, rfl, hx2, hd2, shE, roE ro, al, by omega, fun v3 H3 s3 hv3 => ?_⟩
        rw [paint_due sa sb] at hv3
        refine ⟨v3, y, _, rfl, sb.fits hh2 hw2, hv3, Dp.same s3 _ _ hy2, fun H4 s4 => ⟨true, rfl, itN (by simp) fun e H5 ne s5 he => ?_⟩⟩
        have s25 := Same.trans s3 (Same.trans s4 s5)
        have hx5 := Dp.same s25 _ _ hx2
        refine ⟨x, .ref e, a, [], wi, rfl, hx5, .tup (SqT.of he) .nil, shE, (fun r h => nomatch h), al, by omega, fun v6 H6 s6 hv6 => ?_⟩
        exact ⟨v6, x, _, rfl, sa.fits hh2 hw2, hv6, Dp.same s6 _ _ hx5, fun H7 s7 => ⟨true, rfl, rfl, Same.trans s25 (Same.trans s6 s7)⟩⟩
      · rintro b9 H3 ⟨rfl, s23⟩
        refine itN (by simp) ?_
        have s03 := Same.trans s02 s23
        have hx3 := Dp.same s23 _ _ hx2
        have hy3 := Dp.same s23 _ _ hy2
        have hd3 := Dp.same s23 _ _ hd2
        have k3 : PK p H H3 := PK.same s03
        have tail : ∀ H4, PK p H H4 → spStrokes K [.ref p, x, y] H4 (fun x_3 H1 => spPainted K [x, x_3] H1 (fun x_4 H1 => spPainted K [x, x_3] H1 (fun x H1 => spSame K 5 [x_4, x] H1 Q C8.E0) C8.E0) C8.E0) C8.E0 := fun H4 k4 => by
          have hx4 := Dp.tk (k4.tk hP) _ _ (imm_scrD a) hx
          have hy4 := Dp.tk (k4.tk hP) _ _ (imm_scrD b) hy
          refine ⟨p, x, y, a, b, wi, hi, rfl, k4.pl hP, hx4, hy4, sa, sb, hw1, hh1, fun runs v5 H5 ro5 l5 k5 hv5 => ?_⟩
          have hx5 := Dp.tk (k5.tk (k4.pl hP)) _ _ (imm_scrD a) hx4
          refine ⟨x, v5, a, runs, wi, rfl, hx5, hv5, shE, roE ro5, al, by omega, fun v6 H6 s6 hv6 => ?_⟩
          refine ⟨x, v5, a, runs, wi, rfl, Dp.same s6 _ _ hx5, Dp.same s6 _ _ hv5, shE, roE ro5, al, by omega, fun v7 H7 s7 hv7 => ?_⟩
          exact ⟨v6, v7, _, rfl, (sa.paintL ro5).fits hh2 hw2, Dp.same s7 _ _ hv6, hv7, fun H8 s8 => q _ ((k4.trans k5).trans (PK.same (Same.trans s6 (Same.trans s7 s8))))⟩
        refine ⟨_, .inl hd3, ite2 (fun hd => ?_) (fun _ => tail H3 k3)⟩
        rw [List.length_map] at hd
        refine ⟨_, .inl hd3, p, _, rfl, k3.pl hP, ?_⟩
        rw [List.length_map]
        refine ⟨by omega, fun r H4 r0 r1 k4 => ?_⟩
        obtain ⟨r, rfl⟩ : ∃ n : Nat, r = n := ⟨r.toNat, by omega⟩
        have kk4 := k3.trans k4
        have hP3 := k3.pl hP
        have hd4 := Dp.tk (k4.tk hP3) (.tuple ((dueL a b).map runD)) _ (immA_map imm_runD _) hd3
        have hx4 := Dp.tk (k4.tk hP3) _ _ (imm_scrD a) hx3
        refine ⟨_, rfl, _, hd4, immA_map imm_runD _, fun v5 H5 s5 hv5 => ⟨_, rfl, _, Dp.same s5 _ _ hd4, immA_map imm_runD _, fun v6 H6 s6 hv6 => ?_⟩⟩
        have er : ((r : Int) + 1) = ((r + 1 : Nat) : Int) := by omega
        rw [er, cutD_from _ _ (by rw [List.length_map]; omega), ← List.map_drop] at hv6
        rw [cutD_to _ _ (by rw [List.length_map]; omega), ← List.map_take] at hv5
        refine ⟨_, Dp.same s6 _ _ hv5, _, hv6, immA_map imm_runD _, immA_map imm_runD _, by rw [List.length_map, List.length_map, List.length_take, List.length_drop]; omega, fun v7 H7 s7 hv7 => ?_⟩
        rw [← List.map_append] at hv7
        have rst : RunsOk wi hi ((dueL a b).take r ++ (dueL a b).drop (r + 1)) := ro.sub fun z hz => by
          rcases List.mem_append.mp hz with h | h
          · exact List.mem_of_mem_take h
          · exact List.mem_of_mem_drop h
        have s47 := Same.trans s5 (Same.trans s6 s7)
        have hx7 := Dp.same s47 _ _ hx4
        refine ⟨x, v7, a, _, wi, rfl, hx7, hv7, shE, roE rst, al, by omega, fun v8 H8 s8 hv8 => ?_⟩
        refine ⟨x, v7, a, _, wi, rfl, Dp.same s8 _ _ hx7, Dp.same s8 _ _ hv7, shE, roE rst, al, by omega, fun v9 H9 s9 hv9 => ?_⟩
        refine ⟨v8, v9, _, rfl, (sa.paintL rst).fits hh2 hw2, Dp.same s9 _ _ hv8, hv9, fun H10 s10 => ⟨true, rfl, itN (by simp) ?_⟩⟩
        exact tail H10 (kk4.trans (PK.same (Same.trans s47 (Same.trans s8 (Same.trans s9 s10)))))
end
end K63
namespace K63
open PySem PySem.Spec PyProof.Rows L2 Ds
-- imports A63 B63h
abbrev srows_of : Stmt := top 44
theorem sc_rows_of : FnScope ["text"] ["text"] (C8.fnScope srows_of) := C8.fnScope_by (by decide +kernel)
abbrev sspot_of : Stmt := top 45
theorem sc_spot_of : FnScope ["text", "place"] ["text", "place"] (C8.fnScope sspot_of) := C8.fnScope_by (by decide +kernel)
abbrev s_covered_lines : Stmt := top 47
theorem sc__covered_lines : FnScope ["text", "folds", "covered", "begin", "end", "above", "_", "below", "line"] ["text", "folds"] (C8.fnScope s_covered_lines) := C8.fnScope_by (by decide +kernel)
abbrev s_piece_end : Stmt := top 14
theorem sc__piece_end : FnScope ["row", "start", "width", "wordwise", "space"] ["row", "start", "width", "wordwise"] (C8.fnScope s_piece_end) := C8.fnScope_by (by decide +kernel)
abbrev slaid : Stmt := top 15
theorem sc_laid : FnScope ["row", "width", "wordwise", "pieces", "start", "end"] ["row", "width", "wordwise"] (C8.fnScope slaid) := C8.fnScope_by (by decide +kernel)
abbrev s_rows_laid : Stmt := top 48
theorem sc__rows_laid : FnScope ["rows", "covered", "width", "wordwise", "shown", "line", "row", "start", "end"] ["rows", "covered", "width", "wordwise"] (C8.fnScope s_rows_laid) := C8.fnScope_by (by decide +kernel)
abbrev srow_at : Stmt := top 5
theorem sc_row_at : FnScope ["screen_rows", "line", "column", "low", "high", "middle"] ["screen_rows", "line", "column"] (C8.fnScope srow_at) := C8.fnScope_by (by decide +kernel)
abbrev sselected_between : Stmt := top 11
theorem sc_selected_between : FnScope ["picks", "line", "start", "end", "flags", "low", "high", "_", "begin", "behind", "column"] ["picks", "line", "start", "end"] (C8.fnScope sselected_between) := C8.fnScope_by (by decide +kernel)
/-! texts cut into rows -/
theorem spl_inv : ∀ (l acc : List Nat), (TL.spl [10] 0 acc l).length ≤ l.length + 1 ∧ ∀ r ∈ TL.spl [10] 0 acc l, r.length ≤ acc.length + l.length ∧ ∀ c ∈ r, c ∈ acc ∨ c ∈ l
  | [], acc => by
    rw [TL.spl_nil]
    refine ⟨Nat.le_refl _, fun r hr => ?_⟩
    simp only [List.mem_singleton] at hr
    subst hr
    exact ⟨Nat.le_refl _, fun c hc => .inl hc⟩
  | c :: l, acc => by
    show (if TL.pre [10] (c :: l) = true then acc :: TL.spl [10] 0 [] l else TL.spl [10] 0 (acc ++ [c]) l).length ≤ _ ∧ ∀ r ∈ (if TL.pre [10] (c :: l) = true then acc :: TL.spl [10] 0 [] l else TL.spl [10] 0 (acc ++ [c]) l), _
    split
    · obtain ⟨h1, h2⟩ := spl_inv l []
      refine ⟨by simp only [List.length_cons]; omega, fun r hr => ?_⟩
      rcases List.mem_cons.mp hr with e | e
      · subst e
        exact ⟨Nat.le_add_right _ _, fun c hc => .inl hc⟩
      · obtain ⟨h3, h4⟩ := h2 r e
        refine ⟨by simp only [List.length_cons, List.length_nil] at *; omega, fun d hd => ?_⟩
        rcases h4 d hd with h | h
        · cases h
        · exact .inr (List.mem_cons_of_mem _ h)
    · obtain ⟨h1, h2⟩ := spl_inv l (acc ++ [c])
      refine ⟨by simp only [List.length_cons]; omega, fun r hr => ?_⟩
      obtain ⟨h3, h4⟩ := h2 r hr
      refine ⟨by simp only [List.length_cons, List.length_append, List.length_nil] at *; omega, fun d hd => ?_⟩
      rcases h4 d hd with h | h
      · rcases List.mem_append.mp h with h | h
        · exact .inl h
        · simp only [List.mem_singleton] at h
          exact .inr (h ▸ List.mem_cons_self)
      · exact .inr (List.mem_cons_of_mem _ h)
theorem str_S (t : Str) : t = S t.cps.toList := by
  cases t; rfl
/-- rows of a text -/
structure RowsOk (rows : List (List Nat)) : Prop where
  len : rows.length ≤ 100
  row : ∀ r ∈ rows, r.length ≤ 100 ∧ ∀ c ∈ r, okC c
def rowsD (rows : List (List Nat)) : PyData := .tuple (rows.map fun r => .str (S r))
theorem imm_rowsD (rows : List (List Nat)) : imm (rowsD rows) = true := immA_map (f := fun r => PyData.str (S r)) (fun _ => rfl) rows
theorem rowsOk {t : List Nat} (h : t.length ≤ 30) (ok : ∀ c ∈ t, okC c) : RowsOk (TL.spl [10] 0 [] t) := by
  obtain ⟨h1, h2⟩ := spl_inv t []
  refine ⟨by omega, fun r hr => ?_⟩
  obtain ⟨h3, h4⟩ := h2 r hr
  refine ⟨by simp only [List.length_nil] at h3; omega, fun c hc => ?_⟩
  rcases h4 c hc with h | h
  · cases h
  · exact ok c h
theorem rfind_hi {x y : Str} {lo hi k : Nat} (h : Builtin.Str.lastOccurrence x y lo hi = some k) : k + y.length ≤ hi := by
  rw [StrLaws.last_eq] at h
  have key := StrLaws.last_run x y hi (List.range' lo (hi + 1 - lo)) [] none (fun _ z => nomatch z) (fun _ z => nomatch z) (by first | exact List.pairwise_lt_range' | simpa using List.pairwise_lt_range' (s := lo) (n := hi + 1 - lo))
  rw [h] at key
  exact key.1.1
theorem rfindIn_lt {x y : Str} {i j : Int} (hj : 0 ≤ j) (hy : y.length = 1) : Txt.rfindIn x y i j < j + 0 := by
  unfold Txt.rfindIn
  split
  · next k e =>
    have := rfind_hi e
    have h2 : toIndexW x.length j ≤ j.toNat := by
      unfold toIndexW
      rw [if_neg (by omega)]
      omega
    omega
  · omega
section
variable {P : Program} {w : World} {K : Fr} {mg : Str → Option Value} {base : Heap}
def spRowsOf (K : Fr) : Sp := fun vs H Q _ => ∃ (t : List Nat), vs = [.str (S t)] ∧ t.length ≤ 30 ∧ (∀ c ∈ t, okC c) ∧ ∀ rows v H', RowsOk rows → Same H H' → Dp K H' v (rowsD rows) → Q v H'
theorem ok_rows_of (T : Txt K mg) : C8.Cal P w K mg base 1 "rows_of" (spRowsOf K) [] := by
  refine cal_of T.f_rows_of .nil sc_rows_of (fun vs H Q E h => ?_) (fun f cdv A outer s H vs Q E hr h => ?_)
  · obtain ⟨a, rfl, _⟩ := h; rfl
  · obtain ⟨t, rfl, hl, ok, q⟩ := h
    have nd := sc_rows_of.nd
    have hu := hu_of hr
    have hu0 := hu0_of hr
    have hu64 := hu64_of hr
    refine ⟨_, 
    (pss_one (ps_ret (pe_callTy (T := "tuple") (call_tupD (K := K)) (by rfl) T.b_tuple (by decide +kernel) (pa_cons (pe_bm PySem.F.plainAttrs_str PySem.F.slot_str_split PySem.F.type_str_split mt_split (pv 0) (pa_cons pe_str pa_nil)) pa_nil)))), ?_⟩
    simp only [tSeq, tIfS, tTest, tB, tOp, tUn, tVar, tC, rI0, rI, rU, CMul, CDiv, CPow, L2.start, tRet, tRetN, tNext, tAsg, gName, tDrop, tCons, tNil, tTup, tLst, tTupN, tLstN, tCB, tCall, tIf, tAnd, tOr, tNot, tAndV, tOrV, tNotV, tIsN, tNotN, tApp, tExt, upT, upS, up, rEq, rNe, scal, tAug, ipI, tPart, tNoPart, tSl, tChain, wipe, tYes, tBreak, tCont, cxK, rNeD, rEqD, rIsD, rIxW, rIxE, rLenD, rSlD, rCatD, rTupD, rListW, tFld, sFld, List.map_cons, List.map_nil, List.length_cons, List.length_nil, List.replicate, List.cons_append, List.nil_append, List.append_nil, List.getElem?_cons_zero, List.getElem?_cons_succ, List.set_cons_zero, List.set_cons_succ, Nat.reduceAdd, Nat.reduceSub, Option.some.injEq, V.int.injEq, V.bl.injEq, V.str.injEq, V.ref.injEq, V.ty.injEq, List.cons.injEq, exists_eq_left, exists_eq_left', exists_eq_right, exists_and_left, and_true, true_and, and_assoc, decide_eq_true_eq, Bool.not_eq_true', decide_eq_false_iff_not, Bool.not_not, reduceCtorEq, false_and, and_false, or_false, false_or, exists_const, false_implies, implies_true, if_false, if_true, Bool.false_eq_true, eq_self, forall_eq', exists_false, decide_true, decide_false, ite_true, ite_false, not_true_eq_false, not_false_eq_true, or_true, true_or, gSub, rSetL, gTup, gCons, gNil, rIxH, rIxS, rLenH, HO.lst.injEq, HO.tup.injEq, atI_0, atI_1, atI_2, ixN_31, ixN_32, Int.reduceNeg, Int.reducePow, Int.reduceLT, Int.reduceLE, Nat.reducePow, Nat.reduceLT, Nat.reduceLeDiff, Int.reduceToNat, Int.reduceAbs, sizeLine_eq, Nat.le_refl, Nat.zero_le, Int.reduceMul, Int.reduceAdd, Int.reduceSub, exists_eq', exists_eq, tBM, tyV_str, tDKN, tDTN, tFor_eq, tLc_eq, iRng1, iRng2, iTup, iList, iEnumT_eq]
    refine ⟨by decide, by rw [SX.S_len]; omega, ?_⟩
    have e10 : Str.ofString "\n" = S [10] := by decide +kernel
    rw [e10, SX.split_S (a := t) (b := [10]) (by decide) (by decide)]
    have ro := rowsOk hl ok
    intro p hp
    rw [List.map_map]
    refine ⟨(TL.spl [10] 0 [] t).map fun r => .str (S r), immA_map (f := fun r => PyData.str (S r)) (fun _ => rfl) _, .inl ⟨p, rfl, _, upd_same, DpA.map _ fun r _ => .str _⟩, fun v H' s1 hv => q _ v H' ro (Same.trans (Same.new hp) s1) hv⟩
def spSpot (K : Fr) : Sp := fun vs H Q _ => ∃ (t : Str) (pl : Int), vs = [.str t, .int pl] ∧ t.length ≤ 30 ∧ pl ≤ t.length ∧ ∀ a b v H', Same H H' → Dp K H' v (.tuple [.int a, .int b]) → Q v H'
theorem ok_spot (T : Txt K mg) : C8.Cal P w K mg base 1 "spot_of" (spSpot K) [] := by
  refine cal_of T.f_spot_of .nil sc_spot_of (fun vs H Q E h => ?_) (fun f cdv A outer s H vs Q E hr h => ?_)
  · obtain ⟨a, b, rfl, _⟩ := h; rfl
  · obtain ⟨t, pl, rfl, hl, hp, q⟩ := h
    have nd := sc_spot_of.nd
    have hu := hu_of hr
    have hu0 := hu0_of hr
    have hu64 := hu64_of hr
    refine ⟨_, 
    (pss_cons (ps_if (pt_cmpR op_gt (pv 1) (pe_callB (id := "len") call_len_str (by rfl) T.b_len PySem.boot_len (pa_cons (pv 0) pa_nil)) (nomark _)) 
        (pss_one ps_never) pss_nil)
    (pss_one (ps_ret (pe_tupN (pa_cons (pe_bm PySem.F.plainAttrs_str PySem.F.slot_str_count PySem.F.type_str_count mt_count4 (pv 0) (pa_cons pe_str (pa_cons pe_int (pa_cons (pv 1) pa_nil)))) (pa_cons (pe_op op_sub (pe_op op_sub (pv 1) (pe_bm PySem.F.plainAttrs_str PySem.F.slot_str_rfind PySem.F.type_str_rfind mt_rfind4 (pv 0) (pa_cons pe_str (pa_cons pe_int (pa_cons (pv 1) pa_nil))))) pe_int) pa_nil)))))), ?_⟩
    simp only [tSeq, tIfS, tTest, tB, tOp, tUn, tVar, tC, rI0, rI, rU, CMul, CDiv, CPow, L2.start, tRet, tRetN, tNext, tAsg, gName, tDrop, tCons, tNil, tTup, tLst, tTupN, tLstN, tCB, tCall, tIf, tAnd, tOr, tNot, tAndV, tOrV, tNotV, tIsN, tNotN, tApp, tExt, upT, upS, up, rEq, rNe, scal, tAug, ipI, tPart, tNoPart, tSl, tChain, wipe, tYes, tBreak, tCont, cxK, rNeD, rEqD, rIsD, rIxW, rIxE, rLenD, rSlD, rCatD, rTupD, rListW, tFld, sFld, List.map_cons, List.map_nil, List.length_cons, List.length_nil, List.replicate, List.cons_append, List.nil_append, List.append_nil, List.getElem?_cons_zero, List.getElem?_cons_succ, List.set_cons_zero, List.set_cons_succ, Nat.reduceAdd, Nat.reduceSub, Option.some.injEq, V.int.injEq, V.bl.injEq, V.str.injEq, V.ref.injEq, V.ty.injEq, List.cons.injEq, exists_eq_left, exists_eq_left', exists_eq_right, exists_and_left, and_true, true_and, and_assoc, decide_eq_true_eq, Bool.not_eq_true', decide_eq_false_iff_not, Bool.not_not, reduceCtorEq, false_and, and_false, or_false, false_or, exists_const, false_implies, implies_true, if_false, if_true, Bool.false_eq_true, eq_self, forall_eq', exists_false, decide_true, decide_false, ite_true, ite_false, not_true_eq_false, not_false_eq_true, or_true, true_or, gSub, rSetL, gTup, gCons, gNil, rIxH, rIxS, rLenH, HO.lst.injEq, HO.tup.injEq, atI_0, atI_1, atI_2, ixN_31, ixN_32, Int.reduceNeg, Int.reducePow, Int.reduceLT, Int.reduceLE, Nat.reducePow, Nat.reduceLT, Nat.reduceLeDiff, Int.reduceToNat, Int.reduceAbs, sizeLine_eq, Nat.le_refl, Nat.zero_le, Int.reduceMul, Int.reduceAdd, Int.reduceSub, exists_eq', exists_eq, tBM, tyV_str, tDKN, tDTN, tFor_eq, tLc_eq, iRng1, iRng2, iTup, iList, iEnumT_eq]
    rw [if_neg (by omega)]
    refine ⟨by omega, fun p H2 np s2 e2 => ?_⟩
    exact q _ _ _ _ s2 (.tup (SqT.of e2) (.cons (.int _) (.cons (.int _) .nil)))
def spCovered (K : Fr) : Sp := fun vs H Q _ => ∃ (t : Str) (x : V), vs = [.str t, x] ∧ Dp K H x (.tuple []) ∧ ∀ p H', H p = none → Same H H' → H' p = some (.dK []) → Q (.ref p) H'
theorem ok_covered (T : Txt K mg) : C8.Cal P w K mg base 2 "_covered_lines" (spCovered K) [] := by
  have C_spot_of := ok_spot (P := P) (w := w) (base := base) T
  refine cal_of T.f_covered_lines .nil sc__covered_lines (fun vs H Q E h => ?_) (fun f cdv A outer s H vs Q E hr h => ?_)
  · obtain ⟨a, b, rfl, _⟩ := h; rfl
  · obtain ⟨t, x, rfl, hx, q⟩ := h
    have nd := sc__covered_lines.nd
    have hu := hu_of hr
    have hu0 := hu0_of hr
    have hu64 := hu64_of hr
    refine ⟨_, 
    (pss_cons (ps_set (i := 2) nd rfl (by first | exact Or.inl rfl | exact Or.inr rfl) pe_dnewKN)
    (pss_cons (ps_for PassesOwn.never rfl (pi_tupK (K := K) (pv 1)) (pg_tupK (K := K) (n := 2) rfl (pgs_cons (pg_name (i := 3) nd rfl (by first | exact Or.inl rfl | exact Or.inr rfl)) (pgs_cons (pg_name (i := 4) nd rfl (by first | exact Or.inl rfl | exact Or.inr rfl)) pgs_nil))) 
        (pss_cons (ps_asg (C8.pe_c C_spot_of hr (by decide) rfl (pa_cons (pv 0) (pa_cons (pv 3) pa_nil))) (pg_tupK (K := K) (n := 2) rfl (pgs_cons (pg_name (i := 5) nd rfl (by first | exact Or.inl rfl | exact Or.inr rfl)) (pgs_cons (pg_name (i := 6) nd rfl (by first | exact Or.inl rfl | exact Or.inr rfl)) pgs_nil))))
        (pss_cons (ps_asg (C8.pe_c C_spot_of hr (by decide) rfl (pa_cons (pv 0) (pa_cons (pv 4) pa_nil))) (pg_tupK (K := K) (n := 2) rfl (pgs_cons (pg_name (i := 7) nd rfl (by first | exact Or.inl rfl | exact Or.inr rfl)) (pgs_cons (pg_name (i := 6) nd rfl (by first | exact Or.inl rfl | exact Or.inr rfl)) pgs_nil))))
        (pss_one (ps_for PassesOwn.never rfl (pi_range2 rfl T.b_range (pa_cons (pe_op op_add (pv 5) pe_int) (pa_cons (pe_op op_add (pv 7) pe_int) pa_nil))) (pg_name (i := 8) nd rfl (by first | exact Or.inl rfl | exact Or.inr rfl)) 
            (pss_one (ps_dput hu (pv 2) (pv 8) pe_bl rfl)))))))
    (pss_one (ps_ret (pv 2))))), ?_⟩
    simp only [tSeq, tIfS, tTest, tB, tOp, tUn, tVar, tC, rI0, rI, rU, CMul, CDiv, CPow, L2.start, tRet, tRetN, tNext, tAsg, gName, tDrop, tCons, tNil, tTup, tLst, tTupN, tLstN, tCB, tCall, tIf, tAnd, tOr, tNot, tAndV, tOrV, tNotV, tIsN, tNotN, tApp, tExt, upT, upS, up, rEq, rNe, scal, tAug, ipI, tPart, tNoPart, tSl, tChain, wipe, tYes, tBreak, tCont, cxK, rNeD, rEqD, rIsD, rIxW, rIxE, rLenD, rSlD, rCatD, rTupD, rListW, tFld, sFld, List.map_cons, List.map_nil, List.length_cons, List.length_nil, List.replicate, List.cons_append, List.nil_append, List.append_nil, List.getElem?_cons_zero, List.getElem?_cons_succ, List.set_cons_zero, List.set_cons_succ, Nat.reduceAdd, Nat.reduceSub, Option.some.injEq, V.int.injEq, V.bl.injEq, V.str.injEq, V.ref.injEq, V.ty.injEq, List.cons.injEq, exists_eq_left, exists_eq_left', exists_eq_right, exists_and_left, and_true, true_and, and_assoc, decide_eq_true_eq, Bool.not_eq_true', decide_eq_false_iff_not, Bool.not_not, reduceCtorEq, false_and, and_false, or_false, false_or, exists_const, false_implies, implies_true, if_false, if_true, Bool.false_eq_true, eq_self, forall_eq', exists_false, decide_true, decide_false, ite_true, ite_false, not_true_eq_false, not_false_eq_true, or_true, true_or, gSub, rSetL, gTup, gCons, gNil, rIxH, rIxS, rLenH, HO.lst.injEq, HO.tup.injEq, atI_0, atI_1, atI_2, ixN_31, ixN_32, Int.reduceNeg, Int.reducePow, Int.reduceLT, Int.reduceLE, Nat.reducePow, Nat.reduceLT, Nat.reduceLeDiff, Int.reduceToNat, Int.reduceAbs, sizeLine_eq, Nat.le_refl, Nat.zero_le, Int.reduceMul, Int.reduceAdd, Int.reduceSub, exists_eq', exists_eq, tBM, tyV_str, tDKN, tDTN, tFor_eq, tLc_eq, iRng1, iRng2, iTup, iList, iEnumT_eq]
    intro p H1 np s1 e1
    refine loop_D (ds := []) (Dp.same s1 _ _ hx) rfl (fun i σ H' => i = 0 ∧ σ = [some (.str t), some x, some (.ref p), none, none, none, none, none, none] ∧ H' = H1) ⟨rfl, rfl, rfl⟩ (fun i σ H' ⟨_, _, e⟩ => e ▸ TK.refl _) (fun i v d σ H' e => by simp at e) ?_
    rintro σ H' ⟨_, rfl, rfl⟩
    simp only [tSeq, tIfS, tTest, tB, tOp, tUn, tVar, tC, rI0, rI, rU, CMul, CDiv, CPow, L2.start, tRet, tRetN, tNext, tAsg, gName, tDrop, tCons, tNil, tTup, tLst, tTupN, tLstN, tCB, tCall, tIf, tAnd, tOr, tNot, tAndV, tOrV, tNotV, tIsN, tNotN, tApp, tExt, upT, upS, up, rEq, rNe, scal, tAug, ipI, tPart, tNoPart, tSl, tChain, wipe, tYes, tBreak, tCont, cxK, rNeD, rEqD, rIsD, rIxW, rIxE, rLenD, rSlD, rCatD, rTupD, rListW, tFld, sFld, List.map_cons, List.map_nil, List.length_cons, List.length_nil, List.replicate, List.cons_append, List.nil_append, List.append_nil, List.getElem?_cons_zero, List.getElem?_cons_succ, List.set_cons_zero, List.set_cons_succ, Nat.reduceAdd, Nat.reduceSub, Option.some.injEq, V.int.injEq, V.bl.injEq, V.str.injEq, V.ref.injEq, V.ty.injEq, List.cons.injEq, exists_eq_left, exists_eq_left', exists_eq_right, exists_and_left, and_true, true_and, and_assoc, decide_eq_true_eq, Bool.not_eq_true', decide_eq_false_iff_not, Bool.not_not, reduceCtorEq, false_and, and_false, or_false, false_or, exists_const, false_implies, implies_true, if_false, if_true, Bool.false_eq_true, eq_self, forall_eq', exists_false, decide_true, decide_false, ite_true, ite_false, not_true_eq_false, not_false_eq_true, or_true, true_or, gSub, rSetL, gTup, gCons, gNil, rIxH, rIxS, rLenH, HO.lst.injEq, HO.tup.injEq, atI_0, atI_1, atI_2, ixN_31, ixN_32, Int.reduceNeg, Int.reducePow, Int.reduceLT, Int.reduceLE, Nat.reducePow, Nat.reduceLT, Nat.reduceLeDiff, Int.reduceToNat, Int.reduceAbs, sizeLine_eq, Nat.le_refl, Nat.zero_le, Int.reduceMul, Int.reduceAdd, Int.reduceSub, exists_eq', exists_eq, tBM, tyV_str, tDKN, tDTN, tFor_eq, tLc_eq, iRng1, iRng2, iTup, iList, iEnumT_eq]
    exact q _ _ np s1 e1
def spPiece : Sp := fun vs H Q _ => ∃ (r : Str) (s w : Int) (b : Bool), vs = [.str r, .int s, .int w, .bl b] ∧ 0 ≤ s ∧ 0 < w ∧ ∀ e : Int, s < e → e ≤ s + w → Q (.int e) H
theorem ok_piece (T : Txt K mg) : C8.Cal P w K mg base 1 "_piece_end" spPiece [] := by
  refine cal_of T.f_piece_end .nil sc__piece_end (fun vs H Q E h => ?_) (fun f cdv A outer s H vs Q E hr h => ?_)
  · obtain ⟨a, b, c, d, rfl, _⟩ := h; rfl
  · obtain ⟨r, st, wi, b, rfl, h0, h1, q⟩ := h
    have nd := sc__piece_end.nd
    have hu := hu_of hr
    have hu0 := hu0_of hr
    have hu64 := hu64_of hr
    refine ⟨_, 
    (pss_cons (ps_if (pt_val (pv 3)) 
        (pss_cons (ps_set (i := 4) nd rfl (by first | exact Or.inl rfl | exact Or.inr rfl) (pe_bm PySem.F.plainAttrs_str PySem.F.slot_str_rfind PySem.F.type_str_rfind mt_rfind4 (pv 0) (pa_cons pe_str (pa_cons (pv 1) (pa_cons (pe_op op_add (pv 1) (pv 2)) pa_nil)))))
        (pss_one (ps_if (pt_cmpR op_ge (pv 4) (pv 1) (nomark _)) 
            (pss_one (ps_ret (pe_op op_add (pv 4) pe_int))) pss_nil))) pss_nil)
    (pss_one (ps_ret (pe_op op_add (pv 1) (pv 2))))), ?_⟩
    simp only [tSeq, tIfS, tTest, tB, tOp, tUn, tVar, tC, rI0, rI, rU, CMul, CDiv, CPow, L2.start, tRet, tRetN, tNext, tAsg, gName, tDrop, tCons, tNil, tTup, tLst, tTupN, tLstN, tCB, tCall, tIf, tAnd, tOr, tNot, tAndV, tOrV, tNotV, tIsN, tNotN, tApp, tExt, upT, upS, up, rEq, rNe, scal, tAug, ipI, tPart, tNoPart, tSl, tChain, wipe, tYes, tBreak, tCont, cxK, rNeD, rEqD, rIsD, rIxW, rIxE, rLenD, rSlD, rCatD, rTupD, rListW, tFld, sFld, List.map_cons, List.map_nil, List.length_cons, List.length_nil, List.replicate, List.cons_append, List.nil_append, List.append_nil, List.getElem?_cons_zero, List.getElem?_cons_succ, List.set_cons_zero, List.set_cons_succ, Nat.reduceAdd, Nat.reduceSub, Option.some.injEq, V.int.injEq, V.bl.injEq, V.str.injEq, V.ref.injEq, V.ty.injEq, List.cons.injEq, exists_eq_left, exists_eq_left', exists_eq_right, exists_and_left, and_true, true_and, and_assoc, decide_eq_true_eq, Bool.not_eq_true', decide_eq_false_iff_not, Bool.not_not, reduceCtorEq, false_and, and_false, or_false, false_or, exists_const, false_implies, implies_true, if_false, if_true, Bool.false_eq_true, eq_self, forall_eq', exists_false, decide_true, decide_false, ite_true, ite_false, not_true_eq_false, not_false_eq_true, or_true, true_or, gSub, rSetL, gTup, gCons, gNil, rIxH, rIxS, rLenH, HO.lst.injEq, HO.tup.injEq, atI_0, atI_1, atI_2, ixN_31, ixN_32, Int.reduceNeg, Int.reducePow, Int.reduceLT, Int.reduceLE, Nat.reducePow, Nat.reduceLT, Nat.reduceLeDiff, Int.reduceToNat, Int.reduceAbs, sizeLine_eq, Nat.le_refl, Nat.zero_le, Int.reduceMul, Int.reduceAdd, Int.reduceSub, exists_eq', exists_eq, tBM, tyV_str, tDKN, tDTN, tFor_eq, tLc_eq, iRng1, iRng2, iTup, iList, iEnumT_eq]
    refine ite2 (fun _ => ?_) (fun _ => q _ (by omega) (by omega))
    refine ite2 (fun h => q _ (by omega) ?_) (fun _ => q _ (by omega) (by omega))
    have := rfindIn_lt (x := r) (y := Str.ofString " ") (i := st) (j := st + wi) (by omega) rfl
    omega
def pcD (p : Nat × Nat) : PyData := .tuple [.int p.1, .int p.2]
theorem imm_pcD (p : Nat × Nat) : imm (pcD p) = true := rfl
def spLaid (K : Fr) : Sp := fun vs H Q _ => ∃ (r : Str) (w : Nat) (b : Bool), vs = [.str r, .int w, .bl b] ∧ r.length ≤ 100 ∧ 1 ≤ w ∧ w ≤ 100 ∧
  ∀ (ps : List (Nat × Nat)) v H', (∀ p ∈ ps, p.1 ≤ p.2 ∧ p.2 ≤ r.length) → ps.length ≤ 101 → Same H H' → Dp K H' v (.tuple (ps.map pcD)) → Q v H'
theorem pr_laid (T : Txt K mg) : Prom P w K mg base 2 "laid" slaid ["row", "width", "wordwise"] (spLaid K) := by
  have C__piece_end := ok_piece (P := P) (w := w) (base := base) T
  refine prom_of sc_laid (fun vs H Q E h => ?_) (fun f cdv A outer s H vs Q E hr h => ?_)
  · obtain ⟨a, b, c, rfl, _⟩ := h; rfl
  · obtain ⟨r, wi, b, rfl, hl, h1, h2, q⟩ := h
    have nd := sc_laid.nd
    have hu := hu_of hr
    have hu0 := hu0_of hr
    have hu64 := hu64_of hr
    refine ⟨_, 
    (pss_cons (ps_set (i := 3) nd rfl (by first | exact Or.inl rfl | exact Or.inr rfl) (pe_lstN pa_nil))
    (pss_cons (ps_set (i := 4) nd rfl (by first | exact Or.inl rfl | exact Or.inr rfl) pe_int)
    (pss_cons (ps_while PassesOwn.never (pt_cmpR op_gt (pe_op op_sub (pe_callB (id := "len") call_len_str (by rfl) T.b_len PySem.boot_len (pa_cons (pv 0) pa_nil)) (pv 4)) (pv 1) (nomark _)) 
        (pss_cons (ps_set (i := 5) nd rfl (by first | exact Or.inl rfl | exact Or.inr rfl) (C8.pe_c C__piece_end hr (by decide) rfl (pa_cons (pv 0) (pa_cons (pv 4) (pa_cons (pv 1) (pa_cons (pv 2) pa_nil))))))
        (pss_cons (ps_expr (pe_app (pv 3) (pe_tupN (pa_cons (pv 4) (pa_cons (pv 5) pa_nil)))))
        (pss_one (ps_set (i := 4) nd rfl (by first | exact Or.inl rfl | exact Or.inr rfl) (pv 5))))))
    (pss_cons (ps_expr (pe_app (pv 3) (pe_tupN (pa_cons (pv 4) (pa_cons (pe_callB (id := "len") call_len_str (by rfl) T.b_len PySem.boot_len (pa_cons (pv 0) pa_nil)) pa_nil)))))
    (pss_one (ps_ret (pe_callTy (T := "tuple") (call_tupD (K := K)) (by rfl) T.b_tuple (by decide +kernel) (pa_cons (pv 3) pa_nil)))))))), ?_⟩
    simp only [tSeq, tIfS, tTest, tB, tOp, tUn, tVar, tC, rI0, rI, rU, CMul, CDiv, CPow, L2.start, tRet, tRetN, tNext, tAsg, gName, tDrop, tCons, tNil, tTup, tLst, tTupN, tLstN, tCB, tCall, tIf, tAnd, tOr, tNot, tAndV, tOrV, tNotV, tIsN, tNotN, tApp, tExt, upT, upS, up, rEq, rNe, scal, tAug, ipI, tPart, tNoPart, tSl, tChain, wipe, tYes, tBreak, tCont, cxK, rNeD, rEqD, rIsD, rIxW, rIxE, rLenD, rSlD, rCatD, rTupD, rListW, tFld, sFld, List.map_cons, List.map_nil, List.length_cons, List.length_nil, List.replicate, List.cons_append, List.nil_append, List.append_nil, List.getElem?_cons_zero, List.getElem?_cons_succ, List.set_cons_zero, List.set_cons_succ, Nat.reduceAdd, Nat.reduceSub, Option.some.injEq, V.int.injEq, V.bl.injEq, V.str.injEq, V.ref.injEq, V.ty.injEq, List.cons.injEq, exists_eq_left, exists_eq_left', exists_eq_right, exists_and_left, and_true, true_and, and_assoc, decide_eq_true_eq, Bool.not_eq_true', decide_eq_false_iff_not, Bool.not_not, reduceCtorEq, false_and, and_false, or_false, false_or, exists_const, false_implies, implies_true, if_false, if_true, Bool.false_eq_true, eq_self, forall_eq', exists_false, decide_true, decide_false, ite_true, ite_false, not_true_eq_false, not_false_eq_true, or_true, true_or, gSub, rSetL, gTup, gCons, gNil, rIxH, rIxS, rLenH, HO.lst.injEq, HO.tup.injEq, atI_0, atI_1, atI_2, ixN_31, ixN_32, Int.reduceNeg, Int.reducePow, Int.reduceLT, Int.reduceLE, Nat.reducePow, Nat.reduceLT, Nat.reduceLeDiff, Int.reduceToNat, Int.reduceAbs, sizeLine_eq, Nat.le_refl, Nat.zero_le, Int.reduceMul, Int.reduceAdd, Int.reduceSub, exists_eq', exists_eq, tBM, tyV_str, tDKN, tDTN, tFor_eq, tLc_eq, iRng1, iRng2, iTup, iList, iEnumT_eq]
    intro p H1 np s1 e1
    obtain ⟨W, hW⟩ : ∃ W : Nat → SS → Hp → Prop, W = fun m σ H' => ∃ (st : Nat) (ps : List (Nat × Nat)) (xs : List V) (v5 : Option V), σ = [some (.str r), some (.int wi), some (.bl b), some (.ref p), some (.int st), v5] ∧ m = r.length - st ∧ st ≤ r.length ∧
      H' p = some (.lst xs) ∧ DpAll K H' xs (ps.map pcD) ∧ (∀ q ∈ ps, q.1 ≤ q.2 ∧ q.2 ≤ r.length) ∧ ps.length ≤ st ∧ Same H H' := ⟨_, rfl⟩
    have put : ∀ (H' : Hp) (ps : List (Nat × Nat)) (xs : List V) (c : Nat × Nat) (t : Addr) (H2 : Hp), H' p = some (.lst xs) → DpAll K H' xs (ps.map pcD) → Same H H' → Same H' H2 → H2 t = some (.tup [.int c.1, .int c.2]) →
        H2 p = some (.lst xs) ∧ DpAll K (upd H2 p (.lst (xs ++ [.ref t]))) (xs ++ [.ref t]) ((ps ++ [c]).map pcD) ∧ Same H (upd H2 p (.lst (xs ++ [.ref t]))) := fun H' ps xs c t H2 hp hA s s2 e2 => by
      have hp2 := s2 _ _ hp
      refine ⟨hp2, ?_, Same.wr (Same.trans s s2) np⟩
      rw [List.map_append]
      exact DpA.append (DpA.tk ((TK.same s2).trans (TK.lst hp2)) _ _ (immA_map imm_pcD _) hA) (DpA.one (Dp.tk (TK.lst hp2) _ _ (imm_pcD c) (.tup (SqT.of e2) (.cons (.int _) (.cons (.int _) .nil)))))
    refine ⟨W, ⟨_, by rw [hW]; exact ⟨0, [], [], none, rfl, rfl, Nat.zero_le _, e1, .nil, (fun _ h => nomatch h), Nat.le_refl _, s1⟩⟩, ?_⟩
    intro m σ H' hw
    rw [hW] at hw
    obtain ⟨st, ps, xs, v5, rfl, rfl, hst, hp, hA, hps, hpl, s2⟩ := hw
    simp only [tSeq, tIfS, tTest, tB, tOp, tUn, tVar, tC, rI0, rI, rU, CMul, CDiv, CPow, L2.start, tRet, tRetN, tNext, tAsg, gName, tDrop, tCons, tNil, tTup, tLst, tTupN, tLstN, tCB, tCall, tIf, tAnd, tOr, tNot, tAndV, tOrV, tNotV, tIsN, tNotN, tApp, tExt, upT, upS, up, rEq, rNe, scal, tAug, ipI, tPart, tNoPart, tSl, tChain, wipe, tYes, tBreak, tCont, cxK, rNeD, rEqD, rIsD, rIxW, rIxE, rLenD, rSlD, rCatD, rTupD, rListW, tFld, sFld, List.map_cons, List.map_nil, List.length_cons, List.length_nil, List.replicate, List.cons_append, List.nil_append, List.append_nil, List.getElem?_cons_zero, List.getElem?_cons_succ, List.set_cons_zero, List.set_cons_succ, Nat.reduceAdd, Nat.reduceSub, Option.some.injEq, V.int.injEq, V.bl.injEq, V.str.injEq, V.ref.injEq, V.ty.injEq, List.cons.injEq, exists_eq_left, exists_eq_left', exists_eq_right, exists_and_left, and_true, true_and, and_assoc, decide_eq_true_eq, Bool.not_eq_true', decide_eq_false_iff_not, Bool.not_not, reduceCtorEq, false_and, and_false, or_false, false_or, exists_const, false_implies, implies_true, if_false, if_true, Bool.false_eq_true, eq_self, forall_eq', exists_false, decide_true, decide_false, ite_true, ite_false, not_true_eq_false, not_false_eq_true, or_true, true_or, gSub, rSetL, gTup, gCons, gNil, rIxH, rIxS, rLenH, HO.lst.injEq, HO.tup.injEq, atI_0, atI_1, atI_2, ixN_31, ixN_32, Int.reduceNeg, Int.reducePow, Int.reduceLT, Int.reduceLE, Nat.reducePow, Nat.reduceLT, Nat.reduceLeDiff, Int.reduceToNat, Int.reduceAbs, sizeLine_eq, Nat.le_refl, Nat.zero_le, Int.reduceMul, Int.reduceAdd, Int.reduceSub, exists_eq', exists_eq, tBM, tyV_str, tDKN, tDTN, tFor_eq, tLc_eq, iRng1, iRng2, iTup, iList, iEnumT_eq]
    refine ⟨by omega, ite2 (fun hc => ?_) (fun hc => ?_)⟩
    · refine ⟨fun σ' H2 => ∃ m', m' < r.length - st ∧ W m' σ' H2, fun _ _ h => h, r, st, wi, b, rfl, by omega, by omega, fun e he1 he2 => ?_⟩
      obtain ⟨e, rfl⟩ : ∃ n : Nat, e = n := ⟨e.toNat, by omega⟩
      refine ⟨⟨_, hp⟩, fun t H2 nt s3 e3 => ?_⟩
      obtain ⟨c1, c2, c3⟩ := put H' ps xs (st, e) t H2 hp hA s2 s3 e3
      refine ⟨xs, c1, by rw [DpA.length hA, List.length_map]; omega, r.length - e, by omega, ?_⟩
      rw [hW]
      refine ⟨e, _, _, _, rfl, rfl, by omega, upd_same, c2, fun q hq => ?_, by simp; omega, c3⟩
      rcases List.mem_append.mp hq with h | h
      · exact hps q h
      · simp only [List.mem_singleton] at h
        subst h
        exact ⟨by show st ≤ e; omega, by show e ≤ r.length; omega⟩
    · refine ⟨⟨_, hp⟩, by omega, fun t H2 nt s3 e3 => ?_⟩
      obtain ⟨c1, c2, c3⟩ := put H' ps xs (st, r.length) t H2 hp hA s2 s3 e3
      refine ⟨xs, c1, by rw [DpA.length hA, List.length_map]; omega, _, immA_map imm_pcD _, .inl ⟨_, upd_same, c2⟩, fun v H3 s4 hv => q _ v H3 (fun q hq => ?_) (by simp; omega) (Same.trans c3 s4) hv⟩
      rcases List.mem_append.mp hq with h | h
      · exact hps q h
      · simp only [List.mem_singleton] at h
        subst h
        exact ⟨hst, Nat.le_refl _⟩
def shD (p : Nat × Nat × Nat) : PyData := .tuple [.int p.1, .int p.2.1, .int p.2.2]
theorem imm_shD (p : Nat × Nat × Nat) : imm (shD p) = true := rfl
/-- pieces of rows -/
def ShOk (rows : List (List Nat)) (ss : List (Nat × Nat × Nat)) : Prop := ∀ p ∈ ss, ∃ r, rows[p.1]? = some r ∧ p.2.1 ≤ p.2.2 ∧ p.2.2 ≤ r.length
def spRowsLaid (K : Fr) : Sp := fun vs H Q _ => ∃ (x : V) (d : Addr) (rows : List (List Nat)) (w : Nat) (b : Bool), vs = [x, .ref d, .int w, .bl b] ∧ Dp K H x (rowsD rows) ∧ H d = some (.dK []) ∧ RowsOk rows ∧ 1 ≤ w ∧ w ≤ 100 ∧
  ∀ ss v H', ShOk rows ss → ss.length ≤ 10100 → Same H H' → Dp K H' v (.tuple (ss.map shD)) → Q v H'
theorem ok_rows_laid (T : Txt K mg) : C8.Cal P w K mg base 3 "_rows_laid" (spRowsLaid K) [] := by
  have CK_laid_wordwise := (pr_laid (P := P) (w := w) (base := base) T).calk T.k_laid
  refine cal_of T.f_rows_laid .nil sc__rows_laid (fun vs H Q E h => ?_) (fun f cdv A outer s H vs Q E hr h => ?_)
  · obtain ⟨a, b, c, d, e, rfl, _⟩ := h; rfl
  · obtain ⟨x, d, rows, wi, b, rfl, hx, hd, ro, h1, h2, q⟩ := h
    have nd := sc__rows_laid.nd
    have hu := hu_of hr
    have hu0 := hu0_of hr
    have hu64 := hu64_of hr
    refine ⟨_, 
    (pss_cons (ps_set (i := 4) nd rfl (by first | exact Or.inl rfl | exact Or.inr rfl) (pe_lstN pa_nil))
    (pss_cons (ps_for PassesOwn.never rfl (pi_enumT (K := K) (by rfl) T.b_enumerate (pa_cons (pv 0) pa_nil)) (pg_tupK (K := K) (n := 2) rfl (pgs_cons (pg_name (i := 5) nd rfl (by first | exact Or.inl rfl | exact Or.inr rfl)) (pgs_cons (pg_name (i := 6) nd rfl (by first | exact Or.inl rfl | exact Or.inr rfl)) pgs_nil))) 
        (pss_one (ps_if (pt_cmp (pc_dnotin hu (pv 5) (pv 1)) (by with_unfolding_all rfl)) 
            (pss_one (ps_expr (pe_ext (pv 4) (pe_lc (own := [("start", 7), ("end", 8)]) rfl nd (pi_tupK (K := K) (pe_ck CK_laid_wordwise hr (by decide) rfl (pa_cons (pv 6) (pa_cons (pv 2) pa_nil)) (pk_cons (pv 3) pk_nil))) (blkOk_by (own := [("start", 7), ("end", 8)]) (by first | decide +kernel | kernel_rfl | rfl)) (fun _ _ _ _ _ => (pg_tupK (K := K) (n := 2) rfl (pgs_cons (pg_name (i := 7) nd rfl (by first | exact Or.inl rfl | exact Or.inr rfl)) (pgs_cons (pg_name (i := 8) nd rfl (by first | exact Or.inl rfl | exact Or.inr rfl)) pgs_nil)))) (fun _ _ _ _ _ => pts_nil) (fun _ _ _ _ _ => (pe_tupN (pa_cons (pv 5) (pa_cons (pv 7) (pa_cons (pv 8) pa_nil))))))))) pss_nil)))
    (pss_one (ps_ret (pe_callTy (T := "tuple") (call_tupD (K := K)) (by rfl) T.b_tuple (by decide +kernel) (pa_cons (pv 4) pa_nil)))))), ?_⟩
    simp only [tSeq, tIfS, tTest, tB, tOp, tUn, tVar, tC, rI0, rI, rU, CMul, CDiv, CPow, L2.start, tRet, tRetN, tNext, tAsg, gName, tDrop, tCons, tNil, tTup, tLst, tTupN, tLstN, tCB, tCall, tIf, tAnd, tOr, tNot, tAndV, tOrV, tNotV, tIsN, tNotN, tApp, tExt, upT, upS, up, rEq, rNe, scal, tAug, ipI, tPart, tNoPart, tSl, tChain, wipe, tYes, tBreak, tCont, cxK, rNeD, rEqD, rIsD, rIxW, rIxE, rLenD, rSlD, rCatD, rTupD, rListW, tFld, sFld, List.map_cons, List.map_nil, List.length_cons, List.length_nil, List.replicate, List.cons_append, List.nil_append, List.append_nil, List.getElem?_cons_zero, List.getElem?_cons_succ, List.set_cons_zero, List.set_cons_succ, Nat.reduceAdd, Nat.reduceSub, Option.some.injEq, V.int.injEq, V.bl.injEq, V.str.injEq, V.ref.injEq, V.ty.injEq, List.cons.injEq, exists_eq_left, exists_eq_left', exists_eq_right, exists_and_left, and_true, true_and, and_assoc, decide_eq_true_eq, Bool.not_eq_true', decide_eq_false_iff_not, Bool.not_not, reduceCtorEq, false_and, and_false, or_false, false_or, exists_const, false_implies, implies_true, if_false, if_true, Bool.false_eq_true, eq_self, forall_eq', exists_false, decide_true, decide_false, ite_true, ite_false, not_true_eq_false, not_false_eq_true, or_true, true_or, gSub, rSetL, gTup, gCons, gNil, rIxH, rIxS, rLenH, HO.lst.injEq, HO.tup.injEq, atI_0, atI_1, atI_2, ixN_31, ixN_32, Int.reduceNeg, Int.reducePow, Int.reduceLT, Int.reduceLE, Nat.reducePow, Nat.reduceLT, Nat.reduceLeDiff, Int.reduceToNat, Int.reduceAbs, sizeLine_eq, Nat.le_refl, Nat.zero_le, Int.reduceMul, Int.reduceAdd, Int.reduceSub, exists_eq', exists_eq, tBM, tyV_str, tDKN, tDTN, tFor_eq, tLc_eq, iRng1, iRng2, iTup, iList, iEnumT_eq, tCallN]
    intro p H1 np s1 e1
    obtain ⟨Pv, hPv⟩ : ∃ Pv : Nat → SS → Hp → Prop, Pv = fun i σ H' => ∃ (ss : List (Nat × Nat × Nat)) (xs : List V) (v5 v6 v7 v8 : Option V), σ = [some x, some (.ref d), some (.int wi), some (.bl b), some (.ref p), v5, v6, v7, v8] ∧
      H' p = some (.lst xs) ∧ DpAll K H' xs (ss.map shD) ∧ ShOk rows ss ∧ ss.length ≤ 101 * i ∧ Same H H' ∧ TK H1 H' := ⟨_, rfl⟩
    refine loop_enumD (ds := rows.map fun r => .str (S r)) (Dp.same s1 _ _ hx) (immA_map (f := fun r => PyData.str (S r)) (fun _ => rfl) _) Pv (by rw [hPv]; exact ⟨[], [], _, _, _, _, rfl, e1, .nil, (fun _ h => nomatch h), Nat.le_refl _, s1, TK.refl _⟩)
      (fun i σ H' hp => by rw [hPv] at hp; obtain ⟨_, _, _, _, _, _, _, _, _, _, _, _, t⟩ := hp; exact t) ?_ ?_
    · intro i v dd σ H' H2 T' hi hv hp nT s2 eT
      rw [hPv] at hp
      obtain ⟨ss, xs, v5, v6, v7, v8, rfl, hp, hA, hok, hl, s3, tk⟩ := hp
      obtain ⟨r, hr1, rfl, hlt⟩ := lst_int hi
      cases hv
      have rk := ro.row _ (List.mem_of_getElem? hr1)
      have hp2 := s2 _ _ hp
      have s32 := Same.trans s3 s2
      simp only [tSeq, tIfS, tTest, tB, tOp, tUn, tVar, tC, rI0, rI, rU, CMul, CDiv, CPow, L2.start, tRet, tRetN, tNext, tAsg, gName, tDrop, tCons, tNil, tTup, tLst, tTupN, tLstN, tCB, tCall, tIf, tAnd, tOr, tNot, tAndV, tOrV, tNotV, tIsN, tNotN, tApp, tExt, upT, upS, up, rEq, rNe, scal, tAug, ipI, tPart, tNoPart, tSl, tChain, wipe, tYes, tBreak, tCont, cxK, rNeD, rEqD, rIsD, rIxW, rIxE, rLenD, rSlD, rCatD, rTupD, rListW, tFld, sFld, List.map_cons, List.map_nil, List.length_cons, List.length_nil, List.replicate, List.cons_append, List.nil_append, List.append_nil, List.getElem?_cons_zero, List.getElem?_cons_succ, List.set_cons_zero, List.set_cons_succ, Nat.reduceAdd, Nat.reduceSub, Option.some.injEq, V.int.injEq, V.bl.injEq, V.str.injEq, V.ref.injEq, V.ty.injEq, List.cons.injEq, exists_eq_left, exists_eq_left', exists_eq_right, exists_and_left, and_true, true_and, and_assoc, decide_eq_true_eq, Bool.not_eq_true', decide_eq_false_iff_not, Bool.not_not, reduceCtorEq, false_and, and_false, or_false, false_or, exists_const, false_implies, implies_true, if_false, if_true, Bool.false_eq_true, eq_self, forall_eq', exists_false, decide_true, decide_false, ite_true, ite_false, not_true_eq_false, not_false_eq_true, or_true, true_or, gSub, rSetL, gTup, gCons, gNil, rIxH, rIxS, rLenH, HO.lst.injEq, HO.tup.injEq, atI_0, atI_1, atI_2, ixN_31, ixN_32, Int.reduceNeg, Int.reducePow, Int.reduceLT, Int.reduceLE, Nat.reducePow, Nat.reduceLT, Nat.reduceLeDiff, Int.reduceToNat, Int.reduceAbs, sizeLine_eq, Nat.le_refl, Nat.zero_le, Int.reduceMul, Int.reduceAdd, Int.reduceSub, exists_eq', exists_eq, tBM, tyV_str, tDKN, tDTN, tFor_eq, tLc_eq, iRng1, iRng2, iTup, iList, iEnumT_eq]
      refine ⟨_, SqT.of eT, rfl, _, _, rfl, _, _, rfl, rfl, ?_⟩
      refine ⟨_, rfl, _, rfl, d, none, rfl, DGet.k (k := .inl ((i : Nat) : Int)) (kvs := []) (s32 _ _ hd), ?_⟩
      refine ⟨_, rfl, itP rfl ?_⟩
      simp only [tSeq, tIfS, tTest, tB, tOp, tUn, tVar, tC, rI0, rI, rU, CMul, CDiv, CPow, L2.start, tRet, tRetN, tNext, tAsg, gName, tDrop, tCons, tNil, tTup, tLst, tTupN, tLstN, tCB, tCall, tIf, tAnd, tOr, tNot, tAndV, tOrV, tNotV, tIsN, tNotN, tApp, tExt, upT, upS, up, rEq, rNe, scal, tAug, ipI, tPart, tNoPart, tSl, tChain, wipe, tYes, tBreak, tCont, cxK, rNeD, rEqD, rIsD, rIxW, rIxE, rLenD, rSlD, rCatD, rTupD, rListW, tFld, sFld, List.map_cons, List.map_nil, List.length_cons, List.length_nil, List.replicate, List.cons_append, List.nil_append, List.append_nil, List.getElem?_cons_zero, List.getElem?_cons_succ, List.set_cons_zero, List.set_cons_succ, Nat.reduceAdd, Nat.reduceSub, Option.some.injEq, V.int.injEq, V.bl.injEq, V.str.injEq, V.ref.injEq, V.ty.injEq, List.cons.injEq, exists_eq_left, exists_eq_left', exists_eq_right, exists_and_left, and_true, true_and, and_assoc, decide_eq_true_eq, Bool.not_eq_true', decide_eq_false_iff_not, Bool.not_not, reduceCtorEq, false_and, and_false, or_false, false_or, exists_const, false_implies, implies_true, if_false, if_true, Bool.false_eq_true, eq_self, forall_eq', exists_false, decide_true, decide_false, ite_true, ite_false, not_true_eq_false, not_false_eq_true, or_true, true_or, gSub, rSetL, gTup, gCons, gNil, rIxH, rIxS, rLenH, HO.lst.injEq, HO.tup.injEq, atI_0, atI_1, atI_2, ixN_31, ixN_32, Int.reduceNeg, Int.reducePow, Int.reduceLT, Int.reduceLE, Nat.reducePow, Nat.reduceLT, Nat.reduceLeDiff, Int.reduceToNat, Int.reduceAbs, sizeLine_eq, Nat.le_refl, Nat.zero_le, Int.reduceMul, Int.reduceAdd, Int.reduceSub, exists_eq', exists_eq, tBM, tyV_str, tDKN, tDTN, tFor_eq, tLc_eq, iRng1, iRng2, iTup, iList, iEnumT_eq, tCallN]
      refine ⟨⟨_, hp2⟩, ?_⟩
      refine ⟨S r, wi, b, rfl, by rw [SX.S_len]; exact rk.1, h1, h2, fun ps v9 H3 hps hpl s4 hv9 => ?_⟩
      have hp3 := s4 _ _ hp2
      have s34 := Same.trans s32 s4
      refine comp_D (ds := ps.map pcD) hv9 (immA_map imm_pcD _) (fun D j H4 => ∃ ys, H4 D = some (.lst ys) ∧ DpAll K H4 ys ((ps.take j).map fun q => shD (i, q.1, q.2)) ∧ Same H3 H4) (fun D hD => ⟨[], upd_same, .nil, Same.new hD⟩) (fun D j H4 _ ⟨_, _, _, e⟩ => TK.same e) ?_ ?_
      · rintro D j v10 d10 H4 hD hj hv10 ⟨ys, hys, hyA, s5⟩
        obtain ⟨q1, hq1, rfl, hjl⟩ := lst_int hj
        have hv10' : Dp K H4 v10 (.tuple [.int q1.1, .int q1.2]) := hv10
        cases hv10' with
        | tup hsq ha =>
        cases ha with
        | cons a1 ha =>
        cases ha with
        | cons a2 ha =>
        cases a1
        cases a2
        cases ha
        show gTup K 2 _ _ _ _ _
        simp only [tSeq, tIfS, tTest, tB, tOp, tUn, tVar, tC, rI0, rI, rU, CMul, CDiv, CPow, L2.start, tRet, tRetN, tNext, tAsg, gName, tDrop, tCons, tNil, tTup, tLst, tTupN, tLstN, tCB, tCall, tIf, tAnd, tOr, tNot, tAndV, tOrV, tNotV, tIsN, tNotN, tApp, tExt, upT, upS, up, rEq, rNe, scal, tAug, ipI, tPart, tNoPart, tSl, tChain, wipe, tYes, tBreak, tCont, cxK, rNeD, rEqD, rIsD, rIxW, rIxE, rLenD, rSlD, rCatD, rTupD, rListW, tFld, sFld, List.map_cons, List.map_nil, List.length_cons, List.length_nil, List.replicate, List.cons_append, List.nil_append, List.append_nil, List.getElem?_cons_zero, List.getElem?_cons_succ, List.set_cons_zero, List.set_cons_succ, Nat.reduceAdd, Nat.reduceSub, Option.some.injEq, V.int.injEq, V.bl.injEq, V.str.injEq, V.ref.injEq, V.ty.injEq, List.cons.injEq, exists_eq_left, exists_eq_left', exists_eq_right, exists_and_left, and_true, true_and, and_assoc, decide_eq_true_eq, Bool.not_eq_true', decide_eq_false_iff_not, Bool.not_not, reduceCtorEq, false_and, and_false, or_false, false_or, exists_const, false_implies, implies_true, if_false, if_true, Bool.false_eq_true, eq_self, forall_eq', exists_false, decide_true, decide_false, ite_true, ite_false, not_true_eq_false, not_false_eq_true, or_true, true_or, gSub, rSetL, gTup, gCons, gNil, rIxH, rIxS, rLenH, HO.lst.injEq, HO.tup.injEq, atI_0, atI_1, atI_2, ixN_31, ixN_32, Int.reduceNeg, Int.reducePow, Int.reduceLT, Int.reduceLE, Nat.reducePow, Nat.reduceLT, Nat.reduceLeDiff, Int.reduceToNat, Int.reduceAbs, sizeLine_eq, Nat.le_refl, Nat.zero_le, Int.reduceMul, Int.reduceAdd, Int.reduceSub, exists_eq', exists_eq, tBM, tyV_str, tDKN, tDTN, tFor_eq, tLc_eq, iRng1, iRng2, iTup, iList, iEnumT_eq]
        refine ⟨_, hsq, rfl, _, _, rfl, _, _, rfl, rfl, fun t H5 nt s6 e6 => ?_⟩
        have hy5 := s6 _ _ hys
        refine ⟨ys, hy5, ?_, _, upd_same, ?_, Same.wr (Same.trans s5 s6) hD⟩
        · rw [DpA.length hyA, List.length_map, List.length_take]; omega
        · rw [List.take_succ, hq1, List.map_append]
          refine DpA.append (DpA.tk ((TK.same s6).trans (TK.lst hy5)) _ _ (immA_map (f := fun q : Nat × Nat => shD (i, q.1, q.2)) (fun _ => rfl) _) hyA) (DpA.one ?_)
          exact Dp.tk (TK.lst hy5) _ _ (imm_shD (i, q1.1, q1.2)) (.tup (SqT.of e6) (.cons (.int _) (.cons (.int _) (.cons (.int _) .nil))))
      · rintro D H4 hD ⟨ys, hys, hyA, s5⟩
        rw [List.length_map, List.take_length] at hyA
        have hp4 := s5 _ _ hp3
        refine ⟨D, rfl, xs, hp4, ys, hys, ?_, ?_⟩
        · rw [DpA.length hA, DpA.length hyA, List.length_map, List.length_map]; have := ro.len; omega
        · rw [hPv]
          have s45 := Same.trans s4 s5
          refine ⟨ss ++ ps.map (fun q => (i, q.1, q.2)), _, _, _, _, _, rfl, upd_same, ?_, ?_, ?_, Same.wr (Same.trans s32 s45) np, tk.trans ((TK.same (Same.trans s2 s45)).trans (TK.lst hp4))⟩
          · rw [List.map_append, List.map_map]
            exact DpA.append (DpA.tk ((TK.same (Same.trans s2 s45)).trans (TK.lst hp4)) _ _ (immA_map imm_shD _) hA) (DpA.tk (TK.lst hp4) _ _ (immA_map (f := fun q : Nat × Nat => shD (i, q.1, q.2)) (fun _ => rfl) _) hyA)
          · intro q hq
            rcases List.mem_append.mp hq with h | h
            · exact hok q h
            · obtain ⟨q2, hq2, rfl⟩ := List.mem_map.mp h
              have := hps q2 hq2
              rw [SX.S_len] at this
              exact ⟨r, hr1, this.1, this.2⟩
          · rw [List.length_append, List.length_map]; omega
    · intro σ H' hp
      rw [hPv] at hp
      obtain ⟨ss, xs, v5, v6, v7, v8, rfl, hp, hA, hok, hl, s3, tk⟩ := hp
      simp only [tSeq, tIfS, tTest, tB, tOp, tUn, tVar, tC, rI0, rI, rU, CMul, CDiv, CPow, L2.start, tRet, tRetN, tNext, tAsg, gName, tDrop, tCons, tNil, tTup, tLst, tTupN, tLstN, tCB, tCall, tIf, tAnd, tOr, tNot, tAndV, tOrV, tNotV, tIsN, tNotN, tApp, tExt, upT, upS, up, rEq, rNe, scal, tAug, ipI, tPart, tNoPart, tSl, tChain, wipe, tYes, tBreak, tCont, cxK, rNeD, rEqD, rIsD, rIxW, rIxE, rLenD, rSlD, rCatD, rTupD, rListW, tFld, sFld, List.map_cons, List.map_nil, List.length_cons, List.length_nil, List.replicate, List.cons_append, List.nil_append, List.append_nil, List.getElem?_cons_zero, List.getElem?_cons_succ, List.set_cons_zero, List.set_cons_succ, Nat.reduceAdd, Nat.reduceSub, Option.some.injEq, V.int.injEq, V.bl.injEq, V.str.injEq, V.ref.injEq, V.ty.injEq, List.cons.injEq, exists_eq_left, exists_eq_left', exists_eq_right, exists_and_left, and_true, true_and, and_assoc, decide_eq_true_eq, Bool.not_eq_true', decide_eq_false_iff_not, Bool.not_not, reduceCtorEq, false_and, and_false, or_false, false_or, exists_const, false_implies, implies_true, if_false, if_true, Bool.false_eq_true, eq_self, forall_eq', exists_false, decide_true, decide_false, ite_true, ite_false, not_true_eq_false, not_false_eq_true, or_true, true_or, gSub, rSetL, gTup, gCons, gNil, rIxH, rIxS, rLenH, HO.lst.injEq, HO.tup.injEq, atI_0, atI_1, atI_2, ixN_31, ixN_32, Int.reduceNeg, Int.reducePow, Int.reduceLT, Int.reduceLE, Nat.reducePow, Nat.reduceLT, Nat.reduceLeDiff, Int.reduceToNat, Int.reduceAbs, sizeLine_eq, Nat.le_refl, Nat.zero_le, Int.reduceMul, Int.reduceAdd, Int.reduceSub, exists_eq', exists_eq, tBM, tyV_str, tDKN, tDTN, tFor_eq, tLc_eq, iRng1, iRng2, iTup, iList, iEnumT_eq]
      rw [List.length_map] at hl
      have := ro.len
      exact ⟨_, immA_map imm_shD _, .inl ⟨_, hp, hA⟩, fun v H3 s4 hv => q _ v H3 hok (by omega) (Same.trans s3 s4) hv⟩
def spRowAt (K : Fr) : Sp := fun vs H Q _ => ∃ (x : V) (l c : Int) (ss : List (Nat × Nat × Nat)), vs = [x, .int l, .int c] ∧ Dp K H x (.tuple (ss.map shD)) ∧ ss.length ≤ 10100 ∧ ∀ (r : Nat) H', r ≤ ss.length → Same H H' → Q (.int r) H'
theorem ok_row_at (T : Txt K mg) : C8.Cal P w K mg base 1 "row_at" (spRowAt K) [] := by
  refine cal_of T.f_row_at .nil sc_row_at (fun vs H Q E h => ?_) (fun f cdv A outer s H vs Q E hr h => ?_)
  · obtain ⟨a, b, c, d, rfl, _⟩ := h; rfl
  · obtain ⟨x, l, c, ss, rfl, hx, hl, q⟩ := h
    have nd := sc_row_at.nd
    have hu := hu_of hr
    have hu0 := hu0_of hr
    have hu64 := hu64_of hr
    refine ⟨_, 
    (pss_cons (ps_set (i := 3) nd rfl (by first | exact Or.inl rfl | exact Or.inr rfl) pe_int)
    (pss_cons (ps_set (i := 4) nd rfl (by first | exact Or.inl rfl | exact Or.inr rfl) (pe_callB (id := "len") (call_lenD' (K := K)) (by rfl) T.b_len PySem.boot_len (pa_cons (pv 0) pa_nil)))
    (pss_cons (ps_while PassesOwn.never (pt_cmpR op_gt (pe_op op_sub (pv 4) (pv 3)) pe_int (nomark _)) 
        (pss_cons (ps_set (i := 5) nd rfl (by first | exact Or.inl rfl | exact Or.inr rfl) (pe_op op_fdiv (pe_op op_add (pv 3) (pv 4)) pe_int))
        (pss_one (ps_if (pt_cmpR (op_leT hu0) (pe_slice (sl_D (K := K)) (pe_ix (ix_D (K := K)) (pv 0) (pv 5) (fun _ _ => rfl)) po_none (po_some pe_int)) (pe_tupN (pa_cons (pv 1) (pa_cons (pv 2) pa_nil))) (nomark _)) 
            (pss_one (ps_set (i := 3) nd rfl (by first | exact Or.inl rfl | exact Or.inr rfl) (pv 5))) 
            (pss_one (ps_set (i := 4) nd rfl (by first | exact Or.inl rfl | exact Or.inr rfl) (pv 5)))))))
    (pss_one (ps_ret (pv 3)))))), ?_⟩
    simp only [tSeq, tIfS, tTest, tB, tOp, tUn, tVar, tC, rI0, rI, rU, CMul, CDiv, CPow, L2.start, tRet, tRetN, tNext, tAsg, gName, tDrop, tCons, tNil, tTup, tLst, tTupN, tLstN, tCB, tCall, tIf, tAnd, tOr, tNot, tAndV, tOrV, tNotV, tIsN, tNotN, tApp, tExt, upT, upS, up, rEq, rNe, scal, tAug, ipI, tPart, tNoPart, tSl, tChain, wipe, tYes, tBreak, tCont, cxK, rNeD, rEqD, rIsD, rIxW, rIxE, rLenD, rSlD, rCatD, rTupD, rListW, tFld, sFld, List.map_cons, List.map_nil, List.length_cons, List.length_nil, List.replicate, List.cons_append, List.nil_append, List.append_nil, List.getElem?_cons_zero, List.getElem?_cons_succ, List.set_cons_zero, List.set_cons_succ, Nat.reduceAdd, Nat.reduceSub, Option.some.injEq, V.int.injEq, V.bl.injEq, V.str.injEq, V.ref.injEq, V.ty.injEq, List.cons.injEq, exists_eq_left, exists_eq_left', exists_eq_right, exists_and_left, and_true, true_and, and_assoc, decide_eq_true_eq, Bool.not_eq_true', decide_eq_false_iff_not, Bool.not_not, reduceCtorEq, false_and, and_false, or_false, false_or, exists_const, false_implies, implies_true, if_false, if_true, Bool.false_eq_true, eq_self, forall_eq', exists_false, decide_true, decide_false, ite_true, ite_false, not_true_eq_false, not_false_eq_true, or_true, true_or, gSub, rSetL, gTup, gCons, gNil, rIxH, rIxS, rLenH, HO.lst.injEq, HO.tup.injEq, atI_0, atI_1, atI_2, ixN_31, ixN_32, Int.reduceNeg, Int.reducePow, Int.reduceLT, Int.reduceLE, Nat.reducePow, Nat.reduceLT, Nat.reduceLeDiff, Int.reduceToNat, Int.reduceAbs, sizeLine_eq, Nat.le_refl, Nat.zero_le, Int.reduceMul, Int.reduceAdd, Int.reduceSub, exists_eq', exists_eq, tBM, tyV_str, tDKN, tDTN, tFor_eq, tLc_eq, iRng1, iRng2, iTup, iList, iEnumT_eq]
    refine ⟨_, .inl hx, ?_⟩
    rw [List.length_map]
    refine ⟨fun m σ H' => ∃ (lo hi : Nat) (v : Option V), σ = [some x, some (.int l), some (.int c), some (.int lo), some (.int hi), v] ∧ m = hi - lo ∧ hi ≤ ss.length ∧ lo ≤ ss.length ∧ Same H H', ⟨_, 0, ss.length, none, rfl, rfl, Nat.le_refl _, Nat.zero_le _, Same.refl H⟩, ?_⟩
    rintro m σ H' ⟨lo, hi, v, rfl, rfl, h1, h2, s1⟩
    simp only [tSeq, tIfS, tTest, tB, tOp, tUn, tVar, tC, rI0, rI, rU, CMul, CDiv, CPow, L2.start, tRet, tRetN, tNext, tAsg, gName, tDrop, tCons, tNil, tTup, tLst, tTupN, tLstN, tCB, tCall, tIf, tAnd, tOr, tNot, tAndV, tOrV, tNotV, tIsN, tNotN, tApp, tExt, upT, upS, up, rEq, rNe, scal, tAug, ipI, tPart, tNoPart, tSl, tChain, wipe, tYes, tBreak, tCont, cxK, rNeD, rEqD, rIsD, rIxW, rIxE, rLenD, rSlD, rCatD, rTupD, rListW, tFld, sFld, List.map_cons, List.map_nil, List.length_cons, List.length_nil, List.replicate, List.cons_append, List.nil_append, List.append_nil, List.getElem?_cons_zero, List.getElem?_cons_succ, List.set_cons_zero, List.set_cons_succ, Nat.reduceAdd, Nat.reduceSub, Option.some.injEq, V.int.injEq, V.bl.injEq, V.str.injEq, V.ref.injEq, V.ty.injEq, List.cons.injEq, exists_eq_left, exists_eq_left', exists_eq_right, exists_and_left, and_true, true_and, and_assoc, decide_eq_true_eq, Bool.not_eq_true', decide_eq_false_iff_not, Bool.not_not, reduceCtorEq, false_and, and_false, or_false, false_or, exists_const, false_implies, implies_true, if_false, if_true, Bool.false_eq_true, eq_self, forall_eq', exists_false, decide_true, decide_false, ite_true, ite_false, not_true_eq_false, not_false_eq_true, or_true, true_or, gSub, rSetL, gTup, gCons, gNil, rIxH, rIxS, rLenH, HO.lst.injEq, HO.tup.injEq, atI_0, atI_1, atI_2, ixN_31, ixN_32, Int.reduceNeg, Int.reducePow, Int.reduceLT, Int.reduceLE, Nat.reducePow, Nat.reduceLT, Nat.reduceLeDiff, Int.reduceToNat, Int.reduceAbs, sizeLine_eq, Nat.le_refl, Nat.zero_le, Int.reduceMul, Int.reduceAdd, Int.reduceSub, exists_eq', exists_eq, tBM, tyV_str, tDKN, tDTN, tFor_eq, tLc_eq, iRng1, iRng2, iTup, iList, iEnumT_eq]
    refine ite2 (fun hc => ?_) (fun hc => q lo H' h2 s1)
    refine ⟨_, fun _ _ h => h, ?_⟩
    obtain ⟨mi, hmi, hm1, hm2⟩ : ∃ mi : Nat, ((lo : Int) + (hi : Int)) / 2 = mi ∧ lo < mi ∧ mi < hi := ⟨(((lo : Int) + (hi : Int)) / 2).toNat, by omega, by omega, by omega⟩
    have hx1 := Dp.same s1 _ _ hx
    have hms : mi < ss.length := by omega
    rw [hmi]
    refine ⟨_, hx1, shD ss[mi], atI_nat (by rw [List.getElem?_map, List.getElem?_eq_getElem hms]; rfl), fun v1 hv1 => ⟨_, hv1, rfl, fun v2 H2 s2 hv2 t H3 nt s3 e3 => ?_⟩⟩
    have hv2' : Dp K H2 v2 (.tuple [.int ss[mi].1, .int ss[mi].2.1]) := hv2
    have hv3 := Dp.same s3 _ _ hv2'
    cases hv3 with
    | @tup a9 xs9 _ hsq ha =>
    cases ha with
    | cons a1 ha =>
    cases ha with
    | cons a2 ha =>
    cases a1
    cases a2
    cases ha
    have s13 := Same.trans s1 (Same.trans s2 s3)
    refine ⟨a9, t, [(ss[mi].1 : Int), (ss[mi].2.1 : Int)], [l, c], rfl, rfl, hsq, SqT.of e3, _, rfl, ?_⟩
    refine ite2 (fun _ => ?_) (fun _ => ?_)
    · exact ⟨_, by omega, mi, hi, _, rfl, rfl, h1, by omega, s13⟩
    · exact ⟨_, by omega, lo, mi, _, rfl, rfl, by omega, h2, s13⟩
def spSel (K : Fr) : Sp := fun vs H Q _ => ∃ (a : Addr) (l : Int) (s e : Nat), vs = [.ref a, .int l, .int s, .int e] ∧ H a = some (.lst []) ∧ s ≤ e ∧ e ≤ 1000 ∧ ∀ p H', H p = none → Same H H' → H' p = some (.lst (List.replicate (e - s) (.int 0))) → Q (.ref p) H'
theorem ok_sel (T : Txt K mg) : C8.Cal P w K mg base 1 "selected_between" (spSel K) [] := by
  refine cal_of T.f_selected_between .nil sc_selected_between (fun vs H Q E h => ?_) (fun f cdv A outer s H vs Q E hr h => ?_)
  · obtain ⟨a, b, c, d, rfl, _⟩ := h; rfl
  · obtain ⟨a, l, st, e, rfl, ha, h1, h2, q⟩ := h
    have nd := sc_selected_between.nd
    have hu := hu_of hr
    have hu0 := hu0_of hr
    have hu64 := hu64_of hr
    refine ⟨_, 
    (pss_cons (ps_set (i := 4) nd rfl (by first | exact Or.inl rfl | exact Or.inr rfl) (pe_op op_rep (pe_lstN (pa_cons pe_int pa_nil)) (pe_op op_sub (pv 3) (pv 2))))
    (pss_cons (ps_for PassesOwn.never rfl (pi_listK (K := K) (pv 0)) (pg_tupK (K := K) (n := 3) rfl (pgs_cons (pg_name (i := 5) nd rfl (by first | exact Or.inl rfl | exact Or.inr rfl)) (pgs_cons (pg_name (i := 6) nd rfl (by first | exact Or.inl rfl | exact Or.inr rfl)) (pgs_cons (pg_name (i := 7) nd rfl (by first | exact Or.inl rfl | exact Or.inr rfl)) pgs_nil)))) 
        (pss_one ps_never))
    (pss_one (ps_ret (pv 4))))), ?_⟩
    simp only [tSeq, tIfS, tTest, tB, tOp, tUn, tVar, tC, rI0, rI, rU, CMul, CDiv, CPow, L2.start, tRet, tRetN, tNext, tAsg, gName, tDrop, tCons, tNil, tTup, tLst, tTupN, tLstN, tCB, tCall, tIf, tAnd, tOr, tNot, tAndV, tOrV, tNotV, tIsN, tNotN, tApp, tExt, upT, upS, up, rEq, rNe, scal, tAug, ipI, tPart, tNoPart, tSl, tChain, wipe, tYes, tBreak, tCont, cxK, rNeD, rEqD, rIsD, rIxW, rIxE, rLenD, rSlD, rCatD, rTupD, rListW, tFld, sFld, List.map_cons, List.map_nil, List.length_cons, List.length_nil, List.replicate, List.cons_append, List.nil_append, List.append_nil, List.getElem?_cons_zero, List.getElem?_cons_succ, List.set_cons_zero, List.set_cons_succ, Nat.reduceAdd, Nat.reduceSub, Option.some.injEq, V.int.injEq, V.bl.injEq, V.str.injEq, V.ref.injEq, V.ty.injEq, List.cons.injEq, exists_eq_left, exists_eq_left', exists_eq_right, exists_and_left, and_true, true_and, and_assoc, decide_eq_true_eq, Bool.not_eq_true', decide_eq_false_iff_not, Bool.not_not, reduceCtorEq, false_and, and_false, or_false, false_or, exists_const, false_implies, implies_true, if_false, if_true, Bool.false_eq_true, eq_self, forall_eq', exists_false, decide_true, decide_false, ite_true, ite_false, not_true_eq_false, not_false_eq_true, or_true, true_or, gSub, rSetL, gTup, gCons, gNil, rIxH, rIxS, rLenH, HO.lst.injEq, HO.tup.injEq, atI_0, atI_1, atI_2, ixN_31, ixN_32, Int.reduceNeg, Int.reducePow, Int.reduceLT, Int.reduceLE, Nat.reducePow, Nat.reduceLT, Nat.reduceLeDiff, Int.reduceToNat, Int.reduceAbs, sizeLine_eq, Nat.le_refl, Nat.zero_le, Int.reduceMul, Int.reduceAdd, Int.reduceSub, exists_eq', exists_eq, tBM, tyV_str, tDKN, tDTN, tFor_eq, tLc_eq, iRng1, iRng2, iTup, iList, iEnumT_eq]
    intro p H1 np s1 e1
    refine ⟨p, _, _, rfl, rfl, e1, by omega, by omega, by have := sizeLine_eq; simp; omega, fun p2 np2 => ?_⟩
    have s2 : Same H (upd H1 p2 (.lst (List.replicate ((e : Int) - st).toNat [V.int 0]).flatten)) := Same.trans s1 (Same.new np2)
    refine ⟨⟨_, SqL.of (s2 _ _ ha)⟩, loop_H (xs := []) (fun i σ H' => i = 0 ∧ σ = [some (.ref a), some (.int l), some (.int st), some (.int e), some (.ref p2), none, none, none, none, none, none] ∧ H' = upd H1 p2 (.lst (List.replicate ((e : Int) - st).toNat [V.int 0]).flatten)) ⟨rfl, rfl, rfl⟩ (fun i σ H' ⟨_, _, e⟩ => by rw [e]; exact SqL.of (s2 _ _ ha)) (fun i v σ H' e => by simp at e) ?_⟩
    rintro σ H' ⟨_, rfl, rfl⟩
    simp only [tSeq, tIfS, tTest, tB, tOp, tUn, tVar, tC, rI0, rI, rU, CMul, CDiv, CPow, L2.start, tRet, tRetN, tNext, tAsg, gName, tDrop, tCons, tNil, tTup, tLst, tTupN, tLstN, tCB, tCall, tIf, tAnd, tOr, tNot, tAndV, tOrV, tNotV, tIsN, tNotN, tApp, tExt, upT, upS, up, rEq, rNe, scal, tAug, ipI, tPart, tNoPart, tSl, tChain, wipe, tYes, tBreak, tCont, cxK, rNeD, rEqD, rIsD, rIxW, rIxE, rLenD, rSlD, rCatD, rTupD, rListW, tFld, sFld, List.map_cons, List.map_nil, List.length_cons, List.length_nil, List.replicate, List.cons_append, List.nil_append, List.append_nil, List.getElem?_cons_zero, List.getElem?_cons_succ, List.set_cons_zero, List.set_cons_succ, Nat.reduceAdd, Nat.reduceSub, Option.some.injEq, V.int.injEq, V.bl.injEq, V.str.injEq, V.ref.injEq, V.ty.injEq, List.cons.injEq, exists_eq_left, exists_eq_left', exists_eq_right, exists_and_left, and_true, true_and, and_assoc, decide_eq_true_eq, Bool.not_eq_true', decide_eq_false_iff_not, Bool.not_not, reduceCtorEq, false_and, and_false, or_false, false_or, exists_const, false_implies, implies_true, if_false, if_true, Bool.false_eq_true, eq_self, forall_eq', exists_false, decide_true, decide_false, ite_true, ite_false, not_true_eq_false, not_false_eq_true, or_true, true_or, gSub, rSetL, gTup, gCons, gNil, rIxH, rIxS, rLenH, HO.lst.injEq, HO.tup.injEq, atI_0, atI_1, atI_2, ixN_31, ixN_32, Int.reduceNeg, Int.reducePow, Int.reduceLT, Int.reduceLE, Nat.reducePow, Nat.reduceLT, Nat.reduceLeDiff, Int.reduceToNat, Int.reduceAbs, sizeLine_eq, Nat.le_refl, Nat.zero_le, Int.reduceMul, Int.reduceAdd, Int.reduceSub, exists_eq', exists_eq, tBM, tyV_str, tDKN, tDTN, tFor_eq, tLc_eq, iRng1, iRng2, iTup, iList, iEnumT_eq]
    refine q p2 _ (s1.free np2) s2 ?_
    rw [upd_same, List.flatten_replicate_singleton]
    have : ((e : Int) - st).toNat = e - st := by omega
    rw [this]
end
end K63
namespace K63
open PySem PySem.Spec PyProof.Rows L2 Ds
-- imports A63 B63h B63j M63
abbrev sTileFrame___init__ : Stmt := inClass (top 12) 0
theorem sc_TileFrame___init__ : FnScope ["self", "rows", "spans", "screen_rows", "hidden", "line"] ["self", "rows", "spans", "screen_rows", "hidden"] (C8.fnScope sTileFrame___init__) := C8.fnScope_by (by decide +kernel)
abbrev sTileFrame_screen : Stmt := inClass (top 12) 1
theorem sc_TileFrame_screen : FnScope ["self", "picks", "top", "width", "height", "first", "head", "heads", "lines", "at"] ["self", "picks", "top", "width", "height"] (C8.fnScope sTileFrame_screen) := C8.fnScope_by (by decide +kernel)
abbrev sTileFrame__head_flags : Stmt := inClass (top 12) 2
theorem sc_TileFrame__head_flags : FnScope ["self", "picks", "width", "heads", "pick", "line", "column"] ["self", "picks", "width"] (C8.fnScope sTileFrame__head_flags) := C8.fnScope_by (by decide +kernel)
abbrev sTileFrame__row_tiles : Stmt := inClass (top 12) 3
theorem sc_TileFrame__row_tiles : FnScope ["self", "at", "picks", "heads", "width", "line", "start", "end", "row", "colours", "selected", "folded", "tiles", "column", "flags"] ["self", "at", "picks", "heads", "width"] (C8.fnScope sTileFrame__row_tiles) := C8.fnScope_by (by decide +kernel)
section
variable {P : Program} {w : World} {K : Fr} {mg : Str → Option Value} {base : Heap} {C : Addr}
def ff (rw sh : V) (D : Addr) : List (Str × V) := [("_rows", rw), ("_spans", .non), ("_shown", sh), ("_covered", .ref D)]
theorem ff_rows (rw sh : V) (D : Addr) : (ff rw sh D).lookup ("_rows" : Str) = some rw := rfl
theorem ff_spans (rw sh : V) (D : Addr) : (ff rw sh D).lookup ("_spans" : Str) = some V.non := rfl
theorem ff_shown (rw sh : V) (D : Addr) : (ff rw sh D).lookup ("_shown" : Str) = some sh := rfl
theorem ff_covered (rw sh : V) (D : Addr) : (ff rw sh D).lookup ("_covered" : Str) = some (V.ref D) := rfl
theorem pf1 (rw : V) : putF "_rows" rw [] = [(("_rows" : Str), rw)] := rfl
theorem pf2 (rw : V) : putF "_spans" V.non [(("_rows" : Str), rw)] = [(("_rows" : Str), rw), (("_spans" : Str), V.non)] := by
  have h : ¬ (("_rows" : Str) = ("_spans" : Str)) := by decide +kernel
  simp only [putF, if_neg h]
theorem pf3 (rw sh : V) : putF "_shown" sh [(("_rows" : Str), rw), (("_spans" : Str), V.non)] = [(("_rows" : Str), rw), (("_spans" : Str), V.non), (("_shown" : Str), sh)] := by
  have h1 : ¬ (("_rows" : Str) = ("_shown" : Str)) := by decide +kernel
  have h2 : ¬ (("_spans" : Str) = ("_shown" : Str)) := by decide +kernel
  simp only [putF, if_neg h1, if_neg h2]
theorem pf4 (rw sh : V) (D : Addr) : putF "_covered" (V.ref D) [(("_rows" : Str), rw), (("_spans" : Str), V.non), (("_shown" : Str), sh)] = ff rw sh D := by
  have h1 : ¬ (("_rows" : Str) = ("_covered" : Str)) := by decide +kernel
  have h2 : ¬ (("_spans" : Str) = ("_covered" : Str)) := by decide +kernel
  have h3 : ¬ (("_shown" : Str) = ("_covered" : Str)) := by decide +kernel
  simp only [putF, if_neg h1, if_neg h2, if_neg h3]
  rfl
theorem DpA.rep {H : Hp} {v : V} {d : PyData} (h : Dp K H v d) : ∀ n : Nat, DpAll K H (List.replicate n v) (List.replicate n d)
  | 0 => .nil
  | n + 1 => .cons h (DpA.rep h n)
def spInit (C : Addr) : Sp := fun vs H Q _ => ∃ (p dx hid : Addr) (rw sh : V), vs = [.ref p, rw, .non, sh, .ref hid] ∧ H p = some (.ins C dx []) ∧ H hid = some (.dK []) ∧
  ∀ D H', H' p = some (.ins C dx (ff rw sh D)) → H D = none → H' D = some (.dK []) → (∀ b o, b ≠ p → H b = some o → H' b = some o) → Q .non H'
theorem ok_init (T : Txt K mg) (F : TFr K mg C) : C8.Mak P w K mg base 1 "TileFrame" C (spInit C) [] := by
  refine mak_of F.mgC F.f_init sc_TileFrame___init__ (fun vs H Q E h => ?_) (fun f cdv A outer s H vs Q E hr h => ?_)
  · obtain ⟨a, b, c, d, e, rfl, _⟩ := h; rfl
  · obtain ⟨p, dx, hid, rw', sh, rfl, hp, hh, q⟩ := h
    have nd := sc_TileFrame___init__.nd
    have hu := hu_of hr
    have hu0 := hu0_of hr
    have hu64 := hu64_of hr
    refine ⟨_, 
    (pss_cons (ps_fld (pv 0) (pv 1) rfl)
    (pss_cons (ps_fld (pv 0) (pv 2) rfl)
    (pss_cons (ps_fld (pv 0) (pv 3) rfl)
    (pss_one (ps_fld (pv 0) (pe_lock (pe_dc (own := [("line", 5)]) rfl nd (pi_keys (pv 4)) (blkOk_by (own := [("line", 5)]) (by first | decide +kernel | kernel_rfl | rfl)) (fun _ _ _ _ _ => (pg_name (i := 5) nd rfl (by first | exact Or.inl rfl | exact Or.inr rfl))) (fun _ _ _ _ _ => pts_nil) (fun _ _ _ _ _ => (pv 5)) (fun _ _ _ _ _ => pe_bl))) rfl))))), ?_⟩
    simp only [tSeq, tIfS, tTest, tB, tOp, tUn, tVar, tC, rI0, rI, rU, CMul, CDiv, CPow, L2.start, tRet, tRetN, tNext, tAsg, gName, tDrop, tCons, tNil, tTup, tLst, tTupN, tLstN, tCB, tCall, tIf, tAnd, tOr, tNot, tAndV, tOrV, tNotV, tIsN, tNotN, tApp, tExt, upT, upS, up, rEq, rNe, scal, tAug, ipI, tPart, tNoPart, tSl, tChain, wipe, tYes, tBreak, tCont, cxK, rNeD, rEqD, rIsD, rIxW, rIxE, rLenD, rSlD, rCatD, rTupD, rListW, tFld, sFld, List.map_cons, List.map_nil, List.length_cons, List.length_nil, List.replicate, List.cons_append, List.nil_append, List.append_nil, List.getElem?_cons_zero, List.getElem?_cons_succ, List.set_cons_zero, List.set_cons_succ, Nat.reduceAdd, Nat.reduceSub, Option.some.injEq, V.int.injEq, V.bl.injEq, V.str.injEq, V.ref.injEq, V.ty.injEq, List.cons.injEq, exists_eq_left, exists_eq_left', exists_eq_right, exists_and_left, and_true, true_and, and_assoc, decide_eq_true_eq, Bool.not_eq_true', decide_eq_false_iff_not, Bool.not_not, reduceCtorEq, false_and, and_false, or_false, false_or, exists_const, false_implies, implies_true, if_false, if_true, Bool.false_eq_true, eq_self, forall_eq', exists_false, decide_true, decide_false, ite_true, ite_false, not_true_eq_false, not_false_eq_true, or_true, true_or, gSub, rSetL, gTup, gCons, gNil, rIxH, rIxS, rLenH, HO.lst.injEq, HO.tup.injEq, atI_0, atI_1, atI_2, ixN_31, ixN_32, Int.reduceNeg, Int.reducePow, Int.reduceLT, Int.reduceLE, Nat.reducePow, Nat.reduceLT, Nat.reduceLeDiff, Int.reduceToNat, Int.reduceAbs, sizeLine_eq, Nat.le_refl, Nat.zero_le, Int.reduceMul, Int.reduceAdd, Int.reduceSub, exists_eq', exists_eq, tBM, tyV_str, tDKN, tDTN, tFor_eq, tLc_eq, iRng1, iRng2, iTup, iList, iEnumT_eq]
    have hph : hid ≠ p := fun z => by rw [z, hp] at hh; cases hh
    have lt : ∀ n : Nat, n ≤ 3 → n < 1000 := fun n h => by omega
    refine ⟨C, dx, [], hp, F.cl, F.n_rows, lt 0 (by decide), C, dx, [(("_rows" : Str), rw')], by rw [upd_same, pf1], F.cl, F.n_spans, lt 1 (by decide), C, dx, [(("_rows" : Str), rw'), (("_spans" : Str), V.non)], by rw [upd_same, pf2], F.cl, F.n_shown, lt 2 (by decide), ?_⟩
    rw [pf3]
    obtain ⟨H3, h3⟩ : ∃ H3, H3 = upd (upd (upd H p (.ins C dx (putF "_rows" rw' []))) p (.ins C dx (putF "_spans" .non [(("_rows" : Str), rw')]))) p (.ins C dx [(("_rows" : Str), rw'), (("_spans" : Str), V.non), (("_shown" : Str), sh)]) := ⟨_, rfl⟩
    rw [← h3]
    have e3 : ∀ b, b ≠ p → H3 b = H b := fun b nb => by rw [h3, upd_ne nb, upd_ne nb, upd_ne nb]
    have p3 : H3 p = some (.ins C dx [(("_rows" : Str), rw'), (("_spans" : Str), V.non), (("_shown" : Str), sh)]) := by rw [h3, upd_same]
    refine ⟨hid, .dK [], by rw [e3 _ hph]; exact hh, trivial, fun od => ?_⟩
    obtain ⟨H4, h4⟩ : ∃ H4, H4 = upd H3 hid (.frz od (.dK [])) := ⟨_, rfl⟩
    rw [← h4]
    have f4 : H4 hid = some (.frz od (.dK [])) := by rw [h4, upd_same]
    refine ⟨_, rfl, hid, od, rfl, .inl ⟨[], f4, fun D hD => ⟨fun i m H' => i = 0 ∧ H' = upd H4 D (.dK []), ⟨0, rfl, rfl⟩, ?_⟩⟩⟩
    rintro i m H' ⟨rfl, rfl⟩
    have hDh : D ≠ hid := fun z => by rw [z, f4] at hD; cases hD
    have hDp : D ≠ p := fun z => by rw [z, h4, upd_ne (Ne.symm hph), p3] at hD; cases hD
    have hDn : H D = none := by rw [h4, upd_ne hDh, e3 _ hDp] at hD; exact hD
    have k4 : upd H4 D (.dK []) hid = some (.frz od (.dK [])) := by rw [upd_ne (Ne.symm hDh)]; exact f4
    refine .inl ⟨⟨k4, Nat.le_refl _⟩, k4, C, dx, [(("_rows" : Str), rw'), (("_spans" : Str), V.non), (("_shown" : Str), sh)], by rw [upd_ne (Ne.symm hph), upd_ne (Ne.symm hDp), h4, upd_ne (Ne.symm hph)]; exact p3, F.cl, F.n_covered, lt 3 (by decide), ?_⟩
    rw [pf4]
    refine q D _ upd_same hDn (by rw [upd_ne hDp, upd_ne hDh, upd_same]) (fun b o nb hb => ?_)
    rw [upd_ne nb]
    by_cases e : b = hid
    · subst e; rw [upd_same, ← hh]; exact hb
    · have nD : b ≠ D := fun z => by rw [z, hDn] at hb; cases hb
      rw [upd_ne e, upd_ne nD, h4, upd_ne e, e3 _ nb]; exact hb
/-- the frame at p: rows, pieces, nothing folded -/
structure FrameAt (K : Fr) (C : Addr) (H : Hp) (p : Addr) (rows : List (List Nat)) (ss : List (Nat × Nat × Nat)) : Prop where
  ex : ∃ (dx D : Addr) (rw sh : V), H p = some (.ins C dx (ff rw sh D)) ∧ H D = some (.dK []) ∧ Dp K H rw (rowsD rows) ∧ Dp K H sh (.tuple (ss.map shD))
theorem FrameAt.same {H H' : Hp} {p : Addr} {rows : List (List Nat)} {ss : List (Nat × Nat × Nat)} (s : Same H H') (h : FrameAt K C H p rows ss) : FrameAt K C H' p rows ss := by
  obtain ⟨dx, D, rw, sh, a, b, c, d⟩ := h.ex
  exact ⟨dx, D, rw, sh, s _ _ a, s _ _ b, Dp.same s _ _ c, Dp.same s _ _ d⟩
def spHeads (K : Fr) (C : Addr) : Sp := fun vs H Q _ => ∃ (p a : Addr) (x : V), vs = [.ref p, .ref a, x] ∧ H a = some (.lst []) ∧ ∀ d H', Same H H' → H' d = some (.dT []) → Q (.ref d) H'
theorem ok_heads (T : Txt K mg) (F : TFr K mg C) : C8.Met P w K mg base 1 C "_head_flags" (spHeads K C) [] := by
  refine met_of F.cl F.f__head_flags sc_TileFrame__head_flags (fun vs H Q E h => ?_) (fun f cdv A outer s H vs Q E hr h => ?_)
  · obtain ⟨a, b, c, rfl, _⟩ := h; rfl
  · obtain ⟨p, a, x, rfl, ha, q⟩ := h
    have nd := sc_TileFrame__head_flags.nd
    have hu := hu_of hr
    have hu0 := hu0_of hr
    have hu64 := hu64_of hr
    refine ⟨_, 
    (pss_cons (ps_set (i := 3) nd rfl (by first | exact Or.inl rfl | exact Or.inr rfl) pe_dnewTN)
    (pss_cons (ps_for PassesOwn.never rfl (pi_listK (K := K) (pv 1)) (pg_name (i := 4) nd rfl (by first | exact Or.inl rfl | exact Or.inr rfl)) 
        (pss_cons ps_never
        (pss_one ps_never)))
    (pss_one (ps_ret (pv 3))))), ?_⟩
    simp only [tSeq, tIfS, tTest, tB, tOp, tUn, tVar, tC, rI0, rI, rU, CMul, CDiv, CPow, L2.start, tRet, tRetN, tNext, tAsg, gName, tDrop, tCons, tNil, tTup, tLst, tTupN, tLstN, tCB, tCall, tIf, tAnd, tOr, tNot, tAndV, tOrV, tNotV, tIsN, tNotN, tApp, tExt, upT, upS, up, rEq, rNe, scal, tAug, ipI, tPart, tNoPart, tSl, tChain, wipe, tYes, tBreak, tCont, cxK, rNeD, rEqD, rIsD, rIxW, rIxE, rLenD, rSlD, rCatD, rTupD, rListW, tFld, sFld, List.map_cons, List.map_nil, List.length_cons, List.length_nil, List.replicate, List.cons_append, List.nil_append, List.append_nil, List.getElem?_cons_zero, List.getElem?_cons_succ, List.set_cons_zero, List.set_cons_succ, Nat.reduceAdd, Nat.reduceSub, Option.some.injEq, V.int.injEq, V.bl.injEq, V.str.injEq, V.ref.injEq, V.ty.injEq, List.cons.injEq, exists_eq_left, exists_eq_left', exists_eq_right, exists_and_left, and_true, true_and, and_assoc, decide_eq_true_eq, Bool.not_eq_true', decide_eq_false_iff_not, Bool.not_not, reduceCtorEq, false_and, and_false, or_false, false_or, exists_const, false_implies, implies_true, if_false, if_true, Bool.false_eq_true, eq_self, forall_eq', exists_false, decide_true, decide_false, ite_true, ite_false, not_true_eq_false, not_false_eq_true, or_true, true_or, gSub, rSetL, gTup, gCons, gNil, rIxH, rIxS, rLenH, HO.lst.injEq, HO.tup.injEq, atI_0, atI_1, atI_2, ixN_31, ixN_32, Int.reduceNeg, Int.reducePow, Int.reduceLT, Int.reduceLE, Nat.reducePow, Nat.reduceLT, Nat.reduceLeDiff, Int.reduceToNat, Int.reduceAbs, sizeLine_eq, Nat.le_refl, Nat.zero_le, Int.reduceMul, Int.reduceAdd, Int.reduceSub, exists_eq', exists_eq, tBM, tyV_str, tDKN, tDTN, tFor_eq, tLc_eq, iRng1, iRng2, iTup, iList, iEnumT_eq]
    intro D H1 nD s1 e1
    refine ⟨⟨_, SqL.of (s1 _ _ ha)⟩, loop_H (xs := []) (fun i σ H' => i = 0 ∧ σ = [some (.ref p), some (.ref a), some x, some (.ref D), none, none, none] ∧ H' = H1) ⟨rfl, rfl, rfl⟩ (fun i σ H' ⟨_, _, e⟩ => by rw [e]; exact SqL.of (s1 _ _ ha)) (fun i v σ H' e => by simp at e) ?_⟩
    rintro σ H' ⟨_, rfl, rfl⟩
    simp only [tSeq, tIfS, tTest, tB, tOp, tUn, tVar, tC, rI0, rI, rU, CMul, CDiv, CPow, L2.start, tRet, tRetN, tNext, tAsg, gName, tDrop, tCons, tNil, tTup, tLst, tTupN, tLstN, tCB, tCall, tIf, tAnd, tOr, tNot, tAndV, tOrV, tNotV, tIsN, tNotN, tApp, tExt, upT, upS, up, rEq, rNe, scal, tAug, ipI, tPart, tNoPart, tSl, tChain, wipe, tYes, tBreak, tCont, cxK, rNeD, rEqD, rIsD, rIxW, rIxE, rLenD, rSlD, rCatD, rTupD, rListW, tFld, sFld, List.map_cons, List.map_nil, List.length_cons, List.length_nil, List.replicate, List.cons_append, List.nil_append, List.append_nil, List.getElem?_cons_zero, List.getElem?_cons_succ, List.set_cons_zero, List.set_cons_succ, Nat.reduceAdd, Nat.reduceSub, Option.some.injEq, V.int.injEq, V.bl.injEq, V.str.injEq, V.ref.injEq, V.ty.injEq, List.cons.injEq, exists_eq_left, exists_eq_left', exists_eq_right, exists_and_left, and_true, true_and, and_assoc, decide_eq_true_eq, Bool.not_eq_true', decide_eq_false_iff_not, Bool.not_not, reduceCtorEq, false_and, and_false, or_false, false_or, exists_const, false_implies, implies_true, if_false, if_true, Bool.false_eq_true, eq_self, forall_eq', exists_false, decide_true, decide_false, ite_true, ite_false, not_true_eq_false, not_false_eq_true, or_true, true_or, gSub, rSetL, gTup, gCons, gNil, rIxH, rIxS, rLenH, HO.lst.injEq, HO.tup.injEq, atI_0, atI_1, atI_2, ixN_31, ixN_32, Int.reduceNeg, Int.reducePow, Int.reduceLT, Int.reduceLE, Nat.reducePow, Nat.reduceLT, Nat.reduceLeDiff, Int.reduceToNat, Int.reduceAbs, sizeLine_eq, Nat.le_refl, Nat.zero_le, Int.reduceMul, Int.reduceAdd, Int.reduceSub, exists_eq', exists_eq, tBM, tyV_str, tDKN, tDTN, tFor_eq, tLc_eq, iRng1, iRng2, iTup, iList, iEnumT_eq]
    exact q D _ s1 e1
def spRowTiles (K : Fr) (C : Addr) : Sp := fun vs H Q _ => ∃ (p a d : Addr) (k wi : Nat) (rows : List (List Nat)) (ss : List (Nat × Nat × Nat)), vs = [.ref p, .int k, .ref a, .ref d, .int wi] ∧ FrameAt K C H p rows ss ∧ RowsOk rows ∧ ShOk rows ss ∧ k < ss.length ∧ wi ≤ 100 ∧
  H a = some (.lst []) ∧ H d = some (.dT []) ∧ ∀ r v H', r.length = wi → (∀ t ∈ r, okT t) → Same H H' → Dp K H' v (rowD r) → Q v H'
theorem ok_row_tiles (T : Txt K mg) (F : TFr K mg C) : C8.Met P w K mg base 2 C "_row_tiles" (spRowTiles K C) [] := by
  have C_selected_between := ok_sel (P := P) (w := w) (base := base) T
  refine met_of F.cl F.f__row_tiles sc_TileFrame__row_tiles (fun vs H Q E h => ?_) (fun f cdv A outer s H vs Q E hr h => ?_)
  · obtain ⟨a, b, c, d, e, f, g, rfl, _⟩ := h; rfl
  · obtain ⟨p, a, d, k, wi, rows, ss, rfl, hF, ro, so, hk, hw1, ha, hd, q⟩ := h
    have nd := sc_TileFrame__row_tiles.nd
    have hu := hu_of hr
    have hu0 := hu0_of hr
    have hu64 := hu64_of hr
    refine ⟨_, 
    (pss_cons (ps_asg (pe_ix (ix_D (K := K)) (pe_fldK (K := K) (pv 0) rfl) (pv 1) (fun _ _ => rfl)) (pg_tupK (K := K) (n := 3) rfl (pgs_cons (pg_name (i := 5) nd rfl (by first | exact Or.inl rfl | exact Or.inr rfl)) (pgs_cons (pg_name (i := 6) nd rfl (by first | exact Or.inl rfl | exact Or.inr rfl)) (pgs_cons (pg_name (i := 7) nd rfl (by first | exact Or.inl rfl | exact Or.inr rfl)) pgs_nil)))))
    (pss_cons (ps_set (i := 8) nd rfl (by first | exact Or.inl rfl | exact Or.inr rfl) (pe_ix (ix_D (K := K)) (pe_fldK (K := K) (pv 0) rfl) (pv 5) (fun _ _ => rfl)))
    (pss_cons (ps_set (i := 9) nd rfl (by first | exact Or.inl rfl | exact Or.inr rfl) (pe_op op_rep (pe_lstN (pa_cons pe_int pa_nil)) (pe_op op_sub (pv 7) (pv 6))))
    (pss_cons (ps_if (pt_cmp (pc_notN (pe_fldK (K := K) (pv 0) rfl))) 
        (pss_one (ps_set (i := 9) nd rfl (by first | exact Or.inl rfl | exact Or.inr rfl) pe_never)) pss_nil)
    (pss_cons (ps_set (i := 10) nd rfl (by first | exact Or.inl rfl | exact Or.inr rfl) (C8.pe_c C_selected_between hr (by decide) rfl (pa_cons (pv 2) (pa_cons (pv 5) (pa_cons (pv 6) (pa_cons (pv 7) pa_nil))))))
    (pss_cons (ps_set (i := 11) nd rfl (by first | exact Or.inl rfl | exact Or.inr rfl) (pe_ifExp (PT.up (PW.pt (pw_and (pt_cmpR op_eq (pv 7) (pe_callB (id := "len") call_len_str (by rfl) T.b_len PySem.boot_len (pa_cons (pv 8) pa_nil)) (nomark _)) (pw_and1 (pt_cmp (pc_din hu (pe_op op_add (pv 5) pe_int) (pe_fldK (K := K) (pv 0) rfl)) (by with_unfolding_all rfl)))))) pe_int pe_int))
    (pss_cons (ps_set (i := 12) nd rfl (by first | exact Or.inl rfl | exact Or.inr rfl) (pe_lstN pa_nil))
    (pss_cons (ps_for PassesOwn.never rfl (pi_range1 rfl T.b_range (pa_cons (pv 4) pa_nil)) (pg_name (i := 13) nd rfl (by first | exact Or.inl rfl | exact Or.inr rfl)) 
        (pss_cons (ps_set (i := 14) nd rfl (by first | exact Or.inl rfl | exact Or.inr rfl) (pe_op op_add (pv 11) (pe_dget2 hu (pv 3) (pe_tupN (pa_cons (pv 1) (pa_cons (pv 13) pa_nil))) pe_int ⟨rfl, rfl, rfl, rfl⟩)))
        (pss_one (ps_if (pt_cmpR op_lt (pe_op op_add (pv 6) (pv 13)) (pv 7) (nomark _)) 
            (pss_one (ps_expr (pe_app (pv 12) (pe_tupN (pa_cons (pe_ix ix_str (pv 8) (pe_op op_add (pv 6) (pv 13)) (fun _ _ => rfl)) (pa_cons (pe_ix ix_H (pv 9) (pv 13) (fun _ _ => rfl)) (pa_cons (pe_op op_add (pv 14) (pe_ix ix_H (pv 10) (pv 13) (fun _ _ => rfl))) pa_nil))))))) 
            (pss_one (ps_expr (pe_app (pv 12) (pe_tupN (pa_cons pe_str (pa_cons pe_int (pa_cons (pv 14) pa_nil)))))))))))
    (pss_one (ps_ret (pe_callTy (T := "tuple") (call_tupD (K := K)) (by rfl) T.b_tuple (by decide +kernel) (pa_cons (pv 12) pa_nil)))))))))))), ?_⟩
    simp only [tSeq, tIfS, tTest, tB, tOp, tUn, tVar, tC, rI0, rI, rU, CMul, CDiv, CPow, L2.start, tRet, tRetN, tNext, tAsg, gName, tDrop, tCons, tNil, tTup, tLst, tTupN, tLstN, tCB, tCall, tIf, tAnd, tOr, tNot, tAndV, tOrV, tNotV, tIsN, tNotN, tApp, tExt, upT, upS, up, rEq, rNe, scal, tAug, ipI, tPart, tNoPart, tSl, tChain, wipe, tYes, tBreak, tCont, cxK, rNeD, rEqD, rIsD, rIxW, rIxE, rLenD, rSlD, rCatD, rTupD, rListW, tFld, sFld, List.map_cons, List.map_nil, List.length_cons, List.length_nil, List.replicate, List.cons_append, List.nil_append, List.append_nil, List.getElem?_cons_zero, List.getElem?_cons_succ, List.set_cons_zero, List.set_cons_succ, Nat.reduceAdd, Nat.reduceSub, Option.some.injEq, V.int.injEq, V.bl.injEq, V.str.injEq, V.ref.injEq, V.ty.injEq, List.cons.injEq, exists_eq_left, exists_eq_left', exists_eq_right, exists_and_left, and_true, true_and, and_assoc, decide_eq_true_eq, Bool.not_eq_true', decide_eq_false_iff_not, Bool.not_not, reduceCtorEq, false_and, and_false, or_false, false_or, exists_const, false_implies, implies_true, if_false, if_true, Bool.false_eq_true, eq_self, forall_eq', exists_false, decide_true, decide_false, ite_true, ite_false, not_true_eq_false, not_false_eq_true, or_true, true_or, gSub, rSetL, gTup, gCons, gNil, rIxH, rIxS, rLenH, HO.lst.injEq, HO.tup.injEq, atI_0, atI_1, atI_2, ixN_31, ixN_32, Int.reduceNeg, Int.reducePow, Int.reduceLT, Int.reduceLE, Nat.reducePow, Nat.reduceLT, Nat.reduceLeDiff, Int.reduceToNat, Int.reduceAbs, sizeLine_eq, Nat.le_refl, Nat.zero_le, Int.reduceMul, Int.reduceAdd, Int.reduceSub, exists_eq', exists_eq, tBM, tyV_str, tDKN, tDTN, tFor_eq, tLc_eq, iRng1, iRng2, iTup, iList, iEnumT_eq]
    obtain ⟨dx, D, rw', sh, hp, hD, hrw, hsh⟩ := hF.ex
    have hks : ss[k]? = some ss[k] := List.getElem?_eq_getElem hk
    obtain ⟨r, hr1, hse, her⟩ := so _ (List.getElem_mem hk)
    generalize ss[k] = se at *
    obtain ⟨ln, st, en⟩ := se
    simp only at hr1 hse her
    refine ⟨C, dx, _, hp, F.cl, F.n_shown, sh, ff_shown _ _ _, _, hsh, shD (ln, st, en), atI_nat (by rw [List.getElem?_map, hks]; rfl), fun v hv => ?_⟩
    have hv' : Dp K H v (.tuple [.int ln, .int st, .int en]) := hv
    cases hv' with
    | tup hsq ha =>
    cases ha with
    | cons a1 ha =>
    cases ha with
    | cons a2 ha =>
    cases ha with
    | cons a3 ha =>
    cases a1
    cases a2
    cases a3
    cases ha
    refine ⟨_, rfl, _, hsq, rfl, _, _, rfl, _, _, rfl, _, _, rfl, rfl, ?_⟩
    refine ⟨C, dx, _, hp, F.cl, F.n_rows, rw', ff_rows _ _ _, _, hrw, ln, rfl, .str (S r), atI_nat (by rw [List.getElem?_map, hr1]; rfl), fun v1 hv1 p0 H2 n0 s0 e0 => ?_⟩
    cases hv1
    have rk := ro.row _ (List.mem_of_getElem? hr1)
    refine ⟨en, rfl, st, rfl, p0, _, _, rfl, rfl, e0, by omega, by omega, by have := sizeLine_eq; simp; omega, fun cl ncl => ?_⟩
    obtain ⟨H3, h3⟩ : ∃ H3, H3 = upd H2 cl (.lst (List.replicate ((en : Int) - st).toNat [V.int 0]).flatten) := ⟨_, rfl⟩
    have s23 : Same H2 H3 := h3 ▸ Same.new ncl
    have hcl : H3 cl = some (.lst (List.replicate (en - st) (V.int 0))) := by
      rw [h3, upd_same, List.flatten_replicate_singleton]
      have : ((en : Int) - st).toNat = en - st := by omega
      rw [this]
    rw [← h3]
    have s03 := Same.trans s0 s23
    refine ⟨C, dx, _, s03 _ _ hp, F.cl, F.n_spans, _, ff_spans _ _ _, itN (by simp) ?_⟩
    refine ⟨a, ln, st, en, rfl, s03 _ _ ha, hse, by omega, fun sl H4 nsl s4 hsl => ?_⟩
    have s04 := Same.trans s03 s4
    refine ⟨fun b9 H9 => b9 = false ∧ H9 = H4, ⟨_, rfl, by rw [SX.S_len]; omega, rfl, ?_⟩, ?_⟩
    · refine ite2 (fun _ => ?_) (fun _ => ⟨rfl, rfl⟩)
      refine ⟨_, rfl, _, _, rfl, rfl, _, rfl, p, C, dx, _, _, rfl, s04 _ _ hp, F.cl, F.n_covered, ff_covered _ _ _, D, none, rfl, DGet.k (k := .inl ((ln : Int) + 1)) (kvs := []) (s04 _ _ hD), false, rfl, rfl, rfl⟩
    · rintro b9 H9 ⟨rfl, rfl⟩
      refine itN (by simp) (fun tl H5 ntl s5 e5 => ⟨by omega, by omega, ?_⟩)
      obtain ⟨Pv, hPv⟩ : ∃ Pv : Nat → SS → Hp → Prop, Pv = fun j σ H' => ∃ (row : List Tile) (xs : List V) (v13 v14 : Option V), σ = [some (.ref p), some (.int k), some (.ref a), some (.ref d), some (.int wi), some (.int ln), some (.int st), some (.int en), some (.str (S r)), some (.ref cl), some (.ref sl), some (.int 0), some (.ref tl), v13, v14] ∧
          H' tl = some (.lst xs) ∧ DpAll K H' xs (row.map tD) ∧ row.length = j ∧ (∀ t ∈ row, okT t) ∧ Same H9 H' := ⟨_, rfl⟩
      refine loop_range (n := wi) (by omega) Pv (by rw [hPv]; exact ⟨[], [], none, none, rfl, e5, .nil, rfl, (fun _ h => nomatch h), s5⟩) ?_ ?_
      · intro j σ H' hj hp'
        rw [hPv] at hp'
        obtain ⟨row, xs, v13, v14, rfl, hL, hA, hl, hok, s6⟩ := hp'
        have s06 := Same.trans s04 s6
        simp only [tSeq, tIfS, tTest, tB, tOp, tUn, tVar, tC, rI0, rI, rU, CMul, CDiv, CPow, L2.start, tRet, tRetN, tNext, tAsg, gName, tDrop, tCons, tNil, tTup, tLst, tTupN, tLstN, tCB, tCall, tIf, tAnd, tOr, tNot, tAndV, tOrV, tNotV, tIsN, tNotN, tApp, tExt, upT, upS, up, rEq, rNe, scal, tAug, ipI, tPart, tNoPart, tSl, tChain, wipe, tYes, tBreak, tCont, cxK, rNeD, rEqD, rIsD, rIxW, rIxE, rLenD, rSlD, rCatD, rTupD, rListW, tFld, sFld, List.map_cons, List.map_nil, List.length_cons, List.length_nil, List.replicate, List.cons_append, List.nil_append, List.append_nil, List.getElem?_cons_zero, List.getElem?_cons_succ, List.set_cons_zero, List.set_cons_succ, Nat.reduceAdd, Nat.reduceSub, Option.some.injEq, V.int.injEq, V.bl.injEq, V.str.injEq, V.ref.injEq, V.ty.injEq, List.cons.injEq, exists_eq_left, exists_eq_left', exists_eq_right, exists_and_left, and_true, true_and, and_assoc, decide_eq_true_eq, Bool.not_eq_true', decide_eq_false_iff_not, Bool.not_not, reduceCtorEq, false_and, and_false, or_false, false_or, exists_const, false_implies, implies_true, if_false, if_true, Bool.false_eq_true, eq_self, forall_eq', exists_false, decide_true, decide_false, ite_true, ite_false, not_true_eq_false, not_false_eq_true, or_true, true_or, gSub, rSetL, gTup, gCons, gNil, rIxH, rIxS, rLenH, HO.lst.injEq, HO.tup.injEq, atI_0, atI_1, atI_2, ixN_31, ixN_32, Int.reduceNeg, Int.reducePow, Int.reduceLT, Int.reduceLE, Nat.reducePow, Nat.reduceLT, Nat.reduceLeDiff, Int.reduceToNat, Int.reduceAbs, sizeLine_eq, Nat.le_refl, Nat.zero_le, Int.reduceMul, Int.reduceAdd, Int.reduceSub, exists_eq', exists_eq, tBM, tyV_str, tDKN, tDTN, tFor_eq, tLc_eq, iRng1, iRng2, iTup, iList, iEnumT_eq, tDGet2]
        have put : ∀ (H7 H8 : Hp) (c : Str) (i1 i2 : Int) (t : Addr) (w14 : Option V), okT (c, i1, i2) → Same H' H7 → Same H7 H8 → H8 t = some (.tup [.str c, .int i1, .int i2]) → H8 tl = some (.lst xs) ∧ xs.length < 16777216 ∧
            Pv (j + 1) [some (.ref p), some (.int k), some (.ref a), some (.ref d), some (.int wi), some (.int ln), some (.int st), some (.int en), some (.str (S r)), some (.ref cl), some (.ref sl), some (.int 0), some (.ref tl), some (.int (0 + (j : Int))), w14] (upd H8 tl (.lst (xs ++ [.ref t]))) := fun H7 H8 c i1 i2 t w14 oc sa sb et => by
          have s68 := Same.trans sa sb
          have hL8 := s68 _ _ hL
          refine ⟨hL8, by rw [DpA.length hA, List.length_map]; omega, ?_⟩
          rw [hPv]
          refine ⟨row ++ [(c, i1, i2)], _, _, _, rfl, upd_same, ?_, by rw [List.length_append, hl]; rfl, fun t ht => ?_, Same.wr (Same.trans s6 s68) ntl⟩
          · rw [List.map_append]
            exact DpA.append (DpA.tk ((TK.same s68).trans (TK.lst hL8)) _ _ (immA_tiles _) hA) (DpA.one (Dp.tk (TK.lst hL8) _ _ (imm_tD _) (.tup (SqT.of et) (.cons (.str _) (.cons (.int _) (.cons (.int _) .nil))))))
          · rcases List.mem_append.mp ht with h | h
            · exact hok t h
            · simp only [List.mem_singleton] at h
              subst h; exact oc
        refine ⟨.inr ⟨[], .inl (s06 _ _ hd)⟩, fun kt H7 nkt s7 ekt => ⟨none, DGet.t (k := [.inl (k : Int), .inl (0 + (j : Int))]) (kvs := []) (s7 _ _ (s06 _ _ hd)) ekt, 0, rfl, ?_⟩⟩
        refine ite2 (fun hc => ?_) (fun hc => ?_)
        · have hjr : st + j < r.length := by omega
          have ej : (st : Int) + (0 + (j : Int)) = ((st + j : Nat) : Int) := by omega
          have ej0 : 0 + (j : Int) = ((j : Nat) : Int) := by omega
          have s47 := Same.trans s6 s7
          have hg1 : r[st + j]? = some r[st + j] := List.getElem?_eq_getElem hjr
          have hrep : ∀ n : Nat, j < n → atI (List.replicate n (V.int 0)) (0 + (j : Int)) = some (V.int 0) := fun n hn => by rw [ej0]; exact atI_nat (by rw [List.getElem?_replicate, if_pos hn])
          refine ⟨⟨_, s7 _ _ hL⟩, by rw [SX.S_len]; omega, r[st + j], by rw [ej]; exact atI_nat hg1, _, Same.trans s4 s47 _ _ hcl, _, hrep _ (by omega), _, s47 _ _ hsl, _, hrep _ (by omega), 0, rfl, fun t H8 nt s8 e8 => ⟨xs, ?_⟩⟩
          exact put H7 H8 _ _ _ t _ (rk.2 _ (List.getElem_mem hjr)) s7 s8 e8
        · refine ⟨⟨_, s7 _ _ hL⟩, fun t H8 nt s8 e8 => ⟨xs, put H7 H8 _ _ _ t _ ?_ s7 s8 e8⟩⟩
          show PyData.strOk _ = true
          decide +kernel
      · intro σ H' hp'
        rw [hPv] at hp'
        obtain ⟨row, xs, v13, v14, rfl, hL, hA, hl, hok, s6⟩ := hp'
        simp only [tSeq, tIfS, tTest, tB, tOp, tUn, tVar, tC, rI0, rI, rU, CMul, CDiv, CPow, L2.start, tRet, tRetN, tNext, tAsg, gName, tDrop, tCons, tNil, tTup, tLst, tTupN, tLstN, tCB, tCall, tIf, tAnd, tOr, tNot, tAndV, tOrV, tNotV, tIsN, tNotN, tApp, tExt, upT, upS, up, rEq, rNe, scal, tAug, ipI, tPart, tNoPart, tSl, tChain, wipe, tYes, tBreak, tCont, cxK, rNeD, rEqD, rIsD, rIxW, rIxE, rLenD, rSlD, rCatD, rTupD, rListW, tFld, sFld, List.map_cons, List.map_nil, List.length_cons, List.length_nil, List.replicate, List.cons_append, List.nil_append, List.append_nil, List.getElem?_cons_zero, List.getElem?_cons_succ, List.set_cons_zero, List.set_cons_succ, Nat.reduceAdd, Nat.reduceSub, Option.some.injEq, V.int.injEq, V.bl.injEq, V.str.injEq, V.ref.injEq, V.ty.injEq, List.cons.injEq, exists_eq_left, exists_eq_left', exists_eq_right, exists_and_left, and_true, true_and, and_assoc, decide_eq_true_eq, Bool.not_eq_true', decide_eq_false_iff_not, Bool.not_not, reduceCtorEq, false_and, and_false, or_false, false_or, exists_const, false_implies, implies_true, if_false, if_true, Bool.false_eq_true, eq_self, forall_eq', exists_false, decide_true, decide_false, ite_true, ite_false, not_true_eq_false, not_false_eq_true, or_true, true_or, gSub, rSetL, gTup, gCons, gNil, rIxH, rIxS, rLenH, HO.lst.injEq, HO.tup.injEq, atI_0, atI_1, atI_2, ixN_31, ixN_32, Int.reduceNeg, Int.reducePow, Int.reduceLT, Int.reduceLE, Nat.reducePow, Nat.reduceLT, Nat.reduceLeDiff, Int.reduceToNat, Int.reduceAbs, sizeLine_eq, Nat.le_refl, Nat.zero_le, Int.reduceMul, Int.reduceAdd, Int.reduceSub, exists_eq', exists_eq, tBM, tyV_str, tDKN, tDTN, tFor_eq, tLc_eq, iRng1, iRng2, iTup, iList, iEnumT_eq]
        exact ⟨_, immA_tiles row, .inl ⟨xs, hL, hA⟩, fun v H8 s8 hv => q row v H8 hl hok (Same.trans s04 (Same.trans s6 s8)) hv⟩
def spScr (K : Fr) (C : Addr) : Sp := fun vs H Q _ => ∃ (p a : Addr) (x : V) (wi hi : Nat) (t1 t2 : Int) (rows : List (List Nat)) (ss : List (Nat × Nat × Nat)), vs = [.ref p, .ref a, x, .int wi, .int hi] ∧ FrameAt K C H p rows ss ∧ RowsOk rows ∧ ShOk rows ss ∧ ss.length ≤ 10100 ∧ 2 ≤ wi ∧ wi ≤ 100 ∧ hi ≤ 100 ∧
  H a = some (.lst []) ∧ Dp K H x (.tuple [.int t1, .int t2]) ∧ ∀ sc v H', Shape wi hi sc → Same H H' → Dp K H' v (scrD sc) → Q v H'
theorem ok_scr (T : Txt K mg) (F : TFr K mg C) : C8.Met P w K mg base 3 C "screen" (spScr K C) [] := by
  have C_row_at := ok_row_at (P := P) (w := w) (base := base) T
  have C_TileFrame__head_flags := ok_heads (P := P) (w := w) (base := base) T F
  have C_TileFrame__row_tiles := ok_row_tiles (P := P) (w := w) (base := base) T F
  refine met_of F.cl F.f_screen sc_TileFrame_screen (fun vs H Q E h => ?_) (fun f cdv A outer s H vs Q E hr h => ?_)
  · obtain ⟨a, b, c, d, e, f, g, i, j, rfl, _⟩ := h; rfl
  · obtain ⟨p, a, x, wi, hi, t1, t2, rows, ss, rfl, hF, ro, so, hsl, hw1, hw2, hh2, ha, hx, q⟩ := h
    have nd := sc_TileFrame_screen.nd
    have hu := hu_of hr
    have hu0 := hu0_of hr
    have hu64 := hu64_of hr
    refine ⟨_, 
    (pss_cons (ps_set (i := 5) nd rfl (by first | exact Or.inl rfl | exact Or.inr rfl) (C8.pe_c C_row_at hr (by decide) rfl (pa_cons (pe_fldK (K := K) (pv 0) rfl) (pa_cons (pe_ix (ix_D (K := K)) (pv 2) pe_int (fun _ _ => rfl)) (pa_cons (pe_ix (ix_D (K := K)) (pv 2) pe_int (fun _ _ => rfl)) pa_nil)))))
    (pss_cons (ps_if (pt_truthK (K := K) (pv 1) (fun _ => rfl)) 
        (pss_cons (ps_set (i := 6) nd rfl (by first | exact Or.inl rfl | exact Or.inr rfl) (pe_ix (ix_D (K := K)) (pe_ix ix_H (pv 1) pe_int (fun _ _ => rfl)) pe_int (fun _ _ => rfl)))
        (pss_one (ps_set (i := 5) nd rfl (by first | exact Or.inl rfl | exact Or.inr rfl) pe_never))) pss_nil)
    (pss_cons (ps_set (i := 7) nd rfl (by first | exact Or.inl rfl | exact Or.inr rfl) (C8.pe_mt C_TileFrame__head_flags hr (by decide) (pv 0) (pa_cons (pv 1) (pa_cons (pv 3) pa_nil))))
    (pss_cons (ps_set (i := 8) nd rfl (by first | exact Or.inl rfl | exact Or.inr rfl) (pe_lstN pa_nil))
    (pss_cons (ps_for PassesOwn.never rfl (pi_range2 rfl T.b_range (pa_cons (pv 5) (pa_cons (pe_op op_add (pv 5) (pv 4)) pa_nil))) (pg_name (i := 9) nd rfl (by first | exact Or.inl rfl | exact Or.inr rfl)) 
        (pss_one (ps_if (pt_cmpR op_lt (pv 9) (pe_callB (id := "len") (call_lenD' (K := K)) (by rfl) T.b_len PySem.boot_len (pa_cons (pe_fldK (K := K) (pv 0) rfl) pa_nil)) (nomark _)) 
            (pss_one (ps_expr (pe_app (pv 8) (C8.pe_mt C_TileFrame__row_tiles hr (by decide) (pv 0) (pa_cons (pv 9) (pa_cons (pv 1) (pa_cons (pv 7) (pa_cons (pv 3) pa_nil)))))))) 
            (pss_one (ps_expr (pe_app (pv 8) (pe_op op_repT (pe_tupN (pa_cons (pe_tupN (pa_cons pe_str (pa_cons pe_int (pa_cons pe_int pa_nil)))) pa_nil)) (pv 3))))))))
    (pss_one (ps_ret (pe_callTy (T := "tuple") (call_tupD (K := K)) (by rfl) T.b_tuple (by decide +kernel) (pa_cons (pv 8) pa_nil))))))))), ?_⟩
    simp only [tSeq, tIfS, tTest, tB, tOp, tUn, tVar, tC, rI0, rI, rU, CMul, CDiv, CPow, L2.start, tRet, tRetN, tNext, tAsg, gName, tDrop, tCons, tNil, tTup, tLst, tTupN, tLstN, tCB, tCall, tIf, tAnd, tOr, tNot, tAndV, tOrV, tNotV, tIsN, tNotN, tApp, tExt, upT, upS, up, rEq, rNe, scal, tAug, ipI, tPart, tNoPart, tSl, tChain, wipe, tYes, tBreak, tCont, cxK, rNeD, rEqD, rIsD, rIxW, rIxE, rLenD, rSlD, rCatD, rTupD, rListW, tFld, sFld, List.map_cons, List.map_nil, List.length_cons, List.length_nil, List.replicate, List.cons_append, List.nil_append, List.append_nil, List.getElem?_cons_zero, List.getElem?_cons_succ, List.set_cons_zero, List.set_cons_succ, Nat.reduceAdd, Nat.reduceSub, Option.some.injEq, V.int.injEq, V.bl.injEq, V.str.injEq, V.ref.injEq, V.ty.injEq, List.cons.injEq, exists_eq_left, exists_eq_left', exists_eq_right, exists_and_left, and_true, true_and, and_assoc, decide_eq_true_eq, Bool.not_eq_true', decide_eq_false_iff_not, Bool.not_not, reduceCtorEq, false_and, and_false, or_false, false_or, exists_const, false_implies, implies_true, if_false, if_true, Bool.false_eq_true, eq_self, forall_eq', exists_false, decide_true, decide_false, ite_true, ite_false, not_true_eq_false, not_false_eq_true, or_true, true_or, gSub, rSetL, gTup, gCons, gNil, rIxH, rIxS, rLenH, HO.lst.injEq, HO.tup.injEq, atI_0, atI_1, atI_2, ixN_31, ixN_32, Int.reduceNeg, Int.reducePow, Int.reduceLT, Int.reduceLE, Nat.reducePow, Nat.reduceLT, Nat.reduceLeDiff, Int.reduceToNat, Int.reduceAbs, sizeLine_eq, Nat.le_refl, Nat.zero_le, Int.reduceMul, Int.reduceAdd, Int.reduceSub, exists_eq', exists_eq, tBM, tyV_str, tDKN, tDTN, tFor_eq, tLc_eq, iRng1, iRng2, iTup, iList, iEnumT_eq]
    obtain ⟨dx, D, rw', sh, hp, hD, hrw, hsh⟩ := hF.ex
    refine ⟨C, dx, _, hp, F.cl, F.n_shown, sh, ff_shown _ _ _, _, hx, _, atI_0 _ _, fun u1 hu1 => ⟨_, hx, _, atI_1 _ _ _, fun u2 hu2 => ?_⟩⟩
    cases hu1
    cases hu2
    refine ⟨sh, t1, t2, ss, rfl, hsh, hsl, fun fr H1 hfr s1 => ?_⟩
    refine ⟨false, .inl ⟨[], SqL.of (s1 _ _ ha), rfl⟩, itN (by simp) ?_⟩
    simp only [tSeq, tIfS, tTest, tB, tOp, tUn, tVar, tC, rI0, rI, rU, CMul, CDiv, CPow, L2.start, tRet, tRetN, tNext, tAsg, gName, tDrop, tCons, tNil, tTup, tLst, tTupN, tLstN, tCB, tCall, tIf, tAnd, tOr, tNot, tAndV, tOrV, tNotV, tIsN, tNotN, tApp, tExt, upT, upS, up, rEq, rNe, scal, tAug, ipI, tPart, tNoPart, tSl, tChain, wipe, tYes, tBreak, tCont, cxK, rNeD, rEqD, rIsD, rIxW, rIxE, rLenD, rSlD, rCatD, rTupD, rListW, tFld, sFld, List.map_cons, List.map_nil, List.length_cons, List.length_nil, List.replicate, List.cons_append, List.nil_append, List.append_nil, List.getElem?_cons_zero, List.getElem?_cons_succ, List.set_cons_zero, List.set_cons_succ, Nat.reduceAdd, Nat.reduceSub, Option.some.injEq, V.int.injEq, V.bl.injEq, V.str.injEq, V.ref.injEq, V.ty.injEq, List.cons.injEq, exists_eq_left, exists_eq_left', exists_eq_right, exists_and_left, and_true, true_and, and_assoc, decide_eq_true_eq, Bool.not_eq_true', decide_eq_false_iff_not, Bool.not_not, reduceCtorEq, false_and, and_false, or_false, false_or, exists_const, false_implies, implies_true, if_false, if_true, Bool.false_eq_true, eq_self, forall_eq', exists_false, decide_true, decide_false, ite_true, ite_false, not_true_eq_false, not_false_eq_true, or_true, true_or, gSub, rSetL, gTup, gCons, gNil, rIxH, rIxS, rLenH, HO.lst.injEq, HO.tup.injEq, atI_0, atI_1, atI_2, ixN_31, ixN_32, Int.reduceNeg, Int.reducePow, Int.reduceLT, Int.reduceLE, Nat.reducePow, Nat.reduceLT, Nat.reduceLeDiff, Int.reduceToNat, Int.reduceAbs, sizeLine_eq, Nat.le_refl, Nat.zero_le, Int.reduceMul, Int.reduceAdd, Int.reduceSub, exists_eq', exists_eq, tBM, tyV_str, tDKN, tDTN, tFor_eq, tLc_eq, iRng1, iRng2, iTup, iList, iEnumT_eq, tMeth]
    refine ⟨dx, _, s1 _ _ hp, rfl, p, a, _, rfl, s1 _ _ ha, fun d H2 s2 hd2 L H3 nL s3 eL => ⟨by omega, by omega, by omega, by omega, ?_⟩⟩
    have s13 := Same.trans s1 s2
    obtain ⟨Pv, hPv⟩ : ∃ Pv : Nat → SS → Hp → Prop, Pv = fun i σ H' => ∃ (sc : List (List Tile)) (xs : List V) (v9 : Option V), σ = [some (.ref p), some (.ref a), some x, some (.int wi), some (.int hi), some (.int fr), none, some (.ref d), some (.ref L), v9] ∧ H' L = some (.lst xs) ∧ DpAll K H' xs (sc.map rowD) ∧ sc.length = i ∧
        (∀ r ∈ sc, r.length = wi ∧ ∀ t ∈ r, okT t) ∧ Same H2 H' := ⟨_, rfl⟩
    refine loop_range (n := hi) (by omega) Pv (by rw [hPv]; exact ⟨[], [], none, rfl, eL, .nil, rfl, (fun _ h => nomatch h), s3⟩) ?_ ?_
    · intro i σ H' hi' hq
      rw [hPv] at hq
      obtain ⟨sc, xs, v9, rfl, hL, hA, hl, hok, s4⟩ := hq
      have s04 := Same.trans s13 s4
      simp only [tSeq, tIfS, tTest, tB, tOp, tUn, tVar, tC, rI0, rI, rU, CMul, CDiv, CPow, L2.start, tRet, tRetN, tNext, tAsg, gName, tDrop, tCons, tNil, tTup, tLst, tTupN, tLstN, tCB, tCall, tIf, tAnd, tOr, tNot, tAndV, tOrV, tNotV, tIsN, tNotN, tApp, tExt, upT, upS, up, rEq, rNe, scal, tAug, ipI, tPart, tNoPart, tSl, tChain, wipe, tYes, tBreak, tCont, cxK, rNeD, rEqD, rIsD, rIxW, rIxE, rLenD, rSlD, rCatD, rTupD, rListW, tFld, sFld, List.map_cons, List.map_nil, List.length_cons, List.length_nil, List.replicate, List.cons_append, List.nil_append, List.append_nil, List.getElem?_cons_zero, List.getElem?_cons_succ, List.set_cons_zero, List.set_cons_succ, Nat.reduceAdd, Nat.reduceSub, Option.some.injEq, V.int.injEq, V.bl.injEq, V.str.injEq, V.ref.injEq, V.ty.injEq, List.cons.injEq, exists_eq_left, exists_eq_left', exists_eq_right, exists_and_left, and_true, true_and, and_assoc, decide_eq_true_eq, Bool.not_eq_true', decide_eq_false_iff_not, Bool.not_not, reduceCtorEq, false_and, and_false, or_false, false_or, exists_const, false_implies, implies_true, if_false, if_true, Bool.false_eq_true, eq_self, forall_eq', exists_false, decide_true, decide_false, ite_true, ite_false, not_true_eq_false, not_false_eq_true, or_true, true_or, gSub, rSetL, gTup, gCons, gNil, rIxH, rIxS, rLenH, HO.lst.injEq, HO.tup.injEq, atI_0, atI_1, atI_2, ixN_31, ixN_32, Int.reduceNeg, Int.reducePow, Int.reduceLT, Int.reduceLE, Nat.reducePow, Nat.reduceLT, Nat.reduceLeDiff, Int.reduceToNat, Int.reduceAbs, sizeLine_eq, Nat.le_refl, Nat.zero_le, Int.reduceMul, Int.reduceAdd, Int.reduceSub, exists_eq', exists_eq, tBM, tyV_str, tDKN, tDTN, tFor_eq, tLc_eq, iRng1, iRng2, iTup, iList, iEnumT_eq, tMeth]
      have put : ∀ (H7 : Hp) (row : List Tile) (v : V), row.length = wi → (∀ t ∈ row, okT t) → Same H' H7 → Dp K H7 v (rowD row) → ∃ xs, H7 L = some (.lst xs) ∧ xs.length < 16777216 ∧
          Pv (i + 1) [some (.ref p), some (.ref a), some x, some (.int wi), some (.int hi), some (.int fr), none, some (.ref d), some (.ref L), some (.int ((fr : Int) + i))] (upd H7 L (.lst (xs ++ [v]))) := fun H7 row v hrl hro s7 hv => by
        have hL7 := s7 _ _ hL
        refine ⟨xs, hL7, by rw [DpA.length hA, List.length_map]; omega, ?_⟩
        rw [hPv]
        refine ⟨sc ++ [row], _, _, rfl, upd_same, ?_, by rw [List.length_append, hl]; rfl, fun r hr => ?_, Same.wr (Same.trans s4 s7) nL⟩
        · rw [List.map_append]
          exact DpA.append (DpA.tk ((TK.same s7).trans (TK.lst hL7)) _ _ (immA_map imm_rowD _) hA) (DpA.one (Dp.tk (TK.lst hL7) _ _ (imm_rowD _) hv))
        · rcases List.mem_append.mp hr with h | h
          · exact hok r h
          · simp only [List.mem_singleton] at h
            subst h; exact ⟨hrl, hro⟩
      refine ⟨C, dx, _, s04 _ _ hp, F.cl, F.n_shown, sh, ff_shown _ _ _, _, .inl (Dp.same s04 _ _ hsh), ?_⟩
      rw [List.length_map]
      refine ite2 (fun hc => ?_) (fun hc => ?_)
      · have ek : (fr : Int) + (i : Int) = ((fr + i : Nat) : Int) := by omega
        refine ⟨⟨_, hL⟩, dx, _, s04 _ _ hp, rfl, p, a, d, fr + i, wi, rows, ss, by rw [ek], hF.same s04, ro, so, by omega, hw2, s04 _ _ ha, s4 _ _ hd2, fun row v H7 h1 h2 s7 hv => put H7 row v h1 h2 s7 hv⟩
      · refine ⟨⟨_, hL⟩, fun t1 H5 n1 s5 e5 t2 H6 n2 s6 e6 => ?_⟩
        refine ⟨t2, _, _, rfl, rfl, SqT.of e6, by simp, by omega, by omega, by show 1 ≤ 1000; decide, fun t3 n3 => ?_⟩
        have ew : ((wi : Nat) : Int).toNat = wi := rfl
        rw [List.flatten_replicate_singleton, ew]
        have s7 : Same H6 (upd H6 t3 (.tup (List.replicate wi (.ref t1)))) := Same.new n3
        refine put _ (List.replicate wi (Str.ofString " ", 0, 0)) _ (by simp) (fun t ht => ?_) (Same.trans s5 (Same.trans s6 s7)) ?_
        · rw [List.eq_of_mem_replicate ht]
          show PyData.strOk _ = true
          decide +kernel
        · refine .tup (SqT.of upd_same) ?_
          have hb : Dp K (upd H6 t3 (.tup (List.replicate wi (.ref t1)))) (.ref t1) (tD (Str.ofString " ", 0, 0)) := .tup (SqT.of (Same.trans s6 s7 _ _ e5)) (.cons (.str _) (.cons (.int _) (.cons (.int _) .nil)))
          rw [List.map_replicate]
          exact DpA.rep hb wi
    · intro σ H' hq
      rw [hPv] at hq
      obtain ⟨sc, xs, v9, rfl, hL, hA, hl, hok, s4⟩ := hq
      simp only [tSeq, tIfS, tTest, tB, tOp, tUn, tVar, tC, rI0, rI, rU, CMul, CDiv, CPow, L2.start, tRet, tRetN, tNext, tAsg, gName, tDrop, tCons, tNil, tTup, tLst, tTupN, tLstN, tCB, tCall, tIf, tAnd, tOr, tNot, tAndV, tOrV, tNotV, tIsN, tNotN, tApp, tExt, upT, upS, up, rEq, rNe, scal, tAug, ipI, tPart, tNoPart, tSl, tChain, wipe, tYes, tBreak, tCont, cxK, rNeD, rEqD, rIsD, rIxW, rIxE, rLenD, rSlD, rCatD, rTupD, rListW, tFld, sFld, List.map_cons, List.map_nil, List.length_cons, List.length_nil, List.replicate, List.cons_append, List.nil_append, List.append_nil, List.getElem?_cons_zero, List.getElem?_cons_succ, List.set_cons_zero, List.set_cons_succ, Nat.reduceAdd, Nat.reduceSub, Option.some.injEq, V.int.injEq, V.bl.injEq, V.str.injEq, V.ref.injEq, V.ty.injEq, List.cons.injEq, exists_eq_left, exists_eq_left', exists_eq_right, exists_and_left, and_true, true_and, and_assoc, decide_eq_true_eq, Bool.not_eq_true', decide_eq_false_iff_not, Bool.not_not, reduceCtorEq, false_and, and_false, or_false, false_or, exists_const, false_implies, implies_true, if_false, if_true, Bool.false_eq_true, eq_self, forall_eq', exists_false, decide_true, decide_false, ite_true, ite_false, not_true_eq_false, not_false_eq_true, or_true, true_or, gSub, rSetL, gTup, gCons, gNil, rIxH, rIxS, rLenH, HO.lst.injEq, HO.tup.injEq, atI_0, atI_1, atI_2, ixN_31, ixN_32, Int.reduceNeg, Int.reducePow, Int.reduceLT, Int.reduceLE, Nat.reducePow, Nat.reduceLT, Nat.reduceLeDiff, Int.reduceToNat, Int.reduceAbs, sizeLine_eq, Nat.le_refl, Nat.zero_le, Int.reduceMul, Int.reduceAdd, Int.reduceSub, exists_eq', exists_eq, tBM, tyV_str, tDKN, tDTN, tFor_eq, tLc_eq, iRng1, iRng2, iTup, iList, iEnumT_eq]
      exact ⟨_, immA_map imm_rowD _, .inl ⟨xs, hL, hA⟩, fun v H8 s8 hv => q sc v H8 ⟨hl, hok⟩ (Same.trans s13 (Same.trans s4 s8)) hv⟩
end
end K63
namespace K63
open PySem PySem.Spec PyProof.Rows L2 Ds
-- imports A63 B63h B63i B63j B63k M63
abbrev sscreen_of : Stmt := top 50
theorem sc_screen_of : FnScope ["text", "width", "height", "wordwise", "book", "picks", "folds", "top", "rows", "spans", "pair", "covered", "frame", "spots", "pick"] ["text", "width", "height", "wordwise", "book", "picks", "folds", "top"] (C8.fnScope sscreen_of) := C8.fnScope_by (by decide +kernel)
abbrev slaw : Stmt := top 65
theorem sc_law : FnScope ["script", "pool", "wide", "high", "great", "one", "other", "tales", "at"] ["script"] (C8.fnScope slaw) := C8.fnScope_by (by decide +kernel)
section
variable {P : Program} {w : World} {K : Fr} {mg : Str → Option Value} {base : Heap} {C : Addr}
theorem cut_len (z : Str) (lo hi : Option Int) : (cutS z lo hi).length ≤ z.length := by
  show ((z.cps.toList.drop _).take _).toArray.size ≤ z.cps.size
  rw [List.size_toArray, List.length_take, List.length_drop, Array.length_toList]
  omega
/-- z with an x at k -/
theorem cut_put (z : Str) (k : Nat) (h : k ≤ z.length) : ∃ u : List Nat, cutS z none (some (k : Int)) ++ Str.ofString "x" ++ cutS z (some (k : Int)) none = S u ∧ u.length = z.length + 1 ∧ ∀ c ∈ u, c ∈ z.cps.toList ∨ c = 120 := by
  refine ⟨z.cps.toList.take k ++ [120] ++ z.cps.toList.drop k, ?_, ?_, ?_⟩
  · have hz : z.cps.toList.length = z.length := Array.length_toList
    have e1 : cutS z none (some (k : Int)) = S (z.cps.toList.take k) := by
      unfold cutS
      rw [HT.sIx_none, HT.sIx_nat, Nat.min_eq_left h]
      simp
    have e2 : cutS z (some (k : Int)) none = S (z.cps.toList.drop k) := by
      unfold cutS
      rw [HT.sIx_none, HT.sIx_nat, Nat.min_eq_left h, List.take_of_length_le (by rw [List.length_drop, hz]; omega)]
    have e3 : Str.ofString "x" = S [120] := by decide +kernel
    rw [e1, e2, e3]
    refine TL.ext_tl ?_
    rw [TL.tl_append, TL.tl_append]
  · have hz : z.cps.toList.length = z.length := Array.length_toList
    simp only [List.length_append, List.length_take, List.length_drop, List.length_singleton]
    omega
  · intro c hc
    rcases List.mem_append.mp hc with hc | hc
    · rcases List.mem_append.mp hc with hc | hc
      · exact .inl (List.mem_of_mem_take hc)
      · simp only [List.mem_singleton] at hc; exact .inr hc
    · exact .inl (List.mem_of_mem_drop hc)
def spScreenOf (K : Fr) : Sp := fun vs H Q _ => ∃ (t : List Nat) (wi hi : Nat) (b : Bool) (a c : Addr), vs = [.str (S t), .int wi, .int hi, .bl b, .non, .ref a, .ref c, .int 0] ∧ t.length ≤ 30 ∧ (∀ c ∈ t, okC c) ∧ 2 ≤ wi ∧ wi ≤ 100 ∧ hi ≤ 100 ∧ Dp K H (.ref a) (.tuple []) ∧ Dp K H (.ref c) (.tuple []) ∧
  ∀ sc v H', Shape wi hi sc → Same H H' → Dp K H' v (scrD sc) → Q v H'
theorem pr_screen_of (T : Txt K mg) : Prom P w K mg base 4 "screen_of" sscreen_of ["text", "width", "height", "wordwise", "book", "picks", "folds", "top"] (spScreenOf K) := by
  obtain ⟨C, F⟩ := T.tf
  have C_rows_of := ok_rows_of (P := P) (w := w) (base := base) T
  have C__covered_lines := ok_covered (P := P) (w := w) (base := base) T
  have C__rows_laid := ok_rows_laid (P := P) (w := w) (base := base) T
  have C_spot_of := ok_spot (P := P) (w := w) (base := base) T
  have M_TileFrame := ok_init (P := P) (w := w) (base := base) T F
  have C_TileFrame_screen := ok_scr (P := P) (w := w) (base := base) T F
  refine prom_of sc_screen_of (fun vs H Q E h => ?_) (fun f cdv A outer s H vs Q E hr h => ?_)
  · obtain ⟨a, b, c, d, e, g, rfl, _⟩ := h; rfl
  · obtain ⟨t, wi, hi, b, a, c, rfl, hl, ok, hw1, hw2, hh2, ha, hc, q⟩ := h
    have nd := sc_screen_of.nd
    have hu := hu_of hr
    have hu0 := hu0_of hr
    have hu64 := hu64_of hr
    refine ⟨_, 
    (pss_cons (ps_set (i := 8) nd rfl (by first | exact Or.inl rfl | exact Or.inr rfl) (C8.pe_c C_rows_of hr (by decide) rfl (pa_cons (pv 0) pa_nil)))
    (pss_cons (ps_set (i := 9) nd rfl (by first | exact Or.inl rfl | exact Or.inr rfl) pe_non)
    (pss_cons (ps_if (pt_cmp (pc_notN (pv 4))) 
        (pss_one (ps_setLc (i := 9) (own := [("pair", 10)]) rfl nd rfl rfl (sw_true rfl rfl rfl (by decide +kernel)) (pi_tupK (K := K) pe_never) (blkOk_by (own := [("pair", 10)]) (by first | decide +kernel | kernel_rfl | rfl)) (fun _ _ _ _ _ => (pg_name (i := 10) nd rfl (by first | exact Or.inl rfl | exact Or.inr rfl))) (fun _ _ _ _ _ => pts_nil) (fun _ _ _ _ _ => (pe_ix (ix_D (K := K)) (pv 10) pe_int (fun _ _ => rfl))))) pss_nil)
    (pss_cons (ps_set (i := 11) nd rfl (by first | exact Or.inl rfl | exact Or.inr rfl) (C8.pe_c C__covered_lines hr (by decide) rfl (pa_cons (pv 0) (pa_cons (pv 6) pa_nil))))
    (pss_cons (ps_set (i := 12) nd rfl (by first | exact Or.inl rfl | exact Or.inr rfl) (C8.pe_mk M_TileFrame hr (by decide) rfl (pa_cons (pv 8) (pa_cons (pv 9) (pa_cons (C8.pe_c C__rows_laid hr (by decide) rfl (pa_cons (pv 8) (pa_cons (pv 11) (pa_cons (pv 1) (pa_cons (pv 3) pa_nil))))) (pa_cons (pv 11) pa_nil))))))
    (pss_cons (ps_setLc (i := 13) (own := [("pick", 14)]) rfl nd rfl rfl (sw_true rfl rfl rfl (by decide +kernel)) (pi_tupK (K := K) (pv 5)) (blkOk_by (own := [("pick", 14)]) (by first | decide +kernel | kernel_rfl | rfl)) (fun _ _ _ _ _ => (pg_name (i := 14) nd rfl (by first | exact Or.inl rfl | exact Or.inr rfl))) (fun _ _ _ _ _ => pts_nil) (fun _ _ _ _ _ => pe_never))
    (pss_one (ps_ret (C8.pe_mt C_TileFrame_screen hr (by decide) (pv 12) (pa_cons (pv 13) (pa_cons (C8.pe_c C_spot_of hr (by decide) rfl (pa_cons (pv 0) (pa_cons (pv 7) pa_nil))) (pa_cons (pv 1) (pa_cons (pv 2) pa_nil))))))))))))), ?_⟩
    simp only [tSeq, tIfS, tTest, tB, tOp, tUn, tVar, tC, rI0, rI, rU, CMul, CDiv, CPow, L2.start, tRet, tRetN, tNext, tAsg, gName, tDrop, tCons, tNil, tTup, tLst, tTupN, tLstN, tCB, tCall, tIf, tAnd, tOr, tNot, tAndV, tOrV, tNotV, tIsN, tNotN, tApp, tExt, upT, upS, up, rEq, rNe, scal, tAug, ipI, tPart, tNoPart, tSl, tChain, wipe, tYes, tBreak, tCont, cxK, rNeD, rEqD, rIsD, rIxW, rIxE, rLenD, rSlD, rCatD, rTupD, rListW, tFld, sFld, List.map_cons, List.map_nil, List.length_cons, List.length_nil, List.replicate, List.cons_append, List.nil_append, List.append_nil, List.getElem?_cons_zero, List.getElem?_cons_succ, List.set_cons_zero, List.set_cons_succ, Nat.reduceAdd, Nat.reduceSub, Option.some.injEq, V.int.injEq, V.bl.injEq, V.str.injEq, V.ref.injEq, V.ty.injEq, List.cons.injEq, exists_eq_left, exists_eq_left', exists_eq_right, exists_and_left, and_true, true_and, and_assoc, decide_eq_true_eq, Bool.not_eq_true', decide_eq_false_iff_not, Bool.not_not, reduceCtorEq, false_and, and_false, or_false, false_or, exists_const, false_implies, implies_true, if_false, if_true, Bool.false_eq_true, eq_self, forall_eq', exists_false, decide_true, decide_false, ite_true, ite_false, not_true_eq_false, not_false_eq_true, or_true, true_or, gSub, rSetL, gTup, gCons, gNil, rIxH, rIxS, rLenH, HO.lst.injEq, HO.tup.injEq, atI_0, atI_1, atI_2, ixN_31, ixN_32, Int.reduceNeg, Int.reducePow, Int.reduceLT, Int.reduceLE, Nat.reducePow, Nat.reduceLT, Nat.reduceLeDiff, Int.reduceToNat, Int.reduceAbs, sizeLine_eq, Nat.le_refl, Nat.zero_le, Int.reduceMul, Int.reduceAdd, Int.reduceSub, exists_eq', exists_eq, tBM, tyV_str, tDKN, tDTN, tFor_eq, tLc_eq, iRng1, iRng2, iTup, iList, iEnumT_eq, tMeth, tMake]
    refine ⟨t, rfl, hl, ok, fun rows rv H1 ro s1 hrv => ?_⟩
    refine ⟨S t, .ref c, rfl, Dp.same s1 _ _ hc, fun cd H2 ncd s2 e2 => ?_⟩
    have hrv2 := Dp.same s2 _ _ hrv
    refine ⟨rv, cd, rows, wi, b, rfl, hrv2, e2, ro, by omega, hw2, fun ss sv H3 so ssl s3 hsv => ?_⟩
    intro x dx nx ndx nxd
    have xd : cd ≠ x := fun z => by rw [← z, s3 _ _ e2] at nx; cases nx
    have dd : cd ≠ dx := fun z => by rw [← z, s3 _ _ e2] at ndx; cases ndx
    refine ⟨x, dx, cd, rv, sv, rfl, upd_same, by rw [upd_ne xd, upd_ne dd]; exact s3 _ _ e2, fun D H5 h5 nD h5D k5 => ⟨rfl, ?_⟩⟩
    have s35 : Same H3 H5 := fun b o e => k5 b o (ne_of_none e nx) (by rw [upd_ne (ne_of_none e nx), upd_ne (ne_of_none e ndx)]; exact e)
    have s05 := Same.trans s1 (Same.trans s2 (Same.trans s3 s35))
    have hF : FrameAt K C H5 x rows ss := ⟨dx, D, rv, sv, h5, h5D, Dp.same (Same.trans s3 s35) _ _ hrv2, Dp.same s35 _ _ hsv⟩
    have ha5 := Dp.same s05 _ _ ha
    have key : ∃ a', V.ref a = .ref a' ∧ (∃ xs, SqT K H5 a' xs) ∧ LoopC (Itt K a') (gName 14) tYes (fun _ _ _ => False) [14]
        [some (V.str (S t)), some (V.int wi), some (V.int hi), some (V.bl b), some V.non, some (V.ref a), some (V.ref c), some (V.int 0), some rv, some V.non, none, some (V.ref cd), some (V.ref x), none, none]
        (fun v H1 => ∃ x_4 x_5, H1 x = some (HO.ins C x_4 x_5) ∧ List.lookup (Str.ofString "screen") x_5 = none ∧ spSpot K [V.str (S t), V.int 0] H1 (fun x_6 H1 => spScr K C [V.ref x, v, x_6, V.int wi, V.int hi] H1 Q C8.E0) C8.E0) H5 := by
      refine comp_D (ds := []) ha5 rfl (fun D i H' => H' D = some (.lst []) ∧ Same H5 H' ∧ i = 0) (fun D hD => ⟨upd_same, Same.new hD, rfl⟩) (fun D i H' _ ⟨_, s, _⟩ => TK.same s) (fun D i v d H' _ e => by simp at e) ?_
      rintro D H6 hD ⟨eD, s6, _⟩
      refine ⟨dx, _, s6 _ _ h5, rfl, S t, 0, rfl, by rw [SX.S_len]; exact hl, by omega, fun i1 i2 v7 H7 s7 hv7 => ?_⟩
      have s57 := Same.trans s6 s7
      exact ⟨x, D, v7, wi, hi, i1, i2, rows, ss, rfl, hF.same s57, ro, so, ssl, hw1, hw2, hh2, s7 _ _ eD, hv7, fun sc v8 H8 hsc s8 hv8 => q sc v8 H8 hsc (Same.trans s05 (Same.trans s57 s8)) hv8⟩
    obtain ⟨a', ea, hsq, lc⟩ := key
    cases ea
    exact ⟨hsq, lc⟩
theorem pr_law (T : Txt K mg) : Prom P w K mg base 8 "law" slaw ["script"] (spLaw K) := by
  have C__law_pool := ok_pool (P := P) (w := w) (base := base) T
  have C__law_next := ok_next (P := P) (w := w) (base := base) T
  have C__law_screen := ok_screen (P := P) (w := w) (base := base) T
  have C__law_turned := ok_turned (P := P) (w := w) (base := base) T
  have C__law_pair := ok_pair (P := P) (w := w) (base := base) T
  have C__law_same := ok_same (P := P) (w := w) (base := base) T 5
  have C_paints := ok_paints (P := P) (w := w) (base := base) T
  have C__law_text := ok_text (P := P) (w := w) (base := base) T
  obtain ⟨d1, d2, ds, D1, V1, q1, q2⟩ := T.f_screen_of
  have C_screen_of := (pr_screen_of (P := P) (w := w) (base := base) T).cal D1 V1
  obtain ⟨d3, d4, D2, q3, q4⟩ := T.k_screen_of
  have CK_screen_of_wordwise := (pr_screen_of (P := P) (w := w) (base := base) T).calk D2
  refine prom_of sc_law (fun vs H Q E h => ?_) (fun f cdv A outer s H vs Q E hr h => ?_)
  · obtain ⟨a, b, rfl, _⟩ := h; rfl
  · obtain ⟨a, ns, rfl, hS, hl, q⟩ := h
    have nd := sc_law.nd
    have hu := hu_of hr
    have hu0 := hu0_of hr
    have hu64 := hu64_of hr
    refine ⟨_, 
    (pss_cons (ps_set (i := 1) nd rfl (by first | exact Or.inl rfl | exact Or.inr rfl) (C8.pe_c C__law_pool hr (by decide) rfl (pa_cons (pv 0) pa_nil)))
    (pss_cons (ps_set (i := 2) nd rfl (by first | exact Or.inl rfl | exact Or.inr rfl) (pe_op op_add pe_int (C8.pe_c C__law_next hr (by decide) rfl (pa_cons (pv 1) (pa_cons pe_int pa_nil)))))
    (pss_cons (ps_set (i := 3) nd rfl (by first | exact Or.inl rfl | exact Or.inr rfl) (pe_op op_add pe_int (C8.pe_c C__law_next hr (by decide) rfl (pa_cons (pv 1) (pa_cons pe_int pa_nil)))))
    (pss_cons (ps_set (i := 4) nd rfl (by first | exact Or.inl rfl | exact Or.inr rfl) (C8.pe_c C__law_next hr (by decide) rfl (pa_cons (pv 1) (pa_cons pe_int pa_nil))))
    (pss_cons (PS.up (ps_if (pt_cmpR op_eq (pv 4) pe_int (nomark _)) 
        (pss_one (ps_set (i := 2) nd rfl (by first | exact Or.inl rfl | exact Or.inr rfl) pe_int)) pss_nil))
    (pss_cons (PS.up (ps_if (pt_cmpR op_eq (pv 4) pe_int (nomark _)) 
        (pss_one (ps_set (i := 3) nd rfl (by first | exact Or.inl rfl | exact Or.inr rfl) pe_int)) pss_nil))
    (pss_cons (ps_set (i := 5) nd rfl (by first | exact Or.inl rfl | exact Or.inr rfl) (C8.pe_c C__law_screen hr (by decide) rfl (pa_cons (pv 1) (pa_cons (pv 2) (pa_cons (pv 3) pa_nil)))))
    (pss_cons (ps_set (i := 6) nd rfl (by first | exact Or.inl rfl | exact Or.inr rfl) (C8.pe_c C__law_turned hr (by decide) rfl (pa_cons (pv 1) (pa_cons (pv 5) pa_nil))))
    (pss_cons (PS.up (ps_if (pt_cmpR op_eq (C8.pe_c C__law_next hr (by decide) rfl (pa_cons (pv 1) (pa_cons pe_int pa_nil))) pe_int (nomark _)) 
        (pss_one (ps_set (i := 6) nd rfl (by first | exact Or.inl rfl | exact Or.inr rfl) (C8.pe_c C__law_screen hr (by decide) rfl (pa_cons (pv 1) (pa_cons (pv 2) (pa_cons (pv 3) pa_nil)))))) pss_nil))
    (pss_cons (ps_if (PT.up (PW.pt (pw_or (pt_not (pt_val (C8.pe_c C__law_pair hr (by decide) rfl (pa_cons (pv 1) (pa_cons (pv 5) (pa_cons (pv 6) pa_nil)))))) (pw_or1 (pt_not (pt_val (C8.pe_c C__law_same hr (by decide) rfl (pa_cons (C8.pe_c C_paints hr (by decide) rfl (pa_cons (pv 5) (pa_cons (pv 5) pa_nil))) (pa_cons (pe_tupN pa_nil) pa_nil))))))))) 
        (pss_one (ps_ret pe_bl)) pss_nil)
    (pss_cons (ps_set (i := 7) nd rfl (by first | exact Or.inl rfl | exact Or.inr rfl) (pe_lstN (pa_cons (C8.pe_c C__law_text hr (by decide) rfl (pa_cons (pv 1) pa_nil)) (pa_cons (C8.pe_c C__law_text hr (by decide) rfl (pa_cons (pv 1) pa_nil)) pa_nil))))
    (pss_cons (PS.up (ps_if (pt_cmpR op_eq (C8.pe_c C__law_next hr (by decide) rfl (pa_cons (pv 1) (pa_cons pe_int pa_nil))) pe_int (nomark _)) 
        (pss_cons (ps_set (i := 8) nd rfl (by first | exact Or.inl rfl | exact Or.inr rfl) (C8.pe_c C__law_next hr (by decide) rfl (pa_cons (pv 1) (pa_cons (pe_op op_add (pe_callB (id := "len") call_len_str (by rfl) T.b_len PySem.boot_len (pa_cons (pe_ix ix_H (pv 7) pe_int (fun _ _ => rfl)) pa_nil)) pe_int) pa_nil))))
        (pss_one (ps_asg (pe_op op_add_str (pe_op op_add_str (pe_slice sl_str (pe_ix ix_H (pv 7) pe_int (fun _ _ => rfl)) po_none (po_some (pv 8))) pe_str) (pe_slice sl_str (pe_ix ix_H (pv 7) pe_int (fun _ _ => rfl)) (po_some (pv 8)) po_none)) (pg_sub (pv 7) pe_int set_list)))) pss_nil))
    (pss_cons (ps_set (i := 5) nd rfl (by first | exact Or.inl rfl | exact Or.inr rfl) (C8.pe_c C_screen_of hr (by decide) rfl (pa_cons (pe_ix ix_H (pv 7) pe_int (fun _ _ => rfl)) (pa_cons (pv 2) (pa_cons (pv 3) pa_nil)))))
    (pss_cons (ps_set (i := 6) nd rfl (by first | exact Or.inl rfl | exact Or.inr rfl) (pe_ck CK_screen_of_wordwise hr (by decide) rfl (pa_cons (pe_ix ix_H (pv 7) pe_int (fun _ _ => rfl)) (pa_cons (pv 2) (pa_cons (pv 3) pa_nil))) (pk_cons (pe_cmpR op_eq (C8.pe_c C__law_next hr (by decide) rfl (pa_cons (pv 1) (pa_cons pe_int pa_nil))) pe_int (nomark _)) pk_nil)))
    (pss_cons (ps_if (PT.up (PW.pt (pw_or (pt_not (pt_val (C8.pe_c C__law_pair hr (by decide) rfl (pa_cons (pv 1) (pa_cons (pv 5) (pa_cons (pv 6) pa_nil)))))) (pw_or1 (pt_not (pt_val (C8.pe_c C__law_pair hr (by decide) rfl (pa_cons (pv 1) (pa_cons (pv 6) (pa_cons (pv 5) pa_nil)))))))))) 
        (pss_one (ps_ret pe_bl)) pss_nil)
    (pss_cons (ps_if (pt_cmpR op_gt (C8.pe_c C__law_next hr (by decide) rfl (pa_cons (pv 1) (pa_cons pe_int pa_nil))) pe_int (nomark _)) 
        (pss_one (ps_ret pe_bl)) pss_nil)
    (pss_cons (ps_set (i := 5) nd rfl (by first | exact Or.inl rfl | exact Or.inr rfl) (C8.pe_c C__law_screen hr (by decide) rfl (pa_cons (pv 1) (pa_cons (pe_op op_add pe_int (C8.pe_c C__law_next hr (by decide) rfl (pa_cons (pv 1) (pa_cons pe_int pa_nil)))) (pa_cons (pe_op op_add pe_int (C8.pe_c C__law_next hr (by decide) rfl (pa_cons (pv 1) (pa_cons pe_int pa_nil)))) pa_nil)))))
    (pss_one (ps_ret (C8.pe_c C__law_pair hr (by decide) rfl (pa_cons (pv 1) (pa_cons (pv 5) (pa_cons (C8.pe_c C__law_turned hr (by decide) rfl (pa_cons (pv 1) (pa_cons (pv 5) pa_nil))) pa_nil))))))))))))))))))))))), ?_⟩
    simp only [tSeq, tIfS, tTest, tB, tOp, tUn, tVar, tC, rI0, rI, rU, CMul, CDiv, CPow, L2.start, tRet, tRetN, tNext, tAsg, gName, tDrop, tCons, tNil, tTup, tLst, tTupN, tLstN, tCB, tCall, tIf, tAnd, tOr, tNot, tAndV, tOrV, tNotV, tIsN, tNotN, tApp, tExt, upT, upS, up, rEq, rNe, scal, tAug, ipI, tPart, tNoPart, tSl, tChain, wipe, tYes, tBreak, tCont, cxK, rNeD, rEqD, rIsD, rIxW, rIxE, rLenD, rSlD, rCatD, rTupD, rListW, tFld, sFld, List.map_cons, List.map_nil, List.length_cons, List.length_nil, List.replicate, List.cons_append, List.nil_append, List.append_nil, List.getElem?_cons_zero, List.getElem?_cons_succ, List.set_cons_zero, List.set_cons_succ, Nat.reduceAdd, Nat.reduceSub, Option.some.injEq, V.int.injEq, V.bl.injEq, V.str.injEq, V.ref.injEq, V.ty.injEq, List.cons.injEq, exists_eq_left, exists_eq_left', exists_eq_right, exists_and_left, and_true, true_and, and_assoc, decide_eq_true_eq, Bool.not_eq_true', decide_eq_false_iff_not, Bool.not_not, reduceCtorEq, false_and, and_false, or_false, false_or, exists_const, false_implies, implies_true, if_false, if_true, Bool.false_eq_true, eq_self, forall_eq', exists_false, decide_true, decide_false, ite_true, ite_false, not_true_eq_false, not_false_eq_true, or_true, true_or, gSub, rSetL, gTup, gCons, gNil, rIxH, rIxS, rLenH, HO.lst.injEq, HO.tup.injEq, atI_0, atI_1, atI_2, ixN_31, ixN_32, Int.reduceNeg, Int.reducePow, Int.reduceLT, Int.reduceLE, Nat.reducePow, Nat.reduceLT, Nat.reduceLeDiff, Int.reduceToNat, Int.reduceAbs, sizeLine_eq, Nat.le_refl, Nat.zero_le, Int.reduceMul, Int.reduceAdd, Int.reduceSub, exists_eq', exists_eq, tBM, tyV_str, tDKN, tDTN, tFor_eq, tLc_eq, iRng1, iRng2, iTup, iList, iEnumT_eq, tCallN]
    refine ⟨a, ns, rfl, hS, hl, fun p H1 s1 np hP => ?_⟩
    refine ⟨p, 9, rfl, hP, by decide, fun w0 H2 wz w9 k2 => ⟨w0, rfl, ?_⟩⟩
    refine ⟨p, 5, rfl, k2.pl hP, by decide, fun h0 H3 hz h9 k3 => ⟨h0, rfl, ?_⟩⟩
    refine ⟨p, 40, rfl, k3.pl (k2.pl hP), by decide, fun g0 H4 gz g9 k4 => ⟨rfl, ?_⟩⟩
    have kk4 := (k2.trans k3).trans k4
    obtain ⟨wi0, rfl⟩ : ∃ n : Nat, w0 = n := ⟨w0.toNat, by omega⟩
    obtain ⟨hi0, rfl⟩ : ∃ n : Nat, h0 = n := ⟨h0.toNat, by omega⟩
    refine ⟨fun σ H' => ∃ wi : Nat, σ = [some (.ref a), some (.ref p), some (.int wi), some (.int ((hi0 + 1 : Nat) : Int)), some (.int g0), none, none, none, none] ∧ H4 = H' ∧ 4 ≤ wi ∧ wi ≤ 80, ?_, ?_⟩
    · have e1 : (1 : Int) + (hi0 : Int) = ((hi0 + 1 : Nat) : Int) := by omega
      rw [e1]
      refine ite2 (fun _ => ⟨80, rfl, rfl, by decide, by decide⟩) (fun _ => ⟨wi0 + 4, ?_, rfl, by omega, by omega⟩)
      have e2 : (4 : Int) + (wi0 : Int) = ((wi0 + 4 : Nat) : Int) := by omega
      rw [e2]
    · rintro σ H' ⟨wi, rfl, rfl, hwi1, hwi2⟩
      simp only [tSeq, tIfS, tTest, tB, tOp, tUn, tVar, tC, rI0, rI, rU, CMul, CDiv, CPow, L2.start, tRet, tRetN, tNext, tAsg, gName, tDrop, tCons, tNil, tTup, tLst, tTupN, tLstN, tCB, tCall, tIf, tAnd, tOr, tNot, tAndV, tOrV, tNotV, tIsN, tNotN, tApp, tExt, upT, upS, up, rEq, rNe, scal, tAug, ipI, tPart, tNoPart, tSl, tChain, wipe, tYes, tBreak, tCont, cxK, rNeD, rEqD, rIsD, rIxW, rIxE, rLenD, rSlD, rCatD, rTupD, rListW, tFld, sFld, List.map_cons, List.map_nil, List.length_cons, List.length_nil, List.replicate, List.cons_append, List.nil_append, List.append_nil, List.getElem?_cons_zero, List.getElem?_cons_succ, List.set_cons_zero, List.set_cons_succ, Nat.reduceAdd, Nat.reduceSub, Option.some.injEq, V.int.injEq, V.bl.injEq, V.str.injEq, V.ref.injEq, V.ty.injEq, List.cons.injEq, exists_eq_left, exists_eq_left', exists_eq_right, exists_and_left, and_true, true_and, and_assoc, decide_eq_true_eq, Bool.not_eq_true', decide_eq_false_iff_not, Bool.not_not, reduceCtorEq, false_and, and_false, or_false, false_or, exists_const, false_implies, implies_true, if_false, if_true, Bool.false_eq_true, eq_self, forall_eq', exists_false, decide_true, decide_false, ite_true, ite_false, not_true_eq_false, not_false_eq_true, or_true, true_or, gSub, rSetL, gTup, gCons, gNil, rIxH, rIxS, rLenH, HO.lst.injEq, HO.tup.injEq, atI_0, atI_1, atI_2, ixN_31, ixN_32, Int.reduceNeg, Int.reducePow, Int.reduceLT, Int.reduceLE, Nat.reducePow, Nat.reduceLT, Nat.reduceLeDiff, Int.reduceToNat, Int.reduceAbs, sizeLine_eq, Nat.le_refl, Nat.zero_le, Int.reduceMul, Int.reduceAdd, Int.reduceSub, exists_eq', exists_eq, tBM, tyV_str, tDKN, tDTN, tFor_eq, tLc_eq, iRng1, iRng2, iTup, iList, iEnumT_eq]
      refine ⟨fun σ H' => ∃ hi : Nat, σ = [some (.ref a), some (.ref p), some (.int wi), some (.int hi), some (.int g0), none, none, none, none] ∧ H4 = H' ∧ 1 ≤ hi ∧ hi ≤ 40, ?_, ?_⟩
      · exact ite2 (fun _ => ⟨40, rfl, rfl, by decide, by decide⟩) (fun _ => ⟨hi0 + 1, rfl, rfl, by omega, by omega⟩)
      · rintro σ H' ⟨hi, rfl, rfl, hhi1, hhi2⟩
        simp only [tSeq, tIfS, tTest, tB, tOp, tUn, tVar, tC, rI0, rI, rU, CMul, CDiv, CPow, L2.start, tRet, tRetN, tNext, tAsg, gName, tDrop, tCons, tNil, tTup, tLst, tTupN, tLstN, tCB, tCall, tIf, tAnd, tOr, tNot, tAndV, tOrV, tNotV, tIsN, tNotN, tApp, tExt, upT, upS, up, rEq, rNe, scal, tAug, ipI, tPart, tNoPart, tSl, tChain, wipe, tYes, tBreak, tCont, cxK, rNeD, rEqD, rIsD, rIxW, rIxE, rLenD, rSlD, rCatD, rTupD, rListW, tFld, sFld, List.map_cons, List.map_nil, List.length_cons, List.length_nil, List.replicate, List.cons_append, List.nil_append, List.append_nil, List.getElem?_cons_zero, List.getElem?_cons_succ, List.set_cons_zero, List.set_cons_succ, Nat.reduceAdd, Nat.reduceSub, Option.some.injEq, V.int.injEq, V.bl.injEq, V.str.injEq, V.ref.injEq, V.ty.injEq, List.cons.injEq, exists_eq_left, exists_eq_left', exists_eq_right, exists_and_left, and_true, true_and, and_assoc, decide_eq_true_eq, Bool.not_eq_true', decide_eq_false_iff_not, Bool.not_not, reduceCtorEq, false_and, and_false, or_false, false_or, exists_const, false_implies, implies_true, if_false, if_true, Bool.false_eq_true, eq_self, forall_eq', exists_false, decide_true, decide_false, ite_true, ite_false, not_true_eq_false, not_false_eq_true, or_true, true_or, gSub, rSetL, gTup, gCons, gNil, rIxH, rIxS, rLenH, HO.lst.injEq, HO.tup.injEq, atI_0, atI_1, atI_2, ixN_31, ixN_32, Int.reduceNeg, Int.reducePow, Int.reduceLT, Int.reduceLE, Nat.reducePow, Nat.reduceLT, Nat.reduceLeDiff, Int.reduceToNat, Int.reduceAbs, sizeLine_eq, Nat.le_refl, Nat.zero_le, Int.reduceMul, Int.reduceAdd, Int.reduceSub, exists_eq', exists_eq, tBM, tyV_str, tDKN, tDTN, tFor_eq, tLc_eq, iRng1, iRng2, iTup, iList, iEnumT_eq]
        have hP4 := kk4.pl hP
        refine ⟨p, wi, hi, rfl, hP4, by omega, by omega, fun one v1 H5 hl1 hr1 k5 hv1 => ?_⟩
        have so : Shape wi hi one := ⟨hl1, hr1⟩
        have hP5 := k5.pl hP4
        refine ⟨p, v1, one, wi, rfl, hP5, hv1, by omega, by omega, hr1, fun oth v2 H6 hl2 hr2 k6 hv2 => ?_⟩
        have hP6 := k6.pl hP5
        have hv16 := Dp.tk (k6.tk hP5) _ _ (imm_scrD one) hv1
        have kk6 := (kk4.trans k5).trans k6
        refine ⟨fun σ H' => ∃ (v2 : V) (oth : List (List Tile)), σ = [some (.ref a), some (.ref p), some (.int wi), some (.int hi), some (.int g0), some v1, some v2, none, none] ∧ PK p H1 H' ∧ Dp K H' v1 (scrD one) ∧ Dp K H' v2 (scrD oth) ∧ Shape wi hi oth, ?_, ?_⟩
        · refine ⟨p, 4, rfl, hP6, by decide, fun z H7 _ _ k7 => ⟨rfl, ite2 (fun _ => ?_) (fun _ => ?_)⟩⟩
          · have hP7 := k7.pl hP6
            refine ⟨p, wi, hi, rfl, hP7, by omega, by omega, fun oth2 v3 H8 hl3 hr3 k8 hv3 => ?_⟩
            exact ⟨v3, oth2, rfl, (kk6.trans k7).trans k8, Dp.tk ((k7.trans k8).tk hP6) _ _ (imm_scrD one) hv16, hv3, hl3, hr3⟩
          · exact ⟨v2, oth, rfl, kk6.trans k7, Dp.tk (k7.tk hP6) _ _ (imm_scrD one) hv16, Dp.tk (k7.tk hP6) _ _ (imm_scrD oth) hv2, by rw [hl2]; exact hl1, hr2⟩
        · rintro σ H7 ⟨v3, oth3, rfl, kk7, ho, ht, st⟩
          simp only [tSeq, tIfS, tTest, tB, tOp, tUn, tVar, tC, rI0, rI, rU, CMul, CDiv, CPow, L2.start, tRet, tRetN, tNext, tAsg, gName, tDrop, tCons, tNil, tTup, tLst, tTupN, tLstN, tCB, tCall, tIf, tAnd, tOr, tNot, tAndV, tOrV, tNotV, tIsN, tNotN, tApp, tExt, upT, upS, up, rEq, rNe, scal, tAug, ipI, tPart, tNoPart, tSl, tChain, wipe, tYes, tBreak, tCont, cxK, rNeD, rEqD, rIsD, rIxW, rIxE, rLenD, rSlD, rCatD, rTupD, rListW, tFld, sFld, List.map_cons, List.map_nil, List.length_cons, List.length_nil, List.replicate, List.cons_append, List.nil_append, List.append_nil, List.getElem?_cons_zero, List.getElem?_cons_succ, List.set_cons_zero, List.set_cons_succ, Nat.reduceAdd, Nat.reduceSub, Option.some.injEq, V.int.injEq, V.bl.injEq, V.str.injEq, V.ref.injEq, V.ty.injEq, List.cons.injEq, exists_eq_left, exists_eq_left', exists_eq_right, exists_and_left, and_true, true_and, and_assoc, decide_eq_true_eq, Bool.not_eq_true', decide_eq_false_iff_not, Bool.not_not, reduceCtorEq, false_and, and_false, or_false, false_or, exists_const, false_implies, implies_true, if_false, if_true, Bool.false_eq_true, eq_self, forall_eq', exists_false, decide_true, decide_false, ite_true, ite_false, not_true_eq_false, not_false_eq_true, or_true, true_or, gSub, rSetL, gTup, gCons, gNil, rIxH, rIxS, rLenH, HO.lst.injEq, HO.tup.injEq, atI_0, atI_1, atI_2, ixN_31, ixN_32, Int.reduceNeg, Int.reducePow, Int.reduceLT, Int.reduceLE, Nat.reducePow, Nat.reduceLT, Nat.reduceLeDiff, Int.reduceToNat, Int.reduceAbs, sizeLine_eq, Nat.le_refl, Nat.zero_le, Int.reduceMul, Int.reduceAdd, Int.reduceSub, exists_eq', exists_eq, tBM, tyV_str, tDKN, tDTN, tFor_eq, tLc_eq, iRng1, iRng2, iTup, iList, iEnumT_eq]
          have hP7 := kk7.pl hP
          refine ⟨fun b9 H9 => b9 = false ∧ PK p H1 H9, ?_, ?_⟩
          · refine ⟨p, v1, v3, one, oth3, wi, hi, rfl, hP7, ho, ht, so, st, by omega, by omega, by omega, by omega, fun H8 k8 => ⟨true, rfl, itN (by simp) ?_⟩⟩
            have ho8 := Dp.tk (k8.tk hP7) _ _ (imm_scrD one) ho
            refine ⟨v1, v1, one, one, rfl, ho8, ho8, so.twin so (by omega) (by omega), fun v4 H9 s9 hv4 t H10 nt s10 e10 => ?_⟩
            rw [due_self] at hv4
            exact ⟨v4, .ref t, .tuple [], rfl, ⟨Nat.zero_le _, fun _ h => nomatch h⟩, Dp.same s10 _ _ hv4, .tup (SqT.of e10) .nil, fun H11 s11 => ⟨true, rfl, rfl, (kk7.trans k8).trans (PK.same (Same.trans s9 (Same.trans s10 s11)))⟩⟩
          · rintro b9 H8 ⟨rfl, kk8⟩
            refine itN (by simp) ?_
            have hP8 := kk8.pl hP
            refine ⟨p, rfl, hP8, fun ta H9 oka la k9 => ⟨p, rfl, k9.pl hP8, fun tb H10 okb lb k10 tl H11 ntl s11 e11 => ?_⟩⟩
            have kk11 := ((kk8.trans k9).trans k10).trans (PK.same s11)
            have hP11 := kk11.pl hP
            have tlp : tl ≠ p := fun z => by
              obtain ⟨_, q2⟩ := ((kk8.trans k9).trans k10).pl hP |>.isLst
              rw [z, q2] at ntl; cases ntl
            have ntl1 : H1 tl = none := ((kk8.trans k9).trans k10).free hP ntl
            refine ⟨fun σ H' => ∃ (t1 t2 : List Nat), σ = [some (.ref a), some (.ref p), some (.int wi), some (.int hi), some (.int g0), some v1, some v3, some (.ref tl), σ.getD 8 none] ∧ H' tl = some (.lst [.str (S t1), .str (S t2)]) ∧ PK p H1 H' ∧ t1.length ≤ 30 ∧ t2.length ≤ 30 ∧ (∀ c ∈ t1, okC c) ∧ ∀ c ∈ t2, okC c, ?_, ?_⟩
            · refine ⟨p, 2, rfl, hP11, by decide, fun z H12 _ _ k12 => ⟨rfl, ?_⟩⟩
              have e12 := k12.keep _ _ tlp e11
              have oka' := strOk_S.mp (str_S ta ▸ oka)
              have okb' := strOk_S.mp (str_S tb ▸ okb)
              have lta : ta.cps.toList.length ≤ 23 := by rw [Array.length_toList]; exact la
              have ltb : tb.cps.toList.length ≤ 23 := by rw [Array.length_toList]; exact lb
              refine ite2 (fun _ => ?_) (fun _ => ⟨ta.cps.toList, tb.cps.toList, rfl, e12, kk11.trans k12, by omega, by omega, oka', okb'⟩)
              refine ⟨_, e12, _, atI_0 _ _, ta, rfl, by omega, p, _, rfl, k12.pl hP11, by omega, fun at0 H13 a0 a1 k13 => ?_⟩
              have e13 := k13.keep _ _ tlp e12
              obtain ⟨at0, rfl⟩ : ∃ n : Nat, at0 = n := ⟨at0.toNat, by omega⟩
              refine ⟨_, e13, _, atI_0 _ _, at0, rfl, ?_⟩
              have hz13 : ta.length ≤ sizeLine := by have := sizeLine_eq; omega
              refine ⟨ta, rfl, hz13, _, rfl, ?_, _, e13, _, atI_0 _ _, at0, rfl, ta, rfl, hz13, _, rfl, ?_, _, e13, 1, rfl, ?_⟩
              · have := cut_len ta none (some (at0 : Int))
                have e : (Str.ofString "x").length = 1 := rfl
                omega
              · have h1 := cut_len ta none (some (at0 : Int))
                have h2 := cut_len ta (some (at0 : Int)) none
                have e : (Str.ofString "x").length = 1 := rfl
                rw [Str.length_append]
                omega
              · obtain ⟨u, hu1, hu2, hu3⟩ := cut_put ta at0 (by omega)
                rw [hu1]
                refine ⟨ta.cps.toList, u, rfl, upd_same, (kk11.trans (k12.trans k13)).wr hP ntl1, by omega, by omega, oka', fun c hc => ?_⟩
                rcases hu3 c hc with h | h
                · exact oka' c h
                · subst h
                  show PyData.strOk _ = true
                  decide +kernel
            · rintro σ H12 ⟨t1, t2, hσ, e12, kk12, l1, l2, o1, o2⟩
              rw [hσ]
              simp only [tSeq, tIfS, tTest, tB, tOp, tUn, tVar, tC, rI0, rI, rU, CMul, CDiv, CPow, L2.start, tRet, tRetN, tNext, tAsg, gName, tDrop, tCons, tNil, tTup, tLst, tTupN, tLstN, tCB, tCall, tIf, tAnd, tOr, tNot, tAndV, tOrV, tNotV, tIsN, tNotN, tApp, tExt, upT, upS, up, rEq, rNe, scal, tAug, ipI, tPart, tNoPart, tSl, tChain, wipe, tYes, tBreak, tCont, cxK, rNeD, rEqD, rIsD, rIxW, rIxE, rLenD, rSlD, rCatD, rTupD, rListW, tFld, sFld, List.map_cons, List.map_nil, List.length_cons, List.length_nil, List.replicate, List.cons_append, List.nil_append, List.append_nil, List.getElem?_cons_zero, List.getElem?_cons_succ, List.set_cons_zero, List.set_cons_succ, Nat.reduceAdd, Nat.reduceSub, Option.some.injEq, V.int.injEq, V.bl.injEq, V.str.injEq, V.ref.injEq, V.ty.injEq, List.cons.injEq, exists_eq_left, exists_eq_left', exists_eq_right, exists_and_left, and_true, true_and, and_assoc, decide_eq_true_eq, Bool.not_eq_true', decide_eq_false_iff_not, Bool.not_not, reduceCtorEq, false_and, and_false, or_false, false_or, exists_const, false_implies, implies_true, if_false, if_true, Bool.false_eq_true, eq_self, forall_eq', exists_false, decide_true, decide_false, ite_true, ite_false, not_true_eq_false, not_false_eq_true, or_true, true_or, gSub, rSetL, gTup, gCons, gNil, rIxH, rIxS, rLenH, HO.lst.injEq, HO.tup.injEq, atI_0, atI_1, atI_2, ixN_31, ixN_32, Int.reduceNeg, Int.reducePow, Int.reduceLT, Int.reduceLE, Nat.reducePow, Nat.reduceLT, Nat.reduceLeDiff, Int.reduceToNat, Int.reduceAbs, sizeLine_eq, Nat.le_refl, Nat.zero_le, Int.reduceMul, Int.reduceAdd, Int.reduceSub, exists_eq', exists_eq, tBM, tyV_str, tDKN, tDTN, tFor_eq, tLc_eq, iRng1, iRng2, iTup, iList, iEnumT_eq]
              have hP12 := kk12.pl hP
              have da : ∀ H, Dp K H (.ref d1) (.tuple []) := fun H => .tup (q1 H) .nil
              have db : ∀ H, Dp K H (.ref d2) (.tuple []) := fun H => .tup (q2 H) .nil
              have dc : ∀ H, Dp K H (.ref d3) (.tuple []) := fun H => .tup (q3 H) .nil
              have dd : ∀ H, Dp K H (.ref d4) (.tuple []) := fun H => .tup (q4 H) .nil
              refine ⟨_, e12, _, atI_0 _ _, t1, wi, hi, false, d1, d2, rfl, l1, o1, by omega, by omega, by omega, da _, db _, fun sc1 w1 H13 sh1 s13 hw1 => ?_⟩
              have kk13 := kk12.trans (PK.same s13)
              refine ⟨_, s13 _ _ e12, _, atI_1 _ _ _, p, 2, rfl, kk13.pl hP, by decide, fun z H14 _ _ k14 => ⟨rfl, ?_⟩⟩
              have kk14 := kk13.trans k14
              have hw1' := Dp.tk (k14.tk (kk13.pl hP)) _ _ (imm_scrD sc1) hw1
              refine ⟨t2, wi, hi, _, d3, d4, rfl, l2, o2, by omega, by omega, by omega, dc _, dd _, fun sc2 w2 H15 sh2 s15 hw2 => ?_⟩
              have hw1'' := Dp.same s15 _ _ hw1'
              have kk15 := kk14.trans (PK.same s15)
              have hP15 := kk15.pl hP
              refine ⟨fun b9 H9 => b9 = false ∧ PK p H1 H9, ?_, ?_⟩
              · refine ⟨p, w1, w2, sc1, sc2, wi, hi, rfl, hP15, hw1'', hw2, sh1, sh2, by omega, by omega, by omega, by omega, fun H16 k16 => ⟨true, rfl, itN (by simp) ?_⟩⟩
                refine ⟨p, w2, w1, sc2, sc1, wi, hi, rfl, k16.pl hP15, Dp.tk (k16.tk hP15) _ _ (imm_scrD _) hw2, Dp.tk (k16.tk hP15) _ _ (imm_scrD _) hw1'', sh2, sh1, by omega, by omega, by omega, by omega, fun H17 k17 => ⟨true, rfl, rfl, (kk15.trans k16).trans k17⟩⟩
              · rintro b9 H16 ⟨rfl, kk16⟩
                refine itN (by simp) ⟨p, 7, rfl, kk16.pl hP, by decide, fun r H17 _ _ k17 => ⟨r, rfl, ite2 (fun _ => q _) (fun _ => ?_)⟩⟩
                have hP17 := (kk16.trans k17).pl hP
                refine ⟨p, 21, rfl, hP17, by decide, fun x0 H18 x1 x2 k18 => ⟨x0, rfl, p, 11, rfl, k18.pl hP17, by decide, fun y0 H19 y1 y2 k19 => ⟨y0, rfl, ?_⟩⟩⟩
                obtain ⟨x0, rfl⟩ : ∃ n : Nat, x0 = n := ⟨x0.toNat, by omega⟩
                obtain ⟨y0, rfl⟩ : ∃ n : Nat, y0 = n := ⟨y0.toNat, by omega⟩
                have hP19 := k19.pl (k18.pl hP17)
                refine ⟨p, 60 + x0, 30 + y0, by simp, hP19, by omega, by omega, fun sc3 w3 H20 hl3 hr3 k20 hw3 => ?_⟩
                have hP20 := k20.pl hP19
                refine ⟨p, w3, sc3, 60 + x0, rfl, hP20, hw3, by omega, by omega, hr3, fun sc4 w4 H21 hl4 hr4 k21 hw4 => ?_⟩
                exact ⟨p, w3, w4, sc3, sc4, 60 + x0, 30 + y0, rfl, k21.pl hP20, Dp.tk (k21.tk hP20) _ _ (imm_scrD _) hw3, hw4, ⟨hl3, hr3⟩, ⟨by rw [hl4]; exact hl3, hr4⟩, by omega, by omega, by omega, by omega, fun H22 _ => q H22⟩
end
end K63
namespace K63
open PySem PySem.Spec PyProof.Rows L2 Ds
-- imports A63 B63l
/-! the facts of screen_of, whose parameters stand by keyword only -/
theorem soB_hb (D : Addr) (doc pm : Value) (an : Option Addr) (cdv ct : Value) (us ks : List Value) (h1 : us.length = 3) (h2 : ks.length = 5) :
    KwChain D ((([("wordwise", V.bl false), ("book", .non), ("picks", .ref 0), ("folds", .ref 0), ("top", .int 0)] : List (Str × V)).map (·.1)).zip ks) (bindArgs (PySem.W.fnOf "screen_of" "screen_of" (C8.fnArgs sscreen_of) (C8.fnBody sscreen_of) (C8.fnScope sscreen_of) .none (.ref D) doc pm an cdv ct) ⟨us, []⟩)
      ((["text", "width", "height", "wordwise", "book", "picks", "folds", "top"] : List Str).zip (us ++ ks)) :=
  match us, ks, h1, h2 with
  | [_, _, _], [_, _, _, _, _], _, _ => ⟨_, _, _, _, _, _, rfl, rfl, ⟨_, _, _, _, _, _, rfl, rfl, ⟨_, _, _, _, _, _, rfl, rfl, ⟨_, _, _, _, _, _, rfl, rfl, ⟨_, _, _, _, _, _, rfl, rfl, rfl⟩⟩⟩⟩⟩
theorem soK_hb (D : Addr) (doc pm : Value) (an : Option Addr) (cdv ct : Value) (us mv ws : List Value) (h1 : us.length = 3) (h2 : mv.length = 4) (h3 : ws.length = 1) :
    KwChain D ((([("book", .non), ("picks", .ref 0), ("folds", .ref 0), ("top", .int 0)] : List (Str × V)).map (·.1)).zip mv) (bindArgs (PySem.W.fnOf "screen_of" "screen_of" (C8.fnArgs sscreen_of) (C8.fnBody sscreen_of) (C8.fnScope sscreen_of) .none (.ref D) doc pm an cdv ct) ⟨us, (["wordwise"] : List Str).zip ws⟩)
      ((["text", "width", "height", "wordwise", "book", "picks", "folds", "top"] : List Str).zip (us ++ ws ++ mv)) :=
  match us, mv, ws, h1, h2, h3 with
  | [_, _, _], [_, _, _, _], [_], _, _, _ => ⟨_, _, _, _, _, _, rfl, rfl, ⟨_, _, _, _, _, _, rfl, rfl, ⟨_, _, _, _, _, _, rfl, rfl, ⟨_, _, _, _, _, _, rfl, rfl, rfl⟩⟩⟩⟩
section
variable {K : Fr} {h : Heap} {mg : Str → Option Value} {f D a b : Addr} {oc kV dV dc pm cd ct : Value} {od an od1 od2 : Option Addr} {sl sl1 sl2 : Array (Option Value)} {n1 n2 tk : Nat}
theorem so_q (q1 : PySem.W.nsIn K D "wordwise" = some (some (.bool false))) (q2 : PySem.W.nsIn K D "book" = some (some .none)) (q3 : PySem.W.nsIn K D "picks" = some (some (.ref a))) (q4 : PySem.W.nsIn K D "folds" = some (some (.ref b))) (q5 : PySem.W.nsIn K D "top" = some (some (.int 0 tk))) :
    ∀ p ∈ ([("wordwise", .bl false), ("book", .non), ("picks", .ref a), ("folds", .ref b), ("top", .int 0)] : List (Str × V)), ∃ u, PySem.W.nsIn K D p.1 = some (some u) ∧ RelV p.2 u := by
  intro p hp
  simp only [List.mem_cons, List.not_mem_nil, or_false] at hp
  rcases hp with rfl | rfl | rfl | rfl | rfl
  · exact ⟨_, q1, rfl⟩
  · exact ⟨_, q2, rfl⟩
  · exact ⟨_, q3, rfl⟩
  · exact ⟨_, q4, rfl⟩
  · exact ⟨_, q5, tk, rfl⟩
theorem soB_mk (X : K.In h) (G : h.Ns mainGlobals mg) (a1 : PySem.W.nsIn K mainGlobals "screen_of" = some (some (.ref f))) (l : K.lookup f = some ⟨oc, od, .func (PySem.W.fnOf "screen_of" "screen_of" (C8.fnArgs sscreen_of) (C8.fnBody sscreen_of) (C8.fnScope sscreen_of) .none (.ref D) dc pm an cd ct), sl⟩)
    (c : PySem.W.codeIn K cd "screen_of" = true) (k : PySem.W.keepIn K (.ref f) = true)
    (q1 : PySem.W.nsIn K D "wordwise" = some (some (.bool false))) (q2 : PySem.W.nsIn K D "book" = some (some .none)) (q3 : PySem.W.nsIn K D "picks" = some (some (.ref a))) (q4 : PySem.W.nsIn K D "folds" = some (some (.ref b))) (q5 : PySem.W.nsIn K D "top" = some (some (.int 0 tk)))
    (t1 : K.lookup a = some ⟨.type "tuple", od1, .seq #[] n1, sl1⟩) (t2 : K.lookup b = some ⟨.type "tuple", od2, .seq #[] n2, sl2⟩) :
    ∃ (a b : Addr) (ds : List Value), DefB K mg "screen_of" sscreen_of ["text", "width", "height", "wordwise", "book", "picks", "folds", "top"] ds ∧ Vals [.bl false, .non, .ref a, .ref b, .int 0] ds ∧ (∀ H, SqT K H a []) ∧ ∀ H, SqT K H b [] := by
  obtain ⟨ds, d, v⟩ := kwB_mk (ps := ["text", "width", "height", "wordwise", "book", "picks", "folds", "top"]) 3 X G a1 l c k (so_q q1 q2 q3 q4 q5) (fun z => by cases z) rfl soB_hb
  exact ⟨a, b, ds, d, v, sqT_empty t1, sqT_empty t2⟩
theorem soK_mk (X : K.In h) (G : h.Ns mainGlobals mg) (a1 : PySem.W.nsIn K mainGlobals "screen_of" = some (some (.ref f))) (l : K.lookup f = some ⟨oc, od, .func (PySem.W.fnOf "screen_of" "screen_of" (C8.fnArgs sscreen_of) (C8.fnBody sscreen_of) (C8.fnScope sscreen_of) .none (.ref D) dc pm an cd ct), sl⟩)
    (c : PySem.W.codeIn K cd "screen_of" = true) (k : PySem.W.keepIn K (.ref f) = true)
    (q1 : PySem.W.nsIn K D "wordwise" = some (some (.bool false))) (q2 : PySem.W.nsIn K D "book" = some (some .none)) (q3 : PySem.W.nsIn K D "picks" = some (some (.ref a))) (q4 : PySem.W.nsIn K D "folds" = some (some (.ref b))) (q5 : PySem.W.nsIn K D "top" = some (some (.int 0 tk)))
    (t1 : K.lookup a = some ⟨.type "tuple", od1, .seq #[] n1, sl1⟩) (t2 : K.lookup b = some ⟨.type "tuple", od2, .seq #[] n2, sl2⟩) :
    ∃ (a b : Addr), DefKw K mg "screen_of" sscreen_of ["text", "width", "height", "wordwise", "book", "picks", "folds", "top"] 3 ["wordwise"] (fun vs zs => vs ++ zs ++ [.non, .ref a, .ref b, .int 0]) ∧ (∀ H, SqT K H a []) ∧ ∀ H, SqT K H b [] :=
  ⟨a, b, kwK_mk (ms := [("book", .non), ("picks", .ref a), ("folds", .ref b), ("top", .int 0)]) 3 (fun vs mz zs => vs ++ zs ++ mz) X G a1 l c k (so_q q1 q2 q3 q4 q5) (fun z => by cases z) (fun q hq => List.mem_cons_of_mem _ hq) (fun r1 r2 r3 => (r1.append r3).append r2) soK_hb, sqT_empty t1, sqT_empty t2⟩
end
theorem fin {P : Program} {w : World} {K : Fr} {mg : Str → Option Value} {fa : Addr} {h : Heap} (_ : K.In h) (hfa : mg "law" = some (.ref fa)) (T : Txt K mg) :
    ∃ fd : FuncData, (∀ (s : Shared) (v : Value), BindsTo s fd ⟨[v], []⟩ [("script", v)]) ∧ ∀ base : Heap, K.In base → base.Ns mainGlobals mg → FnOk P w K mg base C8.CX0 8 fa fd ["script"] (spLaw K) := law_fin hfa T.l_law fun base => pr_law T
end K63
open PySem PySem.W PyProof.Rows in
set_option maxRecDepth 100000 in
set_option maxHeartbeats 0 in
theorem PySem.Challenge.cw_deedstand_k63_paints_least_holds : PySem.Challenge.rw_deedstand_k63_paints_least.Holds := by
  w_on; o_law; k_head; (case hw => w_witness2)
  k_fill
  refine Ds.walk_law (k := 8) (l := PySem.Challenge.rw_deedstand_k63_paints_least) ⟨rfl, by decide, by decide⟩ rfl rfl (fun w h Y => PySem.W.kIn_of Y) ?F
  case F =>
    intro w mg fa h KX G hmg
    refine K63.fin KX hmg ?T
    case T =>
      constructor
      case b_abs =>
        refine' PySem.W.mg_none_of KX G ?z
        (case z => k_is)
      case b_bool =>
        refine' PySem.W.mg_none_of KX G ?z
        (case z => k_is)
      case b_enumerate =>
        refine' PySem.W.mg_none_of KX G ?z
        (case z => k_is)
      case b_int =>
        refine' PySem.W.mg_none_of KX G ?z
        (case z => k_is)
      case b_isinstance =>
        refine' PySem.W.mg_none_of KX G ?z
        (case z => k_is)
      case b_len =>
        refine' PySem.W.mg_none_of KX G ?z
        (case z => k_is)
      case b_list =>
        refine' PySem.W.mg_none_of KX G ?z
        (case z => k_is)
      case b_range =>
        refine' PySem.W.mg_none_of KX G ?z
        (case z => k_is)
      case b_str =>
        refine' PySem.W.mg_none_of KX G ?z
        (case z => k_is)
      case b_tuple =>
        refine' PySem.W.mg_none_of KX G ?z
        (case z => k_is)
      case f_runs_in =>
        refine' Ds.defB_mk KX G ?a ?l ?c ?k ?hb
        (case a => k_is)
        (case l => k_is)
        (case c => k_is)
        (case k => k_is)
        case hb => exact fun _ _ _ _ _ _ us hl => match us, hl with | [_, _, _], _ => rfl
      case f_paints =>
        refine' Ds.defB_mk KX G ?a ?l ?c ?k ?hb
        (case a => k_is)
        (case l => k_is)
        (case c => k_is)
        (case k => k_is)
        case hb => exact fun _ _ _ _ _ _ us hl => match us, hl with | [_, _], _ => rfl
      case f_painted =>
        refine' Ds.defB_mk KX G ?a ?l ?c ?k ?hb
        (case a => k_is)
        (case l => k_is)
        (case c => k_is)
        (case k => k_is)
        case hb => exact fun _ _ _ _ _ _ us hl => match us, hl with | [_, _], _ => rfl
      case f_row_at =>
        refine' Ds.defB_mk KX G ?a ?l ?c ?k ?hb
        (case a => k_is)
        (case l => k_is)
        (case c => k_is)
        (case k => k_is)
        case hb => exact fun _ _ _ _ _ _ us hl => match us, hl with | [_, _, _], _ => rfl
      case f_selected_between =>
        refine' Ds.defB_mk KX G ?a ?l ?c ?k ?hb
        (case a => k_is)
        (case l => k_is)
        (case c => k_is)
        (case k => k_is)
        case hb => exact fun _ _ _ _ _ _ us hl => match us, hl with | [_, _, _, _], _ => rfl
      case f_piece_end =>
        refine' Ds.defB_mk KX G ?a ?l ?c ?k ?hb
        (case a => k_is)
        (case l => k_is)
        (case c => k_is)
        (case k => k_is)
        case hb => exact fun _ _ _ _ _ _ us hl => match us, hl with | [_, _, _, _], _ => rfl
      case f_rows_of =>
        refine' Ds.defB_mk KX G ?a ?l ?c ?k ?hb
        (case a => k_is)
        (case l => k_is)
        (case c => k_is)
        (case k => k_is)
        case hb => exact fun _ _ _ _ _ _ us hl => match us, hl with | [_], _ => rfl
      case f_spot_of =>
        refine' Ds.defB_mk KX G ?a ?l ?c ?k ?hb
        (case a => k_is)
        (case l => k_is)
        (case c => k_is)
        (case k => k_is)
        case hb => exact fun _ _ _ _ _ _ us hl => match us, hl with | [_, _], _ => rfl
      case f_covered_lines =>
        refine' Ds.defB_mk KX G ?a ?l ?c ?k ?hb
        (case a => k_is)
        (case l => k_is)
        (case c => k_is)
        (case k => k_is)
        case hb => exact fun _ _ _ _ _ _ us hl => match us, hl with | [_, _], _ => rfl
      case f_rows_laid =>
        refine' Ds.defB_mk KX G ?a ?l ?c ?k ?hb
        (case a => k_is)
        (case l => k_is)
        (case c => k_is)
        (case k => k_is)
        case hb => exact fun _ _ _ _ _ _ us hl => match us, hl with | [_, _, _, _], _ => rfl
      case f_law_pool =>
        refine' Ds.defB_mk KX G ?a ?l ?c ?k ?hb
        (case a => k_is)
        (case l => k_is)
        (case c => k_is)
        (case k => k_is)
        case hb => exact fun _ _ _ _ _ _ us hl => match us, hl with | [_], _ => rfl
      case f_law_next =>
        refine' Ds.defB_mk KX G ?a ?l ?c ?k ?hb
        (case a => k_is)
        (case l => k_is)
        (case c => k_is)
        (case k => k_is)
        case hb => exact fun _ _ _ _ _ _ us hl => match us, hl with | [_, _], _ => rfl
      case f_law_signs =>
        refine' Ds.defB_mk KX G ?a ?l ?c ?k ?hb
        (case a => k_is)
        (case l => k_is)
        (case c => k_is)
        (case k => k_is)
        case hb => exact fun _ _ _ _ _ _ us hl => match us, hl with | [], _ => rfl
      case f_law_same =>
        refine' Ds.defB_mk KX G ?a ?l ?c ?k ?hb
        (case a => k_is)
        (case l => k_is)
        (case c => k_is)
        (case k => k_is)
        case hb => exact fun _ _ _ _ _ _ us hl => match us, hl with | [_, _], _ => rfl
      case f_law_tile =>
        refine' Ds.defB_mk KX G ?a ?l ?c ?k ?hb
        (case a => k_is)
        (case l => k_is)
        (case c => k_is)
        (case k => k_is)
        case hb => exact fun _ _ _ _ _ _ us hl => match us, hl with | [_, _], _ => rfl
      case f_law_near =>
        refine' Ds.defB_mk KX G ?a ?l ?c ?k ?hb
        (case a => k_is)
        (case l => k_is)
        (case c => k_is)
        (case k => k_is)
        case hb => exact fun _ _ _ _ _ _ us hl => match us, hl with | [_, _], _ => rfl
      case f_law_screen =>
        refine' Ds.defB_mk KX G ?a ?l ?c ?k ?hb
        (case a => k_is)
        (case l => k_is)
        (case c => k_is)
        (case k => k_is)
        case hb => exact fun _ _ _ _ _ _ us hl => match us, hl with | [_, _, _], _ => rfl
      case f_law_turned =>
        refine' Ds.defB_mk KX G ?a ?l ?c ?k ?hb
        (case a => k_is)
        (case l => k_is)
        (case c => k_is)
        (case k => k_is)
        case hb => exact fun _ _ _ _ _ _ us hl => match us, hl with | [_, _], _ => rfl
      case f_law_due =>
        refine' Ds.defB_mk KX G ?a ?l ?c ?k ?hb
        (case a => k_is)
        (case l => k_is)
        (case c => k_is)
        (case k => k_is)
        case hb => exact fun _ _ _ _ _ _ us hl => match us, hl with | [_, _], _ => rfl
      case f_law_spread =>
        refine' Ds.defB_mk KX G ?a ?l ?c ?k ?hb
        (case a => k_is)
        (case l => k_is)
        (case c => k_is)
        (case k => k_is)
        case hb => exact fun _ _ _ _ _ _ us hl => match us, hl with | [_, _], _ => rfl
      case f_law_strokes =>
        refine' Ds.defB_mk KX G ?a ?l ?c ?k ?hb
        (case a => k_is)
        (case l => k_is)
        (case c => k_is)
        (case k => k_is)
        case hb => exact fun _ _ _ _ _ _ us hl => match us, hl with | [_, _, _], _ => rfl
      case f_law_pair =>
        refine' Ds.defB_mk KX G ?a ?l ?c ?k ?hb
        (case a => k_is)
        (case l => k_is)
        (case c => k_is)
        (case k => k_is)
        case hb => exact fun _ _ _ _ _ _ us hl => match us, hl with | [_, _, _], _ => rfl
      case f_law_text =>
        refine' Ds.defB_mk KX G ?a ?l ?c ?k ?hb
        (case a => k_is)
        (case l => k_is)
        (case c => k_is)
        (case k => k_is)
        case hb => exact fun _ _ _ _ _ _ us hl => match us, hl with | [_], _ => rfl
      case k_paints =>
        refine' Ds.defKw_mk (fun _ ws => ws.reverse) KX G ?a ?l ?c ?k (fun _ r => r.reverse) ?hb
        (case a => k_is)
        (case l => k_is)
        (case c => k_is)
        (case k => k_is)
        case hb => exact fun _ _ _ _ _ _ us ws l1 l2 => match us, ws, l1, l2 with | [], [_, _], _, _ => rfl
      case k_painted =>
        refine' Ds.defKw_mk (fun _ ws => ws.reverse) KX G ?a ?l ?c ?k (fun _ r => r.reverse) ?hb
        (case a => k_is)
        (case l => k_is)
        (case c => k_is)
        (case k => k_is)
        case hb => exact fun _ _ _ _ _ _ us ws l1 l2 => match us, ws, l1, l2 with | [], [_, _], _, _ => rfl
      case k_laid =>
        refine' Ds.defKw_mk (fun vs ws => vs ++ ws) KX G ?a ?l ?c ?k (fun r r2 => r.append r2) ?hb
        (case a => k_is)
        (case l => k_is)
        (case c => k_is)
        (case k => k_is)
        case hb => exact fun _ _ _ _ _ _ us ws l1 l2 => match us, ws, l1, l2 with | [_, _], [_], _, _ => rfl
      case f_screen_of =>
        refine' K63.soB_mk KX G ?a ?l ?c ?k ?q1 ?q2 ?q3 ?q4 ?q5 ?t1 ?t2
        (case a => k_is)
        (case l => k_is)
        (case c => k_is)
        (case k => k_is)
        (case q1 => k_is)
        (case q2 => k_is)
        (case q3 => k_is)
        (case q4 => k_is)
        (case q5 => k_is)
        (case t1 => k_is)
        (case t2 => k_is)
      case k_screen_of =>
        refine' K63.soK_mk KX G ?a ?l ?c ?k ?q1 ?q2 ?q3 ?q4 ?q5 ?t1 ?t2
        (case a => k_is)
        (case l => k_is)
        (case c => k_is)
        (case k => k_is)
        (case q1 => k_is)
        (case q2 => k_is)
        (case q3 => k_is)
        (case q4 => k_is)
        (case q5 => k_is)
        (case t1 => k_is)
        (case t2 => k_is)
      case tf =>
        refine' ⟨_, ⟨⟨?pg, ?hd, ?po, ?sa⟩, PySem.W.mg_of KX G ?aC, ?n_rows, ?n_spans, ?n_shown, ?n_covered, ?i, ?mscreen, ?m_head_flags, ?m_row_tiles⟩⟩
        (case aC => k_is)
        (case pg => k_is)
        (case hd => k_is)
        (case po => k_is)
        (case sa => k_is)
        (case n_rows => show PySem.W.findIn _ _ _ = _; k_is)
        (case n_spans => show PySem.W.findIn _ _ _ = _; k_is)
        (case n_shown => show PySem.W.findIn _ _ _ = _; k_is)
        (case n_covered => show PySem.W.findIn _ _ _ = _; k_is)
        case i =>
          refine' Ds.ini_mk ?mk ?kc ?a ?i ?l ?c ?hb
          (case mk => k_is)
          (case kc => k_is)
          (case a => k_is)
          (case i => k_is)
          (case l => k_is)
          (case c => k_is)
          case hb => exact fun _ _ _ _ _ _ us hl => match us, hl with | [_, _, _, _, _], _ => rfl
        case mscreen =>
          refine' Ds.met_mk ?a ?i ?l ?c ?k ?hb
          (case a => k_is)
          (case i => k_is)
          (case l => k_is)
          (case c => k_is)
          (case k => k_is)
          case hb => exact fun _ _ _ _ _ _ us hl => match us, hl with | [_, _, _, _, _], _ => rfl
        case m_head_flags =>
          refine' Ds.met_mk ?a ?i ?l ?c ?k ?hb
          (case a => k_is)
          (case i => k_is)
          (case l => k_is)
          (case c => k_is)
          (case k => k_is)
          case hb => exact fun _ _ _ _ _ _ us hl => match us, hl with | [_, _, _], _ => rfl
        case m_row_tiles =>
          refine' Ds.met_mk ?a ?i ?l ?c ?k ?hb
          (case a => k_is)
          (case i => k_is)
          (case l => k_is)
          (case c => k_is)
          (case k => k_is)
          case hb => exact fun _ _ _ _ _ _ us hl => match us, hl with | [_, _, _, _, _], _ => rfl
      case l_law =>
        refine' Ds.lawD_mk KX G ?a ?l ?c ?k ?hb
        (case a => k_is)
        (case l => k_is)
        (case c => k_is)
        (case k => k_is)
        case hb => exact fun _ _ _ _ _ _ _ => rfl
#print axioms PySem.Challenge.cw_deedstand_k63_paints_least_holds
