import PyProof.Rows.All
import Wide.All
import OpenK.AllK
import Wide.FinOn
import HandS.ForMost
import HandS.TupAny
import HandS.TupMul
import HandS.Zip
import HandS.IsInst
import HandS.Defaults
import HandS.Walk
import KE.DataEq
import HandS.Style
import HandS.SortInts
import KE.GoesEnum
import HandS.Conv
import HandS.Small
import HandS.Strs
import HandS.More
import HandS.SetFor
import HandS.SetTxt0
import KE.GoesZip
import KE.GoesMore
import KE.KDictZip
import PySem.Challenge.RW_spokenline_k11_whole_order_and_bound
set_option Elab.async false
set_option linter.all false
set_option maxRecDepth 100000
/-! The data layer: what a reading gives, told by plain data. -/
namespace DL
open PySem PySem.Spec PyProof.Rows L2
/-- plain data; raw: a reference as it is (a def, a class, a changing object) -/
inductive Dt where
  | non | bl (b : Bool) | int (i : Int) | str (x : Str) | tup (xs : List Dt) | lst (xs : List Dt) | ro (xs : List Dt) | raw (v : V)
mutual
inductive Den (K : PySem.W.Frag) (H : Hp) : Dt → V → Prop
  | non : Den K H .non .non
  | bl (b : Bool) : Den K H (.bl b) (.bl b)
  | int (i : Int) : Den K H (.int i) (.int i)
  | str (x : Str) : Den K H (.str x) (.str x)
  | tup {a : Addr} {vs : List V} {ds : List Dt} : SqT K H a vs → DenL K H ds vs → Den K H (.tup ds) (.ref a)
  | lst {a : Addr} {vs : List V} {ds : List Dt} : H a = some (.lst vs) → DenL K H ds vs → Den K H (.lst ds) (.ref a)
  | ro {a : Addr} {vs : List V} {ds : List Dt} : SqL K H a vs → DenL K H ds vs → Den K H (.ro ds) (.ref a)
  | raw (v : V) : Den K H (.raw v) v
inductive DenL (K : PySem.W.Frag) (H : Hp) : List Dt → List V → Prop
  | nil : DenL K H [] []
  | cons {d : Dt} {v : V} {ds : List Dt} {vs : List V} : Den K H d v → DenL K H ds vs → DenL K H (d :: ds) (v :: vs)
end
theorem sqT_mono {K : PySem.W.Frag} {H H' : Hp} {a : Addr} {xs : List V} (e : Same H H') (h : SqT K H a xs) : SqT K H' a xs := by
  rcases h with (h | ⟨o, h⟩) | h
  · exact .inl (.inl (e _ _ h))
  · exact .inl (.inr ⟨o, e _ _ h⟩)
  · exact .inr h
section
variable {K : PySem.W.Frag} {H H' : Hp}
mutual
theorem Den.mono (e : Same H H') : ∀ {d : Dt} {v : V}, Den K H d v → Den K H' d v
  | _, _, .non => .non
  | _, _, .bl b => .bl b
  | _, _, .int i => .int i
  | _, _, .str x => .str x
  | _, _, .tup h q => .tup (sqT_mono e h) (DenL.mono e q)
  | _, _, .lst h q => .lst (e _ _ h) (DenL.mono e q)
  | _, _, .ro h q => .ro (e.seq h) (DenL.mono e q)
  | _, _, .raw v => .raw v
theorem DenL.mono (e : Same H H') : ∀ {ds : List Dt} {vs : List V}, DenL K H ds vs → DenL K H' ds vs
  | _, _, .nil => .nil
  | _, _, .cons h q => .cons (Den.mono e h) (DenL.mono e q)
end
theorem DenL.length : ∀ {ds : List Dt} {vs : List V}, DenL K H ds vs → ds.length = vs.length
  | _, _, .nil => rfl
  | _, _, .cons _ q => congrArg (· + 1) (DenL.length q)
theorem DenL.get : ∀ {ds : List Dt} {vs : List V} {i : Nat} {d : Dt}, DenL K H ds vs → ds[i]? = some d → ∃ v, vs[i]? = some v ∧ Den K H d v
  | _, _, _, _, .nil, e => by simp at e
  | _, _, 0, _, .cons h _, e => by simp at e; subst e; exact ⟨_, rfl, h⟩
  | _, _, i + 1, d, .cons _ q, e => by
    obtain ⟨v, h1, h2⟩ := DenL.get (i := i) (d := d) q (by simpa using e)
    exact ⟨v, by simpa using h1, h2⟩
theorem DenL.get' : ∀ {ds : List Dt} {vs : List V} {i : Nat} {v : V}, DenL K H ds vs → vs[i]? = some v → ∃ d, ds[i]? = some d ∧ Den K H d v
  | _, _, _, _, .nil, e => by simp at e
  | _, _, 0, _, .cons h _, e => by simp at e; subst e; exact ⟨_, rfl, h⟩
  | _, _, i + 1, v, .cons _ q, e => by
    obtain ⟨d, h1, h2⟩ := DenL.get' (i := i) (v := v) q (by simpa using e)
    exact ⟨d, by simpa using h1, h2⟩
theorem DenL.append : ∀ {ds es : List Dt} {vs ws : List V}, DenL K H ds vs → DenL K H es ws → DenL K H (ds ++ es) (vs ++ ws)
  | _, _, _, _, .nil, s => s
  | _, _, _, _, .cons r t, s => .cons r (DenL.append t s)
theorem DenL.take : ∀ {ds : List Dt} {vs : List V} (n : Nat), DenL K H ds vs → DenL K H (ds.take n) (vs.take n)
  | _, _, 0, _ => .nil
  | _, _, _ + 1, .nil => .nil
  | _, _, n + 1, .cons r t => .cons r (DenL.take n t)
theorem DenL.drop : ∀ {ds : List Dt} {vs : List V} (n : Nat), DenL K H ds vs → DenL K H (ds.drop n) (vs.drop n)
  | _, _, 0, r => r
  | _, _, _ + 1, .nil => .nil
  | _, _, n + 1, .cons _ t => DenL.drop n t
theorem DenL.set {d : Dt} {v : V} (r : Den K H d v) : ∀ {ds : List Dt} {vs : List V} (i : Nat), DenL K H ds vs → DenL K H (ds.set i d) (vs.set i v)
  | _, _, _, .nil => .nil
  | _, _, 0, .cons _ t => .cons r t
  | _, _, i + 1, .cons q t => .cons q (DenL.set r i t)
theorem DenL.erase : ∀ {ds : List Dt} {vs : List V} (i : Nat), DenL K H ds vs → DenL K H (ds.eraseIdx i) (vs.eraseIdx i)
  | _, _, _, .nil => .nil
  | _, _, 0, .cons _ t => t
  | _, _, i + 1, .cons q t => .cons q (DenL.erase i t)
theorem DenL.mem : ∀ {ds : List Dt} {vs : List V} {d : Dt} {v : V}, DenL K H ds vs → (d, v) ∈ ds.zip vs → Den K H d v
  | _, _, _, _, .nil, h => by simp at h
  | _, _, d, v, .cons r t, h => by
    rw [List.zip_cons_cons] at h
    rcases List.mem_cons.mp h with e | h
    · cases e; exact r
    · exact DenL.mem t h
theorem DenL.of_zip : ∀ {ds : List Dt} {vs : List V}, ds.length = vs.length → (∀ d v, (d, v) ∈ ds.zip vs → Den K H d v) → DenL K H ds vs
  | [], [], _, _ => .nil
  | d :: ds, v :: vs, hl, h => .cons (h d v (by rw [List.zip_cons_cons]; exact List.mem_cons_self)) (DenL.of_zip (by simpa using hl) fun d' v' q => h d' v' (by rw [List.zip_cons_cons]; exact List.mem_cons_of_mem _ q))
  | [], _ :: _, hl, _ => by simp at hl
  | _ :: _, [], hl, _ => by simp at hl
theorem DenL.map {α : Type} {f : α → Dt} {g : α → V} (h : ∀ a, Den K H (f a) (g a)) : ∀ xs : List α, DenL K H (xs.map f) (xs.map g)
  | [] => .nil
  | x :: xs => .cons (h x) (DenL.map h xs)
end
/-! ### data as PyData -/
mutual
def Dt.py : Dt → PyData
  | .non => .none
  | .bl b => .bool b
  | .int i => .int i
  | .str x => .str x
  | .tup xs => .tuple (Dt.pyL xs)
  | .lst xs => .list (Dt.pyL xs)
  | .ro _ => .none
  | .raw _ => .none
def Dt.pyL : List Dt → List PyData
  | [] => []
  | x :: xs => Dt.py x :: Dt.pyL xs
end
mutual
/-- no reference within, at most n deep -/
def Dt.ok : Nat → Dt → Bool
  | _, .non => true
  | _, .bl _ => true
  | _, .int _ => true
  | _, .str _ => true
  | 0, .tup _ => false
  | 0, .lst _ => false
  | n + 1, .tup xs => Dt.okL n xs
  | n + 1, .lst xs => Dt.okL n xs
  | _, .ro _ => false
  | _, .raw _ => false
def Dt.okL : Nat → List Dt → Bool
  | _, [] => true
  | n, x :: xs => Dt.ok n x && Dt.okL n xs
end
theorem okL_iff {n : Nat} : ∀ {xs : List Dt}, Dt.okL n xs = true ↔ ∀ x ∈ xs, Dt.ok n x = true
  | [] => by simp [Dt.okL]
  | x :: xs => by simp [Dt.okL, okL_iff (n := n) (xs := xs)]
mutual
theorem ok_plain : ∀ (n : Nat) (d : Dt), Dt.ok n d = true → d.py.plain = true ∧ d.py.depth ≤ n
  | _, .non, _ => ⟨rfl, by simp [Dt.py, PyData.depth]⟩
  | _, .bl _, _ => ⟨rfl, by simp [Dt.py, PyData.depth]⟩
  | _, .int _, _ => ⟨rfl, by simp [Dt.py, PyData.depth]⟩
  | _, .str _, _ => ⟨rfl, by simp [Dt.py, PyData.depth]⟩
  | 0, .tup _, h => by simp [Dt.ok] at h
  | 0, .lst _, h => by simp [Dt.ok] at h
  | n + 1, .tup xs, h => by
    have q := okL_plain n xs (by simpa [Dt.ok] using h)
    refine ⟨by simpa [Dt.py, PyData.plain] using q.1, ?_⟩
    have := q.2
    simp only [Dt.py, PyData.depth]
    omega
  | n + 1, .lst xs, h => by
    have q := okL_plain n xs (by simpa [Dt.ok] using h)
    refine ⟨by simpa [Dt.py, PyData.plain] using q.1, ?_⟩
    have := q.2
    simp only [Dt.py, PyData.depth]
    omega
  | 0, .raw _, h => by simp [Dt.ok] at h
  | n + 1, .raw _, h => by simp [Dt.ok] at h
  | 0, .ro _, h => by simp [Dt.ok] at h
  | n + 1, .ro _, h => by simp [Dt.ok] at h
theorem okL_plain : ∀ (n : Nat) (xs : List Dt), Dt.okL n xs = true → PyData.plainAll (Dt.pyL xs) = true ∧ PyData.depthAll (Dt.pyL xs) ≤ n
  | _, [], _ => ⟨rfl, by simp [Dt.pyL, PyData.depthAll]⟩
  | n, x :: xs, h => by
    simp only [Dt.okL, Bool.and_eq_true] at h
    have h1 := ok_plain n x h.1
    have h2 := okL_plain n xs h.2
    refine ⟨by simp [Dt.pyL, PyData.plainAll, h1.1, h2.1], ?_⟩
    simp only [Dt.pyL, PyData.depthAll]
    omega
end
section
variable {X : Cx} {pins : List (Addr × Obj)} {σ : L2.St} {H : Hp} {s : Shared}
mutual
theorem den_reads (I : Inv X pins σ H s) : ∀ (n : Nat) (d : Dt) (v : V) (u : Value), Dt.ok n d = true → Den X.K H d v → RelV v u → ∃ as, Reads s.heap u d.py as
  | _, .non, _, _, _, h, r => by
    cases h
    cases r
    exact ⟨_, Reads.none⟩
  | _, .bl b, _, _, _, h, r => by
    cases h
    cases r
    exact ⟨_, Reads.bool b⟩
  | _, .int i, _, _, _, h, r => by
    cases h
    obtain ⟨t, rfl⟩ := r
    exact ⟨_, Reads.int i t⟩
  | _, .str x, _, _, _, h, r => by
    cases h
    obtain ⟨t, rfl⟩ := r
    exact ⟨_, Reads.str x t⟩
  | 0, .tup _, _, _, h, _, _ => by simp [Dt.ok] at h
  | 0, .lst _, _, _, h, _, _ => by simp [Dt.ok] at h
  | n + 1, .lst ds, _, _, ho, h, r => by
    cases h with
    | lst hs ha =>
      cases r
      obtain ⟨its, rv, ⟨o, k, hg, hc, _, hd⟩, _⟩ := I.list (SqL.of hs)
      obtain ⟨as, hr⟩ := denL_reads I n ds _ its (by simpa [Dt.ok] using ho) ha rv
      exact ⟨_, Reads.list hg hc hd hr⟩
  | n + 1, .tup ds, _, _, ho, h, r => by
    cases h with
    | tup hs ha =>
      cases r
      obtain ⟨its, rv, ⟨o, hg, hc, k, hd⟩, _⟩ := I.tuple hs
      obtain ⟨as, hr⟩ := denL_reads I n ds _ its (by simpa [Dt.ok] using ho) ha rv
      exact ⟨_, Reads.tuple hg hc hd hr⟩
  | 0, .raw _, _, _, h, _, _ => by simp [Dt.ok] at h
  | n + 1, .raw _, _, _, h, _, _ => by simp [Dt.ok] at h
  | 0, .ro _, _, _, h, _, _ => by simp [Dt.ok] at h
  | n + 1, .ro _, _, _, h, _, _ => by simp [Dt.ok] at h
theorem denL_reads (I : Inv X pins σ H s) : ∀ (n : Nat) (ds : List Dt) (vs : List V) (us : List Value), Dt.okL n ds = true → DenL X.K H ds vs → Vals vs us → ∃ as, ReadsAll s.heap us (Dt.pyL ds) as
  | _, [], _, _, _, h, r => by
    cases h
    cases r
    exact ⟨_, ReadsAll.nil⟩
  | n, d :: ds, _, _, ho, h, r => by
    simp only [Dt.okL, Bool.and_eq_true] at ho
    cases h with
    | cons h1 h2 =>
      cases r with
      | cons r1 r2 =>
        obtain ⟨as, q1⟩ := den_reads I n d _ _ ho.1 h1 r1
        obtain ⟨bs, q2⟩ := denL_reads I n ds _ _ ho.2 h2 r2
        exact ⟨_, ReadsAll.cons q1 q2⟩
end
end
/-! ### == of data -/
mutual
def eqD : Dt → Dt → Bool
  | .non, .non => true
  | .bl a, .bl b => a == b
  | .bl a, .int j => (if a then 1 else 0) == j
  | .int i, .bl b => i == (if b then 1 else 0)
  | .int i, .int j => decide (i = j)
  | .str x, .str y => decide (x = y)
  | .lst xs, .lst ys => eqDL xs ys
  | .tup xs, .tup ys => eqDL xs ys
  | _, _ => false
def eqDL : List Dt → List Dt → Bool
  | [], [] => true
  | x :: xs, y :: ys => eqD x y && eqDL xs ys
  | _, _ => false
end
mutual
theorem eqv_eqD : ∀ (n m : Nat) (d e : Dt), Dt.ok n d = true → Dt.ok m e = true → PyData.eqv d.py e.py = eqD d e
  | _, _, .non, e, _, h => by cases e <;> first | rfl | (exfalso; revert h; cases ‹Nat› <;> simp [Dt.ok])
  | _, _, .bl b, e, _, h => by cases e <;> first | rfl | (exfalso; revert h; cases ‹Nat› <;> simp [Dt.ok])
  | _, _, .int i, e, _, h => by
    cases e with
    | int j => simp [Dt.py, PyData.eqv, eqD, Bool.beq_eq_decide_eq]
    | _ => rfl
  | _, _, .str i, e, _, h => by
    cases e with
    | str j => simp [Dt.py, PyData.eqv, eqD, Bool.beq_eq_decide_eq]
    | _ => rfl
  | n + 1, m, .tup xs, e, h1, h2 => by
    cases e with
    | tup ys =>
      cases m with
      | zero => simp [Dt.ok] at h2
      | succ m =>
        simp only [Dt.py, PyData.eqv, eqD]
        exact eqv_eqDL n m xs ys (by simpa [Dt.ok] using h1) (by simpa [Dt.ok] using h2)
    | _ => rfl
  | n + 1, m, .lst xs, e, h1, h2 => by
    cases e with
    | lst ys =>
      cases m with
      | zero => simp [Dt.ok] at h2
      | succ m =>
        simp only [Dt.py, PyData.eqv, eqD]
        exact eqv_eqDL n m xs ys (by simpa [Dt.ok] using h1) (by simpa [Dt.ok] using h2)
    | _ => rfl
  | 0, _, .tup _, _, h, _ => by simp [Dt.ok] at h
  | 0, _, .lst _, _, h, _ => by simp [Dt.ok] at h
  | 0, _, .raw _, _, h, _ => by simp [Dt.ok] at h
  | n + 1, _, .raw _, _, h, _ => by simp [Dt.ok] at h
  | 0, _, .ro _, _, h, _ => by simp [Dt.ok] at h
  | n + 1, _, .ro _, _, h, _ => by simp [Dt.ok] at h
theorem eqv_eqDL : ∀ (n m : Nat) (ds es : List Dt), Dt.okL n ds = true → Dt.okL m es = true → PyData.eqvAll (Dt.pyL ds) (Dt.pyL es) = eqDL ds es
  | _, _, [], [], _, _ => rfl
  | _, _, [], _ :: _, _, _ => rfl
  | _, _, _ :: _, [], _, _ => rfl
  | n, m, d :: ds, e :: es, h1, h2 => by
    simp only [Dt.okL, Bool.and_eq_true] at h1 h2
    simp only [Dt.pyL, PyData.eqvAll, eqDL]
    rw [eqv_eqD n m d e h1.1 h2.1, eqv_eqDL n m ds es h1.2 h2.2]
end
section
variable {X : Cx}
def rEqG (K : PySem.W.Frag) : R2 := fun x y H Q => ∃ d e, Den K H d x ∧ Den K H e y ∧ Dt.ok 60 d = true ∧ Dt.ok 60 e = true ∧ Q (.bl (eqD d e)) H
def rNeG (K : PySem.W.Frag) : R2 := fun x y H Q => ∃ d e, Den K H d x ∧ Den K H e y ∧ Dt.ok 60 d = true ∧ Dt.ok 60 e = true ∧ Q (.bl (!eqD d e)) H
theorem op_eqG (hu : X.A.units + 64 < cLine) : OpR X (compareOp .Eq) (rEqG X.K) := by
  intro pins s σ H x y v u Q I rx ry h
  obtain ⟨d, e, hd, he, sd, se, q⟩ := h
  obtain ⟨as, r1⟩ := den_reads I 60 d x v sd hd rx
  obtain ⟨bs, r2⟩ := den_reads I 60 e y u se he ry
  have p1 := ok_plain 60 d sd
  have p2 := ok_plain 60 e se
  refine SeqAt.eq_plain r1 r2 p1.1 p2.1 ?_ ⟨.bl _, H, I, rfl, ?_⟩
  · have := Nat.min_le_left d.py.depth e.py.depth
    omega
  · rw [eqv_eqD 60 60 d e sd se]
    exact q
theorem op_neG (hu : X.A.units + 64 < cLine) : OpR X (compareOp .NotEq) (rNeG X.K) := by
  intro pins s σ H x y v u Q I rx ry h
  obtain ⟨d, e, hd, he, sd, se, q⟩ := h
  obtain ⟨as, r1⟩ := den_reads I 60 d x v sd hd rx
  obtain ⟨bs, r2⟩ := den_reads I 60 e y u se he ry
  have p1 := ok_plain 60 d sd
  have p2 := ok_plain 60 e se
  refine SeqAt.ne_plain r1 r2 p1.1 p2.1 ?_ ⟨.bl _, H, I, rfl, ?_⟩
  · have := Nat.min_le_left d.py.depth e.py.depth
    omega
  · rw [eqv_eqD 60 60 d e sd se]
    exact q
/-- x in c, c a list or tuple of data -/
def rInG (K : PySem.W.Frag) (neg : Bool) : R2 := fun x y H Q => ∃ d es c, Den K H d x ∧ (c = .lst es ∨ c = .tup es) ∧ Den K H c y ∧ Dt.ok 30 d = true ∧ Dt.okL 30 es = true ∧ Q (.bl (if neg then !(es.any fun e => eqD e d) else es.any fun e => eqD e d)) H
theorem any_eqv {d : Dt} (hd : Dt.ok 30 d = true) : ∀ {es : List Dt}, Dt.okL 30 es = true → ((Dt.pyL es).any fun y => PyData.eqv y d.py) = es.any fun e => eqD e d
  | [], _ => rfl
  | e :: es, h => by
    simp only [Dt.okL, Bool.and_eq_true] at h
    simp only [Dt.pyL, List.any_cons]
    rw [eqv_eqD 30 30 e d h.1 hd, any_eqv hd h.2]
theorem op_inG (hu : X.A.units + 64 < cLine) : OpR X (compareOp .In) (rInG X.K false) := by
  intro pins s σ H x y v u Q I rx ry h
  obtain ⟨d, es, c, hd, hc, he, sd, se, q⟩ := h
  obtain ⟨as, r1⟩ := den_reads I 30 d x v sd hd rx
  have p1 := ok_plain 30 d sd
  have p2 := okL_plain 30 es se
  have hr : X.A.units + 1 + min (PyData.depthAll (Dt.pyL es)) d.py.depth < cLine := by
    have := Nat.min_le_left (PyData.depthAll (Dt.pyL es)) d.py.depth
    omega
  have fin : EP X pins σ Q (.bool ((Dt.pyL es).any fun y => PyData.eqv y d.py)) s := ⟨.bl _, H, I, rfl, by rw [any_eqv sd se]; exact q⟩
  rcases hc with rfl | rfl
  · obtain ⟨bs, r2⟩ := den_reads I 31 _ y u (by simpa [Dt.ok] using se) he ry
    exact SeqAt.in_list_data r2 r1 p2.1 p1.1 hr fin
  · obtain ⟨bs, r2⟩ := den_reads I 31 _ y u (by simpa [Dt.ok] using se) he ry
    exact SeqAt.in_tuple_data r2 r1 p2.1 p1.1 hr fin
theorem op_notInG (hu : X.A.units + 64 < cLine) : OpR X (compareOp .NotIn) (rInG X.K true) := by
  intro pins s σ H x y v u Q I rx ry h
  obtain ⟨d, es, c, hd, hc, he, sd, se, q⟩ := h
  obtain ⟨as, r1⟩ := den_reads I 30 d x v sd hd rx
  have p1 := ok_plain 30 d sd
  have p2 := okL_plain 30 es se
  have hr : X.A.units + 1 + min (PyData.depthAll (Dt.pyL es)) d.py.depth < cLine := by
    have := Nat.min_le_left (PyData.depthAll (Dt.pyL es)) d.py.depth
    omega
  have fin : EP X pins σ Q (.bool (!(Dt.pyL es).any fun y => PyData.eqv y d.py)) s := ⟨.bl _, H, I, rfl, by rw [any_eqv sd se]; exact q⟩
  rcases hc with rfl | rfl
  · obtain ⟨bs, r2⟩ := den_reads I 31 _ y u (by simpa [Dt.ok] using se) he ry
    exact SeqAt.notIn_list_data r2 r1 p2.1 p1.1 hr fin
  · obtain ⟨bs, r2⟩ := den_reads I 31 _ y u (by simpa [Dt.ok] using se) he ry
    exact SeqAt.notIn_tuple_data r2 r1 p2.1 p1.1 hr fin
end
end DL
namespace DL
open PySem PySem.Spec PyProof.Rows L2
/-! ### what is owned: objects that may change -/
inductive Cell where
  | lst (ds : List Dt)
  | dk (kvs : List (Key × Dt))
  | ins (C : Addr) (fs : List (Str × Dt))
  | fz (od : Obj) (ws : List (Key × V)) (kvs : List (Key × Dt))
abbrev Own := List (Addr × Cell)
abbrev DenKV {κ : Type} (K : PySem.W.Frag) (B : Hp) : List (κ × Dt) → List (κ × V) → Prop := Paired fun (p : κ × Dt) (q : κ × V) => p.1 = q.1 ∧ Den K B p.2 q.2
def CellAt (K : PySem.W.Frag) (B H : Hp) (p : Addr) : Cell → Prop
  | .lst ds => ∃ vs, H p = some (.lst vs) ∧ DenL K B ds vs
  | .dk kvs => ∃ ws, H p = some (.dK ws) ∧ DenKV K B kvs ws
  | .ins C fs => ∃ dx ws, H p = some (.ins C dx ws) ∧ DenKV K B fs ws
  | .fz od ws kvs => H p = some (.frz od (.dK ws)) ∧ DenKV K B kvs ws
theorem DenKV.mono {κ : Type} {K : PySem.W.Frag} {B B' : Hp} (e : Same B B') {xs : List (κ × Dt)} {ys : List (κ × V)} (h : DenKV K B xs ys) : DenKV K B' xs ys :=
  Paired.mapP h fun _ _ q => ⟨q.1, q.2.mono e⟩
theorem CellAt.mono {K : PySem.W.Frag} {B B' H H' : Hp} {p : Addr} (e : Same B B') (eh : H' p = H p) : ∀ {c : Cell}, CellAt K B H p c → CellAt K B' H' p c
  | .lst _, ⟨vs, h, q⟩ => ⟨vs, eh.trans h, q.mono e⟩
  | .dk _, ⟨vs, h, q⟩ => ⟨vs, eh.trans h, DenKV.mono e q⟩
  | .ins _ _, ⟨dx, vs, h, q⟩ => ⟨dx, vs, eh.trans h, DenKV.mono e q⟩
  | .fz _ _ _, ⟨h, q⟩ => ⟨eh.trans h, DenKV.mono e q⟩
theorem CellAt.there {K : PySem.W.Frag} {B H : Hp} {p : Addr} : ∀ {c : Cell}, CellAt K B H p c → H p ≠ none
  | .lst _, ⟨vs, h, q⟩ => by rw [h]; simp
  | .dk _, ⟨vs, h, q⟩ => by rw [h]; simp
  | .ins _ _, ⟨dx, vs, h, q⟩ => by rw [h]; simp
  | .fz _ _ _, ⟨h, q⟩ => by rw [h]; simp
/-- what must stay, what was data at the entry -/
structure En where
  Kp : Hp
  B0 : Hp
abbrev Gm := List (Option Dt)
structure Sat (K : PySem.W.Frag) (w : En) (Γ : Gm) (O : Own) (P : List (Dt × V)) (σ : L2.St) (H B : Hp) : Prop where
  b0 : Same w.B0 B
  bh : Same B H
  kh : Same w.Kp H
  fr : ∀ q, B q ≠ none → w.B0 q ≠ none ∨ w.Kp q = none
  len : Γ.length = σ.length
  sl : ∀ (i : Nat) (d : Dt), Γ[i]? = some (some d) → ∃ v, σ[i]? = some (some v) ∧ Den K B d v
  ow : ∀ p c, (p, c) ∈ O → B p = none ∧ w.Kp p = none ∧ CellAt K B H p c
  nd : (O.map (·.1)).Nodup
  pi : ∀ d v, (d, v) ∈ P → Den K B d v
theorem same_upd {H : Hp} {p : Addr} {o : HO} (h : H p = none) : Same H (upd H p o) := fun b x e => by
  rw [upd_ne (ne_of_none e h)]
  exact e
theorem same_none {H H' : Hp} (e : Same H H') {p : Addr} (h : H' p = none) : H p = none := e.free h
theorem upd_some {H : Hp} {p q : Addr} {o : HO} (h : upd H p o q ≠ none) : q = p ∨ H q ≠ none := by
  by_cases e : q = p
  · exact .inl e
  · rw [upd_ne e] at h
    exact .inr h
section
variable {K : PySem.W.Frag} {w : En} {Γ Γ' : Gm} {O O' : Own} {P P' : List (Dt × V)} {σ σ' : L2.St} {H H' B B' : Hp} {p : Addr} {d : Dt} {v : V}
theorem Sat.pins (S : Sat K w Γ O P σ H B) (h : ∀ x ∈ P', x ∈ P) : Sat K w Γ O P' σ H B := ⟨S.b0, S.bh, S.kh, S.fr, S.len, S.sl, S.ow, S.nd, fun d v q => S.pi d v (h _ q)⟩
theorem Sat.pin (S : Sat K w Γ O P σ H B) (h : Den K B d v) : Sat K w Γ O ((d, v) :: P) σ H B := ⟨S.b0, S.bh, S.kh, S.fr, S.len, S.sl, S.ow, S.nd, fun d' v' q => by
  rcases List.mem_cons.mp q with e | q
  · cases e; exact h
  · exact S.pi d' v' q⟩
theorem Sat.pinL {ds : List Dt} {vs : List V} (S : Sat K w Γ O P σ H B) (h : DenL K B ds vs) : Sat K w Γ O (ds.zip vs ++ P) σ H B := ⟨S.b0, S.bh, S.kh, S.fr, S.len, S.sl, S.ow, S.nd, fun d' v' q => by
  rcases List.mem_append.mp q with q | q
  · exact h.mem q
  · exact S.pi d' v' q⟩
theorem Sat.perm (S : Sat K w Γ O P σ H B) (h : O.Perm O') : Sat K w Γ O' P σ H B := ⟨S.b0, S.bh, S.kh, S.fr, S.len, S.sl, fun p c q => S.ow p c (h.mem_iff.mpr q), (h.map _).nodup_iff.mp S.nd, S.pi⟩
theorem Sat.set (S : Sat K w Γ O P σ H B) (i : Nat) (h : Den K B d v) : Sat K w (Γ.set i (some d)) O P (σ.set i (some v)) H B := ⟨S.b0, S.bh, S.kh, S.fr, by simpa using S.len, fun j d' q => by
  by_cases e : i = j
  · subst e
    have hl : i < Γ.length := by
      have := (List.getElem?_eq_some_iff.mp q).1
      simpa using this
    rw [List.getElem?_set_self hl] at q
    cases q
    exact ⟨v, List.getElem?_set_self (by rw [← S.len]; exact hl), h⟩
  · rw [List.getElem?_set_ne e] at q
    obtain ⟨v', h1, h2⟩ := S.sl j d' q
    exact ⟨v', by rw [List.getElem?_set_ne e]; exact h1, h2⟩, S.ow, S.nd, S.pi⟩
theorem Sat.weak (S : Sat K w Γ O P σ H B) (hl : Γ'.length = Γ.length) (h : ∀ (i : Nat) (d : Dt), Γ'[i]? = some (some d) → Γ[i]? = some (some d)) : Sat K w Γ' O P σ H B :=
  ⟨S.b0, S.bh, S.kh, S.fr, hl.trans S.len, fun i d q => S.sl i d (h i d q), S.ow, S.nd, S.pi⟩
/-- the base grows by new things, or what was owned -/
theorem Sat.grow (S : Sat K w Γ O P σ H B) (hb : Same B B') (hbh : Same B' H') (hk : Same w.Kp H') (hf : ∀ q, B' q ≠ none → B q ≠ none ∨ w.Kp q = none)
    (ho : ∀ p c, (p, c) ∈ O' → B' p = none ∧ w.Kp p = none ∧ CellAt K B' H' p c) (nd : (O'.map (·.1)).Nodup) : Sat K w Γ O' P σ H' B' :=
  ⟨S.b0.trans hb, hbh, hk, fun q h => (hf q h).elim (fun z => S.fr q z) .inr, S.len, fun i d q => let ⟨v, h1, h2⟩ := S.sl i d q; ⟨v, h1, h2.mono hb⟩, ho, nd, fun d v q => (S.pi d v q).mono hb⟩
theorem Sat.kfree (S : Sat K w Γ O P σ H B) (h : H p = none) : w.Kp p = none := same_none S.kh h
theorem Sat.bfree (S : Sat K w Γ O P σ H B) (h : H p = none) : B p = none := same_none S.bh h
/-- a new thing that is data from now on -/
theorem Sat.new {o : HO} (S : Sat K w Γ O P σ H B) (h : H p = none) : Sat K w Γ O P σ (upd H p o) (upd B p o) := by
  have hb := S.bfree h
  refine S.grow (same_upd hb) (fun q u e => ?_) (S.kh.trans (same_upd h)) (fun q hq => ?_) (fun q c hq => ?_) S.nd
  · by_cases z : q = p
    · subst z; rw [upd_same] at e ⊢; exact e
    · rw [upd_ne z] at e ⊢; exact S.bh _ _ e
  · rcases upd_some hq with rfl | z
    · exact .inr (S.kfree h)
    · exact .inl z
  · obtain ⟨h1, h2, h3⟩ := S.ow q c hq
    have z : q ≠ p := fun z => h3.there (by rw [z]; exact h)
    exact ⟨by rw [upd_ne z]; exact h1, h2, h3.mono (same_upd hb) (upd_ne z)⟩
/-- a new thing that is owned from now on -/
theorem Sat.newOwn {o : HO} {c : Cell} (S : Sat K w Γ O P σ H B) (h : H p = none) (hc : CellAt K B (upd H p o) p c) : Sat K w Γ ((p, c) :: O) P σ (upd H p o) B := by
  refine S.grow (Same.refl _) (S.bh.trans (same_upd h)) (S.kh.trans (same_upd h)) (fun q hq => .inl hq) (fun q c' hq => ?_) ?_
  · rcases List.mem_cons.mp hq with e | hq
    · cases e
      exact ⟨S.bfree h, S.kfree h, hc⟩
    · obtain ⟨h1, h2, h3⟩ := S.ow q c' hq
      have z : q ≠ p := fun z => h3.there (by rw [z]; exact h)
      exact ⟨h1, h2, h3.mono (Same.refl _) (upd_ne z)⟩
  · rw [List.map_cons, List.nodup_cons]
    refine ⟨fun hm => ?_, S.nd⟩
    obtain ⟨⟨q, c'⟩, hq, e⟩ := List.mem_map.mp hm
    have e' : q = p := e
    exact (S.ow q c' hq).2.2.there (by rw [e']; exact h)
/-- an owned thing is written: it stands first in O -/
theorem Sat.write {o : HO} {c c' : Cell} (S : Sat K w Γ ((p, c) :: O) P σ H B) (hc : CellAt K B (upd H p o) p c') : Sat K w Γ ((p, c') :: O) P σ (upd H p o) B := by
  obtain ⟨g1, g2, g3⟩ := S.ow p c List.mem_cons_self
  have nd := S.nd
  rw [List.map_cons, List.nodup_cons] at nd
  have ne : ∀ q u, (q, u) ∈ O → q ≠ p := fun q u hq z => nd.1 (List.mem_map.mpr ⟨(q, u), hq, z⟩)
  refine S.grow (Same.refl _) (fun q u e => ?_) (fun q u e => ?_) (fun q hq => .inl hq) (fun q c' hq => ?_) (by rw [List.map_cons, List.nodup_cons]; exact nd)
  · rw [upd_ne (ne_of_none e g1)]; exact S.bh _ _ e
  · rw [upd_ne (ne_of_none e g2)]; exact S.kh _ _ e
  · rcases List.mem_cons.mp hq with e | hq
    · cases e
      exact ⟨g1, g2, hc⟩
    · obtain ⟨h1, h2, h3⟩ := S.ow q c' (List.mem_cons_of_mem _ hq)
      exact ⟨h1, h2, h3.mono (Same.refl _) (upd_ne (ne q c' hq))⟩
/-- an owned list is data from now on -/
theorem Sat.freeze {ds : List Dt} (S : Sat K w Γ ((p, .lst ds) :: O) P σ H B) : ∃ vs, Sat K w Γ O P σ H (upd B p (.lst vs)) ∧ Den K (upd B p (.lst vs)) (.lst ds) (.ref p) := by
  obtain ⟨g1, g2, vs, g3, g4⟩ := S.ow p _ List.mem_cons_self
  have nd := S.nd
  rw [List.map_cons, List.nodup_cons] at nd
  have ne : ∀ q u, (q, u) ∈ O → q ≠ p := fun q u hq z => nd.1 (List.mem_map.mpr ⟨(q, u), hq, z⟩)
  refine ⟨vs, S.grow (same_upd g1) (fun q u e => ?_) S.kh (fun q hq => ?_) (fun q c hq => ?_) nd.2, .lst upd_same (g4.mono (same_upd g1))⟩
  · by_cases z : q = p
    · subst z; rw [upd_same] at e; rw [g3]; exact e
    · rw [upd_ne z] at e; exact S.bh _ _ e
  · rcases upd_some hq with rfl | z
    · exact .inr g2
    · exact .inl z
  · obtain ⟨h1, h2, h3⟩ := S.ow q c (List.mem_cons_of_mem _ hq)
    exact ⟨by rw [upd_ne (ne q c hq)]; exact h1, h2, h3.mono (same_upd g1) rfl⟩
theorem Sat.drop {c : Cell} (S : Sat K w Γ ((p, c) :: O) P σ H B) : Sat K w Γ O P σ H B :=
  ⟨S.b0, S.bh, S.kh, S.fr, S.len, S.sl, fun q c hq => S.ow q c (List.mem_cons_of_mem _ hq), by have := S.nd; rw [List.map_cons, List.nodup_cons] at this; exact this.2, S.pi⟩
end
/-! ### the judgements -/
def EW (K : PySem.W.Frag) (t : TE) (Γ : Gm) (O : Own) (Post : Dt → Own → Prop) : Prop := ∀ (w : En) P σ H B, Sat K w Γ O P σ H B → ∀ Q : VK, (∀ d v O' H' B', Post d O' → Sat K w Γ O' ((d, v) :: P) σ H' B' → Q v H') → t σ H Q
def TW (K : PySem.W.Frag) (t : TT) (Γ : Gm) (O : Own) (Post : Bool → Own → Prop) : Prop := ∀ (w : En) P σ H B, Sat K w Γ O P σ H B → ∀ Q : Bool → Hp → Prop, (∀ b O' H' B', Post b O' → Sat K w Γ O' P σ H' B' → Q b H') → t σ H Q
def AW (K : PySem.W.Frag) (t : TA) (Γ : Gm) (O : Own) (Post : List Dt → Own → Prop) : Prop := ∀ (w : En) P σ H B, Sat K w Γ O P σ H B → ∀ Q : List V → Hp → Prop, (∀ ds vs O' H' B', Post ds O' → DenL K B' ds vs → Sat K w Γ O' P σ H' B' → Q vs H') → t σ H Q
def PW (K : PySem.W.Frag) (t : TO) (Γ : Gm) (O : Own) (Post : Option Int → Own → Prop) : Prop := ∀ (w : En) P σ H B, Sat K w Γ O P σ H B → ∀ Q : Option Int → Hp → Prop, (∀ o O' H' B', Post o O' → Sat K w Γ O' P σ H' B' → Q o H') → t σ H Q
/-- two values, one value, a list of values worked on -/
def RW (K : PySem.W.Frag) (r : R2) (d e : Dt) (O : Own) (Post : Dt → Own → Prop) : Prop := ∀ (w : En) Γ P σ H B x y, Sat K w Γ O P σ H B → Den K B d x → Den K B e y → ∀ Q : VK, (∀ d v O' H' B', Post d O' → Sat K w Γ O' ((d, v) :: P) σ H' B' → Q v H') → r x y H Q
def UW (K : PySem.W.Frag) (r : V → Hp → VK → Prop) (d : Dt) (O : Own) (Post : Dt → Own → Prop) : Prop := ∀ (w : En) Γ P σ H B x, Sat K w Γ O P σ H B → Den K B d x → ∀ Q : VK, (∀ d v O' H' B', Post d O' → Sat K w Γ O' ((d, v) :: P) σ H' B' → Q v H') → r x H Q
def CW (K : PySem.W.Frag) (r : List V → Hp → VK → Prop) (ds : List Dt) (O : Own) (Post : Dt → Own → Prop) : Prop := ∀ (w : En) Γ P σ H B xs, Sat K w Γ O P σ H B → DenL K B ds xs → ∀ Q : VK, (∀ d v O' H' B', Post d O' → Sat K w Γ O' ((d, v) :: P) σ H' B' → Q v H') → r xs H Q
def GW (K : PySem.W.Frag) (g : TG) (J : Nat → Prop) (d : Dt) (Γ : Gm) (O : Own) (Post : Gm → Own → Prop) : Prop := ∀ (w : En) P σ H B v, Sat K w Γ O P σ H B → Den K B d v → ∀ Q : L2.St → Hp → Prop,
  (∀ Γ' O' σ' H' B', Post Γ' O' → Sat K w Γ' O' P σ' H' B' → (∀ i : Nat, ¬ J i → σ'[i]? = σ[i]?) → σ'.length = σ.length → Q σ' H') → g v σ H Q
def GsW (K : PySem.W.Frag) (g : TGs) (J : Nat → Prop) (ds : List Dt) (Γ : Gm) (O : Own) (Post : Gm → Own → Prop) : Prop := ∀ (w : En) P σ H B vs, Sat K w Γ O P σ H B → DenL K B ds vs → ∀ Q : L2.St → Hp → Prop,
  (∀ Γ' O' σ' H' B', Post Γ' O' → Sat K w Γ' O' P σ' H' B' → (∀ i : Nat, ¬ J i → σ'[i]? = σ[i]?) → σ'.length = σ.length → Q σ' H') → g vs σ H Q
structure De where
  nx : Gm → Own → Prop
  rt : Dt → Own → Prop
  bk : Gm → Own → Prop := fun _ _ => False
  ct : Gm → Own → Prop := fun _ _ => False
structure Meets (K : PySem.W.Frag) (w : En) (P : List (Dt × V)) (E : De) (D : Ends) : Prop where
  nx : ∀ Γ' O' σ' H' B', E.nx Γ' O' → Sat K w Γ' O' P σ' H' B' → D.nx σ' H'
  rt : ∀ d v Γ' O' σ' H' B', E.rt d O' → Sat K w Γ' O' ((d, v) :: P) σ' H' B' → D.rt v H'
  bk : ∀ Γ' O' σ' H' B', E.bk Γ' O' → Sat K w Γ' O' P σ' H' B' → D.bk σ' H'
  ct : ∀ Γ' O' σ' H' B', E.ct Γ' O' → Sat K w Γ' O' P σ' H' B' → D.ct σ' H'
def SW (K : PySem.W.Frag) (t : TS) (Γ : Gm) (O : Own) (E : De) : Prop := ∀ (w : En) P σ H B, Sat K w Γ O P σ H B → ∀ D : Ends, Meets K w P E D → t D σ H
section
variable {K : PySem.W.Frag} {w : En} {Γ : Gm} {O : Own} {Post Post' : Dt → Own → Prop} {t ta tb te : TE} {r : R2} {d e : Dt}
theorem EW.imp (h : EW K t Γ O Post) (k : ∀ d O, Post d O → Post' d O) : EW K t Γ O Post' := fun w P σ H B S Q q => h w P σ H B S Q fun d v O' H' B' p S' => q d v O' H' B' (k _ _ p) S'
theorem ew_perm {O' : Own} (hp : O.Perm O') (h : EW K t Γ O' Post) : EW K t Γ O Post := fun w P σ H B S => h w P σ H B (S.perm hp)
/-! ### expressions -/
theorem ew_var {i : Nat} (h : Γ[i]? = some (some d)) (k : Post d O) : EW K (tVar i) Γ O Post := fun w P σ H B S Q q => by
  obtain ⟨v, h1, h2⟩ := S.sl i d h
  exact ⟨v, h1, q d v O H B k (S.pin h2)⟩
theorem ew_int {i : Int} (k : Post (.int i) O) : EW K (tC (.int i)) Γ O Post := fun w P σ H B S Q q => q _ _ O H B k (S.pin (.int i))
theorem ew_str {i : Str} (k : Post (.str i) O) : EW K (tC (.str i)) Γ O Post := fun w P σ H B S Q q => q _ _ O H B k (S.pin (.str i))
theorem ew_bl {i : Bool} (k : Post (.bl i) O) : EW K (tC (.bl i)) Γ O Post := fun w P σ H B S Q q => q _ _ O H B k (S.pin (.bl i))
theorem ew_non (k : Post .non O) : EW K (tC .non) Γ O Post := fun w P σ H B S Q q => q _ _ O H B k (S.pin .non)
theorem ew_raw {v : V} (k : Post (.raw v) O) : EW K (tC v) Γ O Post := fun w P σ H B S Q q => q _ _ O H B k (S.pin (.raw v))
theorem ew_op (h : EW K ta Γ O fun d O1 => EW K tb Γ O1 fun e O2 => RW K r d e O2 Post) : EW K (tOp r ta tb) Γ O Post := fun w P σ H B S Q q =>
  h w P σ H B S _ fun d x O1 H1 B1 p1 S1 => p1 w _ σ H1 B1 S1 _ fun e y O2 H2 B2 p2 S2 => p2 w Γ _ σ H2 B2 x y S2 (S2.pi d x (by simp)) (S2.pi e y (by simp)) Q fun d' v O' H' B' p' S' => q d' v O' H' B' p' (S'.pins (by
    intro z hz
    rcases List.mem_cons.mp hz with rfl | hz
    · simp
    · simp [hz]))
theorem ew_un {r : V → Hp → VK → Prop} (h : EW K ta Γ O fun d O1 => UW K r d O1 Post) : EW K (tUn r ta) Γ O Post := fun w P σ H B S Q q =>
  h w P σ H B S _ fun d x O1 H1 B1 p1 S1 => p1 w Γ _ σ H1 B1 x S1 (S1.pi d x (by simp)) Q fun d' v O' H' B' p' S' => q d' v O' H' B' p' (S'.pins (by
    intro z hz
    rcases List.mem_cons.mp hz with rfl | hz
    · simp
    · simp [hz]))
/-! two ints -/
theorem rw_I0 {g : Int → Int → V} {g' : Int → Int → Dt} (hg : ∀ i j K B, Den K B (g' i j) (g i j)) {i j : Int} (k : Post (g' i j) O) : RW K (rI0 g) (.int i) (.int j) O Post := fun w Γ P σ H B x y S hx hy Q q => by
  cases hx
  cases hy
  exact ⟨i, j, rfl, rfl, q _ _ O H B k (S.pin (hg i j _ _))⟩
theorem rw_I {C : Int → Int → Prop} {g : Int → Int → V} {g' : Int → Int → Dt} (hg : ∀ i j K B, Den K B (g' i j) (g i j)) {i j : Int} (hc : C i j) (k : Post (g' i j) O) : RW K (rI C g) (.int i) (.int j) O Post := fun w Γ P σ H B x y S hx hy Q q => by
  cases hx
  cases hy
  exact ⟨i, j, rfl, rfl, hc, q _ _ O H B k (S.pin (hg i j _ _))⟩
theorem rw_add {i j : Int} (k : Post (.int (i + j)) O) : RW K (rI0 fun i j => .int (i + j)) (.int i) (.int j) O Post := rw_I0 (g' := fun i j => .int (i + j)) (fun i j _ _ => .int _) k
theorem rw_sub {i j : Int} (k : Post (.int (i - j)) O) : RW K (rI0 fun i j => .int (i - j)) (.int i) (.int j) O Post := rw_I0 (g' := fun i j => .int (i - j)) (fun i j _ _ => .int _) k
theorem rw_mul {i j : Int} (hc : CMul i j) (k : Post (.int (i * j)) O) : RW K (rI CMul fun i j => .int (i * j)) (.int i) (.int j) O Post := rw_I (g' := fun i j => .int (i * j)) (fun i j _ _ => .int _) hc k
theorem rw_mod {i j : Int} (hc : 0 < j) (k : Post (.int (i % j)) O) : RW K (rI (fun _ j => 0 < j) fun i j => .int (i % j)) (.int i) (.int j) O Post := rw_I (g' := fun i j => .int (i % j)) (fun i j _ _ => .int _) hc k
theorem rw_fdiv {i j : Int} (hc : CDiv i j) (k : Post (.int (i / j)) O) : RW K (rI CDiv fun i j => .int (i / j)) (.int i) (.int j) O Post := rw_I (g' := fun i j => .int (i / j)) (fun i j _ _ => .int _) hc k
theorem rw_pow {i j : Int} (hc : CPow i j) (k : Post (.int (i ^ j.toNat)) O) : RW K (rI CPow fun i j => .int (i ^ j.toNat)) (.int i) (.int j) O Post := rw_I (g' := fun i j => .int (i ^ j.toNat)) (fun i j _ _ => .int _) hc k
theorem rw_lt {i j : Int} (k : Post (.bl (decide (i < j))) O) : RW K (rI0 fun i j => .bl (decide (i < j))) (.int i) (.int j) O Post := rw_I0 (g' := fun i j => .bl (decide (i < j))) (fun i j _ _ => .bl _) k
theorem rw_le {i j : Int} (k : Post (.bl (decide (i ≤ j))) O) : RW K (rI0 fun i j => .bl (decide (i ≤ j))) (.int i) (.int j) O Post := rw_I0 (g' := fun i j => .bl (decide (i ≤ j))) (fun i j _ _ => .bl _) k
theorem rw_gt {i j : Int} (k : Post (.bl (decide (j < i))) O) : RW K (rI0 fun i j => .bl (decide (j < i))) (.int i) (.int j) O Post := rw_I0 (g' := fun i j => .bl (decide (j < i))) (fun i j _ _ => .bl _) k
theorem rw_ge {i j : Int} (k : Post (.bl (decide (j ≤ i))) O) : RW K (rI0 fun i j => .bl (decide (j ≤ i))) (.int i) (.int j) O Post := rw_I0 (g' := fun i j => .bl (decide (j ≤ i))) (fun i j _ _ => .bl _) k
theorem uw_neg {i : Int} (k : Post (.int (-i)) O) : UW K (rU fun i => .int (-i)) (.int i) O Post := fun w Γ P σ H B x S hx Q q => by
  cases hx
  exact ⟨i, rfl, q _ _ O H B k (S.pin (.int _))⟩
/-! what may be looked at: data, or an owned list -/
inductive View (O : Own) : Dt → Dt → Prop
  | same (d : Dt) : View O d d
  | own {p : Addr} {ds : List Dt} : (p, .lst ds) ∈ O → View O (.raw (.ref p)) (.lst ds)
theorem View.den {P : List (Dt × V)} {σ : L2.St} {H B : Hp} {v : V} (h : View O d e) (S : Sat K w Γ O P σ H B) (hd : Den K B d v) : Den K H e v := by
  cases h with
  | same => exact hd.mono S.bh
  | own hm =>
    cases hd
    obtain ⟨_, _, vs, h3, h4⟩ := S.ow _ _ hm
    exact .lst h3 (h4.mono S.bh)
/-- .. of which the items are data -/
theorem View.list {P : List (Dt × V)} {σ : L2.St} {H B : Hp} {v : V} {ds : List Dt} (h : View O d (.lst ds)) (S : Sat K w Γ O P σ H B) (hd : Den K B d v) : ∃ a vs, v = .ref a ∧ H a = some (.lst vs) ∧ DenL K B ds vs := by
  cases h with
  | same =>
    cases hd with
    | lst h1 h2 => exact ⟨_, _, rfl, S.bh _ _ h1, h2⟩
  | own hm =>
    cases hd
    obtain ⟨_, _, vs, h3, h4⟩ := S.ow _ _ hm
    exact ⟨_, _, rfl, h3, h4⟩
theorem rw_eq {d' e' : Dt} (v1 : View O d d') (v2 : View O e e') (h1 : Dt.ok 60 d' = true) (h2 : Dt.ok 60 e' = true) (k : Post (.bl (eqD d' e')) O) : RW K (rEqG K) d e O Post := fun w Γ P σ H B x y S hx hy Q q =>
  ⟨d', e', v1.den S hx, v2.den S hy, h1, h2, q _ _ O H B k (S.pin (.bl _))⟩
theorem rw_ne {d' e' : Dt} (v1 : View O d d') (v2 : View O e e') (h1 : Dt.ok 60 d' = true) (h2 : Dt.ok 60 e' = true) (k : Post (.bl (!eqD d' e')) O) : RW K (rNeG K) d e O Post := fun w Γ P σ H B x y S hx hy Q q =>
  ⟨d', e', v1.den S hx, v2.den S hy, h1, h2, q _ _ O H B k (S.pin (.bl _))⟩
theorem rw_inL {es : List Dt} (v2 : View O e (.lst es)) (h1 : Dt.ok 30 d = true) (h2 : Dt.okL 30 es = true) (k : Post (.bl (es.any fun e => eqD e d)) O) : RW K (rInG K false) d e O Post := fun w Γ P σ H B x y S hx hy Q q =>
  ⟨d, es, _, hx.mono S.bh, .inl rfl, v2.den S hy, h1, h2, q _ _ O H B k (S.pin (.bl _))⟩
theorem rw_niL {es : List Dt} (v2 : View O e (.lst es)) (h1 : Dt.ok 30 d = true) (h2 : Dt.okL 30 es = true) (k : Post (.bl (!es.any fun e => eqD e d)) O) : RW K (rInG K true) d e O Post := fun w Γ P σ H B x y S hx hy Q q =>
  ⟨d, es, _, hx.mono S.bh, .inl rfl, v2.den S hy, h1, h2, q _ _ O H B k (S.pin (.bl _))⟩
theorem rw_inT {es : List Dt} (h1 : Dt.ok 30 d = true) (h2 : Dt.okL 30 es = true) (k : Post (.bl (es.any fun e => eqD e d)) O) : RW K (rInG K false) d (.tup es) O Post := fun w Γ P σ H B x y S hx hy Q q =>
  ⟨d, es, _, hx.mono S.bh, .inr rfl, hy.mono S.bh, h1, h2, q _ _ O H B k (S.pin (.bl _))⟩
theorem rw_niT {es : List Dt} (h1 : Dt.ok 30 d = true) (h2 : Dt.okL 30 es = true) (k : Post (.bl (!es.any fun e => eqD e d)) O) : RW K (rInG K true) d (.tup es) O Post := fun w Γ P σ H B x y S hx hy Q q =>
  ⟨d, es, _, hx.mono S.bh, .inr rfl, hy.mono S.bh, h1, h2, q _ _ O H B k (S.pin (.bl _))⟩
/-! items -/
theorem atI_den {K : PySem.W.Frag} {B : Hp} {ds : List Dt} {vs : List V} {i : Int} (h : DenL K B ds vs) (ha : atI ds i = some d) : ∃ v, atI vs i = some v ∧ Den K B d v := by
  unfold atI at ha ⊢
  rw [← h.length]
  cases hx : ixN ds.length i with
  | none => rw [hx] at ha; cases ha
  | some j =>
    rw [hx] at ha
    obtain ⟨v, h1, h2⟩ := h.get (i := j) (d := d) ha
    exact ⟨v, h1, h2⟩
theorem rw_ixT {es : List Dt} {i : Int} (ha : atI es i = some d) (k : Post d O) : RW K (rIx K) (.tup es) (.int i) O Post := fun w Γ P σ H B x y S hx hy Q q => by
  cases hy
  cases hx with
  | tup h1 h2 =>
    obtain ⟨v, a1, a2⟩ := atI_den h2 ha
    exact .inr (.inl ⟨_, _, i, v, rfl, rfl, sqT_mono S.bh h1, a1, q _ _ O H B k (S.pin a2)⟩)
theorem rw_ixL {es : List Dt} {c : Dt} {i : Int} (v1 : View O c (.lst es)) (ha : atI es i = some d) (k : Post d O) : RW K (rIx K) c (.int i) O Post := fun w Γ P σ H B x y S hx hy Q q => by
  cases hy
  obtain ⟨a, vs, rfl, h1, h2⟩ := v1.list S hx
  obtain ⟨v, a1, a2⟩ := atI_den h2 ha
  exact .inl ⟨_, _, i, v, rfl, rfl, SqL.of h1, a1, q _ _ O H B k (S.pin a2)⟩
/-! t + u -/
theorem rw_catT {ds es : List Dt} (hz : ds.length + es.length ≤ sizeLine) (k : Post (.tup (ds ++ es)) O) : RW K (rCatA K) (.tup ds) (.tup es) O Post := fun w Γ P σ H B x y S hx hy Q q => by
  cases hx with
  | tup h1 h2 =>
    cases hy with
    | tup g1 g2 =>
      refine ⟨_, _, _, _, rfl, rfl, sqT_mono S.bh h1, sqT_mono S.bh g1, by rw [← h2.length, ← g2.length]; exact hz, fun e => ?_, fun _ e => ?_, fun _ _ p hp => ?_⟩
      · subst e
        cases h2
        exact q _ _ O H B k (S.pin (.tup g1 g2))
      · subst e
        cases g2
        rw [List.append_nil] at k
        exact q _ _ O H B k (S.pin (.tup h1 h2))
      · exact q _ _ O _ _ k ((S.new hp).pin (.tup (SqT.of upd_same) ((h2.append g2).mono (same_upd (S.bfree hp)))))
theorem rw_catL {c e : Dt} {ds es : List Dt} (v1 : View O c (.lst ds)) (v2 : View O e (.lst es)) (hz : ds.length + es.length ≤ sizeLine) (k : Post (.lst (ds ++ es)) O) : RW K rCat c e O Post := fun w Γ P σ H B x y S hx hy Q q => by
  obtain ⟨a, vs, rfl, h1, h2⟩ := v1.list S hx
  obtain ⟨b, us, rfl, g1, g2⟩ := v2.list S hy
  exact ⟨_, _, _, _, rfl, rfl, h1, g1, by rw [← h2.length, ← g2.length]; exact hz, fun p hp => q _ _ O _ _ k ((S.new hp).pin (.lst upd_same ((h2.append g2).mono (same_upd (S.bfree hp)))))⟩
theorem rw_catS {i j : Str} (hz : i.length + j.length ≤ sizeLine) (k : Post (.str (i ++ j)) O) : RW K (fun x y H Q => ∃ i j, x = .str i ∧ y = .str j ∧ i.length + j.length ≤ sizeLine ∧ Q (.str (i ++ j)) H) (.str i) (.str j) O Post := fun w Γ P σ H B x y S hx hy Q q => by
  cases hx
  cases hy
  exact ⟨i, j, rfl, rfl, hz, q _ _ O H B k (S.pin (.str _))⟩
/-! is None -/
def isNon : Dt → Bool
  | .non => true
  | _ => false
theorem isNon_den {K : PySem.W.Frag} {B : Hp} {d : Dt} {x : V} (hx : Den K B d x) (hr : ∀ v, d ≠ .raw v) : decide (x = V.non) = isNon d := by
  cases hx <;> first | rfl | exact absurd rfl (hr _)
theorem rw_isN {d : Dt} (hr : ∀ v, d ≠ .raw v) (k : Post (.bl (isNon d)) O) : RW K (fun x y H Q => y = V.non ∧ Q (.bl (decide (x = V.non))) H) d .non O Post := fun w Γ P σ H B x y S hx hy Q q => by
  cases hy
  refine ⟨rfl, ?_⟩
  rw [isNon_den hx hr]
  exact q _ _ O H B k (S.pin (.bl _))
theorem rw_notN {d : Dt} (hr : ∀ v, d ≠ .raw v) (k : Post (.bl (!isNon d)) O) : RW K (fun x y H Q => y = V.non ∧ Q (.bl (!decide (x = V.non))) H) d .non O Post := fun w Γ P σ H B x y S hx hy Q q => by
  cases hy
  refine ⟨rfl, ?_⟩
  rw [isNon_den hx hr]
  exact q _ _ O H B k (S.pin (.bl _))
/-! displays -/
theorem ew_tup {ta : TA} (h : AW K ta Γ O fun ds O1 => ds.length ≤ sizeLine ∧ Post (.tup ds) O1) : EW K (tTup ta) Γ O Post := fun w P σ H B S Q q =>
  h w P σ H B S _ fun ds vs O1 H1 B1 ⟨p0, p1⟩ hd S1 => ⟨by rw [← hd.length]; exact p0, fun p hp => q _ _ O1 _ _ p1 ((S1.new hp).pin (.tup (SqT.of upd_same) (hd.mono (same_upd (S1.bfree hp)))))⟩
theorem ew_lst {ta : TA} (h : AW K ta Γ O fun ds O1 => ds.length ≤ sizeLine ∧ Post (.lst ds) O1) : EW K (tLst ta) Γ O Post := fun w P σ H B S Q q =>
  h w P σ H B S _ fun ds vs O1 H1 B1 ⟨p0, p1⟩ hd S1 => ⟨by rw [← hd.length]; exact p0, fun p hp => q _ _ O1 _ _ p1 ((S1.new hp).pin (.lst upd_same (hd.mono (same_upd (S1.bfree hp)))))⟩
/-- a new list that is owned -/
theorem ew_lstO {ta : TA} (h : AW K ta Γ O fun ds O1 => ds.length ≤ sizeLine ∧ ∀ p, Post (.raw (.ref p)) ((p, .lst ds) :: O1)) : EW K (tLst ta) Γ O Post := fun w P σ H B S Q q =>
  h w P σ H B S _ fun ds vs O1 H1 B1 ⟨p0, p1⟩ hd S1 => ⟨by rw [← hd.length]; exact p0, fun p hp => q _ _ _ _ _ (p1 p) ((S1.newOwn (c := .lst ds) hp ⟨vs, upd_same, hd⟩).pin (.raw _))⟩
theorem aw_nil {Post : List Dt → Own → Prop} (k : Post [] O) : AW K tNil Γ O Post := fun w P σ H B S Q q => q [] [] O H B k .nil S
theorem aw_cons {tr : TA} {Post : List Dt → Own → Prop} (h : EW K ta Γ O fun d O1 => AW K tr Γ O1 fun ds O2 => Post (d :: ds) O2) : AW K (tCons ta tr) Γ O Post := fun w P σ H B S Q q =>
  h w P σ H B S _ fun d x O1 H1 B1 p1 S1 => p1 w _ σ H1 B1 S1 _ fun ds vs O2 H2 B2 p2 hd S2 => q _ _ O2 H2 B2 p2 (.cons (S2.pi d x (by simp)) hd) (S2.pins fun z hz => by simp [hz])
/-- what is owned becomes data -/
theorem ew_freeze {p : Addr} {ds : List Dt} (h : EW K t Γ O fun d O1 => d = .raw (.ref p) ∧ ∃ O2, O1.Perm ((p, .lst ds) :: O2) ∧ Post (.lst ds) O2) : EW K t Γ O Post := fun w P σ H B S Q q =>
  h w P σ H B S Q fun d v O1 H1 B1 ⟨e, O2, hp, p1⟩ S1 => by
    subst e
    obtain ⟨vs, S2, hd⟩ := (S1.perm hp).freeze
    have hv : v = .ref p := by
      have := S1.pi (.raw (.ref p)) v (by simp)
      cases this
      rfl
    subst hv
    exact q _ _ O2 _ _ p1 ((S2.pins fun z hz => by simp [hz]).pin hd)
/-- ew_thaw's reverse -/
theorem ew_frz (h : EW K t Γ O fun d O1 => ∃ (p : Addr) (ds : List Dt) (O2 : Own), d = .raw (.ref p) ∧ O1.Perm ((p, .lst ds) :: O2) ∧ Post (.lst ds) O2) : EW K t Γ O Post := fun w P σ H B S Q q =>
  h w P σ H B S Q fun d v O1 H1 B1 ⟨p, ds, O2, e, hp, p1⟩ S1 => by
    subst e
    obtain ⟨vs, S2, hd⟩ := (S1.perm hp).freeze
    have hv : v = .ref p := by
      have := S1.pi (.raw (.ref p)) v (by simp)
      cases this
      rfl
    subst hv
    exact q _ _ O2 _ _ p1 ((S2.pins fun z hz => by simp [hz]).pin hd)
/-! slices -/
def cutD (xs : List Dt) (lo hi : Option Int) : List Dt := (xs.drop (HT.sIx xs.length 0 lo)).take (HT.sIx xs.length xs.length hi - HT.sIx xs.length 0 lo)
theorem cutD_den {K : PySem.W.Frag} {B : Hp} {ds : List Dt} {vs : List V} {lo hi : Option Int} (h : DenL K B ds vs) : DenL K B (cutD ds lo hi) (cutV vs lo hi) := by
  unfold cutD cutV
  rw [h.length]
  exact (h.drop _).take _
theorem pw_none {Post : Option Int → Own → Prop} (k : Post none O) : PW K tNoPart Γ O Post := fun w P σ H B S Q q => q none O H B k S
theorem pw_some {Post : Option Int → Own → Prop} (h : EW K ta Γ O fun d O1 => ∃ i, d = .int i ∧ Post (some i) O1) : PW K (tPart ta) Γ O Post := fun w P σ H B S Q q =>
  h w P σ H B S _ fun d v O1 H1 B1 ⟨i, e, p⟩ S1 => by
    subst e
    have := S1.pi _ v List.mem_cons_self
    cases this
    exact ⟨i, rfl, q _ O1 H1 B1 p (S1.pins fun z hz => by simp [hz])⟩
theorem ew_slT {tl th : TO} (h : EW K ta Γ O fun d O1 => PW K tl Γ O1 fun lo O2 => PW K th Γ O2 fun hi O3 => ∃ es, d = .tup es ∧ Post (.tup (cutD es lo hi)) O3) : EW K (tSl (rSlA K) ta tl th) Γ O Post := fun w P σ H B S Q q =>
  h w P σ H B S _ fun d x O1 H1 B1 p1 S1 => p1 w _ σ H1 B1 S1 _ fun lo O2 H2 B2 p2 S2 => p2 w _ σ H2 B2 S2 _ fun hi O3 H3 B3 ⟨es, e, p3⟩ S3 => by
    subst e
    have hx := S3.pi _ x List.mem_cons_self
    have S3' := S3.pins (P' := P) fun z hz => by simp [hz]
    cases hx with
    | tup h1 h2 =>
      refine ⟨_, _, rfl, sqT_mono S3.bh h1, fun hw => ?_, fun _ p hp => q _ _ O3 _ _ p3 ((S3'.new hp).pin (.tup (SqT.of upd_same) ((cutD_den h2).mono (same_upd (S3.bfree hp)))))⟩
      have e2 : cutD es lo hi = es := by
        have hl := h2.length
        unfold cutD
        rw [hl, hw.1, hw.2, Nat.sub_zero, List.drop_zero, ← hl, List.take_length]
      rw [e2] at p3
      exact q _ _ O3 _ _ p3 (S3'.pin (.tup h1 h2))
theorem ew_slL {tl th : TO} (h : EW K ta Γ O fun d O1 => PW K tl Γ O1 fun lo O2 => PW K th Γ O2 fun hi O3 => ∃ es, View O3 d (.lst es) ∧ Post (.lst (cutD es lo hi)) O3) : EW K (tSl (rSlL K) ta tl th) Γ O Post := fun w P σ H B S Q q =>
  h w P σ H B S _ fun d x O1 H1 B1 p1 S1 => p1 w _ σ H1 B1 S1 _ fun lo O2 H2 B2 p2 S2 => p2 w _ σ H2 B2 S2 _ fun hi O3 H3 B3 ⟨es, vw, p3⟩ S3 => by
    have hx := S3.pi _ x List.mem_cons_self
    have S3' := S3.pins (P' := P) fun z hz => by simp [hz]
    obtain ⟨a, vs, rfl, h1, h2⟩ := vw.list S3 hx
    exact ⟨_, _, rfl, SqL.of h1, fun p hp => q _ _ O3 _ _ p3 ((S3'.new hp).pin (.lst upd_same ((cutD_den h2).mono (same_upd (S3.bfree hp)))))⟩
/-! tests -/
section
variable {PostT : Bool → Own → Prop} {tt tu : TT}
theorem tw_test (h : EW K t Γ O fun d O1 => ∃ b, d = .bl b ∧ PostT b O1) : TW K (tTest t) Γ O PostT := fun w P σ H B S Q q => h w P σ H B S _ fun d v O1 H1 B1 ⟨b, e, p⟩ S1 => by
  subst e
  have := S1.pi _ v List.mem_cons_self
  cases this
  exact ⟨b, rfl, q _ O1 H1 B1 p (S1.pins fun z hz => by simp [hz])⟩
theorem tw_B (h : EW K t Γ O fun d O1 => ∃ b, d = .bl b ∧ PostT b O1) : TW K (tB t) Γ O PostT := tw_test h
theorem tw_and (h : TW K tt Γ O fun b O1 => (b = true → TW K tu Γ O1 PostT) ∧ (b = false → PostT false O1)) : TW K (tAnd tt tu) Γ O PostT := fun w P σ H B S Q q => h w P σ H B S _ fun b O1 H1 B1 p S1 => by
  cases b with
  | true => exact iteT (p.1 rfl w P σ H1 B1 S1 Q q)
  | false => exact iteF (q _ O1 H1 B1 (p.2 rfl) S1)
theorem tw_or (h : TW K tt Γ O fun b O1 => (b = false → TW K tu Γ O1 PostT) ∧ (b = true → PostT true O1)) : TW K (tOr tt tu) Γ O PostT := fun w P σ H B S Q q => h w P σ H B S _ fun b O1 H1 B1 p S1 => by
  cases b with
  | true => exact iteT (q _ O1 H1 B1 (p.2 rfl) S1)
  | false => exact iteF (p.1 rfl w P σ H1 B1 S1 Q q)
theorem tw_not (h : TW K tt Γ O fun b O1 => PostT (!b) O1) : TW K (tNot tt) Γ O PostT := fun w P σ H B S Q q => h w P σ H B S _ fun b O1 H1 B1 p S1 => q _ O1 H1 B1 p S1
theorem ew_andV (h : EW K ta Γ O fun d O1 => ∃ b, d = .bl b ∧ (b = true → EW K tb Γ O1 Post) ∧ (b = false → Post (.bl false) O1)) : EW K (tAndV ta tb) Γ O Post := fun w P σ H B S Q q => h w P σ H B S _ fun d v O1 H1 B1 ⟨b, e, p⟩ S1 => by
  subst e
  have := S1.pi _ v List.mem_cons_self
  cases this
  have S2 := S1.pins (P' := P) fun z hz => by simp [hz]
  refine ⟨b, rfl, ?_⟩
  cases b with
  | true => exact iteT (p.1 rfl w P σ H1 B1 S2 Q q)
  | false => exact iteF (q _ _ O1 H1 B1 (p.2 rfl) (S2.pin (.bl false)))
theorem ew_orV (h : EW K ta Γ O fun d O1 => ∃ b, d = .bl b ∧ (b = false → EW K tb Γ O1 Post) ∧ (b = true → Post (.bl true) O1)) : EW K (tOrV ta tb) Γ O Post := fun w P σ H B S Q q => h w P σ H B S _ fun d v O1 H1 B1 ⟨b, e, p⟩ S1 => by
  subst e
  have := S1.pi _ v List.mem_cons_self
  cases this
  have S2 := S1.pins (P' := P) fun z hz => by simp [hz]
  refine ⟨b, rfl, ?_⟩
  cases b with
  | true => exact iteT (q _ _ O1 H1 B1 (p.2 rfl) (S2.pin (.bl true)))
  | false => exact iteF (p.1 rfl w P σ H1 B1 S2 Q q)
theorem ew_notV (h : EW K ta Γ O fun d O1 => ∃ b, d = .bl b ∧ Post (.bl (!b)) O1) : EW K (tNotV ta) Γ O Post := fun w P σ H B S Q q => h w P σ H B S _ fun d v O1 H1 B1 ⟨b, e, p⟩ S1 => by
  subst e
  have := S1.pi _ v List.mem_cons_self
  cases this
  exact ⟨b, rfl, q _ _ O1 H1 B1 p ((S1.pins (P' := P) fun z hz => by simp [hz]).pin (.bl _))⟩
theorem ew_if (h : TW K tt Γ O fun b O1 => (b = true → EW K ta Γ O1 Post) ∧ (b = false → EW K tb Γ O1 Post)) : EW K (tIf tt ta tb) Γ O Post := fun w P σ H B S Q q => h w P σ H B S _ fun b O1 H1 B1 p S1 => by
  cases b with
  | true => exact iteT (p.1 rfl w P σ H1 B1 S1 Q q)
  | false => exact iteF (p.2 rfl w P σ H1 B1 S1 Q q)
/-- a < b < c -/
theorem ew_chain {r r' : R2} {tc : TE} (h : EW K ta Γ O fun d O1 => EW K tb Γ O1 fun e O2 => RW K r d e O2 fun z O3 => ∃ k, z = .bl k ∧ (k = true → EW K tc Γ O3 fun f O4 => RW K r' e f O4 Post) ∧ (k = false → Post (.bl false) O3)) : EW K (tChain r r' ta tb tc) Γ O Post := fun w P σ H B S Q q =>
  h w P σ H B S _ fun d x O1 H1 B1 p1 S1 => p1 w _ σ H1 B1 S1 _ fun e y O2 H2 B2 p2 S2 => p2 w Γ _ σ H2 B2 x y S2 (S2.pi d x (by simp)) (S2.pi e y (by simp)) _ fun z v O3 H3 B3 ⟨k, ek, p3⟩ S3 => by
    subst ek
    have := S3.pi _ v List.mem_cons_self
    cases this
    refine ⟨k, rfl, ?_⟩
    cases k with
    | true => exact iteT (p3.1 rfl w _ σ H3 B3 S3 _ fun f u O4 H4 B4 p4 S4 => p4 w Γ _ σ H4 B4 y u S4 (S4.pi e y (by simp)) (S4.pi f u (by simp)) Q fun d' v' O' H' B' p' S' => q d' v' O' H' B' p' (S'.pins (by
        intro z hz
        rcases List.mem_cons.mp hz with rfl | hz
        · simp
        · simp [hz])))
    | false => exact iteF (q _ _ O3 H3 B3 (p3.2 rfl) ((S3.pins (P' := P) fun z hz => by simp [hz]).pin (.bl false)))
end
end
end DL
namespace DL
open PySem PySem.Spec PyProof.Rows L2
/-! ### an owned thing hidden: the frame -/
section
variable {K : PySem.W.Frag} {w : En} {Γ Γ' : Gm} {O O' : Own} {P P' : List (Dt × V)} {σ σ' : L2.St} {H H' B B' : Hp} {p : Addr} {d : Dt} {v : V} {c : Cell}
theorem Sat.hide (S : Sat K w Γ ((p, c) :: O) P σ H B) : ∃ w' : En, Sat K w' Γ O P σ H B ∧
    ∀ Γ' O' P' σ' H' B', Sat K w' Γ' O' P' σ' H' B' → Sat K w Γ' ((p, c) :: O') P' σ' H' B' ∧ Same B B' ∧ H' p = H p := by
  obtain ⟨g1, g2, g3⟩ := S.ow p c List.mem_cons_self
  have nd := S.nd
  rw [List.map_cons, List.nodup_cons] at nd
  have ne : ∀ q u, (q, u) ∈ O → q ≠ p := fun q u hq z => nd.1 (List.mem_map.mpr ⟨(q, u), hq, z⟩)
  obtain ⟨ho, eo⟩ : ∃ o, H p = some o := by
    cases e : H p with
    | none => exact absurd e g3.there
    | some o => exact ⟨o, rfl⟩
  refine ⟨⟨upd w.Kp p ho, B⟩, ⟨Same.refl _, S.bh, fun q u e => ?_, fun q hq => .inl hq, S.len, S.sl, fun q u hq => ?_, nd.2, S.pi⟩, fun Γ' O' P' σ' H' B' T => ?_⟩
  · by_cases z : q = p
    · subst z
      have e' : upd w.Kp q ho q = some u := e
      rw [upd_same] at e'
      rw [eo]; exact e'
    · have e' : upd w.Kp p ho q = some u := e
      rw [upd_ne z] at e'
      exact S.kh _ _ e'
  · obtain ⟨h1, h2, h3⟩ := S.ow q u (List.mem_cons_of_mem _ hq)
    exact ⟨h1, by show upd w.Kp p ho q = none; rw [upd_ne (ne q u hq)]; exact h2, h3⟩
  · have tp : H' p = some ho := T.kh p ho (by show upd w.Kp p ho p = some ho; exact upd_same)
    have bp : B' p = none := by
      cases e : B' p with
      | none => rfl
      | some o =>
        rcases T.fr p (by rw [e]; simp) with z | z
        · exact absurd g1 z
        · have z' : upd w.Kp p ho p = none := z
          rw [upd_same] at z'
          cases z'
    have kq : ∀ q, upd w.Kp p ho q = none → w.Kp q = none := fun q z => by
      by_cases e : q = p
      · rw [e]; exact g2
      · rwa [upd_ne e] at z
    refine ⟨⟨S.b0.trans T.b0, T.bh, fun q u e => T.kh q u (by show upd w.Kp p ho q = some u; rw [upd_ne (ne_of_none e g2)]; exact e), fun q hq => ?_, T.len, T.sl, fun q u hq => ?_, ?_, T.pi⟩, T.b0, tp.trans eo.symm⟩
    · rcases T.fr q hq with z | z
      · exact S.fr q z
      · exact .inr (kq q z)
    · rcases List.mem_cons.mp hq with e | hq
      · cases e
        exact ⟨bp, g2, g3.mono T.b0 (tp.trans eo.symm)⟩
      · obtain ⟨h1, h2, h3⟩ := T.ow q u hq
        exact ⟨h1, kq q h2, h3⟩
    · rw [List.map_cons, List.nodup_cons]
      refine ⟨fun hm => ?_, T.nd⟩
      obtain ⟨⟨q, u⟩, hq, e⟩ := List.mem_map.mp hm
      have e' : q = p := e
      have z := (T.ow q u hq).2.1
      rw [e'] at z
      have z' : upd w.Kp p ho p = none := z
      rw [upd_same] at z'
      cases z'
end
/-! ### targets -/
section
variable {K : PySem.W.Frag} {Γ : Gm} {O : Own} {d : Dt} {ds : List Dt} {Post : Gm → Own → Prop}
theorem gw_name {i : Nat} {J : Nat → Prop} (hJ : J i) (k : Post (Γ.set i (some d)) O) : GW K (gName i) J d Γ O Post := fun w P σ H B v S hd Q q =>
  q _ O _ H B k (S.set i hd) (fun j hj => List.getElem?_set_ne (fun e => by subst e; exact hj hJ)) (by simp)
theorem gsw_nil {J : Nat → Prop} (k : Post Γ O) : GsW K gNil J [] Γ O Post := fun w P σ H B vs S hd Q q => by
  cases hd
  exact ⟨rfl, q _ O _ H B k S (fun _ _ => rfl) rfl⟩
theorem gsw_cons {g : TG} {gs : TGs} {J : Nat → Prop} (h : GW K g J d Γ O fun Γ1 O1 => GsW K gs J ds Γ1 O1 Post) : GsW K (gCons g gs) J (d :: ds) Γ O Post := fun w P σ H B vs S hd Q q => by
  cases hd with
  | @cons _ v _ vs h1 h2 =>
    refine ⟨v, vs, rfl, h w (ds.zip vs ++ P) σ H B v (S.pinL h2) h1 _ fun Γ1 O1 σ1 H1 B1 p1 S1 e1 l1 => ?_⟩
    have h2' : DenL K B1 ds vs := .of_zip h2.length fun d v q => S1.pi d v (List.mem_append_left _ q)
    exact p1 w P σ1 H1 B1 vs (S1.pins fun z hz => List.mem_append_right _ hz) h2' Q fun Γ2 O2 σ2 H2 B2 p2 S2 e2 l2 => q Γ2 O2 σ2 H2 B2 p2 S2 (fun i hi => (e2 i hi).trans (e1 i hi)) (l2.trans l1)
theorem gw_tup {gs : TGs} {J : Nat → Prop} {n : Nat} (hn : ds.length = n) (h : GsW K gs J ds Γ O Post) : GW K (gTup K n gs) J (.tup ds) Γ O Post := fun w P σ H B v S hd Q q => by
  cases hd with
  | tup h1 h2 => exact ⟨_, _, rfl, sqT_mono S.bh h1, by rw [← h2.length]; exact hn, h w P σ H B _ S h2 Q q⟩
/-- xs[i] = d, xs owned -/
theorem gw_setL {to ti : TE} {J : Nat → Prop} {p : Addr} {es : List Dt} {i : Int} {j : Nat} {O2 : Own} (ho : EW K to Γ O fun o O1 => o = .raw (.ref p) ∧ EW K ti Γ O1 fun k O' => k = .int i ∧ O'.Perm ((p, .lst es) :: O2) ∧ ixN es.length i = some j ∧ Post Γ ((p, .lst (es.set j d)) :: O2)) :
    GW K (gSub to ti rSetL) J d Γ O Post := fun w P σ H B v S hd Q q =>
  ho w ((d, v) :: P) σ H B (S.pin hd) _ fun o ov O1 H1 B1 ⟨e1, p1⟩ S1 => by
    subst e1
    have h1 := S1.pi _ ov List.mem_cons_self
    cases h1
    refine p1 w _ σ H1 B1 S1 _ fun k kv O' H2 B2 ⟨e2, hp, hj, p2⟩ S2 => ?_
    subst e2
    have h2 := S2.pi _ kv List.mem_cons_self
    cases h2
    have hv := S2.pi d v (by simp)
    have S3 := (S2.perm hp).pins (P' := P) fun z hz => by simp [hz]
    obtain ⟨_, _, vs, h4, h5⟩ := S3.ow p _ List.mem_cons_self
    refine ⟨p, vs, i, j, rfl, rfl, h4, by rw [← h5.length]; exact hj, q _ _ _ _ _ p2 (S3.write (c' := .lst (es.set j d)) ⟨_, upd_same, h5.set hv j⟩) (fun _ _ => rfl) rfl⟩
end
/-! ### statements -/
section
variable {K : PySem.W.Frag} {Γ : Gm} {O : Own} {E : De} {t u : TS} {te : TE}
theorem sw_next (k : E.nx Γ O) : SW K tNext Γ O E := fun w P σ H B S D M => M.nx _ _ _ _ _ k S
theorem sw_break (k : E.bk Γ O) : SW K tBreak Γ O E := fun w P σ H B S D M => M.bk _ _ _ _ _ k S
theorem sw_cont (k : E.ct Γ O) : SW K tCont Γ O E := fun w P σ H B S D M => M.ct _ _ _ _ _ k S
theorem sw_seq (h : SW K t Γ O { E with nx := fun Γ' O' => SW K u Γ' O' E }) : SW K (tSeq t u) Γ O E := fun w P σ H B S D M =>
  h w P σ H B S _ ⟨fun Γ' O' σ' H' B' p S' => p w P σ' H' B' S' D M, M.rt, M.bk, M.ct⟩
theorem sw_drop (h : EW K te Γ O fun _ O1 => E.nx Γ O1) : SW K (tDrop te) Γ O E := fun w P σ H B S D M =>
  h w P σ H B S _ fun d v O' H' B' p S' => M.nx _ _ _ _ _ p (S'.pins fun z hz => by simp [hz])
theorem sw_ret (h : EW K te Γ O E.rt) : SW K (tRet te) Γ O E := fun w P σ H B S D M =>
  h w P σ H B S _ fun d v O' H' B' p S' => M.rt _ _ _ _ _ _ _ p S'
theorem sw_retN (h : E.rt .non O) : SW K tRetN Γ O E := fun w P σ H B S D M => M.rt _ _ _ _ _ _ _ h (S.pin .non)
theorem sw_if {tc : TT} (h : TW K tc Γ O fun b O1 => (b = true → SW K t Γ O1 E) ∧ (b = false → SW K u Γ O1 E)) : SW K (tIfS tc t u) Γ O E := fun w P σ H B S D M =>
  h w P σ H B S _ fun b O1 H1 B1 p S1 => by
    cases b with
    | true => exact iteT (p.1 rfl w P σ H1 B1 S1 D M)
    | false => exact iteF (p.2 rfl w P σ H1 B1 S1 D M)
theorem sw_never (h : False) : SW K tNever Γ O E := h.elim
theorem sw_asg {g : TG} (h : EW K te Γ O fun d O1 => GW K g (fun _ => True) d Γ O1 E.nx) : SW K (tAsg te g) Γ O E := fun w P σ H B S D M =>
  h w P σ H B S _ fun d v O1 H1 B1 p S1 => p w P σ H1 B1 v (S1.pins fun z hz => by simp [hz]) (S1.pi d v List.mem_cons_self) _ fun Γ' O' σ' H' B' p' S' _ _ => M.nx _ _ _ _ _ p' S'
theorem sw_set {i : Nat} (h : EW K te Γ O fun d O1 => E.nx (Γ.set i (some d)) O1) : SW K (tAsg te (gName i)) Γ O E := sw_asg (h.imp fun d O1 q => gw_name trivial q)
theorem sw_par {ta : TA} {i j : Nat} (h : AW K ta Γ O fun ds O1 => ∃ d e, ds = [d, e] ∧ E.nx ((Γ.set i (some d)).set j (some e)) O1) : SW K (tPar i j ta) Γ O E := fun w P σ H B S D M =>
  h w P σ H B S _ fun ds vs O1 H1 B1 ⟨d, e, e1, p⟩ hd S1 => by
    subst e1
    cases hd with
    | cons h1 h2 =>
      cases h2 with
      | cons h2 h3 =>
        cases h3
        exact ⟨_, _, rfl, M.nx _ _ _ _ _ p ((S1.set i h1).set j h2)⟩
theorem sw_perm {O' : Own} (hp : O.Perm O') (h : SW K t Γ O' E) : SW K t Γ O E := fun w P σ H B S => h w P σ H B (S.perm hp)
theorem SW.drop {p : Addr} {c : Cell} (h : SW K t Γ O E) : SW K t Γ ((p, c) :: O) E := fun w P σ H B S => h w P σ H B S.drop
theorem SW.weak {Γ' : Gm} (hl : Γ'.length = Γ.length) (hw : ∀ (i : Nat) (d : Dt), Γ'[i]? = some (some d) → Γ[i]? = some (some d)) (h : SW K t Γ' O E) : SW K t Γ O E := fun w P σ H B S => h w P σ H B (S.weak hl hw)
theorem SW.imp {E' : De} (h : SW K t Γ O E) (h1 : ∀ Γ O, E.nx Γ O → E'.nx Γ O) (h2 : ∀ d O, E.rt d O → E'.rt d O) (h3 : ∀ Γ O, E.bk Γ O → E'.bk Γ O) (h4 : ∀ Γ O, E.ct Γ O → E'.ct Γ O) : SW K t Γ O E' := fun w P σ H B S D M =>
  h w P σ H B S D ⟨fun a b c d e p q => M.nx a b c d e (h1 _ _ p) q, fun a v b c d e f p q => M.rt a v b c d e f (h2 _ _ p) q, fun a b c d e p q => M.bk a b c d e (h3 _ _ p) q, fun a b c d e p q => M.ct a b c d e (h4 _ _ p) q⟩
/-- while: Pv by a number that falls -/
theorem sw_while {tc : TT} {tb : TS} (Pv : Nat → Gm → Own → Prop) (m : Nat) (h0 : Pv m Γ O)
    (hs : ∀ m Γ O, Pv m Γ O → TW K tc Γ O fun b O1 => (b = true → SW K tb Γ O1 { nx := fun Γ' O' => ∃ m', m' < m ∧ Pv m' Γ' O', rt := E.rt, bk := E.nx, ct := fun Γ' O' => ∃ m', m' < m ∧ Pv m' Γ' O' }) ∧ (b = false → E.nx Γ O1)) :
    SW K (tWhile tc tb) Γ O E := fun w P σ H B S D M => by
  refine ⟨fun m σ H => ∃ Γ O B, Pv m Γ O ∧ Sat K w Γ O P σ H B, ⟨m, Γ, O, B, h0, S⟩, fun m σ H ⟨Γ1, O1, B1, p1, S1⟩ => ?_⟩
  refine hs m Γ1 O1 p1 w P σ H B1 S1 _ fun b O2 H2 B2 p2 S2 => ?_
  cases b with
  | true => exact iteT ⟨fun σ' H' => ∃ m', m' < m ∧ ∃ Γ O B, Pv m' Γ O ∧ Sat K w Γ O P σ' H' B, fun σ' H' q => q, p2.1 rfl w P σ H2 B2 S2 _ ⟨fun Γ' O' σ' H' B' ⟨m', l, p'⟩ S' => ⟨m', l, Γ', O', B', p', S'⟩, M.rt, M.nx, fun Γ' O' σ' H' B' ⟨m', l, p'⟩ S' => ⟨m', l, Γ', O', B', p', S'⟩⟩⟩
  | false => exact iteF (M.nx _ _ _ _ _ (p2.2 rfl) S2)
end
/-! ### what is walked -/
/-- the source: as it was, an owned list among it -/
def Src (K : PySem.W.Frag) (ds : List Dt) (o : Option Addr) (B H : Hp) : Prop := ∀ p, o = some p → ∃ vs, H p = some (.lst vs) ∧ DenL K B ds vs
structure ItD (K : PySem.W.Frag) (J : It) (ds : List Dt) (o : Option Addr) (B1 : Hp) : Prop where
  go : ∀ i H B, Same B1 B → Same B H → Src K ds o B H → i < ds.length → J.go i H
  yld : ∀ i d H x H' B, Same B1 B → Same B H → Src K ds o B H → ds[i]? = some d → J.yld i H x H' → ∃ B', Same B B' ∧ Same B' H' ∧ Same H H' ∧ (∀ q, B' q ≠ none → B q ≠ none ∨ H q = none) ∧ Den K B' d x
  stop : ∀ H B, Same B1 B → Same B H → Src K ds o B H → J.stop ds.length H
def IW (K : PySem.W.Frag) (wi : TI) (Γ : Gm) (O : Own) (Post : List Dt → Option Addr → Own → Prop) : Prop := ∀ (w : En) P σ H B, Sat K w Γ O P σ H B → ∀ R : It → Hp → Prop,
  (∀ ds o O' J H' B', Post ds o O' → Sat K w Γ O' P σ H' B' → ItD K J ds o B' → R J H') → wi σ H R
section
variable {K : PySem.W.Frag} {w : En} {Γ : Gm} {O : Own} {P : List (Dt × V)} {σ : L2.St} {H B : Hp}
/-- behind a step of the iterator -/
theorem Sat.yielded {H' B' : Hp} (S : Sat K w Γ O P σ H B) (h1 : Same B B') (h2 : Same B' H') (h3 : Same H H') (h4 : ∀ q, B' q ≠ none → B q ≠ none ∨ H q = none) : Sat K w Γ O P σ H' B' := by
  refine S.grow h1 h2 (S.kh.trans h3) (fun q hq => (h4 q hq).imp id fun z => S.kfree z) (fun p c hq => ?_) S.nd
  obtain ⟨g1, g2, g3⟩ := S.ow p c hq
  have gt := g3.there
  obtain ⟨o, eo⟩ : ∃ o, H p = some o := by
    cases e : H p with
    | none => exact absurd e gt
    | some o => exact ⟨o, rfl⟩
  refine ⟨?_, g2, g3.mono h1 ((h3 p o eo).trans eo.symm)⟩
  cases e : B' p with
  | none => rfl
  | some u =>
    rcases h4 p (by rw [e]; simp) with z | z
    · exact absurd g1 z
    · exact absurd z gt
theorem src_of {ds : List Dt} {o : Option Addr} (S : Sat K w Γ O P σ H B) (h : ∀ p, o = some p → (p, .lst ds) ∈ O) : Src K ds o B H := fun p e => (S.ow p _ (h p e)).2.2
theorem itd_list {a : Addr} {vs : List V} {ds : List Dt} {B1 : Hp} (h : SqL K B1 a vs) (hd : DenL K B1 ds vs) : ItD K (Itl K a) ds none B1 := by
  refine ⟨fun i H B e1 e2 _ hi => ?_, fun i d H x H' B e1 e2 _ hi y => ?_, fun H B e1 e2 _ => ?_⟩
  · obtain ⟨v, hv, _⟩ := hd.get (i := i) (List.getElem?_eq_getElem hi)
    exact ⟨vs, v, e2.seq (e1.seq h), hv⟩
  · obtain ⟨rfl, y⟩ := y
    obtain ⟨v, hv, hd'⟩ := hd.get hi
    have := (y vs (e2.seq (e1.seq h))).symm.trans hv
    cases this
    exact ⟨B, Same.refl _, e2, Same.refl _, fun q hq => .inl hq, hd'.mono e1⟩
  · exact ⟨vs, e2.seq (e1.seq h), by rw [hd.length]; exact Nat.le_refl _⟩
theorem itd_own {a : Addr} {ds : List Dt} {B1 : Hp} : ItD K (Itl K a) ds (some a) B1 := by
  refine ⟨fun i H B e1 e2 s hi => ?_, fun i d H x H' B e1 e2 s hi y => ?_, fun H B e1 e2 s => ?_⟩
  · obtain ⟨vs, h1, h2⟩ := s a rfl
    obtain ⟨v, hv, _⟩ := h2.get (i := i) (List.getElem?_eq_getElem hi)
    exact ⟨vs, v, SqL.of h1, hv⟩
  · obtain ⟨rfl, y⟩ := y
    obtain ⟨vs, h1, h2⟩ := s a rfl
    obtain ⟨v, hv, hd'⟩ := h2.get hi
    have := (y vs (SqL.of h1)).symm.trans hv
    cases this
    exact ⟨B, Same.refl _, e2, Same.refl _, fun q hq => .inl hq, hd'⟩
  · obtain ⟨vs, h1, h2⟩ := s a rfl
    exact ⟨vs, SqL.of h1, by rw [h2.length]; exact Nat.le_refl _⟩
theorem itd_tup {a : Addr} {vs : List V} {ds : List Dt} {B1 : Hp} (h : SqT K B1 a vs) (hd : DenL K B1 ds vs) : ItD K (Itt K a) ds none B1 := by
  refine ⟨fun i H B e1 e2 _ hi => ?_, fun i d H x H' B e1 e2 _ hi y => ?_, fun H B e1 e2 _ => ?_⟩
  · obtain ⟨v, hv, _⟩ := hd.get (i := i) (List.getElem?_eq_getElem hi)
    exact ⟨vs, v, sqT_mono e2 (sqT_mono e1 h), hv⟩
  · obtain ⟨rfl, y⟩ := y
    obtain ⟨v, hv, hd'⟩ := hd.get hi
    have := (y vs (sqT_mono e2 (sqT_mono e1 h))).symm.trans hv
    cases this
    exact ⟨B, Same.refl _, e2, Same.refl _, fun q hq => .inl hq, hd'.mono e1⟩
  · exact ⟨vs, sqT_mono e2 (sqT_mono e1 h), by rw [hd.length]; exact Nat.le_refl _⟩
def rngD (lo : Int) (n : Nat) : List Dt := (List.range n).map fun i : Nat => .int (lo + (i : Int))
theorem rngD_length (lo : Int) (n : Nat) : (rngD lo n).length = n := by simp [rngD]
theorem rngD_get {lo : Int} {n i : Nat} {d : Dt} (h : (rngD lo n)[i]? = some d) : i < n ∧ d = .int (lo + (i : Int)) := by
  have hi : i < n := by
    have := (List.getElem?_eq_some_iff.mp h).1
    rwa [rngD_length] at this
  refine ⟨hi, ?_⟩
  have e : (rngD lo n)[i]? = some (.int (lo + (i : Int))) := by simp [rngD, hi]
  exact Option.some.inj (h.symm.trans e)
theorem itd_range {lo : Int} {n : Nat} {B1 : Hp} : ItD K (Itr lo n) (rngD lo n) none B1 := by
  refine ⟨fun i H B e1 e2 _ hi => ?_, fun i d H x H' B e1 e2 _ hi y => ?_, fun H B e1 e2 _ => ?_⟩
  · show i < n
    rwa [rngD_length] at hi
  · obtain ⟨rfl, rfl⟩ := y
    obtain ⟨_, rfl⟩ := rngD_get hi
    exact ⟨B, Same.refl _, e2, Same.refl _, fun q hq => .inl hq, .int _⟩
  · show n ≤ _
    rw [rngD_length]; exact Nat.le_refl _
variable {Post : List Dt → Option Addr → Own → Prop} {tl : TE} {ta : TA}
theorem iw_list (h : EW K tl Γ O fun d O1 => ∃ ds, (d = .lst ds ∨ d = .ro ds) ∧ Post ds none O1) : IW K (iList K tl) Γ O Post := fun w P σ H B S R q =>
  h w P σ H B S _ fun d v O1 H1 B1 ⟨ds, e, p⟩ S1 => by
    have hd := S1.pi d v List.mem_cons_self
    have S2 := S1.pins (P' := P) fun z hz => by simp [hz]
    rcases e with rfl | rfl
    · cases hd with
      | lst h1 h2 => exact ⟨_, rfl, ⟨_, SqL.of (S1.bh _ _ h1)⟩, q ds none O1 _ H1 B1 p S2 (itd_list (SqL.of h1) h2)⟩
    · cases hd with
      | ro h1 h2 => exact ⟨_, rfl, ⟨_, S1.bh.seq h1⟩, q ds none O1 _ H1 B1 p S2 (itd_list h1 h2)⟩
theorem iw_own (h : EW K tl Γ O fun d O1 => ∃ p ds, d = .raw (.ref p) ∧ (p, .lst ds) ∈ O1 ∧ Post ds (some p) O1) : IW K (iList K tl) Γ O Post := fun w P σ H B S R q =>
  h w P σ H B S _ fun d v O1 H1 B1 ⟨a, ds, e, hm, p⟩ S1 => by
    subst e
    have hd := S1.pi _ v List.mem_cons_self
    have S2 := S1.pins (P' := P) fun z hz => by simp [hz]
    cases hd
    obtain ⟨_, _, vs, h1, h2⟩ := S2.ow a _ hm
    exact ⟨a, rfl, ⟨vs, SqL.of h1⟩, q ds (some a) O1 _ H1 B1 p S2 itd_own⟩
theorem iw_tup (h : EW K tl Γ O fun d O1 => ∃ ds, d = .tup ds ∧ Post ds none O1) : IW K (iTup K tl) Γ O Post := fun w P σ H B S R q =>
  h w P σ H B S _ fun d v O1 H1 B1 ⟨ds, e, p⟩ S1 => by
    subst e
    have hd := S1.pi _ v List.mem_cons_self
    have S2 := S1.pins (P' := P) fun z hz => by simp [hz]
    cases hd with
    | tup h1 h2 => exact ⟨_, rfl, ⟨_, sqT_mono S1.bh h1⟩, q ds none O1 _ H1 B1 p S2 (itd_tup h1 h2)⟩
theorem iw_rng1 (h : AW K ta Γ O fun ds O1 => ∃ j : Int, ds = [.int j] ∧ -(2 ^ 62) ≤ j ∧ j < 2 ^ 62 ∧ Post (rngD 0 j.toNat) none O1) : IW K (iRng1 ta) Γ O Post := fun w P σ H B S R q =>
  h w P σ H B S _ fun ds vs O1 H1 B1 ⟨j, e, l1, l2, p⟩ hd S1 => by
    subst e
    cases hd with
    | cons h1 h2 =>
      cases h1
      cases h2
      exact ⟨j, rfl, l1, l2, q _ none O1 _ H1 B1 p S1 itd_range⟩
theorem iw_rng2 (h : AW K ta Γ O fun ds O1 => ∃ i j : Int, ds = [.int i, .int j] ∧ (-(2 ^ 62) ≤ i ∧ i < 2 ^ 62 ∧ -(2 ^ 62) ≤ j ∧ j < 2 ^ 62) ∧ Post (rngD i (j - i).toNat) none O1) : IW K (iRng2 ta) Γ O Post := fun w P σ H B S R q =>
  h w P σ H B S _ fun ds vs O1 H1 B1 ⟨i, j, e, l, p⟩ hd S1 => by
    subst e
    cases hd with
    | cons h1 h2 =>
      cases h1
      cases h2 with
      | cons h2 h3 =>
        cases h2
        cases h3
        exact ⟨i, j, rfl, l, q _ none O1 _ H1 B1 p S1 itd_range⟩
end
/-! ### for -/
section
variable {K : PySem.W.Frag} {Γ : Gm} {O : Own} {E : De} {wi : TI} {g : TG} {tb : TS}
theorem sw_for (h : IW K wi Γ O fun ds o O1 => ∃ (Pv : Nat → Gm → Own → Prop), Pv 0 Γ O1 ∧ (∀ p, o = some p → ∀ i Γ' O', Pv i Γ' O' → (p, .lst ds) ∈ O') ∧
      (∀ i d Γ' O', ds[i]? = some d → Pv i Γ' O' → GW K g (fun _ => True) d Γ' O' fun Γ2 O2 => SW K tb Γ2 O2 { nx := Pv (i + 1), rt := E.rt, bk := E.nx, ct := Pv (i + 1) }) ∧ (∀ Γ' O', Pv ds.length Γ' O' → E.nx Γ' O')) :
    SW K (tFor wi g tb) Γ O E := fun w P σ H B S D M =>
  h w P σ H B S _ fun ds o O1 J H1 B1 ⟨Pv, h0, ho, hs, hd⟩ S1 it => by
    refine ⟨fun i m σ H => i + m = ds.length ∧ ∃ Γ' O' B', Pv i Γ' O' ∧ Sat K w Γ' O' P σ H B' ∧ Same B1 B', ⟨ds.length, by omega, Γ, O1, B1, h0, S1, Same.refl _⟩, ?_⟩
    rintro i m σ2 H2 ⟨em, Γ2, O2, B2, p2, S2, e2⟩
    have src := src_of S2 fun p e => ho p e i Γ2 O2 p2
    by_cases hi : i < ds.length
    · refine .inr ⟨it.go i H2 B2 e2 S2.bh src hi, fun σ' H' => ∃ Γ' O' B', Pv (i + 1) Γ' O' ∧ Sat K w Γ' O' P σ' H' B' ∧ Same B1 B', fun σ' H' q => ⟨m - 1, by omega, by omega, q⟩, fun x H3 y => ?_⟩
      obtain ⟨d, hx⟩ : ∃ d, ds[i]? = some d := ⟨_, List.getElem?_eq_getElem hi⟩
      obtain ⟨B3, a1, a2, a3, a4, a5⟩ := it.yld i d H2 x H3 B2 e2 S2.bh src hx y
      have S3 := S2.yielded a1 a2 a3 a4
      -- the base from here on: w' tells that it grows
      have key : ∀ (w' : En), w'.B0 = B3 → w'.Kp = w.Kp → Sat K w' Γ2 O2 P σ2 H3 B3 := fun w' q1 q2 => ⟨by rw [q1]; exact Same.refl _, S3.bh, by rw [q2]; exact S3.kh, fun q hq => .inl (by rw [q1]; exact hq), S3.len, S3.sl, fun p c hq => by rw [q2]; exact S3.ow p c hq, S3.nd, S3.pi⟩
      have back : ∀ {Γ' O' P' σ' H' B'}, Sat K ⟨w.Kp, B3⟩ Γ' O' P' σ' H' B' → Sat K w Γ' O' P' σ' H' B' := fun T => ⟨S3.b0.trans T.b0, T.bh, T.kh, fun q hq => (T.fr q hq).elim (fun z => S3.fr q z) .inr, T.len, T.sl, T.ow, T.nd, T.pi⟩
      refine hs i d Γ2 O2 hx p2 ⟨w.Kp, B3⟩ P σ2 H3 B3 x (key ⟨w.Kp, B3⟩ rfl rfl) a5 _ fun Γ4 O4 σ4 H4 B4 p4 S4 _ _ => ?_
      refine p4 ⟨w.Kp, B3⟩ P σ4 H4 B4 S4 _ ⟨fun Γ' O' σ' H' B' p' S' => ⟨Γ', O', B', p', back S', (e2.trans a1).trans S'.b0⟩, fun d v Γ' O' σ' H' B' p' S' => M.rt _ _ _ _ _ _ _ p' (back S'), fun Γ' O' σ' H' B' p' S' => M.nx _ _ _ _ _ p' (back S'), fun Γ' O' σ' H' B' p' S' => ⟨Γ', O', B', p', back S', (e2.trans a1).trans S'.b0⟩⟩
    · have ei : i = ds.length := by omega
      subst ei
      exact .inl ⟨it.stop H2 B2 e2 S2.bh src, M.nx _ _ _ _ _ (hd _ _ p2) S2⟩
end
end DL
namespace DL
open PySem PySem.Spec PyProof.Rows L2
/-! ### comprehensions -/
def wipeG (Γ : Gm) : List Nat → Gm
  | [] => Γ
  | v :: vs => (wipeG Γ vs).set v none
section
variable {K : PySem.W.Frag} {w : En} {Γ Γ2 : Gm} {O O1 O' : Own} {P P' : List (Dt × V)} {σ σ2 : L2.St} {H H1 B B1 : Hp}
theorem wipe_len (σ : L2.St) : ∀ vs : List Nat, (wipe σ vs).length = σ.length
  | [] => rfl
  | v :: vs => by unfold wipe; rw [List.length_set, wipe_len σ vs]
theorem wipe_get {i : Nat} : ∀ (vs : List Nat) (σ : L2.St), i ∉ vs → (wipe σ vs)[i]? = σ[i]?
  | [], _, _ => rfl
  | v :: vs, σ, h => by
    unfold wipe
    rw [List.getElem?_set_ne (fun e => h (by simp [e]))]
    exact wipe_get vs σ fun z => h (List.mem_cons_of_mem _ z)
theorem wipe_gone {i : Nat} : ∀ (vs : List Nat) (σ : L2.St), i ∈ vs → (wipe σ vs)[i]? = if i < σ.length then some none else none
  | [], _, h => by cases h
  | v :: vs, σ, h => by
    unfold wipe
    by_cases e : v = i
    · subst e
      rw [List.getElem?_set, if_pos rfl, wipe_len]
    · rw [List.getElem?_set_ne e]
      refine wipe_gone vs σ ?_
      rcases List.mem_cons.mp h with z | z
      · exact absurd z.symm e
      · exact z
theorem wipe_eq {vs : List Nat} {σ σ2 : L2.St} (hl : σ2.length = σ.length) (h : ∀ i : Nat, i ∉ vs → σ2[i]? = σ[i]?) : wipe σ2 vs = wipe σ vs := by
  apply List.ext_getElem?
  intro i
  by_cases hi : i ∈ vs
  · rw [wipe_gone vs σ2 hi, wipe_gone vs σ hi, hl]
  · rw [wipe_get vs σ2 hi, wipe_get vs σ hi, h i hi]
theorem wipe_wipe (σ : L2.St) (vs : List Nat) : wipe (wipe σ vs) vs = wipe σ vs := wipe_eq (wipe_len σ vs) fun i hi => wipe_get vs σ hi
theorem Sat.wipe (S : Sat K w Γ O P σ H B) : ∀ vs : List Nat, Sat K w (wipeG Γ vs) O P (L2.wipe σ vs) H B
  | [] => S
  | v :: vs => by
    have T := Sat.wipe S vs
    unfold wipeG L2.wipe
    refine ⟨T.b0, T.bh, T.kh, T.fr, by simpa using T.len, fun i d q => ?_, T.ow, T.nd, T.pi⟩
    by_cases e : v = i
    · subst e
      rw [List.getElem?_set] at q
      simp at q
    · rw [List.getElem?_set_ne e] at q
      obtain ⟨u, h1, h2⟩ := T.sl i d q
      exact ⟨u, by rw [List.getElem?_set_ne e]; exact h1, h2⟩
theorem Sat.reslot (T : Sat K w Γ2 O P' σ2 H B) (S : Sat K w Γ O1 P σ H1 B1) (e : Same B1 B) : Sat K w Γ O P σ H B :=
  ⟨T.b0, T.bh, T.kh, T.fr, S.len, fun i d q => let ⟨v, h1, h2⟩ := S.sl i d q; ⟨v, h1, h2.mono e⟩, T.ow, T.nd, fun d v q => (S.pi d v q).mono e⟩
variable {Post : Dt → Own → Prop} {wi : TI} {g : TG} {tt : TT} {te : TE} {vs : List Nat}
theorem ew_lcI (h : IW K wi Γ O fun ds o O1 => ∃ (Pv : Nat → List Dt → Own → Prop), Pv 0 [] O1 ∧ (∀ p, o = some p → ∀ i acc O', Pv i acc O' → (p, .lst ds) ∈ O') ∧
      (∀ i d acc O', ds[i]? = some d → Pv i acc O' → acc.length < sizeLine ∧ GW K g (· ∈ vs) d (wipeG Γ vs) O' fun Γ2 O2 => TW K tt Γ2 O2 fun b O3 => (b = true → EW K te Γ2 O3 fun y O4 => Pv (i + 1) (acc ++ [y]) O4) ∧ (b = false → Pv (i + 1) acc O3)) ∧
      (∀ acc O', Pv ds.length acc O' → Post (.lst acc) O')) : EW K (tLc wi g tt te vs) Γ O Post := fun w P σ H B S Q q =>
  h w P σ H B S _ fun ds o O1 J H1 B1 ⟨Pv, h0, ho, hs, hd⟩ S1 it D hD => by
    refine ⟨fun i m H => i + m = ds.length ∧ ∃ acc O' B', Pv i acc O' ∧ Sat K w Γ ((D, .lst acc) :: O') P σ H B' ∧ Same B1 B', ⟨ds.length, by omega, [], O1, B1, h0, S1.newOwn (c := .lst []) hD ⟨[], upd_same, .nil⟩, Same.refl _⟩, ?_⟩
    rintro i m H2 ⟨em, acc, O2, B2, p2, S2, e2⟩
    have src := src_of S2 fun p e => List.mem_cons_of_mem _ (ho p e i acc O2 p2)
    by_cases hi : i < ds.length
    · refine .inr ⟨it.go i H2 B2 e2 S2.bh src hi, fun H' => ∃ acc O' B', Pv (i + 1) acc O' ∧ Sat K w Γ ((D, .lst acc) :: O') P σ H' B' ∧ Same B1 B', fun H' q => ⟨m - 1, by omega, by omega, q⟩, fun x H3 y => ?_⟩
      obtain ⟨d, hx⟩ : ∃ d, ds[i]? = some d := ⟨_, List.getElem?_eq_getElem hi⟩
      obtain ⟨B3, a1, a2, a3, a4, a5⟩ := it.yld i d H2 x H3 B2 e2 S2.bh src hx y
      have S3 := S2.yielded a1 a2 a3 a4
      obtain ⟨hz, turn⟩ := hs i d acc O2 hx p2
      obtain ⟨w', T3, back⟩ := (S3.wipe vs).hide
      refine turn w' P (L2.wipe σ vs) H3 B3 x T3 a5 _ fun Γ4 O4 σ4 H4 B4 p4 T4 f4 l4 => ⟨?_, ?_⟩
      · rw [← wipe_wipe σ vs]
        exact wipe_eq l4 f4
      · refine p4 w' P σ4 H4 B4 T4 _ fun b O5 H5 B5 p5 T5 => ?_
        cases b with
        | true =>
          refine iteT (p5.1 rfl w' P σ4 H5 B5 T5 _ fun yd yv O6 H6 B6 p6 T6 => ?_)
          obtain ⟨S6, b36, _⟩ := back _ _ _ _ _ _ T6
          obtain ⟨_, _, us, h1, h2⟩ := S6.ow D _ List.mem_cons_self
          have hy := S6.pi yd yv List.mem_cons_self
          refine ⟨us, h1, by rw [← h2.length]; exact hz, acc ++ [yd], O6, B6, p6, ?_, (e2.trans a1).trans b36⟩
          have S7 := S6.write (o := .lst (us ++ [yv])) (c' := .lst (acc ++ [yd])) ⟨_, upd_same, h2.append (.cons hy .nil)⟩
          exact S7.reslot S1 ((e2.trans a1).trans b36)
        | false =>
          refine iteF ?_
          obtain ⟨S6, b36, _⟩ := back _ _ _ _ _ _ T5
          exact ⟨acc, O5, B5, p5.2 rfl, S6.reslot S1 ((e2.trans a1).trans b36), (e2.trans a1).trans b36⟩
    · have ei : i = ds.length := by omega
      subst ei
      refine .inl ⟨it.stop H2 B2 e2 S2.bh src, ?_⟩
      obtain ⟨us, S3, hden⟩ := S2.freeze
      exact q _ _ _ _ _ (hd _ _ p2) (S3.pin hden)
/-- .. the new list stays owned -/
theorem ew_lcIO (h : IW K wi Γ O fun ds o O1 => ∃ (Pv : Nat → List Dt → Own → Prop), Pv 0 [] O1 ∧ (∀ p, o = some p → ∀ i acc O', Pv i acc O' → (p, .lst ds) ∈ O') ∧
      (∀ i d acc O', ds[i]? = some d → Pv i acc O' → acc.length < sizeLine ∧ GW K g (· ∈ vs) d (wipeG Γ vs) O' fun Γ2 O2 => TW K tt Γ2 O2 fun b O3 => (b = true → EW K te Γ2 O3 fun y O4 => Pv (i + 1) (acc ++ [y]) O4) ∧ (b = false → Pv (i + 1) acc O3)) ∧
      (∀ acc O', Pv ds.length acc O' → ∀ p, Post (.raw (.ref p)) ((p, .lst acc) :: O'))) : EW K (tLc wi g tt te vs) Γ O Post := fun w P σ H B S Q q =>
  h w P σ H B S _ fun ds o O1 J H1 B1 ⟨Pv, h0, ho, hs, hd⟩ S1 it D hD => by
    refine ⟨fun i m H => i + m = ds.length ∧ ∃ acc O' B', Pv i acc O' ∧ Sat K w Γ ((D, .lst acc) :: O') P σ H B' ∧ Same B1 B', ⟨ds.length, by omega, [], O1, B1, h0, S1.newOwn (c := .lst []) hD ⟨[], upd_same, .nil⟩, Same.refl _⟩, ?_⟩
    rintro i m H2 ⟨em, acc, O2, B2, p2, S2, e2⟩
    have src := src_of S2 fun p e => List.mem_cons_of_mem _ (ho p e i acc O2 p2)
    by_cases hi : i < ds.length
    · refine .inr ⟨it.go i H2 B2 e2 S2.bh src hi, fun H' => ∃ acc O' B', Pv (i + 1) acc O' ∧ Sat K w Γ ((D, .lst acc) :: O') P σ H' B' ∧ Same B1 B', fun H' q => ⟨m - 1, by omega, by omega, q⟩, fun x H3 y => ?_⟩
      obtain ⟨d, hx⟩ : ∃ d, ds[i]? = some d := ⟨_, List.getElem?_eq_getElem hi⟩
      obtain ⟨B3, a1, a2, a3, a4, a5⟩ := it.yld i d H2 x H3 B2 e2 S2.bh src hx y
      have S3 := S2.yielded a1 a2 a3 a4
      obtain ⟨hz, turn⟩ := hs i d acc O2 hx p2
      obtain ⟨w', T3, back⟩ := (S3.wipe vs).hide
      refine turn w' P (L2.wipe σ vs) H3 B3 x T3 a5 _ fun Γ4 O4 σ4 H4 B4 p4 T4 f4 l4 => ⟨?_, ?_⟩
      · rw [← wipe_wipe σ vs]
        exact wipe_eq l4 f4
      · refine p4 w' P σ4 H4 B4 T4 _ fun b O5 H5 B5 p5 T5 => ?_
        cases b with
        | true =>
          refine iteT (p5.1 rfl w' P σ4 H5 B5 T5 _ fun yd yv O6 H6 B6 p6 T6 => ?_)
          obtain ⟨S6, b36, _⟩ := back _ _ _ _ _ _ T6
          obtain ⟨_, _, us, h1, h2⟩ := S6.ow D _ List.mem_cons_self
          have hy := S6.pi yd yv List.mem_cons_self
          refine ⟨us, h1, by rw [← h2.length]; exact hz, acc ++ [yd], O6, B6, p6, ?_, (e2.trans a1).trans b36⟩
          have S7 := S6.write (o := .lst (us ++ [yv])) (c' := .lst (acc ++ [yd])) ⟨_, upd_same, h2.append (.cons hy .nil)⟩
          exact S7.reslot S1 ((e2.trans a1).trans b36)
        | false =>
          refine iteF ?_
          obtain ⟨S6, b36, _⟩ := back _ _ _ _ _ _ T5
          exact ⟨acc, O5, B5, p5.2 rfl, S6.reslot S1 ((e2.trans a1).trans b36), (e2.trans a1).trans b36⟩
    · have ei : i = ds.length := by omega
      subst ei
      refine .inl ⟨it.stop H2 B2 e2 S2.bh src, ?_⟩
      exact q _ _ _ _ _ (hd _ _ p2 D) (S2.pin (.raw _))
theorem tw_yes {PostT : Bool → Own → Prop} (k : PostT true O) : TW K tYes Γ O PostT := fun w P σ H B S Q q => q _ _ _ _ k S
/-- nothing changes; typed items -/
theorem ew_lcP {α : Type} (h : IW K wi Γ O fun ds o O1 => ∃ (enc : α → Dt) (as : List α) (f : α → Bool) (v : α → Dt), ds = as.map enc ∧ (∀ p, o = some p → (p, .lst ds) ∈ O1) ∧ as.length ≤ 1000000 ∧
      (∀ a ∈ as, GW K g (· ∈ vs) (enc a) (wipeG Γ vs) O1 fun Γ2 O2 => TW K tt Γ2 O2 fun b O3 => (b = true → EW K te Γ2 O3 fun y O4 => O4 = O1 ∧ f a = true ∧ y = v a) ∧ (b = false → O3 = O1 ∧ f a = false)) ∧ Post (.lst ((as.filter f).map v)) O1) :
    EW K (tLc wi g tt te vs) Γ O Post := by
  refine ew_lcI fun w P σ H B S R q => h w P σ H B S R fun ds o O1 J H' B' ⟨enc, as, f, v, hds, ho, hz, hs, hp⟩ S' it => q ds o O1 J H' B' ?_ S' it
  subst hds
  refine ⟨fun i acc O' => O' = O1 ∧ acc = ((as.take i).filter f).map v, ⟨rfl, rfl⟩, fun p e i acc O' hP => ?_, fun i d acc O' hd hP => ?_, fun acc O' hP => ?_⟩
  · rw [hP.1]; exact ho p e
  · obtain ⟨rfl, rfl⟩ := hP
    rw [List.getElem?_map] at hd
    cases ha : as[i]? with
    | none => rw [ha] at hd; cases hd
    | some a =>
      rw [ha] at hd
      cases hd
      have hm : a ∈ as := List.mem_of_getElem? ha
      have et : as.take (i + 1) = as.take i ++ [a] := by rw [List.take_add_one, ha]; rfl
      refine ⟨?_, fun w P σ H B v' S hd Q q => hs a hm w P σ H B v' S hd Q fun Γ2 O2 σ2 H2 B2 p2 S2 => q Γ2 O2 σ2 H2 B2 (fun w P σ H B S Q q => p2 w P σ H B S Q fun b O3 H3 B3 p3 S3 => q b O3 H3 B3 ⟨fun hb => (p3.1 hb).imp fun y O4 ⟨q1, q2, q3⟩ => ⟨q1, ?_⟩, fun hb => ?_⟩ S3) S2⟩
      · rw [List.length_map]
        have h1 := List.length_filter_le f (as.take i)
        rw [List.length_take] at h1
        have h2 : (1000000 : Nat) < sizeLine := by decide
        omega
      · rw [et, List.filter_append, List.map_append, List.filter_cons, if_pos q2, q3]; rfl
      · obtain ⟨q1, q2⟩ := p3.2 hb
        refine ⟨q1, ?_⟩
        rw [et, List.filter_append, List.map_append, List.filter_cons, if_neg (by rw [q2]; decide)]
        simp
  · obtain ⟨rfl, rfl⟩ := hP
    rw [List.length_map, List.take_length]
    exact hp
theorem ew_lcPO {α : Type} (h : IW K wi Γ O fun ds o O1 => ∃ (enc : α → Dt) (as : List α) (f : α → Bool) (v : α → Dt), ds = as.map enc ∧ (∀ p, o = some p → (p, .lst ds) ∈ O1) ∧ as.length ≤ 1000000 ∧
      (∀ a ∈ as, GW K g (· ∈ vs) (enc a) (wipeG Γ vs) O1 fun Γ2 O2 => TW K tt Γ2 O2 fun b O3 => (b = true → EW K te Γ2 O3 fun y O4 => O4 = O1 ∧ f a = true ∧ y = v a) ∧ (b = false → O3 = O1 ∧ f a = false)) ∧ ∀ p, Post (.raw (.ref p)) ((p, .lst ((as.filter f).map v)) :: O1)) :
    EW K (tLc wi g tt te vs) Γ O Post := by
  refine ew_lcIO fun w P σ H B S R q => h w P σ H B S R fun ds o O1 J H' B' ⟨enc, as, f, v, hds, ho, hz, hs, hp⟩ S' it => q ds o O1 J H' B' ?_ S' it
  subst hds
  refine ⟨fun i acc O' => O' = O1 ∧ acc = ((as.take i).filter f).map v, ⟨rfl, rfl⟩, fun p e i acc O' hP => ?_, fun i d acc O' hd hP => ?_, fun acc O' hP => ?_⟩
  · rw [hP.1]; exact ho p e
  · obtain ⟨rfl, rfl⟩ := hP
    rw [List.getElem?_map] at hd
    cases ha : as[i]? with
    | none => rw [ha] at hd; cases hd
    | some a =>
      rw [ha] at hd
      cases hd
      have hm : a ∈ as := List.mem_of_getElem? ha
      have et : as.take (i + 1) = as.take i ++ [a] := by rw [List.take_add_one, ha]; rfl
      refine ⟨?_, fun w P σ H B v' S hd Q q => hs a hm w P σ H B v' S hd Q fun Γ2 O2 σ2 H2 B2 p2 S2 => q Γ2 O2 σ2 H2 B2 (fun w P σ H B S Q q => p2 w P σ H B S Q fun b O3 H3 B3 p3 S3 => q b O3 H3 B3 ⟨fun hb => (p3.1 hb).imp fun y O4 ⟨q1, q2, q3⟩ => ⟨q1, ?_⟩, fun hb => ?_⟩ S3) S2⟩
      · rw [List.length_map]
        have h1 := List.length_filter_le f (as.take i)
        rw [List.length_take] at h1
        have h2 : (1000000 : Nat) < sizeLine := by decide
        omega
      · rw [et, List.filter_append, List.map_append, List.filter_cons, if_pos q2, q3]; rfl
      · obtain ⟨q1, q2⟩ := p3.2 hb
        refine ⟨q1, ?_⟩
        rw [et, List.filter_append, List.map_append, List.filter_cons, if_neg (by rw [q2]; decide)]
        simp
  · obtain ⟨rfl, rfl⟩ := hP
    rw [List.length_map, List.take_length]
    exact hp
theorem ew_lcMO {α : Type} (h : IW K wi Γ O fun ds o O1 => ∃ (enc : α → Dt) (as : List α) (v : α → Dt), ds = as.map enc ∧ (∀ p, o = some p → (p, .lst ds) ∈ O1) ∧ as.length ≤ 1000000 ∧
      (∀ a ∈ as, GW K g (· ∈ vs) (enc a) (wipeG Γ vs) O1 fun Γ2 O2 => EW K te Γ2 O2 fun y O4 => O4 = O1 ∧ y = v a) ∧ ∀ p, Post (.raw (.ref p)) ((p, .lst (as.map v)) :: O1)) :
    EW K (tLc wi g tYes te vs) Γ O Post := by
  refine ew_lcPO (α := α) fun w P σ H B S R q => h w P σ H B S R fun ds o O1 J H' B' ⟨enc, as, v, h1, h3, h4, h5, h6⟩ S' it => q ds o O1 J H' B' ⟨enc, as, fun _ => true, v, h1, h3, h4, fun a ha => ?_, ?_⟩ S' it
  · exact fun w P σ H B v' S hd Q q => h5 a ha w P σ H B v' S hd Q fun Γ2 O2 σ2 H2 B2 p2 S2 => q Γ2 O2 σ2 H2 B2 (tw_yes ⟨fun _ => p2.imp fun y O4 ⟨q1, q2⟩ => ⟨q1, rfl, q2⟩, fun z => nomatch z⟩) S2
  · rw [List.filter_eq_self.mpr fun _ _ => rfl]
    exact h6
end
/-! ### calls -/
abbrev SpT := List Dt → Own → (Dt → Own → Prop) → Prop
structure Clo (K : PySem.W.Frag) (B H : Hp) (Oc : Own) (d : Dt) (v : V) (Oc' : Own) (H' B' : Hp) : Prop where
  bb : Same B B'
  bh : Same B' H'
  kp : ∀ q o, H q = some o → q ∉ Oc.map (·.1) → H' q = some o
  fr : ∀ q, B' q ≠ none → B q ≠ none ∨ H q = none ∨ q ∈ Oc.map (·.1)
  den : Den K B' d v
  ow : ∀ p c, (p, c) ∈ Oc' → B' p = none ∧ (H p = none ∨ p ∈ Oc.map (·.1)) ∧ CellAt K B' H' p c
  nd : (Oc'.map (·.1)).Nodup
/-- a promise over data: S tells from the arguments and the things that are lent what comes back -/
def SpD (K : PySem.W.Frag) (S : SpT) : Sp := fun vs H Q _ => ∃ (B : Hp) (ds : List Dt) (Oc : Own) (Post : Dt → Own → Prop), Same B H ∧ DenL K B ds vs ∧ (∀ p c, (p, c) ∈ Oc → B p = none ∧ CellAt K B H p c) ∧ (Oc.map (·.1)).Nodup ∧ S ds Oc Post ∧
  ∀ d v Oc' H' B', Post d Oc' → Clo K B H Oc d v Oc' H' B' → Q v H'
section
variable {K : PySem.W.Frag} {Γ : Gm} {O : Own} {Post : Dt → Own → Prop} {ta tk : TA} {S : SpT} {E : XK}
theorem call_sp {w : En} {O1 Oc Or : Own} {ds : List Dt} {vs : List V} {P : List (Dt × V)} {σ : L2.St} {H B : Hp} {Q : VK} {E : XK} (hp : O1.Perm (Oc ++ Or)) (hS : S ds Oc fun d Oc' => Post d (Oc' ++ Or)) (hd : DenL K B ds vs) (T : Sat K w Γ O1 P σ H B)
    (q : ∀ d v O' H' B', Post d O' → Sat K w Γ O' ((d, v) :: P) σ H' B' → Q v H') : SpD K S vs H Q E := by
  have T1 := T.perm hp
  have nd := T1.nd
  rw [List.map_append, List.nodup_append] at nd
  obtain ⟨nd1, nd2, nd3⟩ := nd
  refine ⟨B, ds, Oc, _, T1.bh, hd, fun p c hm => ?_, nd1, hS, fun d v Oc' H' B' p C => q d v _ H' B' p ?_⟩
  · obtain ⟨h1, _, h3⟩ := T1.ow p c (List.mem_append_left _ hm)
    exact ⟨h1, h3⟩
  · have kOc : ∀ q, q ∈ Oc.map (·.1) → w.Kp q = none := fun q hq => by
      obtain ⟨⟨p, c⟩, hm, rfl⟩ := List.mem_map.mp hq
      exact (T1.ow p c (List.mem_append_left _ hm)).2.1
    have orN : ∀ p c, (p, c) ∈ Or → p ∉ Oc.map (·.1) ∧ H p ≠ none := fun p c hm => ⟨fun z => nd3 p z p (List.mem_map.mpr ⟨(p, c), hm, rfl⟩) rfl, (T1.ow p c (List.mem_append_right _ hm)).2.2.there⟩
    refine Sat.pin (T1.grow C.bb C.bh (fun q o e => C.kp q o (T1.kh q o e) fun z => by rw [kOc q z] at e; cases e) (fun q hq => ?_) (fun p c hm => ?_) ?_) C.den
    · rcases C.fr q hq with z | z | z
      · exact .inl z
      · exact .inr (T1.kfree z)
      · exact .inr (kOc q z)
    · rcases List.mem_append.mp hm with hm | hm
      · obtain ⟨h1, h2, h3⟩ := C.ow p c hm
        exact ⟨h1, h2.elim (fun z => T1.kfree z) (kOc p), h3⟩
      · obtain ⟨n1, n2⟩ := orN p c hm
        obtain ⟨h1, h2, h3⟩ := T1.ow p c (List.mem_append_right _ hm)
        obtain ⟨o, eo⟩ : ∃ o, H p = some o := by
          cases e : H p with
          | none => exact absurd e n2
          | some o => exact ⟨o, rfl⟩
        refine ⟨?_, h2, h3.mono C.bb ((C.kp p o eo n1).trans eo.symm)⟩
        cases e : B' p with
        | none => rfl
        | some u =>
          rcases C.fr p (by rw [e]; simp) with z | z | z
          · exact absurd h1 z
          · exact absurd z n2
          · exact absurd z n1
    · rw [List.map_append, List.nodup_append]
      refine ⟨C.nd, nd2, fun a ha b hb e => ?_⟩
      subst e
      obtain ⟨⟨p, c⟩, hm, rfl⟩ := List.mem_map.mp ha
      obtain ⟨⟨p', c'⟩, hm', e'⟩ := List.mem_map.mp hb
      have e'' : p' = p := e'
      subst e''
      obtain ⟨n1, n2⟩ := orN p' c' hm'
      rcases (C.ow p' c hm).2.1 with z | z
      · exact n2 z
      · exact n1 z
theorem ew_call (h : AW K ta Γ O fun ds O1 => ∃ Oc Or, O1.Perm (Oc ++ Or) ∧ S ds Oc fun d Oc' => Post d (Oc' ++ Or)) : EW K (tCall (SpD K S) [] E ta) Γ O Post := fun w P σ H B T Q q =>
  h w P σ H B T _ fun ds vs O1 H1 B1 ⟨Oc, Or, hp, hS⟩ hd T1 => by
    show SpD K S (vs ++ []) H1 Q E
    rw [List.append_nil]
    exact call_sp hp hS hd T1 q
/-- nothing is lent -/
theorem ew_call0 (h : AW K ta Γ O fun ds O1 => S ds [] fun d Oc' => Post d (Oc' ++ O1)) : EW K (tCall (SpD K S) [] E ta) Γ O Post :=
  ew_call fun w P σ H B T Q q => h w P σ H B T Q fun ds vs O' H' B' p => q ds vs O' H' B' ⟨[], O', List.Perm.refl _, p⟩
/-- with keywords, which stand last -/
theorem ew_callN {n m : Nat} {gV : List V → List V → List V} (hg : ∀ vs zs, gV vs zs = vs ++ zs) (h : AW K ta Γ O fun ds O1 => AW K tk Γ O1 fun es O2 => ds.length = n ∧ es.length = m ∧ ∃ Oc Or, O2.Perm (Oc ++ Or) ∧ S (ds ++ es) Oc fun d Oc' => Post d (Oc' ++ Or)) :
    EW K (tCallN n m (SpD K S) gV E ta tk) Γ O Post := fun w P σ H B T Q q =>
  h w P σ H B T _ fun ds vs O1 H1 B1 p1 hd T1 => p1 w (ds.zip vs ++ P) σ H1 B1 (T1.pinL hd) _ fun es us O2 H2 B2 ⟨l1, l2, Oc, Or, hp, hS⟩ he T2 => by
    have hd2 : DenL K B2 ds vs := .of_zip hd.length fun d v z => T2.pi d v (List.mem_append_left _ z)
    refine ⟨hd.length.symm.trans l1, he.length.symm.trans l2, ?_⟩
    rw [hg]
    exact call_sp hp hS (hd2.append he) (T2.pins fun z hz => List.mem_append_right _ hz) q
end
/-! ### a def's body -/
def startG (N : List Str) (ds : List Dt) : Gm := ds.map some ++ List.replicate (N.length - ds.length) none
section
variable {P : Program} {w : World} {K : PySem.W.Frag} {mg : Str → Option Value} {base : Heap}
theorem sat_start {N : List Str} {B H : Hp} {ds : List Dt} {vs : List V} {Oc : Own} (hb : Same B H) (hd : DenL K B ds vs) (ho : ∀ p c, (p, c) ∈ Oc → B p = none ∧ CellAt K B H p c) (nd : (Oc.map (·.1)).Nodup) :
    Sat K ⟨fun q => if q ∈ Oc.map (·.1) then none else H q, B⟩ (startG N ds) Oc [] (L2.start N vs) H B := by
  refine ⟨Same.refl _, hb, fun q o e => ?_, fun q hq => .inl hq, ?_, fun i d q => ?_, fun p c hm => ?_, nd, fun d v q => by cases q⟩
  · have e' : (if q ∈ Oc.map (·.1) then none else H q) = some o := e
    split at e'
    · cases e'
    · exact e'
  · unfold startG L2.start
    simp [hd.length]
  · unfold startG at q
    unfold L2.start
    rw [List.getElem?_append, List.length_map] at q
    rw [List.getElem?_append, List.length_map]
    split at q
    · rename_i hi
      rw [if_pos (by rw [← hd.length]; exact hi)]
      rw [List.getElem?_map] at q
      rw [List.getElem?_map]
      cases e : ds[i]? with
      | none => rw [e] at q; cases q
      | some d' =>
        rw [e] at q
        cases q
        obtain ⟨v, h1, h2⟩ := hd.get e
        exact ⟨v, by rw [h1]; rfl, h2⟩
    · rw [List.getElem?_replicate] at q
      split at q <;> cases q
  · obtain ⟨h1, h2⟩ := ho p c hm
    exact ⟨h1, if_pos (List.mem_map.mpr ⟨(p, c), hm, rfl⟩), h2⟩
theorem clo_of {K : PySem.W.Frag} {B H : Hp} {Oc Oc' : Own} {d : Dt} {v : V} {Γ' : Gm} {σ' : L2.St} {H' B' : Hp} (T : Sat K ⟨fun q => if q ∈ Oc.map (·.1) then none else H q, B⟩ Γ' Oc' [(d, v)] σ' H' B') : Clo K B H Oc d v Oc' H' B' := by
  have kz : ∀ q, (if q ∈ Oc.map (·.1) then none else H q) = none → H q = none ∨ q ∈ Oc.map (·.1) := fun q z => by
    split at z
    · exact .inr ‹_›
    · exact .inl z
  refine ⟨T.b0, T.bh, fun q o e hn => T.kh q o (by show (if q ∈ Oc.map (·.1) then none else H q) = some o; rw [if_neg hn]; exact e), fun q hq => ?_, T.pi d v List.mem_cons_self, fun p c hm => ?_, T.nd⟩
  · rcases T.fr q hq with z | z
    · exact .inl z
    · exact .inr (kz q z)
  · obtain ⟨h1, h2, h3⟩ := T.ow p c hm
    exact ⟨h1, kz p h2, h3⟩
/-- THE RULE for a def: its body as a term of rules, and what it does to data -/
theorem fn_ok {x qual : Str} {st : Stmt} {f : Addr} {fd : FuncData} {N ps : List Str} {k : Nat} {S : SpT} (F : Fun K x qual st f fd) (Sc : FnScope N ps (defScope st)) (len : ∀ ds Oc Post, S ds Oc Post → ds.length = ps.length)
    (hbody : ∀ (cdv : Value) (A : Around) (outer : List Env) (s : Shared) (H : Hp) (E : XK), Room k (A.deeper (envOfC qual (defScope st) s.heap.objs.size f cdv)) →
      ∃ t, PSs (cxOf CX0 P w K mg base N qual (defScope st) f cdv A outer s H E).nox (defBody st) t ∧ ∀ ds Oc Post, S ds Oc Post → SW K t (startG N ds) Oc { nx := fun _ O => Post .non O, rt := Post }) : FnOk P w K mg base CX0 (k + 1) f fd ps (SpD K S) := by
  refine F.ok Sc (fun vs H Q E h => ?_) (fun cdv A outer s H vs Q E hr h => ?_)
  · obtain ⟨B, ds, Oc, Post, _, hd, _, _, hS, _⟩ := h
    rw [← hd.length]
    exact len _ _ _ hS
  · obtain ⟨B, ds, Oc, Post, hb, hd, ho, nd, hS, q⟩ := h
    obtain ⟨t, ht, hw⟩ := hbody cdv A outer s H E hr
    refine ⟨t, ht, hw ds Oc Post hS _ [] _ H B (sat_start hb hd ho nd) _ ⟨fun Γ' O' σ' H' B' p T => ?_, fun d v Γ' O' σ' H' B' p T => q d v O' H' B' p (clo_of T), fun _ _ _ _ _ p _ => p.elim, fun _ _ _ _ _ p _ => p.elim⟩⟩
    exact q .non .non O' H' B' p (clo_of (T.pin .non))
end
end DL
namespace DL
open PySem PySem.Spec PyProof.Rows L2
/-! ### operators whatever the kinds -/
section
variable {X : Cx}
theorem SlR.or' {r r' : V → Option Int → Option Int → Hp → VK → Prop} (h : SlR X r) (h' : SlR X r') : SlR X (fun x lo hi H Q => r x lo hi H Q ∨ r' x lo hi H Q) := h.or h'
def rPlus (K : PySem.W.Frag) : R2 := fun x y H Q => (rI0 fun i j => .int (i + j)) x y H Q ∨ rCatA K x y H Q ∨ rCat x y H Q ∨ (∃ i j, x = .str i ∧ y = .str j ∧ i.length + j.length ≤ sizeLine ∧ Q (.str (i ++ j)) H)
theorem op_plus : OpR X (binaryOp .Add) (rPlus X.K) := op_add.or (op_catA.or (op_cat.or op_add_str))
def rTimes (K : PySem.W.Frag) : R2 := fun x y H Q => (rI CMul fun i j => .int (i * j)) x y H Q ∨ rRep x y H Q ∨ rRepT K x y H Q
theorem op_times : OpR X (binaryOp .Mult) (rTimes X.K) := op_mul.or (op_rep.or op_repT)
def rSl (K : PySem.W.Frag) : V → Option Int → Option Int → Hp → VK → Prop := fun x lo hi H Q => rSlA K x lo hi H Q ∨ rSlL K x lo hi H Q
theorem sl_any : SlR X (rSl X.K) := sl_tupA.or sl_list
def rInA (K : PySem.W.Frag) (neg : Bool) : R2 := fun x y H Q => rInG K neg x y H Q ∨ (∃ c z, x = .str ⟨#[c]⟩ ∧ y = .str z ∧ Q (.bl (if neg then !(decide (c ∈ z.cps.toList)) else decide (c ∈ z.cps.toList))) H)
theorem op_inA (hu : X.A.units + 64 < cLine) : OpR X (compareOp .In) (rInA X.K false) := (op_inG hu).or op_in_sign
theorem op_notInA (hu : X.A.units + 64 < cLine) : OpR X (compareOp .NotIn) (rInA X.K true) := (op_notInG hu).or op_notIn_sign
def rLen (K : PySem.W.Frag) : List V → Hp → VK → Prop := fun xs H Q => (∃ p ys, xs = [.ref p] ∧ (SqL K H p ys ∨ SqT K H p ys) ∧ Q (.int ys.length) H) ∨ (∃ z, xs = [.str z] ∧ z.length ≤ sizeLine ∧ Q (.int z.length) H)
theorem call_lenG : CallR X (.builtin "len") (rLen X.K) := call_len_seq.or call_len_str
/-- for over a list, a tuple, a text -/
def iSeq (K : PySem.W.Frag) (tl : TE) : TI := fun σ H R => tl σ H fun x H1 => (∃ a, x = .ref a ∧ (∃ xs, SqL K H1 a xs) ∧ R (Itl K a) H1) ∨ (∃ a, x = .ref a ∧ (∃ xs, SqT K H1 a xs) ∧ R (Itt K a) H1) ∨ (∃ z, x = .str z ∧ R (Its z) H1)
theorem pi_seq {tg l : Expr} {tl : TE} (hl : PE X l tl) : PI X tg l (iSeq X.K tl) := by
  refine ⟨fun pins s σ H R I h => ?_⟩
  refine thn (hl.run pins s σ H _ I h) fun v s1 ⟨x, H1, I1, r1, q1⟩ => ?_
  -- each kind by its own rule, at the value
  have one : ∀ (wi : TI), PI (X) tg l wi → True := fun _ _ => trivial
  rcases q1 with ⟨a, e, hq, q⟩ | ⟨a, e, hq, q⟩ | ⟨z, e, q⟩
  · subst e
    obtain ⟨xs, hq⟩ := hq
    cases r1
    obtain ⟨its, rv, p, hz⟩ := I1.list hq
    refine wpAny_pyIter_list p.isList ?_
    refine ⟨s1.heap.objs.size, [s1.heap.objs.size], _, _, H1, rfl, I1.kept (t' := s1.toks) fun b o e => Heap.get?_push_of_some _ e, turn_list a _, ⟨_, Heap.get?_push_size _ rfl, rfl, rfl⟩, fun b hb => ?_, q⟩
    have e : b = s1.heap.objs.size := by simpa using hb
    subst e
    exact I1.fpOk (Nat.le_refl _) (I1.hok.fresh (Nat.le_refl _))
  · subst e
    obtain ⟨xs, hq⟩ := hq
    cases r1
    obtain ⟨its, rv, p, hz⟩ := I1.tuple hq
    refine wpAny_pyIter_tuple (show s1.heap.IsTuple a its.toArray from p) ?_
    refine ⟨s1.heap.objs.size, [s1.heap.objs.size], _, _, H1, rfl, I1.kept (t' := s1.toks) fun b o e => Heap.get?_push_of_some _ e, turn_tuple a _, ⟨_, Heap.get?_push_size _ rfl, rfl, rfl⟩, fun b hb => ?_, q⟩
    have e : b = s1.heap.objs.size := by simpa using hb
    subst e
    exact I1.fpOk (Nat.le_refl _) (I1.hok.fresh (Nat.le_refl _))
  · subst e
    obtain ⟨t, rfl⟩ := r1
    cases ha : z.cps.all (· < 128)
    · exact wpAny_pyIter_wide ha (pi_one (tk := s1.toks) I1 _ (turn_str _ z t "str_iterator" (.inr rfl)) ⟨_, Heap.get?_push_size _ rfl, rfl, rfl⟩ q)
    · exact wpAny_pyIter_ascii ha (pi_one (tk := s1.toks) I1 _ (turn_str _ z t "str_ascii_iterator" (.inl rfl)) ⟨_, Heap.get?_push_size _ rfl, rfl, rfl⟩ q)
end
section
variable {K : PySem.W.Frag} {Γ : Gm} {O : Own} {Post : Dt → Own → Prop} {d e : Dt} {ta : TA} {te to : TE}
/-! + -/
theorem rwp_int {i j : Int} (k : Post (.int (i + j)) O) : RW K (rPlus K) (.int i) (.int j) O Post := fun w Γ P σ H B x y S hx hy Q q => .inl (rw_add k w Γ P σ H B x y S hx hy Q q)
theorem rwp_tup {ds es : List Dt} (hz : ds.length + es.length ≤ sizeLine) (k : Post (.tup (ds ++ es)) O) : RW K (rPlus K) (.tup ds) (.tup es) O Post := fun w Γ P σ H B x y S hx hy Q q => .inr (.inl (rw_catT hz k w Γ P σ H B x y S hx hy Q q))
theorem rwp_lst {c e : Dt} {ds es : List Dt} (v1 : View O c (.lst ds)) (v2 : View O e (.lst es)) (hz : ds.length + es.length ≤ sizeLine) (k : Post (.lst (ds ++ es)) O) : RW K (rPlus K) c e O Post := fun w Γ P σ H B x y S hx hy Q q => .inr (.inr (.inl (rw_catL v1 v2 hz k w Γ P σ H B x y S hx hy Q q)))
theorem rwp_str {i j : Str} (hz : i.length + j.length ≤ sizeLine) (k : Post (.str (i ++ j)) O) : RW K (rPlus K) (.str i) (.str j) O Post := fun w Γ P σ H B x y S hx hy Q q => .inr (.inr (.inr (rw_catS hz k w Γ P σ H B x y S hx hy Q q)))
/-- the concatenation of lists as an owned list -/
theorem rwp_lstO {c e : Dt} {ds es : List Dt} (v1 : View O c (.lst ds)) (v2 : View O e (.lst es)) (hz : ds.length + es.length ≤ sizeLine) (k : ∀ p, Post (.raw (.ref p)) ((p, .lst (ds ++ es)) :: O)) : RW K (rPlus K) c e O Post := fun w Γ P σ H B x y S hx hy Q q => .inr (.inr (.inl (by
  obtain ⟨a, vs, rfl, h1, h2⟩ := v1.list S hx
  obtain ⟨b, us, rfl, g1, g2⟩ := v2.list S hy
  exact ⟨_, _, _, _, rfl, rfl, h1, g1, by rw [← h2.length, ← g2.length]; exact hz, fun p hp => q _ _ _ _ _ (k p) ((S.newOwn (c := .lst (ds ++ es)) hp ⟨_, upd_same, h2.append g2⟩).pin (.raw _))⟩)))
/-! * -/
theorem rwt_int {i j : Int} (hc : CMul i j) (k : Post (.int (i * j)) O) : RW K (rTimes K) (.int i) (.int j) O Post := fun w Γ P σ H B x y S hx hy Q q => .inl (rw_mul hc k w Γ P σ H B x y S hx hy Q q)
theorem DenL.rep {K : PySem.W.Frag} {H : Hp} {ds : List Dt} {vs : List V} (h : DenL K H ds vs) : ∀ n : Nat, DenL K H (List.replicate n ds).flatten (List.replicate n vs).flatten
  | 0 => .nil
  | n + 1 => by
    rw [List.replicate_succ, List.replicate_succ, List.flatten_cons, List.flatten_cons]
    exact h.append (DenL.rep h n)
theorem rwt_lst {c : Dt} {ds : List Dt} {j : Int} (v1 : View O c (.lst ds)) (h1 : -(2 ^ 63) ≤ j) (h2 : j < 2 ^ 63) (hz : ds.length * j.toNat ≤ sizeLine) (k : Post (.lst (List.replicate j.toNat ds).flatten) O) : RW K (rTimes K) c (.int j) O Post := fun w Γ P σ H B x y S hx hy Q q => .inr (.inl (by
  obtain ⟨a, vs, rfl, g1, g2⟩ := v1.list S hx
  cases hy
  exact ⟨_, j, _, rfl, rfl, g1, h1, h2, by rw [← g2.length]; exact hz, fun p hp => q _ _ O _ _ k ((S.new hp).pin (.lst upd_same ((g2.rep _).mono (same_upd (S.bfree hp)))))⟩))
theorem rwt_tup {ds : List Dt} {j : Int} (h0 : ds ≠ []) (h1 : 2 ≤ j) (h2 : j ≤ 1000) (hz : ds.length ≤ 1000) (k : Post (.tup (List.replicate j.toNat ds).flatten) O) : RW K (rTimes K) (.tup ds) (.int j) O Post := fun w Γ P σ H B x y S hx hy Q q => .inr (.inr (by
  cases hy
  cases hx with
  | @tup a vs _ g1 g2 =>
    exact ⟨_, j, _, rfl, rfl, sqT_mono S.bh g1, fun e => h0 (by subst e; cases g2; rfl), h1, h2, by rw [← g2.length]; exact hz, fun p hp => q _ _ O _ _ k ((S.new hp).pin (.tup (SqT.of upd_same) ((g2.rep _).mono (same_upd (S.bfree hp)))))⟩))
/-! slices -/
theorem ew_slTA {tl th : TO} (h : EW K te Γ O fun d O1 => PW K tl Γ O1 fun lo O2 => PW K th Γ O2 fun hi O3 => (∃ es, d = .tup es ∧ Post (.tup (cutD es lo hi)) O3)) : EW K (tSl (rSl K) te tl th) Γ O Post := fun w P σ H B S Q q => by
  have h' := ew_slT h w P σ H B S Q q
  have mono : ∀ {x l u H' Q'}, rSlA K x l u H' Q' → rSl K x l u H' Q' := fun z => .inl z
  exact h w P σ H B S _ fun d x O1 H1 B1 p1 S1 => p1 w _ σ H1 B1 S1 _ fun lo O2 H2 B2 p2 S2 => p2 w _ σ H2 B2 S2 _ fun hi O3 H3 B3 ⟨es, e, p3⟩ S3 => .inl (by
    subst e
    have hx := S3.pi _ x List.mem_cons_self
    have S3' := S3.pins (P' := P) fun z hz => by simp [hz]
    cases hx with
    | tup h1 h2 =>
      refine ⟨_, _, rfl, sqT_mono S3.bh h1, fun hw => ?_, fun _ p hp => q _ _ O3 _ _ p3 ((S3'.new hp).pin (.tup (SqT.of upd_same) ((cutD_den h2).mono (same_upd (S3.bfree hp)))))⟩
      have e2 : cutD es lo hi = es := by
        have hl := h2.length
        unfold cutD
        rw [hl, hw.1, hw.2, Nat.sub_zero, List.drop_zero, ← hl, List.take_length]
      rw [e2] at p3
      exact q _ _ O3 _ _ p3 (S3'.pin (.tup h1 h2)))
theorem ew_slLA {tl th : TO} (h : EW K te Γ O fun d O1 => PW K tl Γ O1 fun lo O2 => PW K th Γ O2 fun hi O3 => (∃ es, View O3 d (.lst es) ∧ Post (.lst (cutD es lo hi)) O3)) : EW K (tSl (rSl K) te tl th) Γ O Post := fun w P σ H B S Q q =>
  h w P σ H B S _ fun d x O1 H1 B1 p1 S1 => p1 w _ σ H1 B1 S1 _ fun lo O2 H2 B2 p2 S2 => p2 w _ σ H2 B2 S2 _ fun hi O3 H3 B3 ⟨es, vw, p3⟩ S3 => .inr (by
    have hx := S3.pi _ x List.mem_cons_self
    have S3' := S3.pins (P' := P) fun z hz => by simp [hz]
    obtain ⟨a, vs, rfl, h1, h2⟩ := vw.list S3 hx
    exact ⟨_, _, rfl, SqL.of h1, fun p hp => q _ _ O3 _ _ p3 ((S3'.new hp).pin (.lst upd_same ((cutD_den h2).mono (same_upd (S3.bfree hp)))))⟩)
/-- xs[::-1] -/
theorem DenL.rev {K : PySem.W.Frag} {H : Hp} : ∀ {ds : List Dt} {vs : List V}, DenL K H ds vs → DenL K H ds.reverse vs.reverse
  | _, _, .nil => .nil
  | _, _, .cons h q => by
    rw [List.reverse_cons, List.reverse_cons]
    exact (DenL.rev q).append (.cons h .nil)
theorem ew_revL (h : EW K te Γ O fun d O1 => ∃ es, View O1 d (.lst es) ∧ Post (.lst es.reverse) O1) : EW K (tRevL K te) Γ O Post := fun w P σ H B S Q q =>
  h w P σ H B S _ fun d x O1 H1 B1 ⟨es, vw, p⟩ S1 => by
    have hx := S1.pi _ x List.mem_cons_self
    have S2 := S1.pins (P' := P) fun z hz => by simp [hz]
    obtain ⟨a, vs, rfl, h1, h2⟩ := vw.list S1 hx
    exact ⟨_, _, rfl, SqL.of h1, fun p' hp => q _ _ O1 _ _ p ((S2.new hp).pin (.lst upd_same (h2.rev.mono (same_upd (S2.bfree hp)))))⟩
/-! in -/
theorem rwi_L {es : List Dt} {neg : Bool} (v2 : View O e (.lst es)) (h1 : Dt.ok 30 d = true) (h2 : Dt.okL 30 es = true) (k : Post (.bl (if neg then !(es.any fun e => eqD e d) else es.any fun e => eqD e d)) O) : RW K (rInA K neg) d e O Post := fun w Γ P σ H B x y S hx hy Q q =>
  .inl ⟨d, es, _, hx.mono S.bh, .inl rfl, v2.den S hy, h1, h2, q _ _ O H B k (S.pin (.bl _))⟩
theorem rwi_T {es : List Dt} {neg : Bool} (h1 : Dt.ok 30 d = true) (h2 : Dt.okL 30 es = true) (k : Post (.bl (if neg then !(es.any fun e => eqD e d) else es.any fun e => eqD e d)) O) : RW K (rInA K neg) d (.tup es) O Post := fun w Γ P σ H B x y S hx hy Q q =>
  .inl ⟨d, es, _, hx.mono S.bh, .inr rfl, hy.mono S.bh, h1, h2, q _ _ O H B k (S.pin (.bl _))⟩
theorem rwi_c {c : Nat} {z : Str} {neg : Bool} (k : Post (.bl (if neg then !(decide (c ∈ z.cps.toList)) else decide (c ∈ z.cps.toList))) O) : RW K (rInA K neg) (.str ⟨#[c]⟩) (.str z) O Post := fun w Γ P σ H B x y S hx hy Q q => by
  cases hx
  cases hy
  exact .inr ⟨c, z, rfl, rfl, q _ _ O H B k (S.pin (.bl _))⟩
/-! what is walked -/
variable {PostI : List Dt → Option Addr → Own → Prop}
theorem iws_lst (h : EW K te Γ O fun d O1 => ∃ ds, d = .lst ds ∧ PostI ds none O1) : IW K (iSeq K te) Γ O PostI := fun w P σ H B S R q =>
  h w P σ H B S _ fun d v O1 H1 B1 ⟨ds, e, p⟩ S1 => by
    have hd := S1.pi d v List.mem_cons_self
    have S2 := S1.pins (P' := P) fun z hz => by simp [hz]
    subst e
    cases hd with
    | lst h1 h2 => exact .inl ⟨_, rfl, ⟨_, SqL.of (S1.bh _ _ h1)⟩, q ds none O1 _ H1 B1 p S2 (itd_list (SqL.of h1) h2)⟩
theorem iws_ro (h : EW K te Γ O fun d O1 => ∃ ds, d = .ro ds ∧ PostI ds none O1) : IW K (iSeq K te) Γ O PostI := fun w P σ H B S R q =>
  h w P σ H B S _ fun d v O1 H1 B1 ⟨ds, e, p⟩ S1 => by
    have hd := S1.pi d v List.mem_cons_self
    have S2 := S1.pins (P' := P) fun z hz => by simp [hz]
    subst e
    cases hd with
    | ro h1 h2 => exact .inl ⟨_, rfl, ⟨_, S1.bh.seq h1⟩, q ds none O1 _ H1 B1 p S2 (itd_list h1 h2)⟩
theorem iws_own (h : EW K te Γ O fun d O1 => ∃ p ds, d = .raw (.ref p) ∧ (p, .lst ds) ∈ O1 ∧ PostI ds (some p) O1) : IW K (iSeq K te) Γ O PostI := fun w P σ H B S R q =>
  h w P σ H B S _ fun d v O1 H1 B1 ⟨a, ds, e, hm, p⟩ S1 => by
    subst e
    have hd := S1.pi _ v List.mem_cons_self
    have S2 := S1.pins (P' := P) fun z hz => by simp [hz]
    cases hd
    obtain ⟨_, _, vs, h1, h2⟩ := S2.ow a _ hm
    exact .inl ⟨a, rfl, ⟨vs, SqL.of h1⟩, q ds (some a) O1 _ H1 B1 p S2 itd_own⟩
theorem iws_tup (h : EW K te Γ O fun d O1 => ∃ ds, d = .tup ds ∧ PostI ds none O1) : IW K (iSeq K te) Γ O PostI := fun w P σ H B S R q =>
  h w P σ H B S _ fun d v O1 H1 B1 ⟨ds, e, p⟩ S1 => by
    subst e
    have hd := S1.pi _ v List.mem_cons_self
    have S2 := S1.pins (P' := P) fun z hz => by simp [hz]
    cases hd with
    | tup h1 h2 => exact .inr (.inl ⟨_, rfl, ⟨_, sqT_mono S1.bh h1⟩, q ds none O1 _ H1 B1 p S2 (itd_tup h1 h2)⟩)
theorem itd_str {z : Str} {B1 : Hp} : ItD K (Its z) (z.cps.toList.map fun c => .str ⟨#[c]⟩) none B1 := by
  have hl : (z.cps.toList.map fun c => Dt.str ⟨#[c]⟩).length = z.cps.size := by simp
  refine ⟨fun i H B e1 e2 _ hi => ?_, fun i d H x H' B e1 e2 _ hi y => ?_, fun H B e1 e2 _ => ?_⟩
  · show i < z.cps.size
    rwa [hl] at hi
  · obtain ⟨rfl, c, hc, rfl⟩ := y
    refine ⟨B, Same.refl _, e2, Same.refl _, fun q hq => .inl hq, ?_⟩
    rw [List.getElem?_map, Array.getElem?_toList, hc] at hi
    cases hi
    exact .str _
  · show z.cps.size ≤ _
    rw [hl]; exact Nat.le_refl _
theorem iws_str (h : EW K te Γ O fun d O1 => ∃ z, d = .str z ∧ PostI (z.cps.toList.map fun c => .str ⟨#[c]⟩) none O1) : IW K (iSeq K te) Γ O PostI := fun w P σ H B S R q =>
  h w P σ H B S _ fun d v O1 H1 B1 ⟨z, e, p⟩ S1 => by
    subst e
    have hd := S1.pi _ v List.mem_cons_self
    have S2 := S1.pins (P' := P) fun z hz => by simp [hz]
    cases hd
    exact .inr (.inr ⟨z, rfl, q _ none O1 _ H1 B1 p S2 itd_str⟩)
/-- zip of two lists | tuples -/
theorem itd_pair {J : It} {n : Nat} {G : Hp → Prop} {fx fy : Nat → Option V} {ds es : List Dt} {B1 : Hp} (W : Walk J n G (YPair fx fy)) (hG : ∀ B H, Same B1 B → Same B H → G H) (hn : n = min ds.length es.length)
    (hx : ∀ (i : Nat) (d : Dt) x, ds[i]? = some d → fx i = some x → Den K B1 d x) (hy : ∀ (i : Nat) (d : Dt) x, es[i]? = some d → fy i = some x → Den K B1 d x) : ItD K J (List.zipWith (fun d e => .tup [d, e]) ds es) none B1 := by
  have hl : (List.zipWith (fun d e => Dt.tup [d, e]) ds es).length = n := by rw [List.length_zipWith, hn]
  refine ⟨fun i H B e1 e2 _ hi => W.goes i H (by rwa [hl] at hi) (hG B H e1 e2), fun i d H x H' B e1 e2 _ hi y => ?_, fun H B e1 e2 _ => by rw [hl]; exact W.stops H (hG B H e1 e2)⟩
  have hin : i < n := by
    have := (List.getElem?_eq_some_iff.mp hi).1
    rwa [hl] at this
  obtain ⟨T, a, b, rfl, hT, rfl, h1, h2⟩ := W.yields i H x H' hin (hG B H e1 e2) y
  have bT : B T = none := e2.free hT
  rw [List.getElem?_zipWith] at hi
  cases hd : ds[i]? with
  | none => rw [hd] at hi; cases hi
  | some d1 =>
    cases he : es[i]? with
    | none => rw [hd, he] at hi; cases hi
    | some e1' =>
      rw [hd, he] at hi
      cases hi
      refine ⟨upd B T (.tup [a, b]), same_upd bT, fun q u e => ?_, same_upd hT, fun q hq => ?_, .tup (SqT.of upd_same) (.cons (((hx i d1 a hd h1).mono e1).mono (same_upd bT)) (.cons (((hy i e1' b he h2).mono e1).mono (same_upd bT)) .nil))⟩
      · by_cases z : q = T
        · subst z; rw [upd_same] at e ⊢; exact e
        · rw [upd_ne z] at e ⊢; exact e2 _ _ e
      · rcases upd_some hq with rfl | z
        · exact .inr hT
        · exact .inl z
end
end DL
namespace DL
open PySem PySem.Spec PyProof.Rows L2
section
variable {K : PySem.W.Frag} {Γ : Gm} {O : Own} {Post : Dt → Own → Prop} {d e : Dt} {ta : TA} {te to : TE}
theorem ew_cb {r : List V → Hp → VK → Prop} (h : AW K ta Γ O fun ds O1 => CW K r ds O1 Post) : EW K (tCB r ta) Γ O Post := fun w P σ H B S Q q =>
  h w P σ H B S _ fun ds vs O1 H1 B1 p hd S1 => p w Γ P σ H1 B1 vs S1 hd Q q
theorem cw_lenL {es : List Dt} (v : View O d (.lst es)) (k : Post (.int es.length) O) : CW K (rLen K) [d] O Post := fun w Γ P σ H B xs S hd Q q => by
  cases hd with
  | cons h1 h2 =>
    cases h2
    obtain ⟨a, vs, rfl, g1, g2⟩ := v.list S h1
    exact .inl ⟨a, vs, rfl, .inl (SqL.of g1), q _ _ O H B k (S.pin (by rw [g2.length]; exact .int _))⟩
theorem cw_lenT {es : List Dt} (k : Post (.int es.length) O) : CW K (rLen K) [.tup es] O Post := fun w Γ P σ H B xs S hd Q q => by
  cases hd with
  | cons h1 h2 =>
    cases h2
    cases h1 with
    | tup g1 g2 => exact .inl ⟨_, _, rfl, .inr (sqT_mono S.bh g1), q _ _ O H B k (S.pin (by rw [g2.length]; exact .int _))⟩
theorem cw_lenR {es : List Dt} (k : Post (.int es.length) O) : CW K (rLen K) [.ro es] O Post := fun w Γ P σ H B xs S hd Q q => by
  cases hd with
  | cons h1 h2 =>
    cases h2
    cases h1 with
    | ro g1 g2 => exact .inl ⟨_, _, rfl, .inl (S.bh.seq g1), q _ _ O H B k (S.pin (by rw [g2.length]; exact .int _))⟩
theorem cw_lenS {z : Str} (hz : z.length ≤ sizeLine) (k : Post (.int z.length) O) : CW K (rLen K) [.str z] O Post := fun w Γ P σ H B xs S hd Q q => by
  cases hd with
  | cons h1 h2 =>
    cases h2
    cases h1
    exact .inr ⟨z, rfl, hz, q _ _ O H B k (S.pin (.int _))⟩
abbrev rMax2 : List V → Hp → VK → Prop := fun xs H Q => ∃ i j, xs = [V.int i, V.int j] ∧ Q (.int (if j > i then j else i)) H
abbrev rMin2 : List V → Hp → VK → Prop := fun xs H Q => ∃ i j, xs = [V.int i, V.int j] ∧ Q (.int (if j < i then j else i)) H
theorem cw_max2 {i j : Int} (k : Post (.int (max i j)) O) : CW K rMax2 [.int i, .int j] O Post := fun w Γ P σ H B xs S hd Q q => by
  cases hd with
  | cons h1 h2 =>
    cases h2 with
    | cons h2 h3 =>
      cases h3
      cases h1
      cases h2
      have e : (if j > i then j else i) = max i j := by split <;> omega
      exact ⟨i, j, rfl, by rw [e]; exact q _ _ O H B k (S.pin (.int _))⟩
theorem cw_min2 {i j : Int} (k : Post (.int (min i j)) O) : CW K rMin2 [.int i, .int j] O Post := fun w Γ P σ H B xs S hd Q q => by
  cases hd with
  | cons h1 h2 =>
    cases h2 with
    | cons h2 h3 =>
      cases h3
      cases h1
      cases h2
      have e : (if j < i then j else i) = min i j := by split <;> omega
      exact ⟨i, j, rfl, by rw [e]; exact q _ _ O H B k (S.pin (.int _))⟩
abbrev rInt1 : List V → Hp → VK → Prop := fun xs H Q => (∃ i, xs = [V.int i] ∧ Q (.int i) H) ∨ ∃ k, xs = [V.bl k] ∧ Q (.int (if k then 1 else 0)) H
theorem cw_intB {b : Bool} (k : Post (.int (if b then 1 else 0)) O) : CW K rInt1 [.bl b] O Post := fun w Γ P σ H B xs S hd Q q => by
  cases hd with
  | cons h1 h2 =>
    cases h2
    cases h1
    exact .inr ⟨b, rfl, q _ _ O H B k (S.pin (.int _))⟩
abbrev rTupleOf (K : PySem.W.Frag) : List V → Hp → VK → Prop := fun xs H Q => ∃ p ys, xs = [V.ref p] ∧ ((SqL K H p ys ∧ ∀ l, H l = none → Q (.ref l) (upd H l (.tup ys))) ∨ (SqT K H p ys ∧ Q (.ref p) H))
theorem cw_tupL {es : List Dt} (v : View O d (.lst es)) (k : Post (.tup es) O) : CW K (rTupleOf K) [d] O Post := fun w Γ P σ H B xs S hd Q q => by
  cases hd with
  | cons h1 h2 =>
    cases h2
    obtain ⟨a, vs, rfl, g1, g2⟩ := v.list S h1
    exact ⟨a, vs, rfl, .inl ⟨SqL.of g1, fun l hl => q _ _ O _ _ k ((S.new hl).pin (.tup (SqT.of upd_same) (g2.mono (same_upd (S.bfree hl)))))⟩⟩
theorem cw_tupT {es : List Dt} (k : Post (.tup es) O) : CW K (rTupleOf K) [.tup es] O Post := fun w Γ P σ H B xs S hd Q q => by
  cases hd with
  | cons h1 h2 =>
    cases h2
    cases h1 with
    | tup g1 g2 => exact ⟨_, _, rfl, .inr ⟨sqT_mono S.bh g1, q _ _ O H B k (S.pin (.tup g1 g2))⟩⟩
abbrev rListOf (K : PySem.W.Frag) : List V → Hp → VK → Prop := fun xs H Q => ∃ p ys, xs = [V.ref p] ∧ (SqL K H p ys ∨ SqT K H p ys) ∧ ∀ l, H l = none → Q (.ref l) (upd H l (.lst ys))
theorem cw_listL {es : List Dt} (v : View O d (.lst es)) (k : Post (.lst es) O) : CW K (rListOf K) [d] O Post := fun w Γ P σ H B xs S hd Q q => by
  cases hd with
  | cons h1 h2 =>
    cases h2
    obtain ⟨a, vs, rfl, g1, g2⟩ := v.list S h1
    exact ⟨a, vs, rfl, .inl (SqL.of g1), fun l hl => q _ _ O _ _ k ((S.new hl).pin (.lst upd_same (g2.mono (same_upd (S.bfree hl)))))⟩
theorem cw_listT {es : List Dt} (k : Post (.lst es) O) : CW K (rListOf K) [.tup es] O Post := fun w Γ P σ H B xs S hd Q q => by
  cases hd with
  | cons h1 h2 =>
    cases h2
    cases h1 with
    | tup g1 g2 => exact ⟨_, _, rfl, .inr (sqT_mono S.bh g1), fun l hl => q _ _ O _ _ k ((S.new hl).pin (.lst upd_same (g2.mono (same_upd (S.bfree hl)))))⟩
theorem den_bls {K : PySem.W.Frag} {B : Hp} : ∀ {bs : List Bool} {vs : List V}, DenL K B (bs.map Dt.bl) vs → vs = bs.map V.bl
  | [], _, h => by cases h; rfl
  | b :: bs, _, h => by
    cases h with
    | cons h1 h2 => cases h1; rw [den_bls h2]; rfl
theorem den_ints {K : PySem.W.Frag} {B : Hp} : ∀ {bs : List Int} {vs : List V}, DenL K B (bs.map Dt.int) vs → vs = bs.map V.int
  | [], _, h => by cases h; rfl
  | b :: bs, _, h => by
    cases h with
    | cons h1 h2 => cases h1; rw [den_ints h2]; rfl
theorem den_strs {K : PySem.W.Frag} {B : Hp} : ∀ {bs : List Str} {vs : List V}, DenL K B (bs.map Dt.str) vs → vs = bs.map V.str
  | [], _, h => by cases h; rfl
  | b :: bs, _, h => by
    cases h with
    | cons h1 h2 => cases h1; rw [den_strs h2]; rfl
theorem cw_all {bs : List Bool} {zs : List Dt} (v : View O d (.lst zs)) (ez : zs = bs.map .bl) (k : Post (.bl (bs.all id)) O) : CW K (rAll K) [d] O Post := fun w Γ P σ H B xs S hd Q q => by
  subst ez
  cases hd with
  | cons h1 h2 =>
    cases h2
    obtain ⟨a, vs, rfl, g1, g2⟩ := v.list S h1
    have e := den_bls g2
    subst e
    exact ⟨a, bs, rfl, SqL.of g1, q _ _ O H B k (S.pin (.bl _))⟩
theorem cw_sum {bs : List Int} {zs : List Dt} (v : View O d (.lst zs)) (ez : zs = bs.map .int) (k : Post (.int bs.sum) O) : CW K (rSum K) [d] O Post := fun w Γ P σ H B xs S hd Q q => by
  subst ez
  cases hd with
  | cons h1 h2 =>
    cases h2
    obtain ⟨a, vs, rfl, g1, g2⟩ := v.list S h1
    have e := den_ints g2
    subst e
    exact ⟨a, bs, rfl, SqL.of g1, q _ _ O H B k (S.pin (.int _))⟩
theorem cw_maxL {bs : List Int} {zs : List Dt} (v : View O d (.lst zs)) (ez : zs = bs.map .int) (h0 : 0 < bs.length) (k : ∀ m, m ∈ bs → (∀ y ∈ bs, y ≤ m) → Post (.int m) O) : CW K (rMax K) [d] O Post := fun w Γ P σ H B xs S hd Q q => by
  subst ez
  cases hd with
  | cons h1 h2 =>
    cases h2
    obtain ⟨a, vs, rfl, g1, g2⟩ := v.list S h1
    have e := den_ints g2
    subst e
    exact ⟨a, bs, rfl, SqL.of g1, h0, fun m hm hl => q _ _ O H B (k m hm hl) (S.pin (.int _))⟩
theorem cw_minL {bs : List Int} {zs : List Dt} (v : View O d (.lst zs)) (ez : zs = bs.map .int) (h0 : 0 < bs.length) (k : ∀ m, m ∈ bs → (∀ y ∈ bs, m ≤ y) → Post (.int m) O) : CW K (rMin K) [d] O Post := fun w Γ P σ H B xs S hd Q q => by
  subst ez
  cases hd with
  | cons h1 h2 =>
    cases h2
    obtain ⟨a, vs, rfl, g1, g2⟩ := v.list S h1
    have e := den_ints g2
    subst e
    exact ⟨a, bs, rfl, SqL.of g1, h0, fun m hm hl => q _ _ O H B (k m hm hl) (S.pin (.int _))⟩
/-! methods of an owned list -/
theorem ew_append {p : Addr} {ds : List Dt} {O2 : Own} (h : EW K to Γ O fun o O1 => o = .raw (.ref p) ∧ (∃ es, (p, .lst es) ∈ O1) ∧ EW K te Γ O1 fun d O' => O'.Perm ((p, .lst ds) :: O2) ∧ ds.length < sizeLine ∧ Post .non ((p, .lst (ds ++ [d])) :: O2)) :
    EW K (tBM K "list" rAppend to (tCons te tNil)) Γ O Post := fun w P σ H B S Q q =>
  h w P σ H B S _ fun o ov O1 H1 B1 ⟨e1, ⟨es, hm⟩, p1⟩ S1 => by
    subst e1
    have h1 := S1.pi _ ov List.mem_cons_self
    cases h1
    obtain ⟨_, _, us, g1, _⟩ := S1.ow p _ hm
    refine ⟨.inl ⟨rfl, us, SqL.of g1⟩, p1 w P σ H1 B1 (S1.pins fun z hz => by simp [hz]) _ fun d v O' H2 B2 ⟨hp, hz, p2⟩ S2 => ?_⟩
    have S3 := S2.perm hp
    obtain ⟨_, _, vs, h4, h5⟩ := S3.ow p _ List.mem_cons_self
    have hv := S3.pi d v List.mem_cons_self
    exact ⟨p, vs, v, rfl, rfl, h4, by rw [← h5.length]; exact hz, q _ _ _ _ _ p2 (((S3.pins (P' := P) fun z hz => by simp [hz]).write (c' := .lst (ds ++ [d])) ⟨_, upd_same, h5.append (.cons hv .nil)⟩).pin .non)⟩
theorem ew_pop0 {p : Addr} {d : Dt} {ds : List Dt} {O2 : Own} (h : EW K to Γ O fun o O1 => o = .raw (.ref p) ∧ O1.Perm ((p, .lst (d :: ds)) :: O2) ∧ Post d ((p, .lst ds) :: O2)) :
    EW K (tBM K "list" rPopAt to (tCons (tC (.int 0)) tNil)) Γ O Post := fun w P σ H B S Q q =>
  h w P σ H B S _ fun o ov O1 H1 B1 ⟨e1, hp, p1⟩ S1 => by
    subst e1
    have h1 := S1.pi _ ov List.mem_cons_self
    cases h1
    have S2 := (S1.perm hp).pins (P' := P) fun z hz => by simp [hz]
    obtain ⟨_, _, vs, h4, h5⟩ := S2.ow p _ List.mem_cons_self
    refine ⟨.inl ⟨rfl, vs, SqL.of h4⟩, ?_⟩
    cases h5 with
    | @cons _ v _ us hv hu =>
      exact ⟨p, v :: us, 0, 0, v, rfl, rfl, h4, by decide, by decide, by simp [seqIndex?], rfl, q _ _ _ _ _ p1 ((S2.write (c' := .lst ds) ⟨_, upd_same, hu⟩).pin (hv.mono (Same.refl _)))⟩
/-- a new owned list as a statement's value: x = [..] -/
theorem sw_setO {E : De} {i : Nat} (h : EW K te Γ O fun d O1 => E.nx (Γ.set i (some d)) O1) : SW K (tAsg te (gName i)) Γ O E := sw_set h
end
end DL
namespace DL
open PySem PySem.Spec PyProof.Rows L2
/-! ### isinstance -/
def tyD : Dt → String
  | .non => "NoneType"
  | .bl _ => "bool"
  | .int _ => "int"
  | .str _ => "str"
  | .tup _ => "tuple"
  | .lst _ => "list"
  | .ro _ => "list"
  | .raw _ => "?"
def instD (d : Dt) (T : String) : Bool := tyD d == T || (T == "int" && tyD d == "bool")
def isRaw : Dt → Bool
  | .raw _ => true
  | _ => false
def Ty5 (T : String) : Prop := T = "int" ∨ T = "bool" ∨ T = "str" ∨ T = "tuple" ∨ T = "list"
theorem kit_inst {K : PySem.W.Frag} {a T : String} (ha : a ∈ ["NoneType", "bool", "int", "str", "tuple", "list"]) (hT : Ty5 T) : PySem.W.kitOne K (.type a) (.type T) = some (a == T || (T == "int" && a == "bool")) := by
  refine kit_ty ?_
  rcases hT with rfl | rfl | rfl | rfl | rfl <;> (simp only [List.mem_cons, List.mem_nil_iff, or_false] at ha; rcases ha with rfl | rfl | rfl | rfl | rfl | rfl <;> decide +kernel)
theorem den_ty {K : PySem.W.Frag} {H : Hp} {d : Dt} {v : V} (h : Den K H d v) (hr : isRaw d = false) : TyX K H v (.type (tyD d)) ∧ tyD d ∈ ["NoneType", "bool", "int", "str", "tuple", "list"] := by
  cases h with
  | non => exact ⟨.base .non, by simp [tyD]⟩
  | bl b => exact ⟨.base (.bl b), by simp [tyD]⟩
  | int b => exact ⟨.base (.int b), by simp [tyD]⟩
  | str b => exact ⟨.base (.str b), by simp [tyD]⟩
  | tup h1 _ =>
    refine ⟨?_, by simp [tyD]⟩
    rcases h1 with (h1 | ⟨o, h1⟩) | ⟨o, its, n, e, c, _⟩
    · exact .base (.tup h1)
    · exact .fTuple h1
    · exact .kTuple e c
  | lst h1 _ => exact ⟨.base (.lst h1), by simp [tyD]⟩
  | ro h1 _ =>
    refine ⟨?_, by simp [tyD]⟩
    rcases h1 with (h1 | ⟨o, h1⟩) | ⟨o, its, n, e, c, _⟩
    · exact .base (.lst h1)
    · exact .base (.frz h1)
    · exact .kList e c
  | raw => cases hr
section
variable {K : PySem.W.Frag} {Γ : Gm} {O : Own} {Post : Dt → Own → Prop} {d e : Dt} {ta : TA} {te to : TE}
theorem cw_isi {d' : Dt} {T : String} (vw : View O d d') (hr : isRaw d' = false) (hT : Ty5 T) (k : Post (.bl (instD d' T)) O) : CW K (rIsi K) [d, .raw (.ty T)] O Post := fun w Γ P σ H B xs S hd Q q => by
  cases hd with
  | cons h1 h2 =>
    cases h2 with
    | cons h2 h3 =>
      cases h3
      cases h2
      obtain ⟨t1, t2⟩ := den_ty (vw.den S h1) hr
      exact ⟨_, _, _, _, _, rfl, .ty T, t1, kit_inst t2 hT, q _ _ O H B k (S.pin (.bl _))⟩
end
/-! ### comprehensions without a test -/
section
variable {K : PySem.W.Frag} {Γ : Gm} {O : Own} {Post : Dt → Own → Prop} {wi : TI} {g : TG} {te : TE} {vs : List Nat}
theorem ew_lcM {α : Type} (h : IW K wi Γ O fun ds o O1 => ∃ (enc : α → Dt) (as : List α) (v : α → Dt), ds = as.map enc ∧ (∀ p, o = some p → (p, .lst ds) ∈ O1) ∧ as.length ≤ 1000000 ∧
      (∀ a ∈ as, GW K g (· ∈ vs) (enc a) (wipeG Γ vs) O1 fun Γ2 O2 => EW K te Γ2 O2 fun y O4 => O4 = O1 ∧ y = v a) ∧ Post (.lst (as.map v)) O1) :
    EW K (tLc wi g tYes te vs) Γ O Post := by
  refine ew_lcP (α := α) fun w P σ H B S R q => h w P σ H B S R fun ds o O1 J H' B' ⟨enc, as, v, h1, h3, h4, h5, h6⟩ S' it => q ds o O1 J H' B' ⟨enc, as, fun _ => true, v, h1, h3, h4, fun a ha => ?_, ?_⟩ S' it
  · exact fun w P σ H B v' S hd Q q => h5 a ha w P σ H B v' S hd Q fun Γ2 O2 σ2 H2 B2 p2 S2 => q Γ2 O2 σ2 H2 B2 (tw_yes ⟨fun _ => p2.imp fun y O4 ⟨q1, q2⟩ => ⟨q1, rfl, q2⟩, fun z => nomatch z⟩) S2
  · rw [List.filter_eq_self.mpr fun _ _ => rfl]
    exact h6
end
/-! ### zip, enumerate -/
section
variable {K : PySem.W.Frag} {Γ : Gm} {O : Own} {PostI : List Dt → Option Addr → Own → Prop} {ta : TA}
theorem walk_zipT {a b : Addr} {xs ys : List V} {n : Nat} (hn : n = min xs.length ys.length) : Walk (RZ.ItzT K a b) n (fun H => SqT K H a xs ∧ SqT K H b ys) (YPair (fun i => xs[i]?) (fun i => ys[i]?)) :=
  ⟨fun i H hi h => ⟨xs, ys, xs[i]'(by omega), ys[i]'(by omega), h.1, h.2, List.getElem?_eq_getElem (by omega), List.getElem?_eq_getElem (by omega)⟩, fun H h => ⟨xs, ys, h.1, h.2, by omega⟩,
    fun i H x H' _ h ⟨T, u, v, e1, e2, e3, e4, e5⟩ => ⟨T, u, v, e1, e2, e3, e4 _ h.1, e5 _ h.2⟩⟩
theorem pi_zipG {X : Cx} {e e2 : Expr} {ta : TA} {p pos tpos : Pos} {elts : List Expr} {kk : Nat} (hg : Gl X "zip") (hm : X.mg "zip" = none) (ha : PA X [e, e2] ta)
    (hs : starEach [e, e2] X.env = (false, eval e X.env) :: starEach [e2] X.env := by rfl) (hpl : (backTo pos (starEach [e2] X.env)).any (·.1) = false := by rfl) :
    PI X (.Tuple elts kk tpos) (.Call (.Name "zip" p) [e, e2] [] pos) (RZ.iZipA X.K ta) := RZ.pi_zipA hg hm ha hs hpl
theorem iw_zipT (h : AW K ta Γ O fun ds O1 => ∃ xs ys, ds = [.tup xs, .tup ys] ∧ PostI (List.zipWith (fun d e => .tup [d, e]) xs ys) none O1) : IW K (RZ.iZipA K ta) Γ O PostI := fun w P σ H B S R q =>
  h w P σ H B S _ fun ds vs O1 H1 B1 ⟨xs, ys, e, p⟩ hd S1 => by
    subst e
    cases hd with
    | cons h1 h2 =>
      cases h2 with
      | cons h2 h3 =>
        cases h3
        cases h1 with
        | tup a1 a2 =>
          cases h2 with
          | tup b1 b2 =>
            exact ⟨_, _, _, _, rfl, .inr ⟨sqT_mono S1.bh a1, sqT_mono S1.bh b1, q _ none O1 _ H1 B1 p S1 (itd_pair (walk_zipT rfl) (fun B H e1 e2 => ⟨sqT_mono e2 (sqT_mono e1 a1), sqT_mono e2 (sqT_mono e1 b1)⟩) (by rw [a2.length, b2.length])
              (fun i d x hd hx => by obtain ⟨v, e1, e2⟩ := a2.get hd; rw [e1] at hx; cases hx; exact e2) (fun i d x hd hx => by obtain ⟨v, e1, e2⟩ := b2.get hd; rw [e1] at hx; cases hx; exact e2))⟩⟩
theorem iw_zipL (h : AW K ta Γ O fun ds O1 => ∃ xs ys, ds = [.lst xs, .lst ys] ∧ PostI (List.zipWith (fun d e => .tup [d, e]) xs ys) none O1) : IW K (RZ.iZipA K ta) Γ O PostI := fun w P σ H B S R q =>
  h w P σ H B S _ fun ds vs O1 H1 B1 ⟨xs, ys, e, p⟩ hd S1 => by
    subst e
    cases hd with
    | cons h1 h2 =>
      cases h2 with
      | cons h2 h3 =>
        cases h3
        cases h1 with
        | lst a1 a2 =>
          cases h2 with
          | lst b1 b2 =>
            exact ⟨_, _, _, _, rfl, .inl ⟨SqL.of (S1.bh _ _ a1), SqL.of (S1.bh _ _ b1), q _ none O1 _ H1 B1 p S1 (itd_pair (walk_zip rfl) (fun B H e1 e2 => ⟨SqL.of (e2 _ _ (e1 _ _ a1)), SqL.of (e2 _ _ (e1 _ _ b1))⟩) (by rw [a2.length, b2.length])
              (fun i d x hd hx => by obtain ⟨v, e1, e2⟩ := a2.get hd; rw [e1] at hx; cases hx; exact e2) (fun i d x hd hx => by obtain ⟨v, e1, e2⟩ := b2.get hd; rw [e1] at hx; cases hx; exact e2))⟩⟩
end
end DL
namespace DL
open PySem PySem.Spec PyProof.Rows L2
/-! ### the rules with the written part named (a block's context hides it) -/
section
variable {X : Cx} {K : PySem.W.Frag}
theorem plusK (hK : X.K = K := by rfl) : OpR X (binaryOp .Add) (rPlus K) := by subst hK; exact op_plus
theorem timesK (hK : X.K = K := by rfl) : OpR X (binaryOp .Mult) (rTimes K) := by subst hK; exact op_times
theorem eqK (hu : X.A.units + 64 < cLine) (hK : X.K = K := by rfl) : OpR X (compareOp .Eq) (rEqG K) := by subst hK; exact op_eqG hu
theorem neK (hu : X.A.units + 64 < cLine) (hK : X.K = K := by rfl) : OpR X (compareOp .NotEq) (rNeG K) := by subst hK; exact op_neG hu
theorem inK (hu : X.A.units + 64 < cLine) (hK : X.K = K := by rfl) : OpR X (compareOp .In) (rInA K false) := by subst hK; exact op_inA hu
theorem notInK (hu : X.A.units + 64 < cLine) (hK : X.K = K := by rfl) : OpR X (compareOp .NotIn) (rInA K true) := by subst hK; exact op_notInA hu
theorem ixK (hK : X.K = K := by rfl) : IxR X (rIx K) := by subst hK; exact ix_seq
theorem slK (hK : X.K = K := by rfl) : SlR X (rSl K) := by subst hK; exact sl_any
theorem lenK (hK : X.K = K := by rfl) : CallR X (.builtin "len") (rLen K) := by subst hK; exact call_lenG
theorem allK (hc : X.calm = true := by rfl) (hK : X.K = K := by rfl) : CallR X (.builtin "all") (rAll K) := by subst hK; exact cr_all hc
theorem sumK (hc : X.calm = true := by rfl) (hK : X.K = K := by rfl) : CallR X (.builtin "sum") (rSum K) := by subst hK; exact cr_sum hc
theorem maxK (hc : X.calm = true := by rfl) (hK : X.K = K := by rfl) : CallR X (.builtin "max") (rMax K) := by subst hK; exact cr_max hc
theorem minK (hc : X.calm = true := by rfl) (hK : X.K = K := by rfl) : CallR X (.builtin "min") (rMin K) := by subst hK; exact cr_min hc
theorem tupleK (hK : X.K = K := by rfl) : CallR X (.type "tuple") (rTupleOf K) := by subst hK; exact call_tuple_of
theorem listK (hK : X.K = K := by rfl) : CallR X (.type "list") (rListOf K) := by subst hK; exact call_list_of
theorem isiK (hK : X.K = K := by rfl) : CallR X (.builtin "isinstance") (rIsi K) := by subst hK; exact call_isi
theorem sortedIK (hK : X.K = K := by rfl) : CallR X (.builtin "sorted") (rSortedI K) := by subst hK; exact cr_sortedI
variable {T : String} {name : Str} {id : String} {r : V → List V → Hp → VK → Prop} {o : Expr} {to : TE} {e : Expr} {es : List Expr} {t : TA} {pos : Pos} {te : TE} {tg : Expr}
theorem pe_bmK {apos : Pos} (hK : X.K = K) (pa : PlainAttrs T) (slot : Slot T name id) (hty : typeOf (.builtin id) = pure (.type "method_descriptor")) (hm : MtR X id r) (ho : PE X o to) (ha : PA X (e :: es) t)
    (h : PE X (.Call (.Attribute o name apos) (e :: es) [] pos) (tBM X.K T r to t)) : PE X (.Call (.Attribute o name apos) (e :: es) [] pos) (tBM K T r to t) := by subst hK; exact h
theorem bmK {e : Expr} {t : TA} (h : PE X e (tBM X.K T r to t)) (hK : X.K = K := by rfl) : PE X e (tBM K T r to t) := by subst hK; exact h
theorem bm0K {e : Expr} (h : PE X e (tBM0 X.K T r to)) (hK : X.K = K := by rfl) : PE X e (tBM0 K T r to) := by subst hK; exact h
theorem seqK {l : Expr} {tl : TE} (hl : PE X l tl) (hK : X.K = K := by rfl) : PI X tg l (iSeq K tl) := by subst hK; exact pi_seq hl
theorem zipK {tg e : Expr} {ta : TA} (h : PI X tg e (RZ.iZipA X.K ta)) (hK : X.K = K := by rfl) : PI X tg e (RZ.iZipA K ta) := by subst hK; exact h
theorem revK {e : Expr} {t : TE} (h : PE X e (tRevL X.K t)) (hK : X.K = K := by rfl) : PE X e (tRevL K t) := by subst hK; exact h
theorem tupK {tg : Expr} {n : Nat} {t : TGs} (h : PG X tg (gTup X.K n t)) (hK : X.K = K := by rfl) : PG X tg (gTup K n t) := by subst hK; exact h
end
section
variable {K : PySem.W.Frag} {O : Own} {Post : Dt → Own → Prop} {d : Dt}
theorem rw_ixT_ {es : List Dt} {i : Int} (ha : atI es i = some d) (k : Post d O) : RW K (rIx K) (.tup es) (.int i) O Post := rw_ixT ha k
theorem rw_ixR {es : List Dt} {i : Int} (ha : atI es i = some d) (k : Post d O) : RW K (rIx K) (.ro es) (.int i) O Post := fun w Γ P σ H B x y S hx hy Q q => by
  cases hy
  cases hx with
  | ro h1 h2 =>
    obtain ⟨v, a1, a2⟩ := atI_den h2 ha
    exact .inl ⟨_, _, i, v, rfl, rfl, S.bh.seq h1, a1, q _ _ O H B k (S.pin a2)⟩
/-- a written tuple as data -/
theorem ew_den {Γ : Gm} {v : V} {Post : Dt → Own → Prop} (hd : ∀ H B : Hp, Den K B d v) (k : Post d O) : EW K (tC v) Γ O Post := fun w P σ H B S Q q => q _ _ O H B k (S.pin (hd H B))
end
end DL
namespace DL
open PySem PySem.Spec PyProof.Rows L2
/-! ### typed data -/
mutual
theorem ok_mono : ∀ {n m : Nat} {d : Dt}, n ≤ m → Dt.ok n d = true → Dt.ok m d = true
  | _, _, .non, _, _ => by simp [Dt.ok]
  | _, _, .bl _, _, _ => by simp [Dt.ok]
  | _, _, .int _, _, _ => by simp [Dt.ok]
  | _, _, .str _, _, _ => by simp [Dt.ok]
  | 0, _, .tup _, _, h => by simp [Dt.ok] at h
  | 0, _, .lst _, _, h => by simp [Dt.ok] at h
  | n + 1, m, .tup xs, hl, h => by
    obtain ⟨k, rfl⟩ : ∃ k, m = k + 1 := ⟨m - 1, by omega⟩
    simp only [Dt.ok] at h ⊢
    exact okL_mono (by omega) h
  | n + 1, m, .lst xs, hl, h => by
    obtain ⟨k, rfl⟩ : ∃ k, m = k + 1 := ⟨m - 1, by omega⟩
    simp only [Dt.ok] at h ⊢
    exact okL_mono (by omega) h
  | 0, _, .ro _, _, h => by simp [Dt.ok] at h
  | n + 1, _, .ro _, _, h => by simp [Dt.ok] at h
  | 0, _, .raw _, _, h => by simp [Dt.ok] at h
  | n + 1, _, .raw _, _, h => by simp [Dt.ok] at h
theorem okL_mono : ∀ {n m : Nat} {ds : List Dt}, n ≤ m → Dt.okL n ds = true → Dt.okL m ds = true
  | _, _, [], _, _ => rfl
  | n, m, d :: ds, hl, h => by
    simp only [Dt.okL, Bool.and_eq_true] at h ⊢
    exact ⟨ok_mono hl h.1, okL_mono hl h.2⟩
end
class Enc (α : Type) [DecidableEq α] where
  enc : α → Dt
  dep : Nat
  ok : ∀ x, Dt.ok dep (enc x) = true
  eq : ∀ x y, eqD (enc x) (enc y) = decide (x = y)
open Enc (enc)
structure T2 (α β : Type) where
  a : α
  b : β
  deriving DecidableEq
structure T3 (α β γ : Type) where
  a : α
  b : β
  c : γ
  deriving DecidableEq
structure T4 (α β γ δ : Type) where
  a : α
  b : β
  c : γ
  d : δ
  deriving DecidableEq
structure T5 (α β γ δ ε : Type) where
  a : α
  b : β
  c : γ
  d : δ
  e : ε
  deriving DecidableEq
instance : Enc Int := ⟨.int, 0, fun _ => by simp [Dt.ok], fun x y => by simp [eqD]⟩
instance : Enc Nat := ⟨fun n => .int (n : Int), 0, fun _ => by simp [Dt.ok], fun x y => by simp only [eqD, decide_eq_decide]; omega⟩
instance : Enc Str := ⟨.str, 0, fun _ => by simp [Dt.ok], fun x y => by simp [eqD]⟩
instance : Enc Bool := ⟨.bl, 0, fun _ => by simp [Dt.ok], fun x y => by cases x <;> cases y <;> rfl⟩
section
variable {α β γ δ ε : Type} [DecidableEq α] [DecidableEq β] [DecidableEq γ] [DecidableEq δ] [DecidableEq ε] [Enc α] [Enc β] [Enc γ] [Enc δ] [Enc ε]
theorem eqDL_map : ∀ xs ys : List α, eqDL (xs.map enc) (ys.map enc) = decide (xs = ys)
  | [], [] => by simp [eqDL]
  | [], _ :: _ => by simp [eqDL]
  | _ :: _, [] => by simp [eqDL]
  | x :: xs, y :: ys => by
    simp only [List.map_cons, eqDL, Enc.eq, eqDL_map xs ys, List.cons.injEq]
    by_cases h1 : x = y <;> by_cases h2 : xs = ys <;> simp [h1, h2]
theorem okL_map (n : Nat) (h : Enc.dep α ≤ n) (xs : List α) : Dt.okL n (xs.map enc) = true := by
  rw [okL_iff]
  intro d hd
  obtain ⟨x, _, rfl⟩ := List.mem_map.mp hd
  exact ok_mono h (Enc.ok x)
/-- a list, a tuple of many -/
abbrev encL (xs : List α) : Dt := .lst (xs.map enc)
abbrev encU (xs : List α) : Dt := .tup (xs.map enc)
instance : Enc (List α) := ⟨encL, Enc.dep α + 1, fun xs => by simp only [encL, Dt.ok]; exact okL_map _ (Nat.le_refl _) xs, fun x y => by simp only [encL, eqD]; exact eqDL_map x y⟩
instance : Enc (T2 α β) := ⟨fun p => .tup [enc p.a, enc p.b], max (Enc.dep α) (Enc.dep β) + 1, fun p => by
  simp only [Dt.ok, Dt.okL, Bool.and_true, Bool.and_eq_true]
  exact ⟨ok_mono (by omega) (Enc.ok p.a), ok_mono (by omega) (Enc.ok p.b)⟩, fun x y => by
  obtain ⟨x1, x2⟩ := x
  obtain ⟨y1, y2⟩ := y
  simp only [eqD, eqDL, Enc.eq, Bool.and_true, T2.mk.injEq]
  by_cases h1 : x1 = y1 <;> by_cases h2 : x2 = y2 <;> simp [h1, h2]⟩
instance : Enc (T3 α β γ) := ⟨fun p => .tup [enc p.a, enc p.b, enc p.c], max (Enc.dep α) (max (Enc.dep β) (Enc.dep γ)) + 1, fun p => by
  simp only [Dt.ok, Dt.okL, Bool.and_true, Bool.and_eq_true]
  exact ⟨ok_mono (by omega) (Enc.ok p.a), ok_mono (by omega) (Enc.ok p.b), ok_mono (by omega) (Enc.ok p.c)⟩, fun x y => by
  obtain ⟨x1, x2, x3⟩ := x
  obtain ⟨y1, y2, y3⟩ := y
  simp only [eqD, eqDL, Enc.eq, Bool.and_true, T3.mk.injEq]
  by_cases h1 : x1 = y1 <;> by_cases h2 : x2 = y2 <;> by_cases h3 : x3 = y3 <;> simp [h1, h2, h3]⟩
instance : Enc (T4 α β γ δ) := ⟨fun p => .tup [enc p.a, enc p.b, enc p.c, enc p.d], max (Enc.dep α) (max (Enc.dep β) (max (Enc.dep γ) (Enc.dep δ))) + 1, fun p => by
  simp only [Dt.ok, Dt.okL, Bool.and_true, Bool.and_eq_true]
  exact ⟨ok_mono (by omega) (Enc.ok p.a), ok_mono (by omega) (Enc.ok p.b), ok_mono (by omega) (Enc.ok p.c), ok_mono (by omega) (Enc.ok p.d)⟩, fun x y => by
  obtain ⟨x1, x2, x3, x4⟩ := x
  obtain ⟨y1, y2, y3, y4⟩ := y
  simp only [eqD, eqDL, Enc.eq, Bool.and_true, T4.mk.injEq]
  by_cases h1 : x1 = y1 <;> by_cases h2 : x2 = y2 <;> by_cases h3 : x3 = y3 <;> by_cases h4 : x4 = y4 <;> simp [h1, h2, h3, h4]⟩
instance : Enc (T5 α β γ δ ε) := ⟨fun p => .tup [enc p.a, enc p.b, enc p.c, enc p.d, enc p.e], max (Enc.dep α) (max (Enc.dep β) (max (Enc.dep γ) (max (Enc.dep δ) (Enc.dep ε)))) + 1, fun p => by
  simp only [Dt.ok, Dt.okL, Bool.and_true, Bool.and_eq_true]
  exact ⟨ok_mono (by omega) (Enc.ok p.a), ok_mono (by omega) (Enc.ok p.b), ok_mono (by omega) (Enc.ok p.c), ok_mono (by omega) (Enc.ok p.d), ok_mono (by omega) (Enc.ok p.e)⟩, fun x y => by
  obtain ⟨x1, x2, x3, x4, x5⟩ := x
  obtain ⟨y1, y2, y3, y4, y5⟩ := y
  simp only [eqD, eqDL, Enc.eq, Bool.and_true, T5.mk.injEq]
  by_cases h1 : x1 = y1 <;> by_cases h2 : x2 = y2 <;> by_cases h3 : x3 = y3 <;> by_cases h4 : x4 = y4 <;> by_cases h5 : x5 = y5 <;> simp [h1, h2, h3, h4, h5]⟩
theorem ok60 {n : Nat} (h : Enc.dep α ≤ n) (x : α) : Dt.ok n (enc x) = true := ok_mono h (Enc.ok x)
variable {K : PySem.W.Frag} {O : Own} {Post : Dt → Own → Prop}
/-- ==, != of typed data -/
theorem rw_eqE {d e : Dt} (x y : α) (v1 : View O d (enc x)) (v2 : View O e (enc y)) (k : Post (.bl (decide (x = y))) O) (h : Enc.dep α ≤ 60 := by decide) : RW K (rEqG K) d e O Post := by
  refine rw_eq v1 v2 (ok60 h x) (ok60 h y) ?_
  rw [Enc.eq]; exact k
theorem rw_neE {d e : Dt} (x y : α) (v1 : View O d (enc x)) (v2 : View O e (enc y)) (k : Post (.bl (!decide (x = y))) O) (h : Enc.dep α ≤ 60 := by decide) : RW K (rNeG K) d e O Post := by
  refine rw_ne v1 v2 (ok60 h x) (ok60 h y) ?_
  rw [Enc.eq]; exact k
theorem any_enc (x : α) : ∀ xs : List α, ((xs.map enc).any fun e => eqD e (enc x)) = decide (x ∈ xs)
  | [] => by simp
  | y :: ys => by
    simp only [List.map_cons, List.any_cons, Enc.eq, any_enc x ys, List.mem_cons]
    by_cases h1 : y = x
    · subst h1; simp
    · have h2 : ¬ x = y := fun z => h1 z.symm
      simp [h1, h2]
theorem rwi_E {d e : Dt} {neg : Bool} (x : α) (xs : List α) (e1 : d = enc x) (v2 : View O e (.lst (xs.map enc))) (k : Post (.bl (if neg then !decide (x ∈ xs) else decide (x ∈ xs))) O) (h : Enc.dep α ≤ 30 := by decide) : RW K (rInA K neg) d e O Post := by
  subst e1
  refine rwi_L v2 (ok60 h x) (okL_map 30 h xs) ?_
  rw [any_enc]; exact k
/-- an item of many -/
theorem atI_map {xs : List α} {i : Nat} (h : i < xs.length) : atI (xs.map enc) (i : Int) = some (enc xs[i]) := atI_nat (by rw [List.getElem?_map, List.getElem?_eq_getElem h]; rfl)
end
/-- a word between two statements -/
theorem sw_cut {K : PySem.W.Frag} {Γ : Gm} {O : Own} {E : De} {t u : TS} (Mid : Gm → Own → Prop) (h1 : SW K t Γ O { E with nx := Mid }) (h2 : ∀ Γ' O', Mid Γ' O' → SW K u Γ' O' E) : SW K (tSeq t u) Γ O E :=
  sw_seq (h1.imp h2 (fun _ _ q => q) (fun _ _ q => q) fun _ _ q => q)
theorem sw_mid {K : PySem.W.Frag} {Γ : Gm} {O : Own} {E : De} {t : TS} (Mid : Gm → Own → Prop) (h1 : SW K t Γ O { E with nx := Mid }) (h2 : ∀ Γ' O', Mid Γ' O' → E.nx Γ' O') : SW K t Γ O E :=
  h1.imp h2 (fun _ _ q => q) (fun _ _ q => q) fun _ _ q => q
theorem ew_slA {K : PySem.W.Frag} {Γ : Gm} {O : Own} {Post : Dt → Own → Prop} {te : TE} {tl th : TO} (h : EW K te Γ O fun d O1 => PW K tl Γ O1 fun lo O2 => PW K th Γ O2 fun hi O3 => (∃ es, d = .tup es ∧ Post (.tup (cutD es lo hi)) O3) ∨ (∃ es, View O3 d (.lst es) ∧ Post (.lst (cutD es lo hi)) O3)) :
    EW K (tSl (rSl K) te tl th) Γ O Post := fun w P σ H B S Q q =>
  h w P σ H B S _ fun d x O1 H1 B1 p1 S1 => p1 w _ σ H1 B1 S1 _ fun lo O2 H2 B2 p2 S2 => p2 w _ σ H2 B2 S2 _ fun hi O3 H3 B3 p3 S3 => by
    have hx := S3.pi _ x List.mem_cons_self
    have S3' := S3.pins (P' := P) fun z hz => by simp [hz]
    rcases p3 with ⟨es, e, p3⟩ | ⟨es, vw, p3⟩
    · subst e
      left
      cases hx with
      | tup h1 h2 =>
        refine ⟨_, _, rfl, sqT_mono S3.bh h1, fun hw => ?_, fun _ p hp => q _ _ O3 _ _ p3 ((S3'.new hp).pin (.tup (SqT.of upd_same) ((cutD_den h2).mono (same_upd (S3.bfree hp)))))⟩
        have e2 : cutD es lo hi = es := by
          have hl := h2.length
          unfold cutD
          rw [hl, hw.1, hw.2, Nat.sub_zero, List.drop_zero, ← hl, List.take_length]
        rw [e2] at p3
        exact q _ _ O3 _ _ p3 (S3'.pin (.tup h1 h2))
    · right
      obtain ⟨a, vs, rfl, h1, h2⟩ := vw.list S3 hx
      exact ⟨_, _, rfl, SqL.of h1, fun p hp => q _ _ O3 _ _ p3 ((S3'.new hp).pin (.lst upd_same ((cutD_den h2).mono (same_upd (S3.bfree hp)))))⟩
theorem ew_drop {K : PySem.W.Frag} {Γ : Gm} {O : Own} {Post : Dt → Own → Prop} {t : TE} (h : EW K t Γ O fun d O1 => ∃ (p : Addr) (c : Cell) (O2 : Own), O1.Perm ((p, c) :: O2) ∧ Post d O2) : EW K t Γ O Post := fun w P σ H B S Q q =>
  h w P σ H B S Q fun d v O1 H1 B1 ⟨p, c, O2, hp, p1⟩ S1 => q d v O2 H1 B1 p1 ((S1.perm hp).drop)
theorem sw_drop_own {K : PySem.W.Frag} {Γ : Gm} {O O2 : Own} {E : De} {t : TS} {p : Addr} {c : Cell} (hp : O.Perm ((p, c) :: O2)) (h : SW K t Γ O2 E) : SW K t Γ O E := sw_perm hp h.drop
theorem tw_perm {K : PySem.W.Frag} {Γ : Gm} {O O' : Own} {Post : Bool → Own → Prop} {t : TT} (hp : O.Perm O') (h : TW K t Γ O' Post) : TW K t Γ O Post := fun w P σ H B S => h w P σ H B (S.perm hp)
abbrev rIsN : R2 := fun x y H Q => y = V.non ∧ Q (.bl (decide (x = V.non))) H
abbrev rNotN : R2 := fun x y H Q => y = V.non ∧ Q (.bl (!decide (x = V.non))) H
end DL
/-! enumerate(list | tuple) -/
namespace PySem
open Sem (wp)
set_option maxHeartbeats 1000000 in
theorem meets_en1 {vv : Value} {oo : Obj} {HH : Heap → Prop} (BB : Begins vv oo HH) :
    Meets (Builtin.«enumerate.__new__» ⟨[.type "enumerate", vv], []⟩) (fun _ RR ss => HH ss.heap ∧
      RR (.ok (.ret (.ref (ss.heap.push oo).objs.size))) { ss with heap := (ss.heap.push oo).push { cls := .type "enumerate", data := .fields #[.none, .bool false, .ref ss.heap.objs.size, rawInt 0, .none, .none] } }) :=
  .of_wp fun pg ww AA RR ss hh => by
    obtain ⟨hp, gg, dd, tk, os⟩ := ss
    obtain ⟨k1, kk⟩ := hh
    have hsb := sub_enumerate
    have qq : ∀ {A' : Around} {E : Value → Shared → Prop} {Q : Value → Shared → Prop}, Q (.ref hp.objs.size) ⟨hp.push oo, gg, dd, tk, os⟩ → wpAny (model pg ww) A' (pyIter vv) Q E ⟨hp, gg, dd, tk, os⟩ :=
      fun z => BB.iter pg ww _ _ ⟨hp, gg, dd, tk, os⟩ _ k1 z
    wp_walk using qq
    refine wpAny_stack_any (fun _ => wpAny_pure ?_)
    split
    · rename_i cc _ _ _ _ _
      cases (cc == Value.type "enumerate") <;> (wp_walk using qq; exact ⟨_, rfl, kk⟩)
    · wp_walk using qq
      exact ⟨_, rfl, kk⟩
theorem call_en1 {prog : Program} {w : World} {A : Around} {E : Value → Shared → Prop} {s : Shared} {vv : Value} {oo : Obj} {HH : Heap → Prop} {Q : Value → Shared → Prop} (BB : Begins vv oo HH) (h1 : HH s.heap)
    (kk : ∀ h', IsEnum h' (s.heap.objs.size + 1) s.heap.objs.size 0 .none → h'.get? s.heap.objs.size = some oo → (∀ b o, s.heap.get? b = some o → h'.get? b = some o) → Q (.ref (s.heap.objs.size + 1)) { s with heap := h' }) :
    wpAny (model prog w) A (call (.type "enumerate") [vv]) Q E s := by
  refine callType_new F.called_enumerate (by decide) (F.typeCall_enumerate_1 _) (F.newCall_enumerate_1 _) (fun ob => F.args_object_init_2 ob _) F.entry_enumerate_new (meets_en1 BB) ⟨h1, ?_⟩
  have zz : (s.heap.push oo).objs.size = s.heap.objs.size + 1 := Heap.size_push ..
  show _ ∧ _
  rw [zz]
  have en : IsEnum ((s.heap.push oo).push { cls := .type "enumerate", data := .fields #[.none, .bool false, .ref s.heap.objs.size, rawInt 0, .none, .none] }) (s.heap.objs.size + 1) s.heap.objs.size 0 .none := by
    have y := Heap.get?_push_size (s.heap.push oo) (o := { cls := .type "enumerate", data := .fields #[.none, .bool false, .ref s.heap.objs.size, rawInt 0, .none, .none] }) rfl
    rwa [zz] at y
  exact ⟨⟨_, en, rfl⟩, kk _ en (Heap.get?_push_of_some _ (Heap.get?_push_size _ BB.free)) fun b o x => Heap.get?_push_of_some _ (Heap.get?_push_of_some _ x)⟩
end PySem
namespace DL
open PySem PySem.Spec PyProof.Rows L2
/-- the tuple at a, each item in a new pair -/
def IteT (K : PySem.W.Frag) (a : Addr) : It :=
  ⟨fun i H => ∃ (xs : List V) (x : V), SqT K H a xs ∧ xs[i]? = some x, fun i H v H' => ∃ TT x, v = .ref TT ∧ H TT = none ∧ H' = upd H TT (.tup [.int (i : Nat), x]) ∧ ∀ xs, SqT K H a xs → xs[i]? = some x, fun i H => ∃ xs : List V, SqT K H a xs ∧ xs.length = i⟩
theorem turn_enT {P : Program} {w : World} {K : PySem.W.Frag} {elts : List Expr} {kk : Nat} {tpos : Pos} (a e it : Addr) (hai : a ≠ it) (hae : a ≠ e) :
    Turn P w K (.Tuple elts kk tpos) (IteT K a) [e, it] e (fun i h => (∃ old, IsEnum h e it ((i : Nat) : Int) old) ∧ h.IsTupleIter it a i ∧ e ≠ it) where
  mem := List.mem_cons_self
  obj := fun i h st b hb => by
    obtain ⟨⟨old, he⟩, ⟨o, ho, hc, hd⟩, _⟩ := st
    rcases List.mem_cons.mp hb with z | hb
    · subst z; exact ⟨_, he, fun v q => nomatch q⟩
    · rw [List.mem_singleton] at hb
      subst hb
      refine ⟨o, ho, fun v q => ?_⟩
      rw [hd] at q; cases q
  keep := fun i h h' ⟨⟨old, he⟩, hi, hne⟩ k => ⟨⟨old, k e List.mem_cons_self _ he⟩, hi.at fun o q => k it (List.mem_cons_of_mem _ List.mem_cons_self) o q, hne⟩
  item := by
    intro X hP hw hK hc i pins s σ H E I hf st hg
    subst hP hw hK
    obtain ⟨⟨old, he⟩, hit, hne⟩ := st
    obtain ⟨xs, x, hq, hx⟩ := hg
    obtain ⟨its, rv, p, hz⟩ := I.tuple hq
    obtain ⟨u, hu, ru⟩ := rv.get hx
    have hel : e < s.heap.objs.size := Heap.lt_size he
    have hil : it < s.heap.objs.size := by obtain ⟨_, q, _⟩ := hit; exact Heap.lt_size q
    have hlt : i < its.toArray.size := by
      have := (List.getElem?_eq_some_iff.mp hu).1
      simpa using this
    refine wpAny_pyNext_enum_itemD (Draws.tuple (A := X.A.in1) (show X.A.in1.handled = none from I.ok.hd hc) it a hai its.toArray) he ⟨hit, show s.heap.IsTuple a its.toArray from p⟩ hlt hne ?_ ?_
    · intro q
      rcases List.mem_cons.mp q with q | q
      · exact hne q
      · rw [List.mem_singleton] at q; exact hae q.symm
    intro v h' tk hv ho hst hT hsz hk
    have ev : v = u := by
      have : its.toArray[i]? = some u := by simpa using hu
      rw [this] at hv
      exact (Option.some.inj hv).symm
    subst ev
    refine ⟨_, rfl, wpAny_letOwnedTupleGo_enum (s := { s with heap := h', toks := tk + 1 }) ho fun h'' he' sb => ?_⟩
    have hT2 : h''.get? s.heap.objs.size = some { cls := .type "tuple", data := .seq #[.int i tk, v] } := (sb.2 _ (Nat.ne_of_gt hel)).trans hT
    have new : ObjOk X.prog X.w (upd H s.heap.objs.size (.tup [.int (i : Nat), x])) h'' s.heap.objs.size (.tup [.int (i : Nat), x]) :=
      ⟨show 2 ≤ sizeLine by decide, [.int i tk, v], .cons ⟨_, rfl⟩ (.cons ru .nil), ⟨_, hT2, rfl, _, rfl⟩⟩
    have I1 : Inv X pins σ (upd H s.heap.objs.size (.tup [.int (i : Nat), x])) { s with heap := h'', toks := tk + 1 } :=
      I.turnedNew (t' := tk + 1) (ch := [e, it]) (fun b ob hb q => (sb.2 b (fun z => hb (by simp [z]))).trans (hk b ob (fun z => hb (by simp [z])) (fun z => hb (by simp [z])) q)) hf (Nat.le_refl _) new
    refine ⟨.ref s.heap.objs.size, _, I1, rfl, ⟨_, x, rfl, I.hok.fresh (Nat.le_refl _), rfl, fun ys hy => by rw [I.tuple_inj hy hq]; exact hx⟩, ⟨⟨v, ?_⟩, hst.1.at fun o q => (sb.2 it (Ne.symm hne)).trans q, hne⟩, fun b hb => ?_⟩
    · have e1 : ((i + 1 : Nat) : Int) = (i : Int) + 1 := by omega
      rw [e1]; exact he'
    · have hb' : b < s.heap.objs.size := by
        rcases List.mem_cons.mp hb with z | z
        · rw [z]; exact hel
        · rw [List.mem_singleton] at z; rw [z]; exact hil
      rw [upd_ne (Nat.ne_of_lt hb')]
      exact (hf b hb).1
  done := by
    intro X hP hw hK hc i pins s σ H E I hf st hg
    subst hP hw hK
    obtain ⟨⟨old, he⟩, hit, hne⟩ := st
    obtain ⟨xs, hq, hx⟩ := hg
    obtain ⟨its, rv, p, hz⟩ := I.tuple hq
    obtain ⟨f0, f1, f2, f3, f4, f5⟩ := hf it (List.mem_cons_of_mem _ List.mem_cons_self)
    have hl := rv.length
    have hi : its.toArray.size = i := by simp; omega
    refine wpAny_pyNext_enum_endD (Draws.tuple (A := X.A.in1) (show X.A.in1.handled = none from I.ok.hd hc) it a hai its.toArray) he ?_ fun h' eb => ⟨rfl, I.turned (t' := s.toks) (fun b o hb q => eb b o hb q) f0 f1 f3 f4 f5⟩
    rw [hi]
    exact ⟨hit, show s.heap.IsTuple a its.toArray from p⟩
  self := fun A i s Q E st h => wpAny_pyIter_enum st.1.choose_spec h
def iEnumG (K : PySem.W.Frag) (ta : TA) : TI := fun σ H R => ta σ H fun vs H1 => ∃ a xs, vs = [.ref a] ∧ ((SqL K H1 a xs ∧ R (Ite K a) H1) ∨ (SqT K H1 a xs ∧ R (IteT K a) H1))
theorem pi_enumG {X : Cx} {e : Expr} {ta : TA} {p pos tpos : Pos} {elts : List Expr} {kk : Nat} (hg : Gl X "enumerate") (hm : X.mg "enumerate" = none) (ha : PA X [e] ta) (hs : starEach [e] X.env = [(false, eval e X.env)] := by rfl) :
    PI X (.Tuple elts kk tpos) (.Call (.Name "enumerate" p) [e] [] pos) (iEnumG X.K ta) := by
  refine ⟨fun pins s σ H R I h => Call_ (ld_blt I hg hm boot_enumerate (PyProof.Rows.callWith_type1 (thn (ha.run pos pins s σ H _ I h) fun us s1 ⟨vs, H1, I1, r1, q1⟩ => ?_) hs rfl))⟩
  obtain ⟨a, xs, ex, q⟩ := q1
  subst ex
  cases r1 with
  | cons r rr =>
    cases rr
    cases r
    have fr : ∀ b, b ∈ [s1.heap.objs.size + 1, s1.heap.objs.size] → FpOk X pins H1 b := fun b hb => by
      have hle : s1.heap.objs.size ≤ b := by
        rcases List.mem_cons.mp hb with z | z
        · rw [z]; exact Nat.le_add_right _ _
        · rw [List.mem_singleton] at z; rw [z]; exact Nat.le_refl _
      exact I1.fpOk hle (I1.hok.fresh hle)
    rcases q with ⟨hq, q⟩ | ⟨hq, q⟩
    · obtain ⟨its, rv, p', hz⟩ := I1.list hq
      refine call_en1 (begins_list a its.toArray) p'.isList fun h' he hit hk => wpAny_pyIter_enum he ?_
      exact ⟨s1.heap.objs.size + 1, [s1.heap.objs.size + 1, s1.heap.objs.size], _, _, H1, rfl, I1.kept (t' := s1.toks) hk, turn_enum a (s1.heap.objs.size + 1) s1.heap.objs.size, ⟨⟨.none, he⟩, ⟨_, hit, rfl, rfl⟩, Nat.succ_ne_self _⟩, fr, q⟩
    · obtain ⟨its, rv, p', hz⟩ := I1.tuple hq
      have pt : s1.heap.IsTuple a its.toArray := p'
      have al : a < s1.heap.objs.size := by
        obtain ⟨o, ho, _⟩ := pt
        exact Heap.lt_size ho
      refine call_en1 (begins_tuple a its.toArray) pt fun h' he hit hk => wpAny_pyIter_enum he ?_
      exact ⟨s1.heap.objs.size + 1, [s1.heap.objs.size + 1, s1.heap.objs.size], _, _, H1, rfl, I1.kept (t' := s1.toks) hk, turn_enT a (s1.heap.objs.size + 1) s1.heap.objs.size (Nat.ne_of_lt al) (Nat.ne_of_lt (Nat.lt_succ_of_lt al)), ⟨⟨.none, he⟩, ⟨_, hit, rfl, rfl⟩, Nat.succ_ne_self _⟩, fr, q⟩
section
variable {K : PySem.W.Frag} {Γ : Gm} {O : Own} {PostI : List Dt → Option Addr → Own → Prop} {ta : TA}
theorem walk_enT {a : Addr} {xs : List V} : Walk (IteT K a) xs.length (fun H => SqT K H a xs) (YPair (fun i => some (.int (i : Nat))) (fun i => xs[i]?)) :=
  ⟨fun i _ hi q => ⟨xs, xs[i], q, List.getElem?_eq_getElem hi⟩, fun _ q => ⟨xs, q, rfl⟩, fun i H v H' _ q ⟨T, x, h1, h2, h3, h4⟩ => ⟨T, .int (i : Nat), x, h1, h2, h3, rfl, h4 xs q⟩⟩
theorem rng_den {K : PySem.W.Frag} {B : Hp} {n i : Nat} {d : Dt} {x : V} (hd : (rngD 0 n)[i]? = some d) (hx : (some (.int (i : Nat)) : Option V) = some x) : Den K B d x := by
  obtain ⟨_, rfl⟩ := rngD_get hd
  cases hx
  rw [Int.zero_add]
  exact .int _
/-- enumerate(list), enumerate(tuple) -/
theorem iw_enumL (h : AW K ta Γ O fun ds O1 => ∃ xs, ds = [.lst xs] ∧ PostI (List.zipWith (fun d e => .tup [d, e]) (rngD 0 xs.length) xs) none O1) : IW K (iEnumG K ta) Γ O PostI := fun w P σ H B S R q =>
  h w P σ H B S _ fun ds vs O1 H1 B1 ⟨xs, e, p⟩ hd S1 => by
    subst e
    cases hd with
    | cons h1 h2 =>
      cases h2
      cases h1 with
      | lst a1 a2 =>
        refine ⟨_, _, rfl, .inl ⟨SqL.of (S1.bh _ _ a1), q _ none O1 _ H1 B1 p S1 (itd_pair walk_enum (fun B H e1 e2 => SqL.of (e2 _ _ (e1 _ _ a1))) ?_ (fun i d x hd hx => rng_den hd hx) (fun i d x hd hx => by obtain ⟨v, e1, e2⟩ := a2.get hd; rw [e1] at hx; cases hx; exact e2))⟩⟩
        unfold rngD
        rw [List.length_map, List.length_range, a2.length, Nat.min_self]
theorem iw_enumT (h : AW K ta Γ O fun ds O1 => ∃ xs, ds = [.tup xs] ∧ PostI (List.zipWith (fun d e => .tup [d, e]) (rngD 0 xs.length) xs) none O1) : IW K (iEnumG K ta) Γ O PostI := fun w P σ H B S R q =>
  h w P σ H B S _ fun ds vs O1 H1 B1 ⟨xs, e, p⟩ hd S1 => by
    subst e
    cases hd with
    | cons h1 h2 =>
      cases h2
      cases h1 with
      | tup a1 a2 =>
        refine ⟨_, _, rfl, .inr ⟨sqT_mono S1.bh a1, q _ none O1 _ H1 B1 p S1 (itd_pair walk_enT (fun B H e1 e2 => sqT_mono e2 (sqT_mono e1 a1)) ?_ (fun i d x hd hx => rng_den hd hx) (fun i d x hd hx => by obtain ⟨v, e1, e2⟩ := a2.get hd; rw [e1] at hx; cases hx; exact e2))⟩⟩
        unfold rngD
        rw [List.length_map, List.length_range, a2.length, Nat.min_self]
theorem enumK {X : Cx} {tg e : Expr} {ta : TA} (h : PI X tg e (iEnumG X.K ta)) (hK : X.K = K := by rfl) : PI X tg e (iEnumG K ta) := by subst hK; exact h
/-- an item of an enumerated many -/
theorem enum_get {α : Type} {f : α → Dt} {xs : List α} {i : Nat} {d : Dt} (hd : (List.zipWith (fun d e => Dt.tup [d, e]) (rngD 0 (xs.map f).length) (xs.map f))[i]? = some d) : ∃ h : i < xs.length, d = .tup [.int (i : Int), f xs[i]] := by
  rw [List.getElem?_zipWith] at hd
  cases e1 : (rngD 0 (xs.map f).length)[i]? with
  | none => rw [e1] at hd; cases hd
  | some a =>
    obtain ⟨hi, rfl⟩ := rngD_get e1
    rw [List.length_map] at hi
    rw [e1, List.getElem?_map, List.getElem?_eq_getElem hi] at hd
    cases hd
    exact ⟨hi, by rw [Int.zero_add]⟩
theorem enum_map {α : Type} {f : α → Dt} {xs : List α} : List.zipWith (fun d e => Dt.tup [d, e]) (rngD 0 (xs.map f).length) (xs.map f) = (List.range xs.length).map fun i => match xs[i]? with | some x => .tup [.int (i : Int), f x] | none => .non := by
  refine List.ext_getElem? fun i => ?_
  rw [List.getElem?_map]
  by_cases hi : i < xs.length
  · have e1 : (rngD 0 (xs.map f).length)[i]? = some (.int (i : Int)) := by
      unfold rngD
      rw [List.getElem?_map, List.length_map, List.getElem?_range hi]
      show some (Dt.int (0 + (i : Int))) = _
      rw [Int.zero_add]
    rw [List.getElem?_zipWith, e1, List.getElem?_map, List.getElem?_eq_getElem hi, List.getElem?_range hi]
    simp only [Option.map_some, List.getElem?_eq_getElem hi]
  · rw [List.getElem?_eq_none, List.getElem?_eq_none]
    · rfl
    · rw [List.length_range]; omega
    · rw [List.length_zipWith, List.length_map]; omega
/-- list(range(..)) -/
theorem den_rg {K : PySem.W.Frag} {B : Hp} {a : Int} : ∀ l : List Nat, DenL K B (l.map fun i => Dt.int (a + (i : Nat))) (l.map fun i => V.int (a + (i : Nat)))
  | [] => .nil
  | _ :: l => .cons (.int _) (den_rg l)
theorem ew_lstRg1 {Post : Dt → Own → Prop} {te : TE} (h : EW K te Γ O fun d O1 => ∃ j : Int, d = .int j ∧ 0 ≤ j ∧ j ≤ 16777216 ∧ Post (.lst (rngD 0 j.toNat)) O1) : EW K (tLstRg (tRg1 te)) Γ O Post := fun w P σ H B S Q q =>
  h w P σ H B S _ fun d v O1 H1 B1 ⟨j, e, l1, l2, p⟩ S1 => by
    subst e
    have hd := S1.pi _ v List.mem_cons_self
    cases hd
    have S2 := S1.pins (P' := P) fun z hz => by simp [hz]
    refine ⟨j, rfl, RgOk.of_le (Int.le_refl _) l2 (by decide) l1, fun a ha => q _ _ O1 _ _ p ((S2.new ha).pin (.lst upd_same ?_))⟩
    have := den_rg (K := K) (B := upd B1 a (.lst (rgV 0 j))) (a := 0) (List.range (j - 0).toNat)
    rw [Int.sub_zero] at this
    unfold rngD
    unfold rgV at this ⊢
    rw [Int.sub_zero] at this ⊢
    exact this
theorem ew_lstRg2 {Post : Dt → Own → Prop} {te te' : TE} (h : EW K te Γ O fun d O1 => EW K te' Γ O1 fun e O2 => ∃ i j : Int, d = .int i ∧ e = .int j ∧ 0 ≤ i ∧ i ≤ 16777216 ∧ 0 ≤ j ∧ j ≤ 16777216 ∧ Post (.lst (rngD i (j - i).toNat)) O2) : EW K (tLstRg (tRg2 te te')) Γ O Post := fun w P σ H B S Q q =>
  h w P σ H B S _ fun d v O1 H1 B1 p1 S1 => p1 w _ σ H1 B1 S1 _ fun d2 v2 O2 H2 B2 ⟨i, j, e1, e2, i0, i1, j0, j1, p⟩ S2 => by
    subst e1
    subst e2
    have hd2 := S2.pi _ v2 List.mem_cons_self
    have hd1 := S2.pi _ v (List.mem_cons_of_mem _ List.mem_cons_self)
    cases hd1
    cases hd2
    have S3 := S2.pins (P' := P) fun z hz => by simp [hz]
    refine ⟨i, j, rfl, rfl, RgOk.of_le i0 j1 i1 j0, fun a ha => q _ _ O2 _ _ p ((S3.new ha).pin (.lst upd_same ?_))⟩
    exact den_rg (K := K) (a := i) (List.range (j - i).toNat)
theorem den_intsL {K : PySem.W.Frag} {B : Hp} : ∀ ns : List Int, DenL K B (ns.map Dt.int) (ns.map V.int)
  | [] => .nil
  | n :: ns => .cons (.int n) (den_intsL ns)
/-- sorted(ints) -/
theorem cw_sortI {Post : Dt → Own → Prop} {d : Dt} {zs : List Dt} {ns : List Int} (v : View O d (.lst zs)) (ez : zs = ns.map .int) (k : ∀ ns' : List Int, ns'.Perm ns → ns'.Pairwise (· ≤ ·) → Post (.lst (ns'.map .int)) O) : CW K (rSortedI K) [d] O Post := fun w Γ P σ H B xs S hd Q q => by
  subst ez
  cases hd with
  | cons h1 h2 =>
    cases h2
    obtain ⟨a, vs, rfl, g1, g2⟩ := v.list S h1
    have e := den_ints g2
    subst e
    exact ⟨a, ns, rfl, SqL.of g1, fun ns' p hp hs hl => q _ _ O _ _ (k ns' hp hs) ((S.new hl).pin (.lst upd_same (den_intsL ns')))⟩
end
end DL
/-! dicts with texts as keys -/
namespace DL
open PySem PySem.Spec PyProof.Rows L2
abbrev KD := List (Key × Dt)
def getK (kvs : KD) (k : Key) : Option Dt := (kvs.find? fun kv => decide (kv.1 = k)).map (·.2)
def putKD (kvs : KD) (k : Key) (v : Dt) : KD :=
  if (kvs.any fun kv => decide (kv.1 = k)) = true then kvs.map (fun kv => if kv.1 = k then (kv.1, v) else kv) else kvs ++ [(k, v)]
theorem getK_den {K : PySem.W.Frag} {B : Hp} {k : Key} : ∀ {kvs : KD} {ws : List (Key × V)}, DenKV K B kvs ws → (getK kvs k = none ∧ valV ws k = none) ∨ ∃ d v, getK kvs k = some d ∧ valV ws k = some v ∧ Den K B d v
  | [], _, h => by cases h; exact .inl ⟨rfl, rfl⟩
  | p :: r, ws, h => by
    cases h with
    | @cons _ q _ s h1 h2 =>
      obtain ⟨e1, e2⟩ := h1
      by_cases e : p.1 = k
      · right
        refine ⟨p.2, q.2, ?_, valV_pos (e1.symm.trans e), e2⟩
        simp [getK, List.find?_cons, e]
      · have e' : ¬ q.1 = k := fun z => e (e1.trans z)
        rw [valV_neg e']
        have : getK (p :: r) k = getK r k := by simp [getK, List.find?_cons, e]
        rw [this]
        exact getK_den h2
theorem any_den {K : PySem.W.Frag} {B : Hp} {k : Key} : ∀ {kvs : KD} {ws : List (Key × V)}, DenKV K B kvs ws → (kvs.any fun kv => decide (kv.1 = k)) = ws.any fun kv => decide (kv.1 = k)
  | [], _, h => by cases h; rfl
  | p :: r, ws, h => by
    cases h with
    | cons h1 h2 => rw [List.any_cons, List.any_cons, any_den h2, h1.1]
theorem map_den {K : PySem.W.Frag} {B : Hp} {k : Key} {d : Dt} {v : V} (hd : Den K B d v) : ∀ {kvs : KD} {ws : List (Key × V)}, DenKV K B kvs ws → DenKV K B (kvs.map fun kv => if kv.1 = k then (kv.1, d) else kv) (ws.map fun kv => if kv.1 = k then (kv.1, v) else kv)
  | [], _, h => by cases h; exact .nil
  | p :: r, ws, h => by
    cases h with
    | @cons _ q _ s h1 h2 =>
      refine .cons ?_ (map_den hd h2)
      by_cases e : p.1 = k
      · simp only [if_pos e, if_pos (h1.1.symm.trans e)]; exact ⟨h1.1, hd⟩
      · simp only [if_neg e, if_neg (fun z => e (h1.1.trans z) : ¬ q.1 = k)]; exact h1
theorem snoc_den {K : PySem.W.Frag} {B : Hp} {k : Key} {d : Dt} {v : V} (hd : Den K B d v) : ∀ {kvs : KD} {ws : List (Key × V)}, DenKV K B kvs ws → DenKV K B (kvs ++ [(k, d)]) (ws ++ [(k, v)])
  | [], _, h => by cases h; exact .cons ⟨rfl, hd⟩ .nil
  | p :: r, ws, h => by
    cases h with
    | cons h1 h2 => exact .cons h1 (snoc_den hd h2)
theorem put_den {K : PySem.W.Frag} {B : Hp} {k : Key} {d : Dt} {v : V} (hd : Den K B d v) {kvs : KD} {ws : List (Key × V)} (h : DenKV K B kvs ws) : DenKV K B (putKD kvs k d) (putK ws k v) := by
  unfold putKD putK
  rw [any_den h]
  split
  · exact map_den hd h
  · exact snoc_den hd h
section
variable {K : PySem.W.Frag} {Γ : Gm} {O : Own} {Post : Dt → Own → Prop} {td ty tx : TE}
/-- {} -/
theorem ew_dnew (k : ∀ p, Post (.raw (.ref p)) ((p, .dk []) :: O)) : EW K tDNewK Γ O Post := fun w P σ H B S Q q p hp =>
  q _ _ _ _ _ (k p) ((S.newOwn (c := .dk []) hp ⟨[], upd_same, .nil⟩).pin (.raw _))
/-- d.get(k, x), k a text -/
theorem ew_dget2 (h : EW K td Γ O fun o O1 => ∃ p, o = .raw (.ref p) ∧ (∃ kv, (p, .dk kv) ∈ O1) ∧ EW K ty Γ O1 fun y O2 => EW K tx Γ O2 fun z O3 => ∃ (s : Str) (kvs : KD), y = .str s ∧ (p, .dk kvs) ∈ O3 ∧ Post ((getK kvs (.inr s)).getD z) O3) :
    EW K (tDGet2 td ty tx) Γ O Post := fun w P σ H B S Q q =>
  h w P σ H B S _ fun o ov O1 H1 B1 ⟨p, e1, ⟨kv, hm⟩, p1⟩ S1 => by
    subst e1
    have h1 := S1.pi _ ov List.mem_cons_self
    cases h1
    obtain ⟨_, _, ws, g1, _⟩ := S1.ow p _ hm
    refine ⟨p, rfl, .inl ⟨ws, .inl g1⟩, p1 w P σ H1 B1 (S1.pins fun z hz => by simp [hz]) _ fun y yv O2 H2 B2 p2 S2 => p2 w _ σ H2 B2 S2 _ fun z zv O3 H3 B3 ⟨s, kvs, e2, hm3, p3⟩ S3 => ?_⟩
    subst e2
    have hy := S3.pi _ yv (List.mem_cons_of_mem _ List.mem_cons_self)
    have hz := S3.pi _ zv List.mem_cons_self
    cases hy
    have S4 := S3.pins (P' := P) fun z hz => by simp [hz]
    obtain ⟨_, _, ws, g3, g4⟩ := S4.ow p _ hm3
    refine ⟨_, DGet.k (k := .inr s) g3, ?_⟩
    rcases getK_den (k := .inr s) g4 with ⟨n1, n2⟩ | ⟨d, v, n1, n2, n3⟩
    · rw [n2]
      rw [n1] at p3
      exact q _ _ _ _ _ p3 (S4.pin hz)
    · rw [n2]
      rw [n1] at p3
      exact q _ _ _ _ _ p3 (S4.pin (n3.mono (Same.refl _)))
end
/-- d[k] = v, k a text -/
theorem gw_setD {K : PySem.W.Frag} {Γ : Gm} {O : Own} {Post : Gm → Own → Prop} {to ti : TE} {J : Nat → Prop} {p : Addr} {kvs : KD} {s : Str} {O2 : Own} {d : Dt} (hn : kvs.length < sizeLine)
    (ho : EW K to Γ O fun o O1 => o = .raw (.ref p) ∧ EW K ti Γ O1 fun k O' => k = .str s ∧ O'.Perm ((p, .dk kvs) :: O2) ∧ Post Γ ((p, .dk (putKD kvs (.inr s) d)) :: O2)) :
    GW K (gSub to ti rSetD) J d Γ O Post := fun w P σ H B v S hd Q q =>
  ho w ((d, v) :: P) σ H B (S.pin hd) _ fun o ov O1 H1 B1 ⟨e1, p1⟩ S1 => by
    subst e1
    have h1 := S1.pi _ ov List.mem_cons_self
    cases h1
    refine p1 w _ σ H1 B1 S1 _ fun k kv O' H2 B2 ⟨e2, hp, p2⟩ S2 => ?_
    subst e2
    have h2 := S2.pi _ kv List.mem_cons_self
    cases h2
    have hv := S2.pi d v (by simp)
    have S3 := (S2.perm hp).pins (P' := P) fun z hz => by simp [hz]
    obtain ⟨_, _, ws, h4, h5⟩ := S3.ow p _ List.mem_cons_self
    have hl : ws.length < sizeLine := by rw [← Paired.length h5]; exact hn
    exact ⟨p, _, rfl, DPut.k (k := .inr s) h4 hl, q _ _ _ _ _ p2 (S3.write (c' := .dk (putKD kvs (.inr s) d)) ⟨_, upd_same, put_den hv h5⟩) (fun _ _ => rfl) rfl⟩
end DL
/-! set(list of texts), sorted(set(..)), len(set(..)) -/
namespace TX
open PySem PySem.Spec PyProof.Rows L2
open PySem.Froz (SD sObj TxOk addTx tailTx)
def keyS (e : Int × Value) : Str := strOf e.2
def stepX (ks : List Str) (k : Str) : List Str := if k ∈ ks then ks else k :: ks
/-- the different texts -/
def distinct (xs : List Str) : List Str := xs.foldl stepX []
section
variable {ks : List Str}
theorem stepX_nodup {k : Str} (h : ks.Nodup) : (stepX ks k).Nodup := by
  unfold stepX
  split
  · exact h
  · rename_i n
    exact List.nodup_cons.mpr ⟨n, h⟩
theorem stepX_mem {k x : Str} : x ∈ stepX ks k ↔ x ∈ ks ∨ x = k := by
  unfold stepX
  split
  · rename_i h
    exact ⟨.inl, fun z => z.elim id fun e => e ▸ h⟩
  · rw [List.mem_cons]; exact Or.comm
theorem stepX_len {k : Str} : (stepX ks k).length ≤ ks.length + 1 := by
  unfold stepX
  split
  · omega
  · simp
theorem foldX : ∀ {xs ks : List Str}, ks.Nodup → (xs.foldl stepX ks).Nodup ∧ (∀ x, x ∈ xs.foldl stepX ks ↔ x ∈ ks ∨ x ∈ xs) ∧ (xs.foldl stepX ks).length ≤ ks.length + xs.length
  | [], ks, h => ⟨h, fun x => by simp, by simp⟩
  | y :: xs, ks, h => by
    obtain ⟨h1, h2, h3⟩ := foldX (xs := xs) (stepX_nodup (k := y) h)
    refine ⟨h1, fun x => ?_, ?_⟩
    · rw [List.foldl_cons, h2, stepX_mem, List.mem_cons, or_assoc]
    · have := stepX_len (ks := ks) (k := y)
      rw [List.foldl_cons, List.length_cons]
      omega
theorem distinct_nodup (xs : List Str) : (distinct xs).Nodup := (foldX List.nodup_nil).1
theorem distinct_mem {xs : List Str} {x : Str} : x ∈ distinct xs ↔ x ∈ xs := by
  have := (foldX (xs := xs) List.nodup_nil).2.1 x
  unfold distinct
  simpa using this
theorem distinct_len (xs : List Str) : (distinct xs).length ≤ xs.length := by
  have := (foldX (xs := xs) List.nodup_nil).2.2
  simpa [distinct] using this
theorem distinct_snoc (xs : List Str) (i : Nat) (h : i < xs.length) : distinct (xs.take (i + 1)) = stepX (distinct (xs.take i)) (xs.getD i Str.empty) := by
  have e : xs.take (i + 1) = xs.take i ++ [xs.getD i Str.empty] := by
    rw [List.take_succ, List.getElem?_eq_getElem h]
    simp [List.getElem?_eq_getElem h]
  rw [e]
  unfold distinct
  rw [List.foldl_append]
  rfl
end
/-! ### what an add keeps -/
theorem tail_keep (ep : Nat) (es : Array (Int × Value)) (t : SetTable) (b : Bool) :
    (tailTx ep es t b).1.toList.Perm es.toList ∧ (Ris t.place.toList → Ris (tailTx ep es t b).2.2.place.toList) ∧ (tailTx ep es t b).2.2.led = t.led := by
  unfold tailTx
  split
  · exact ⟨relayAll_perm _ _ _, fun _ => relayAll_ris _ _ _, relayAll_led _ _ _⟩
  · exact ⟨List.Perm.refl _, id, rfl⟩
theorem add_keep (n : Int) (v : Value) (D : SD) :
    (addTx n v D).1.toList.Perm ((n, v) :: D.1.toList) ∧ (Ris D.2.2.place.toList → Ris (addTx n v D).2.2.place.toList) ∧ (addTx n v D).2.2.led = D.2.2.led := by
  have p := layNew_perm D.2.2 D.1 n v
  rw [Array.toList_push] at p
  have q := tail_keep D.2.1 (layNew D.2.2 D.1 n v).1 (if (layNew D.2.2 D.1 n v).2.1.plain = true then { (layNew D.2.2 D.1 n v).2.1 with plain := false } else (layNew D.2.2 D.1 n v).2.1) (layNew D.2.2 D.1 n v).2.2.1
  refine ⟨(q.1.trans p).trans (List.perm_append_singleton _ _), fun z => q.2.1 ?_, q.2.2.trans ?_⟩
  · have r := layNew_ris D.2.2 D.1 n v z
    split <;> exact r
  · have r := layNew_led D.2.2 D.1 n v
    split <;> exact r
/-- the set of texts at a: ks its members; it can be walked -/
def SetX (P : Program) (w : World) (hp : Heap) (a : Addr) (ks : List Str) : Prop :=
  ∃ D : SD, hp.get? a = some (sObj "set" D) ∧ TxOk P w D ks ∧ (D.1.toList.map keyS).Perm ks ∧ Ris D.2.2.place.toList ∧ (w.params.followText "set-order" = true ∨ D.2.2.led = true)
section
variable {P : Program} {w : World} {A : Around} {E : Value → Shared → Prop} {s : Shared} {a : Addr} {ks : List Str}
theorem SetX.keep {hp hq : Heap} (R : SetX P w hp a ks) (k : ∀ o, hp.get? a = some o → hq.get? a = some o) : SetX P w hq a ks := by
  obtain ⟨D, h, r⟩ := R
  exact ⟨D, k _ h, r⟩
/-- a text that is in already -/
theorem add_old {D : SD} {k : Str} {u : Tok} {Q : Bool → Shared → Prop} (ho : s.heap.get? a = some (sObj "set" D)) (F : TxOk P w D ks) (hk : k ∈ ks) (hb : ks.length < scanBound) (h : ∀ b, Q b s) :
    wpAny (model P w) A (setAddHashed a (.str k u) (hashStr w k)) Q E s := by
  obtain ⟨es, ep, t⟩ := D
  have hz : es.size < scanBound := by rw [show es.size = ks.length from F.sz]; exact hb
  unfold setAddHashed setAddHashedIn
  refine wpAny_holding (wpAny_bind (wpAny_setState_of ho rfl F.fit ?_))
  dsimp only
  rw [byScan_of (x := Value.str k u) rfl hz F.el]
  simp only [↓reduceIte]
  unfold setAddByScan
  refine wpAny_bind (wpAny_bind (wpAny_rule (wpAny_bind (wpAny_setScan_of (knd := PySem.strKind P w) (k := k) (PySem.Froz.is_str k u) ho rfl F.fit F.el ?_))))
  cases hr : List.findIdx? (fun e => (PySem.strKind P w).is k e.2) es.toList with
  | some j =>
    dsimp only
    exact wpAny_pure (wpAny_pure (h _))
  | none =>
    obtain ⟨e, he, q⟩ := (F.mem k).mp hk
    have c := List.findIdx?_eq_none_iff.mp hr e he
    rw [q] at c
    cases c
theorem addX {k : Str} {u : Tok} {Q : Bool → Shared → Prop} (R : SetX P w s.heap a ks) (room : ks.length + 1 < scanBound)
    (hQ : ∀ hq b, Heap.SameBut a s.heap hq → SetX P w hq a (stepX ks k) → Q b { s with heap := hq }) :
    wpAny (model P w) A (setAddHashed a (.str k u) (hashStr w k)) Q E s := by
  obtain ⟨D, ho, F, pm, ri, le⟩ := R
  by_cases hk : k ∈ ks
  · refine add_old ho F hk (by omega) fun b => hQ s.heap b (Heap.SameBut.refl a _) ?_
    unfold stepX
    rw [if_pos hk]
    exact ⟨D, ho, F, pm, ri, le⟩
  · obtain ⟨q1, q2, q3⟩ := add_keep (hashStr w k) (.str k u) D
    refine PySem.Froz.add_x ho F hk room (hQ _ _ (Heap.SameBut.update _ a _) ?_)
    unfold stepX
    rw [if_neg hk]
    exact ⟨_, PySem.Froz.get_upd _ ho rfl, PySem.Froz.add_ok u F, (q1.map keyS).trans (pm.cons k), q2 ri, le.imp id fun z => q3.trans z⟩
end
/-- a new set -/
abbrev nset (w : World) : Obj := { cls := .type "set", dict := none, data := .set #[] 0 (.fresh 0 0 (!w.params.followText "set-order")) }
section
variable {P : Program} {w : World} {A : Around} {E : Value → Shared → Prop} {s : Shared}
theorem newX {hp : Heap} {a : Addr} (h : hp.get? a = some (nset w)) : SetX P w hp a [] := by
  refine ⟨(#[], 0, .fresh 0 0 (!w.params.followText "set-order")), h, PySem.Froz.TxOk.nil rfl, List.Perm.refl _, List.Pairwise.nil, ?_⟩
  cases e : w.params.followText "set-order"
  · exact .inr rfl
  · exact .inl rfl
/-- the loop that adds what an iterator gives -/
theorem loopX {I : Addr} {fp wr : List Addr} {G : Array GenState → Array GenState → Prop} {n : Nat} {V : Nat → Value → Prop} {St : Nat → Shared → Prop} {R : Result → Shared → Prop}
    (W : WalksS P w A.in1 I fp wr G n V St) (S : Addr) (out : S ∉ fp) (xs : List Str) (len : xs.length = n) (room : n + 1 < scanBound) (val : ∀ i v, V i v → ∃ t, v = .str (xs.getD i Str.empty) t) (m : Nat) :
    ∀ (i : Nat) (s : Shared), i + m = n → St i s → SetX P w s.heap S (distinct (xs.take i)) →
      (∀ z, Moved (S :: wr) G s z → SetX P w z.heap S (distinct xs) → R (.ok (.ret .none)) z) →
      codeAny (model P w) A (.builtin "set.update.loop" ⟨[.ref S, .ref I], []⟩) R s := by
  have far : S ∉ wr := fun z => out (W.sub _ z)
  have more : ∀ b ∈ wr, b ∈ S :: wr := fun _ => List.mem_cons_of_mem _
  induction m with
  | zero =>
    intro i s e st hS fin
    refine codeAny_builtin PyProof.Rows.F.entry_set_update_loop ?_
    rw [Around.under_plainId
      PyProof.Rows.F.plain_set_update_loop _]
    show wpAny _ _ (pyNext (.ref I) >>= _) _ _ s
    refine wpAny_bind (W.done s _ _ (by rw [← e, Nat.add_zero]; exact st) fun z mv => wpAny_pure (fin z (mv.mono more) ?_))
    rw [List.take_of_length_le (by omega)] at hS
    exact hS.keep fun o q => mv.heap S o far q
  | succ m ih =>
    intro i s e st hS fin
    refine codeAny_builtin PyProof.Rows.F.entry_set_update_loop ?_
    rw [Around.under_plainId
      PyProof.Rows.F.plain_set_update_loop _]
    show wpAny _ _ (pyNext (.ref I) >>= _) _ _ s
    refine wpAny_bind (W.item i s _ _ (by omega) st fun v z hv st' mv => ?_)
    obtain ⟨t, rfl⟩ := val i v hv
    have room' : (distinct (xs.take i)).length + 1 < scanBound := by
      have q1 := distinct_len (xs.take i)
      have q2 := List.length_take_le i xs
      omega
    show wpAny _ _ (holding _ (setAdd S _) >>= _) _ _ z
    unfold setAdd
    refine wpAny_bind (wpAny_holding (wpAny_holding (wpAny_bind ((PySem.strKind P w).pyHash (k := xs.getD i Str.empty) (PySem.Froz.is_str _ _) ?_))))
    refine addX (s := { z with toks := z.toks + 1 }) (hS.keep fun o q => mv.heap S o far q) room' fun hq b same hS2 => wpAny_pure ⟨plainId_quiet PyProof.Rows.F.plain_set_update_loop _, ?_⟩
    rw [← distinct_snoc xs i (by omega)] at hS2
    refine ih (i + 1) _ (by omega) (W.frame _ z _ _ st' (Nat.le_succ _) fun b hb o q => ?_) hS2 fun y mv2 hS3 => fin y ?_ hS3
    · exact (same.2 b (fun c => out (c ▸ hb))).trans q
    · refine Moved.trans W.gtrans ((mv.mono more).then_heap (Nat.le_succ _) fun b o nb q => ?_) mv2
      exact (same.2 b (fun c => nb (by rw [c]; exact List.mem_cons_self))).trans q
end
section
variable {P : Program} {w : World} {A : Around} {E : Value → Shared → Prop} {s : Shared}
/-- the state with a new set -/
abbrev withSet (w : World) (s : Shared) : Shared := { s with heap := s.heap.push (nset w) }
set_option maxHeartbeats 4000000 in
/-- set(xs), xs a list of texts -/
theorem callX {l : Addr} {its : Array Value} {xs : List Str} {Q : Value → Shared → Prop} (calm : A.handled = none) (hl : s.heap.IsList l its) (hx : StrsAre its.toList xs) (room : xs.length + 1 < scanBound)
    (fin : ∀ (hq : Heap) (u : Nat), SetX P w hq s.heap.objs.size (distinct xs) → (∀ b o, s.heap.get? b = some o → hq.get? b = some o) → Q (.ref s.heap.objs.size) { s with heap := hq, toks := u }) :
    wpAny (model P w) A (call (.type "set") [.ref l]) Q E s := by
  have len : xs.length = its.size := by rw [← StrsAre.len_eq hx, Array.length_toList]
  have at' : (s.heap.push (nset w)).get? s.heap.objs.size = some (nset w) := Heap.get?_push_size _ rfl
  have ty : Shared.TypeIs (withSet w s) (.ref s.heap.objs.size) "set" := ⟨_, at', rfl⟩
  obtain ⟨c, tl, mro⟩ := PySem.F.called_set.mro
  have c1 := PySem.F.called_set.made
  have c2 := PySem.F.called_set.sub
  have c3 := PySem.F.called_set.notType
  have c4 := PySem.F.called_set.canCreate
  have c5 := PySem.F.typeCall_set_1 (.ref l)
  have c6 := PySem.F.called_set.init.lookup
  have c7 := PySem.F.called_set.init.bind (.ref s.heap.objs.size)
  refine wpAny_call (codeAny_of_tree (wpAny_pure ⟨Code.quiet_builtin _ (by decide +kernel), codeAny_builtin PySem.F.entry_type_call ?_⟩))
  rw [Around.under_plain (weight_type_call_type
    "set" [.ref l] []) rfl]
  repeat (any_goals (first | assumption | wp_step))
  refine codeAny_mono (code_set_led1 (.ref l) (E := E) (Q₁ := fun x z => x = .ref s.heap.objs.size ∧ z = withSet w s) ⟨rfl, rfl⟩) fun r z hz => ?_
  rcases r with e | (x | _ | _ | _)
  all_goals try exact hz
  all_goals try exact hz.elim
  obtain ⟨rfl, rfl⟩ := hz
  repeat (any_goals (first | assumption | wp_step))
  refine codeAny_mono (codeAny_call_builtin (R := wants (fun r z => r = .none ∧ ∃ hq u, z = { s with heap := hq, toks := u } ∧ SetX P w hq s.heap.objs.size (distinct xs) ∧ (∀ b o, s.heap.get? b = some o → hq.get? b = some o)) E)
    PySem.F.called_set.init.plain PySem.F.entry_set_init (PySem.check_set_init_1 ty ?_)) fun r z hz => ?_
  · obtain ⟨⟨k0, k1, k2, k3⟩, lo, e1, n, e2⟩ := hl
    simp only at e1 e2
    subst e1
    subst e2
    have lo2 : (s.heap.push (nset w)).get? l = some ⟨.type "list", k1, .seq its n, k3⟩ := Heap.get?_push_of_some _ lo
    have isl : (s.heap.push (nset w)).IsList l its := ⟨_, lo2, rfl, n, rfl⟩
    have lt : l < s.heap.objs.size := Heap.lt_size lo
    have big : (s.heap.push (nset w)).objs.size = s.heap.objs.size + 1 := Heap.size_push ..
    have d1 := PySem.F.sub_list_set
    have d2 := PySem.F.sub_list_frozenset
    have d3 : (Value.type "list" == Value.type "dict") = false := by decide
    unfold Builtin.«set.__init__»
    unfold noKeywords
    unfold Builtin.Frozenset.updateFrom
    generalize pi : pyIter = PI
    wp_walk
    subst pi
    refine wpAny_pyIter_list isl (wpAny_bind (wpAny_runValue ?_))
    have far : s.heap.objs.size ∉ [(s.heap.push (nset w)).objs.size, l] := by
      rw [big]
      intro m
      rcases List.mem_cons.mp m with m | m
      · exact absurd m (Nat.ne_of_lt (Nat.lt_succ_self _))
      · exact absurd (List.mem_singleton.mp m) (Nat.ne_of_gt lt)
    refine loopX ((Walks.list (show A.in1.in1.in1.handled = none by simp [calm]) _ l (by rw [big]; exact Nat.ne_of_lt (Nat.lt_succ_of_lt lt)) its).toS) s.heap.objs.size far xs len (by rw [← len]; exact room)
      (fun i v hv => SS.strs_at hx i v (by rw [Array.getElem?_toList]; exact hv)) its.size 0 _ (Nat.zero_add _) ⟨⟨_, Heap.get?_push_size _ rfl, rfl, rfl⟩, isl.push _⟩ (newX (Heap.get?_push_of_some _ at')) ?_
    rintro ⟨hq, gq, dq, uq, oq⟩ mv R
    have g1 : gq = s.gens := mv.gens
    have g2 : dq = s.drawn := mv.drawn
    have g3 : oq = s.os := mv.os
    subst g1
    subst g2
    subst g3
    show wpAny _ _ _ _ _ _
    refine wpAny_pure ?_
    show wpAny _ _ (ret Value.none) _ _ _
    refine wpAny_pure ⟨rfl, hq, uq, rfl, R, fun b o e => ?_⟩
    have lb := Heap.lt_size e
    refine mv.heap b o (fun m => ?_) (Heap.get?_push_of_some _ (Heap.get?_push_of_some _ e))
    rcases List.mem_cons.mp m with m | m
    · exact absurd m (Nat.ne_of_lt lb)
    · have m := List.mem_singleton.mp m
      rw [big] at m
      exact absurd m (Nat.ne_of_lt (Nat.lt_succ_of_lt lb))
  · rcases r with e | (x | _ | _ | _)
    all_goals try exact hz
    all_goals try exact hz.elim
    obtain ⟨rfl, hq, u, rfl, h1, h2⟩ := hz
    repeat (any_goals (first | assumption | wp_step))
    exact fin _ _ h1 h2
set_option maxHeartbeats 4000000 in
/-- sorted(s), s a set of fewer than 64 texts -/
theorem sortedX {a : Addr} {ks : List Str} {Q : Value → Shared → Prop} (R : SetX P w s.heap a ks) (calm : A.handled = none) (few : ks.length < 64)
    (fin : ∀ (z : Shared) (p : Addr) (out : Array Value) (c : Nat) (ys : List Str), (∀ b o, s.heap.get? b = some o → z.heap.get? b = some o) → z.gens = s.gens → z.os = s.os → s.heap.objs.size ≤ p →
      z.heap.get? p = some (seqObj "list" out c) → StrsAre out.toList ys → ys.Perm ks → sortedS ys = true → Q (.ref p) z) :
    wpAny (model P w) A (call (.builtin "sorted") [.ref a]) Q E s := by
  obtain ⟨⟨es, ep, t⟩, ho, F, pm, ri, le⟩ := R
  have small : es.size < scanBound := by
    rw [show es.size = ks.length from F.sz]
    exact Nat.lt_trans few (by decide)
  refine Calls.call_function_entry PyProof.Rows.kind_sorted PyProof.Rows.plain_sorted PyProof.Rows.entry_sorted (PyProof.Rows.args_sorted1 _) ?_
  unfold Builtin.«sorted»
  refine wpAny_bind (m := checkCount "sorted" 1 1 _) (wpAny_pure (wpAny_bind (collect_set (A := A.in1) calm ⟨_, ho, rfl, rfl⟩ F.fit small ri le fun z vs k1 k2 k3 k4 pv => ?_)))
  have S : StrsAre vs (vs.map strOf) := strsAre_map vs fun v hv => by
    obtain ⟨e, he, q⟩ := List.mem_map.mp (pv.mem_iff.mp hv)
    obtain ⟨⟨k, h1, _⟩, _⟩ := F.el e he
    obtain ⟨t, h2⟩ := Value.isStrOf_shape h1
    exact ⟨k, t, by rw [← q]; exact h2⟩
  have pk : (vs.map strOf).Perm ks := by
    have q := pv.map strOf
    rw [List.map_map] at q
    exact q.trans pm
  have lv : vs.length < 64 := by
    have := pk.length_eq
    rw [List.length_map] at this
    omega
  refine wpAny_bind (wpAny_newList ?_ (by rw [sizeLine_eq]; omega))
  have got : (z.heap.push (seqObj "list" vs.toArray 0)).get? z.heap.objs.size = some (seqObj "list" vs.toArray 0) := Heap.get?_push_size _ rfl
  refine wpAny_bind (wpAny_holding (wpAny_call_entry PyProof.Rows.slot_list_sort ⟨_, got, rfl⟩ PyProof.Rows.entry_list_sort
    (list_sort_treeK strKind_oneLt (s := { z with heap := z.heap.push (seqObj "list" vs.toArray 0) }) got S.keysOf (fun v1 v2 rest e => keyKind_strs (by rw [← e]; exact S)) lv fun st pp ps => ⟨_, rfl, ?_⟩) (PyProof.Rows.args_list_sort _)))
  obtain ⟨ys, g1, g2, g3⟩ := sorted_out_str S pp ps
  obtain ⟨c, hc⟩ := PyProof.Rows.sortedHeap_at (vs := vs) (out := (arrOf st).map (·.2)) got
  refine wpAny_pure ⟨_, rfl, fin _ z.heap.objs.size _ c ys (fun b u e => ?_) k3 k4 k2 hc g1 (g2.trans pk) g3⟩
  have q := k1 b u e
  have lt := Heap.lt_size q
  show (sortedHeap _ _ _ _).get? b = some u
  rw [PyProof.Rows.sortedHeap_old (Nat.ne_of_lt lt) (by rw [size_push']; exact Nat.lt_succ_of_lt lt)]
  exact Heap.get?_push_of_some _ q
/-- texts in their order, each once -/
def ltS (x y : Str) : Prop := x.cps.toList < y.cps.toList
def SortX (ys xs : List Str) : Prop := ys.Pairwise ltS ∧ ∀ x, x ∈ ys ↔ x ∈ xs
theorem str_ext {x y : Str} (h : x.cps.toList = y.cps.toList) : x = y := by
  cases x
  cases y
  simp only [Str.mk.injEq]
  exact Array.toList_inj.mp h
theorem sortX_of {ys xs : List Str} (p : ys.Perm (distinct xs)) (h : sortedS ys = true) : SortX ys xs := by
  refine ⟨?_, fun x => by rw [p.mem_iff, distinct_mem]⟩
  have nd : ys.Nodup := p.nodup_iff.mpr (distinct_nodup xs)
  clear p
  have rise : ∀ (l : List Str) (x : Str), risingS x l = true → (x :: l).Pairwise fun a b => ¬ b.cps.toList < a.cps.toList := by
    intro l
    induction l with
    | nil => intro x _; exact List.pairwise_singleton _ _
    | cons y l ih =>
      intro x e
      simp only [risingS, Bool.and_eq_true, Bool.not_eq_true', ltCps_eq, decide_eq_false_iff_not] at e
      have q := ih y e.2
      refine List.pairwise_cons.mpr ⟨fun b hb => ?_, q⟩
      rcases List.mem_cons.mp hb with rfl | hb
      · exact e.1
      · have := (List.pairwise_cons.mp q).1 b hb
        exact fun z => e.1 (List.lt_of_le_of_lt (List.not_lt.mp this) z)
  have le : ys.Pairwise fun a b => ¬ b.cps.toList < a.cps.toList := by
    cases ys with
    | nil => exact List.Pairwise.nil
    | cons x l => exact rise l x h
  refine (le.and nd).imp fun {a b} ⟨h1, h2⟩ => ?_
  unfold ltS
  refine Classical.byContradiction fun h3 => h2 (str_ext ?_)
  exact List.le_antisymm (List.not_lt.mp h1) (List.not_lt.mp h3)
theorem sortX_uniq : ∀ {xs ys : List Str}, xs.Pairwise ltS → ys.Pairwise ltS → (∀ x, x ∈ xs ↔ x ∈ ys) → xs = ys
  | [], [], _, _, _ => rfl
  | [], y :: ys, _, _, h => absurd ((h y).mpr List.mem_cons_self) List.not_mem_nil
  | x :: xs, [], _, _, h => absurd ((h x).mp List.mem_cons_self) List.not_mem_nil
  | x :: xs, y :: ys, h1, h2, h => by
    obtain ⟨a1, a2⟩ := List.pairwise_cons.mp h1
    obtain ⟨b1, b2⟩ := List.pairwise_cons.mp h2
    have e : x = y := by
      rcases List.mem_cons.mp ((h x).mp List.mem_cons_self) with z | z
      · exact z
      · rcases List.mem_cons.mp ((h y).mpr List.mem_cons_self) with z' | z'
        · exact z'.symm
        · exact absurd (List.lt_trans (a1 y z') (b1 x z)) (List.lt_irrefl _)
    subst e
    have irr : ∀ l : List Str, (∀ z ∈ l, ltS x z) → x ∉ l := fun l q z => List.lt_irrefl _ (q x z)
    rw [sortX_uniq a2 b2 fun z => ?_]
    constructor
    · intro hz
      rcases List.mem_cons.mp ((h z).mp (List.mem_cons_of_mem _ hz)) with e | e
      · subst e; exact absurd hz (irr _ a1)
      · exact e
    · intro hz
      rcases List.mem_cons.mp ((h z).mpr (List.mem_cons_of_mem _ hz)) with e | e
      · subst e; exact absurd hz (irr _ b1)
      · exact e
theorem SortX.eq {xs ys xs' ys' : List Str} (h : SortX ys xs) (h' : SortX ys' xs') (e : ∀ x, x ∈ xs ↔ x ∈ xs') : ys = ys' :=
  sortX_uniq h.1 h'.1 fun x => (h.2 x).trans ((e x).trans (h'.2 x).symm)
theorem SortX.len {xs ys : List Str} (h : SortX ys xs) : ys.length ≤ xs.length := by
  have nd : ys.Nodup := h.1.imp fun {a b} q e => by subst e; exact List.lt_irrefl _ q
  have : ∀ (n : Nat) (ys xs : List Str), xs.length = n → ys.Nodup → (∀ x ∈ ys, x ∈ xs) → ys.length ≤ xs.length := by
    intro n
    induction n with
    | zero =>
      intro ys xs e _ k
      cases ys with
      | nil => exact Nat.zero_le _
      | cons y ys =>
        have := k y List.mem_cons_self
        rw [List.length_eq_zero_iff.mp e] at this
        cases this
    | succ n ih =>
      intro ys xs e nd k
      cases ys with
      | nil => exact Nat.zero_le _
      | cons y ys =>
        have hy := k y List.mem_cons_self
        have l1 := List.length_erase_of_mem hy
        obtain ⟨n1, n2⟩ := List.nodup_cons.mp nd
        have := ih ys (xs.erase y) (by omega) n2 fun x hx => by
          have := k x (List.mem_cons_of_mem _ hx)
          exact (List.mem_erase_of_ne (fun z => n1 (by rw [← z]; exact hx))).mpr this
        rw [List.length_cons]
        have := List.length_pos_of_mem hy
        omega
  exact this _ ys xs rfl nd fun x hx => (h.2 x).mp hx
end
end TX
namespace DL
open PySem PySem.Spec PyProof.Rows L2
/-- sorted(set(xs)), xs a list of texts -/
def tSS (K : PySem.W.Frag) (te : TE) : TE := fun σ H Q => te σ H fun x H1 => ∃ (l : Addr) (xs : List Str), x = .ref l ∧ SqL K H1 l (xs.map V.str) ∧ xs.length < 64 ∧
  ∀ (ys : List Str) (p : Addr), TX.SortX ys xs → H1 p = none → Q (.ref p) (upd H1 p (.lst (ys.map V.str)))
/-- len(set(xs)), xs a list of texts -/
def tLS (K : PySem.W.Frag) (te : TE) : TE := fun σ H Q => te σ H fun x H1 => ∃ (l : Addr) (xs : List Str), x = .ref l ∧ SqL K H1 l (xs.map V.str) ∧ xs.length < 64 ∧ Q (.int (TX.distinct xs).length) H1
section
variable {X : Cx}
theorem end_ss {pins : List (Addr × Obj)} {σ : L2.St} {H : Hp} {s z : Shared} {p : Addr} {out : Array Value} {c : Nat} {ys : List Str} (I : Inv X pins σ H s) (k1 : ∀ b o, s.heap.get? b = some o → z.heap.get? b = some o) (k2 : z.gens = s.gens) (k3 : z.os = s.os)
    (k4 : s.heap.objs.size ≤ p) (k5 : z.heap.get? p = some (seqObj "list" out c)) (k6 : StrsAre out.toList ys) (few : ys.length < 64) : H p = none ∧ Inv X pins σ (upd H p (.lst (ys.map V.str))) z := by
  have hlen : (ys.map V.str).length ≤ sizeLine := by
    rw [List.length_map, sizeLine_eq]
    omega
  have hn : H p = none := I.hok.fresh k4
  have J : Inv X pins σ (upd H p (.lst (ys.map V.str))) { s with heap := z.heap, gens := z.gens, drawn := z.drawn, toks := z.toks } :=
    I.call (ch := []) (Un.laid k1 k4 hn) (I.hok.laid k1 k4 ⟨hlen, out.toList, c, vals_of_strs k6, k5⟩) (by rw [k2]; exact I.bare) (fun _ z => nomatch z)
  have e : z = { s with heap := z.heap, gens := z.gens, drawn := z.drawn, toks := z.toks } := by
    cases z
    cases s
    cases k3
    rfl
  rw [e]
  exact ⟨hn, J⟩
theorem pe_ss {a : Expr} {ta : TE} {p p2 q pos : Pos} (hc : X.calm = true) (hg : Gl X "sorted") (hm : X.mg "sorted" = none) (hg2 : Gl X "set") (hm2 : X.mg "set" = none) (ha : PE X a ta)
    (na : starEach [a] X.env = (false, eval a X.env) :: starEach [] X.env := by rfl) : PE X (.Call (.Name "sorted" p) [.Call (.Name "set" p2) [a] [] q] [] pos) (tSS X.K ta) := by
  refine ⟨fun pins s σ H Q I h => ?_⟩
  refine Call_ (ld_blt I hg hm PyProof.Rows.boot_sorted ?_)
  refine PyProof.Rows.callWith_builtin1 (PyProof.Rows.args_cons ?_ rfl) rfl rfl
  refine Call_ (ld_blt I hg2 hm2 PyProof.Rows.boot_set ?_)
  refine PyProof.Rows.callWith_type1 (PyProof.Rows.args_cons (thn (ha.run pins s σ H _ I h) fun v s1 ⟨x, H1, I1, r1, q1⟩ => PyProof.Rows.args_nil ?_) na) na rfl
  obtain ⟨l, xs, rfl, hq, few, q1⟩ := q1
  cases r1
  obtain ⟨its, r, pl, hz⟩ := I1.list hq
  refine TX.callX (I1.ok.hd hc) pl.isList (by simpa using strsAre_of r) (Nat.lt_trans (Nat.succ_lt_succ few) (by decide)) fun hq u R keep => PyProof.Rows.args_nil ?_
  have I2 : Inv X pins σ H1 { s1 with heap := hq, toks := u } := I1.kept keep
  have lk := TX.distinct_len xs
  refine TX.sortedX R (I2.ok.hd hc) (by omega) fun z p out c ys k1 k2 k3 k4 k5 k6 k7 k8 => ?_
  obtain ⟨hn, J⟩ := end_ss I2 k1 k2 k3 k4 k5 k6 (by rw [k7.length_eq]; omega)
  exact ⟨.ref p, _, J, rfl, q1 ys p (TX.sortX_of k7 k8) hn⟩
theorem pe_ls {a : Expr} {ta : TE} {p p2 q pos : Pos} (hc : X.calm = true) (hg : Gl X "len") (hm : X.mg "len" = none) (hg2 : Gl X "set") (hm2 : X.mg "set" = none) (ha : PE X a ta)
    (na : starEach [a] X.env = (false, eval a X.env) :: starEach [] X.env := by rfl) : PE X (.Call (.Name "len" p) [.Call (.Name "set" p2) [a] [] q] [] pos) (tLS X.K ta) := by
  refine ⟨fun pins s σ H Q I h => ?_⟩
  refine Call_ (ld_blt I hg hm boot_len ?_)
  refine PyProof.Rows.callWith_builtin1 (PyProof.Rows.args_cons ?_ rfl) rfl rfl
  refine Call_ (ld_blt I hg2 hm2 PyProof.Rows.boot_set ?_)
  refine PyProof.Rows.callWith_type1 (PyProof.Rows.args_cons (thn (ha.run pins s σ H _ I h) fun v s1 ⟨x, H1, I1, r1, q1⟩ => PyProof.Rows.args_nil ?_) na) na rfl
  obtain ⟨l, xs, rfl, hq, few, q1⟩ := q1
  cases r1
  obtain ⟨its, r, pl, hz⟩ := I1.list hq
  refine TX.callX (I1.ok.hd hc) pl.isList (by simpa using strsAre_of r) (Nat.lt_trans (Nat.succ_lt_succ few) (by decide)) fun hq u R keep => PyProof.Rows.args_nil ?_
  have I2 : Inv X pins σ H1 { s1 with heap := hq, toks := u } := I1.kept keep
  have lk := TX.distinct_len xs
  obtain ⟨D, ho, F, _⟩ := R
  have sz : D.1.size = (TX.distinct xs).length := F.sz
  refine call_len_set ho ⟨rfl, rfl, rfl⟩ rfl F.fit (by rw [sz]; omega) ⟨.int (TX.distinct xs).length, H1, I2.tok _, ⟨_, by rw [sz]⟩, q1⟩
theorem ssK {K : PySem.W.Frag} {e : Expr} {t : TE} (h : PE X e (tSS X.K t)) (hK : X.K = K := by rfl) : PE X e (tSS K t) := by subst hK; exact h
theorem lsK {K : PySem.W.Frag} {e : Expr} {t : TE} (h : PE X e (tLS X.K t)) (hK : X.K = K := by rfl) : PE X e (tLS K t) := by subst hK; exact h
end
section
variable {K : PySem.W.Frag} {Γ : Gm} {O : Own} {Post : Dt → Own → Prop} {te : TE}
theorem den_strsL {B : Hp} : ∀ xs : List Str, DenL K B (xs.map Dt.str) (xs.map V.str)
  | [] => .nil
  | x :: xs => .cons (.str x) (den_strsL xs)
theorem ew_ss (h : EW K te Γ O fun d O1 => ∃ xs : List Str, View O1 d (.lst (xs.map .str)) ∧ xs.length < 64 ∧ ∀ ys, TX.SortX ys xs → Post (.lst (ys.map .str)) O1) : EW K (tSS K te) Γ O Post := fun w P σ H B S Q q =>
  h w P σ H B S _ fun d x O1 H1 B1 ⟨xs, vw, few, p1⟩ S1 => by
    have hx := S1.pi _ x List.mem_cons_self
    have S1' := S1.pins (P' := P) fun z hz => by simp [hz]
    obtain ⟨a, vs, rfl, h1, h2⟩ := vw.list S1 hx
    have e := den_strs h2
    subst e
    exact ⟨a, xs, rfl, SqL.of h1, few, fun ys p hs hp => q _ _ O1 _ _ (p1 ys hs) ((S1'.new hp).pin (.lst upd_same (den_strsL ys)))⟩
theorem ew_ls (h : EW K te Γ O fun d O1 => ∃ xs : List Str, View O1 d (.lst (xs.map .str)) ∧ xs.length < 64 ∧ Post (.int (TX.distinct xs).length) O1) : EW K (tLS K te) Γ O Post := fun w P σ H B S Q q =>
  h w P σ H B S _ fun d x O1 H1 B1 ⟨xs, vw, few, p1⟩ S1 => by
    have hx := S1.pi _ x List.mem_cons_self
    have S1' := S1.pins (P' := P) fun z hz => by simp [hz]
    obtain ⟨a, vs, rfl, h1, h2⟩ := vw.list S1 hx
    have e := den_strs h2
    subst e
    exact ⟨a, xs, rfl, SqL.of h1, few, q _ _ O1 _ _ p1 (S1'.pin (.int _))⟩
end
end DL
/-! list(zip(tuple, list, list)) -/
namespace Z3
open PySem PySem.Spec PyProof.Rows L2
section
variable {P : Program} {w : World} {A : Around} {E : Value → Shared → Prop} {s : Shared} {z TI TO T i1 i2 i3 : Addr} {fp1 fp2 fp3 : List Addr} {n1 n2 n3 i : Nat} {P1 P2 P3 : Nat → Value → Prop} {St1 St2 St3 : Nat → Heap → Prop} {f : Bool} {oT : Obj}
/-- the next tuple, the first one still held -/
theorem held_item {Q : Value → Shared → Prop} (S : ZipSep3 z TI TO i1 i2 i3 fp1 fp2 fp3) (D1 : Draws P w A i1 fp1 n1 P1 St1) (D2 : Draws P w A i2 fp2 n2 P2 St2) (D3 : Draws P w A i3 fp3 n3 P3 St3)
    (zz : IsZipHeld s.heap z TI TO T f) (tt : s.heap.get? T = some oT) (ti : IsTupOf3 s.heap TI (.ref i1) (.ref i2) (.ref i3)) (a1 : St1 i s.heap) (a2 : St2 i s.heap) (a3 : St3 i s.heap) (l1 : i < n1) (l2 : i < n2) (l3 : i < n3)
    (k : ∀ x1 x2 x3 hq u, P1 i x1 → P2 i x2 → P3 i x3 → IsZipHeld hq z TI TO T true → St1 (i + 1) hq → St2 (i + 1) hq → St3 (i + 1) hq → IsTupOf3 hq s.heap.objs.size x1 x2 x3 → (∀ c o, c ≠ z → c ≠ i1 → c ≠ i2 → c ≠ i3 → s.heap.get? c = some o → hq.get? c = some o) → Q (.ref s.heap.objs.size) { s with heap := hq, toks := u }) :
    wpAny (model P w) A (Builtin.«zip.__next__» ⟨[.ref z], []⟩) (fun r y => ∃ v, r = .done (.ret v) ∧ Q v y) E s := by
  obtain ⟨hp, g, d, tk, os⟩ := s
  show wpAny _ _ (field (.ref z) 2 >>= _) _ _ ⟨hp, g, d, tk, os⟩
  refine wpAny_bind (wpAny_field zz rfl (x := .bool false) rfl ?_)
  show wpAny _ _ (field (.ref z) 3 >>= _) _ _ ⟨hp, g, d, tk, os⟩
  refine wpAny_bind (wpAny_field zz rfl (x := .ref TI) rfl (wpAny_bind (wpAny_seqItems ti rfl ?_)))
  show wpAny _ _ (Builtin.SmallTypes.ownedTupleIsFree (.ref z) >>= _) _ _ ⟨hp, g, d, tk, os⟩
  refine wpAny_bind (wpAny_tupleHeld_zip zz tt fun h1 zz1 sb1 => ?_)
  simp only [Bool.false_eq_true, if_false]
  refine wpAny_bind ?_
  rw [← Array.forIn_toList]
  simp only [List.forIn_cons, List.forIn_nil]
  replace sb1 : Heap.SameBut z hp h1 := sb1
  refine wpAny_bind (wpAny_bind (wpAny_holding ?_))
  show wpAny _ _ (Builtin.SmallTypes.nextOf (.ref i1) >>= _) _ _ ⟨h1, g, d, tk, os⟩
  refine wpAny_bind (D1.item i _ _ _ l1 (D1.over a1 sb1 S.zf1) fun x1 h2 u1 p1 b1 sb2 => wpAny_pure (wpAny_pure ?_))
  replace sb2 : Heap.SameBut i1 h1 h2 := sb2
  refine wpAny_bind (wpAny_bind (wpAny_holding ?_))
  show wpAny _ _ (Builtin.SmallTypes.nextOf (.ref i2) >>= _) _ _ ⟨h2, g, d, u1, os⟩
  refine wpAny_bind (D2.item i _ _ _ l2 (D2.over (D2.over a2 sb1 S.zf2) sb2 S.sep1_2) fun x2 h3 u2 p2 b2 sb3 => wpAny_pure (wpAny_pure ?_))
  replace sb3 : Heap.SameBut i2 h2 h3 := sb3
  refine wpAny_bind (wpAny_bind (wpAny_holding ?_))
  show wpAny _ _ (Builtin.SmallTypes.nextOf (.ref i3) >>= _) _ _ ⟨h3, g, d, u2, os⟩
  refine wpAny_bind (D3.item i _ _ _ l3 (D3.over (D3.over (D3.over a3 sb1 S.zf3) sb2 S.sep1_3) sb3 S.sep2_3) fun x3 h4 u3 p3 b3 sb4 => wpAny_pure (wpAny_pure (wpAny_pure ?_)))
  replace sb4 : Heap.SameBut i3 h3 h4 := sb4
  show wpAny _ _ (newTuple [x1, x2, x3] >>= _) _ _ ⟨h4, g, d, u3, os⟩
  refine wpAny_bind (wpAny_newTuple (wpAny_pure ⟨_, rfl, ?_⟩))
  have size : h4.objs.size = hp.objs.size := by rw [sb4.1, sb3.1, sb2.1, sb1.1]
  have keep : ∀ c o, c ≠ z → c ≠ i1 → c ≠ i2 → c ≠ i3 → hp.get? c = some o → h4.get? c = some o := fun c o c0 c1 c2 c3 e => sb4.extBut _ _ c3 (sb3.extBut _ _ c2 (sb2.extBut _ _ c1 (sb1.extBut _ _ c0 e)))
  have zz4 : IsZipHeld h4 z TI TO T true := sb4.extBut _ _ S.zi3 (sb3.extBut _ _ S.zi2 (sb2.extBut _ _ S.zi1 zz1))
  have new : IsTupOf3 (h4.push { cls := .type "tuple", data := .seq #[x1, x2, x3] }) h4.objs.size x1 x2 x3 := Heap.get?_push_size _ rfl
  have up : ∀ c o, h4.get? c = some o → (h4.push { cls := .type "tuple", data := .seq #[x1, x2, x3] }).get? c = some o := fun c o => Heap.get?_push_of_some _
  show Q (.ref h4.objs.size) _
  rw [size] at new ⊢
  exact k x1 x2 x3 _ u3 p1 p2 p3 (up _ _ zz4) (D1.frame _ _ _ (D1.over (D1.over b1 sb3 S.sep2_1) sb4 S.sep3_1) fun b _ o => up b o) (D2.frame _ _ _ (D2.over b2 sb4 S.sep3_2) fun b _ o => up b o) (D3.frame _ _ _ b3 fun b _ o => up b o) new
    fun c o c0 c1 c2 c3 e => up c o (keep c o c0 c1 c2 c3 e)
/-- the end, by the first iterator -/
theorem held_end {Q : Fin → Shared → Prop} (S : ZipSep3 z TI TO i1 i2 i3 fp1 fp2 fp3) (D1 : Draws P w A i1 fp1 n1 P1 St1) (zz : IsZipHeld s.heap z TI TO T f) (tt : s.heap.get? T = some oT) (ti : IsTupOf3 s.heap TI (.ref i1) (.ref i2) (.ref i3)) (a1 : St1 n1 s.heap)
    (k : ∀ hq e, (∀ c o, c ≠ z → c ≠ i1 → s.heap.get? c = some o → hq.get? c = some o) → (∃ o, hq.get? e = some o ∧ o.cls = .type "StopIteration") → E (.ref e) { s with heap := hq }) :
    wpAny (model P w) A (Builtin.«zip.__next__» ⟨[.ref z], []⟩) Q E s := by
  obtain ⟨hp, g, d, tk, os⟩ := s
  show wpAny _ _ (field (.ref z) 2 >>= _) _ _ ⟨hp, g, d, tk, os⟩
  refine wpAny_bind (wpAny_field zz rfl (x := .bool false) rfl ?_)
  show wpAny _ _ (field (.ref z) 3 >>= _) _ _ ⟨hp, g, d, tk, os⟩
  refine wpAny_bind (wpAny_field zz rfl (x := .ref TI) rfl (wpAny_bind (wpAny_seqItems ti rfl ?_)))
  show wpAny _ _ (Builtin.SmallTypes.ownedTupleIsFree (.ref z) >>= _) _ _ ⟨hp, g, d, tk, os⟩
  refine wpAny_bind (wpAny_tupleHeld_zip zz tt fun h1 zz1 sb1 => ?_)
  simp only [Bool.false_eq_true, if_false]
  refine wpAny_bind ?_
  rw [← Array.forIn_toList]
  simp only [List.forIn_cons, List.forIn_nil]
  replace sb1 : Heap.SameBut z hp h1 := sb1
  refine wpAny_bind (wpAny_bind (wpAny_holding ?_))
  show wpAny _ _ (Builtin.SmallTypes.nextOf (.ref i1) >>= _) _ _ ⟨h1, g, d, tk, os⟩
  refine wpAny_bind (D1.done _ _ _ (D1.over a1 sb1 S.zf1) fun h2 e sb2 he => k h2 e (fun c o c0 c1 x => sb2 _ _ c1 (sb1.extBut _ _ c0 x)) he)
theorem next_item {Q : Option Value → Shared → Prop} (S : ZipSep3 z TI TO i1 i2 i3 fp1 fp2 fp3) (D1 : Draws P w A.in1 i1 fp1 n1 P1 St1) (D2 : Draws P w A.in1 i2 fp2 n2 P2 St2) (D3 : Draws P w A.in1 i3 fp3 n3 P3 St3)
    (zz : IsZipHeld s.heap z TI TO T f) (tt : s.heap.get? T = some oT) (ti : IsTupOf3 s.heap TI (.ref i1) (.ref i2) (.ref i3)) (a1 : St1 i s.heap) (a2 : St2 i s.heap) (a3 : St3 i s.heap) (l1 : i < n1) (l2 : i < n2) (l3 : i < n3)
    (k : ∀ x1 x2 x3 hq u, P1 i x1 → P2 i x2 → P3 i x3 → IsZipHeld hq z TI TO T true → St1 (i + 1) hq → St2 (i + 1) hq → St3 (i + 1) hq → IsTupOf3 hq s.heap.objs.size x1 x2 x3 → (∀ c o, c ≠ z → c ≠ i1 → c ≠ i2 → c ≠ i3 → s.heap.get? c = some o → hq.get? c = some o) → Q (some (.ref s.heap.objs.size)) { s with heap := hq, toks := u }) :
    wpAny (model P w) A (pyNext (.ref z)) Q E s := by
  have ty : s.TypeIs (.ref z) "zip" := ⟨_, zz, rfl⟩
  unfold pyNext
  exact wpAny_bind (wpAny_attempt (wpAny_callSpecial?_slot (name := Str.ofString "__next__") ty PySem.F.slot_zip_next (wpAny_call_entry PySem.F.slot_zip_next ty PySem.F.entry_zip_next
    (held_item S D1 D2 D3 zz tt ti a1 a2 a3 l1 l2 l3 fun x1 x2 x3 hq u b1 b2 b3 b4 b5 b6 b7 b8 b9 => wpAny_pure (k x1 x2 x3 hq u b1 b2 b3 b4 b5 b6 b7 b8 b9)) (PySem.F.args_zip_next_1 _))))
theorem next_end {Q : Option Value → Shared → Prop} (S : ZipSep3 z TI TO i1 i2 i3 fp1 fp2 fp3) (D1 : Draws P w A.in1 i1 fp1 n1 P1 St1) (zz : IsZipHeld s.heap z TI TO T f) (tt : s.heap.get? T = some oT) (ti : IsTupOf3 s.heap TI (.ref i1) (.ref i2) (.ref i3)) (a1 : St1 n1 s.heap)
    (k : ∀ hq, (∀ c o, c ≠ z → c ≠ i1 → s.heap.get? c = some o → hq.get? c = some o) → Q none { s with heap := hq }) : wpAny (model P w) A (pyNext (.ref z)) Q E s := by
  have ty : s.TypeIs (.ref z) "zip" := ⟨_, zz, rfl⟩
  unfold pyNext
  refine wpAny_bind (wpAny_attempt (wpAny_callSpecial?_slot (name := Str.ofString "__next__") ty PySem.F.slot_zip_next (wpAny_call_entry PySem.F.slot_zip_next ty PySem.F.entry_zip_next
    (held_end S D1 zz tt ti a1 fun hq e kp he => ?_) (PySem.F.args_zip_next_1 _))))
  obtain ⟨o, h1, h2⟩ := he
  exact wpAny_bind (wpAny_isInstance (T := "StopIteration") (b := true) ⟨o, h1, h2⟩ isSubtype_stop (wpAny_pure (k _ kp)))
end
theorem zip_no_len : typeLookup (.type "zip") "__len__" = pure none := by
  rw [typeLookup_type]
  rw [builtinLookup_eq_fast]
  kernel_rfl
theorem zip_no_hint : typeLookup (.type "zip") "__length_hint__" = pure none := by
  rw [typeLookup_type]
  rw [builtinLookup_eq_fast]
  kernel_rfl
/-- new tuples, one after another -/
def layT : List (List V) → (List V → Hp → Prop) → Hp → Prop
  | [], Q, H => Q [] H
  | r :: rs, Q, H => ∀ T, H T = none → layT rs (fun Ts G => Q (.ref T :: Ts) G) (upd H T (.tup r))
def rowsV (xs ys zs : List V) : List (List V) := (xs.zip (ys.zip zs)).map fun p => [p.1, p.2.1, p.2.2]
theorem rowsV_drop {xs ys zs : List V} {i : Nat} {x y z : V} (hx : xs[i]? = some x) (hy : ys[i]? = some y) (hz : zs[i]? = some z) : (rowsV xs ys zs).drop i = [x, y, z] :: (rowsV xs ys zs).drop (i + 1) := by
  have e : (rowsV xs ys zs)[i]? = some [x, y, z] := by
    unfold rowsV
    rw [List.getElem?_map, List.getElem?_zip_eq_some (z := (x, (y, z))) |>.mpr ⟨hx, List.getElem?_zip_eq_some (z := (y, z)) |>.mpr ⟨hy, hz⟩⟩]
    rfl
  obtain ⟨h, e⟩ := List.getElem?_eq_some_iff.mp e
  rw [List.drop_eq_getElem_cons h, e]
abbrev lsO (acc : Array Value) (c : Nat) : Obj := { cls := .type "list", dict := none, data := .seq acc c, slots := #[] }
/-- where the zip stands -/
def ZS (h : Heap) (z TI TO i1 i2 i3 : Addr) : Prop :=
  (IsZip h z TI TO .none ∧ IsTupOf3 h TO .none .none .none) ∨ ∃ T oT f, IsZipHeld h z TI TO T f ∧ h.get? T = some oT ∧ T ∉ [z, TI, TO, i1, i2, i3]
theorem upd_swap {H : Hp} {a b : Addr} {o u : HO} (h : a ≠ b) : upd (upd H a o) b u = upd (upd H b u) a o := by
  funext c
  unfold upd
  by_cases e1 : c = b
  · subst e1
    rw [if_pos rfl, if_neg (Ne.symm h), if_pos rfl]
  · rw [if_neg e1, if_neg e1]
theorem nin {x a b : Nat} (h1 : x ≠ a) (h2 : x ≠ b) : x ∉ [a, b] := by simp [h1, h2]
theorem sep3 {B t l1 l2 : Nat} (b1 : t < B) (b2 : l1 < B) (b3 : l2 < B) : ZipSep3 (B + 5) (B + 3) (B + 4) B (B + 1) (B + 2) [B, t] [B + 1, l1] [B + 2, l2] := by
  have n1 : ∀ a b : Nat, a < b → a ≠ b := fun a b h => Nat.ne_of_lt h
  have n2 : ∀ a b : Nat, b < a → a ≠ b := fun a b h => Nat.ne_of_gt h
  exact ⟨n1 _ _ (by omega), n1 _ _ (by omega), n1 _ _ (by omega), n2 _ _ (by omega), List.mem_cons_self, nin (n2 _ _ (by omega)) (n2 _ _ (by omega)), nin (n2 _ _ (by omega)) (n2 _ _ (by omega)),
    n2 _ _ (by omega), List.mem_cons_self, nin (n2 _ _ (by omega)) (n2 _ _ (by omega)), nin (n2 _ _ (by omega)) (n2 _ _ (by omega)),
    n2 _ _ (by omega), List.mem_cons_self, nin (n2 _ _ (by omega)) (n2 _ _ (by omega)), nin (n2 _ _ (by omega)) (n2 _ _ (by omega)),
    nin (n1 _ _ (by omega)) (n2 _ _ (by omega)), nin (n1 _ _ (by omega)) (n2 _ _ (by omega)), nin (n2 _ _ (by omega)) (n2 _ _ (by omega)), nin (n1 _ _ (by omega)) (n2 _ _ (by omega)), nin (n2 _ _ (by omega)) (n2 _ _ (by omega)), nin (n2 _ _ (by omega)) (n2 _ _ (by omega))⟩
section
variable {X : Cx} {pins : List (Addr × Obj)} {σ : L2.St} {S z TI TO i1 i2 i3 t l1 l2 : Addr} {xs ys zs : List V} {v1 v2 v3 : Array Value} {n : Nat} {A : Around} {R : Result → Shared → Prop} {QF : V → Hp → Prop}
theorem loop (calm : A.handled = none) (D : ZipSep3 z TI TO i1 i2 i3 [i1, t] [i2, l1] [i3, l2]) (t1 : t ≠ i1) (t2 : l1 ≠ i2) (t3 : l2 ≠ i3) (r1 : Vals xs v1.toList) (r2 : Vals ys v2.toList) (r3 : Vals zs v3.toList)
    (e1 : xs.length = n) (e2 : ys.length = n) (e3 : zs.length = n) (few : n ≤ 1000) (far : S ∉ [z, TI, TO, i1, i2, i3]) (S1 : S ≠ t) (S2 : S ≠ l1) (S3 : S ≠ l2)
    (fin : ∀ y G, Inv X pins σ G y → QF (.ref S) G → R (.ok (.ret .none)) y) (m : Nat) :
    ∀ (i : Nat) (s : Shared) (H : Hp) (Ts : List V) (acc : Array Value) (c : Nat), i + m = n → s.heap.get? S = some (lsO acc c) → Vals Ts acc.toList → Ts.length = i → Inv X pins σ (upd H S (.lst Ts)) s → H S = none →
      (∀ b ∈ [z, TI, TO, i1, i2, i3], FpOk X pins (upd H S (.lst Ts)) b ∧ b < s.heap.objs.size) → ZS s.heap z TI TO i1 i2 i3 → IsTupOf3 s.heap TI (.ref i1) (.ref i2) (.ref i3) →
      (s.heap.IsTupleIter i1 t i ∧ s.heap.IsTuple t v1) → (s.heap.IsListIter i2 l1 i ∧ s.heap.IsList l1 v2) → (s.heap.IsListIter i3 l2 i ∧ s.heap.IsList l2 v3) →
      layT ((rowsV xs ys zs).drop i) (fun Us G => ∀ p, G p = none → QF (.ref p) (upd G p (.lst (Ts ++ Us)))) H →
      codeAny (model X.prog X.w) A (.builtin "list.extend.loop" ⟨[.ref S, .ref z, .none], []⟩) R s := by
  have n1 : v1.size = n := by rw [← Array.length_toList, ← r1.length, e1]
  have n2 : v2.size = n := by rw [← Array.length_toList, ← r2.length, e2]
  have n3 : v3.size = n := by rw [← Array.length_toList, ← r3.length, e3]
  have hh : A.in1.in1.handled = none := calm
  have D1 := Draws.tuple (prog := X.prog) (w := X.w) (A := A.in1.in1) hh i1 t t1 v1
  have D2 := Draws.list (prog := X.prog) (w := X.w) (A := A.in1.in1) hh i2 l1 t2 v2
  have D3 := Draws.list (prog := X.prog) (w := X.w) (A := A.in1.in1) hh i3 l2 t3 v3
  have far' : S ≠ z ∧ S ≠ TI ∧ S ≠ TO ∧ S ≠ i1 ∧ S ≠ i2 ∧ S ≠ i3 := by simpa using far
  induction m with
  | zero =>
    intro i s H Ts acc c e hS rT lT I hH fp zs0 ti st1 st2 st3 q
    have ei : i = n := by omega
    have rest : (rowsV xs ys zs).drop i = [] := by
      refine List.drop_eq_nil_of_le ?_
      unfold rowsV
      rw [List.length_map, List.length_zip, List.length_zip]
      omega
    rw [rest] at q
    have q := q S hH
    rw [List.append_nil] at q
    refine codeAny_builtin PySem.F.entry_extend_loop ?_
    rw [Around.under_plainId PySem.F.plain_extend_loop _]
    show wpAny _ A.in1 (pyNext (.ref z) >>= _) _ _ s
    have fin' : ∀ hq u, (∀ c o, c ∉ [z, TI, TO, i1, i2, i3] → s.heap.get? c = some o → hq.get? c = some o) → R (.ok (.ret .none)) { s with heap := hq, toks := u } := fun hq u keep => fin _ _ (I.turnedL keep fun b hb => (fp b hb).1) q
    rcases zs0 with ⟨zz, to⟩ | ⟨T, oT, f, zz, tt, _⟩
    · refine wpAny_bind (wpAny_pyNext_zipD3_end D D1 D2 D3 zz ti to st1 st2 st3 (by omega) (by omega) (by omega) (.inl (by omega)) fun hq u keep => wpAny_pure (fin' hq u fun c o hc x => ?_))
      have hc : c ≠ z ∧ c ≠ TI ∧ c ≠ TO ∧ c ≠ i1 ∧ c ≠ i2 ∧ c ≠ i3 := by simpa using hc
      exact keep c o hc.1 hc.2.2.1 hc.2.2.2.1 hc.2.2.2.2.1 hc.2.2.2.2.2 x
    · rw [ei, ← n1] at st1
      refine wpAny_bind (next_end D D1 zz tt ti st1 fun hq keep => wpAny_pure (fin' hq s.toks fun c o hc x => ?_))
      have hc : c ≠ z ∧ c ≠ TI ∧ c ≠ TO ∧ c ≠ i1 ∧ c ≠ i2 ∧ c ≠ i3 := by simpa using hc
      exact keep c o hc.1 hc.2.2.2.1 x
  | succ m ih =>
    intro i s H Ts acc c e hS rT lT I hH fp zs0 ti st1 st2 st3 q
    have hi : i < n := by omega
    have accs : acc.size = i := by rw [← Array.length_toList, ← rT.length, lT]
    have slt : S < s.heap.objs.size := Heap.lt_size hS
    have hfree : upd H S (.lst Ts) s.heap.objs.size = none := I.hok.fresh (Nat.le_refl _)
    have hne : s.heap.objs.size ≠ S := Nat.ne_of_gt slt
    have hT : H s.heap.objs.size = none := by rw [upd_ne hne] at hfree; exact hfree
    obtain ⟨x, hx⟩ : ∃ x, xs[i]? = some x := ⟨_, List.getElem?_eq_getElem (by omega)⟩
    obtain ⟨y, hy⟩ : ∃ y, ys[i]? = some y := ⟨_, List.getElem?_eq_getElem (by omega)⟩
    obtain ⟨w, hw⟩ : ∃ w, zs[i]? = some w := ⟨_, List.getElem?_eq_getElem (by omega)⟩
    rw [rowsV_drop hx hy hw] at q
    have q := q s.heap.objs.size hT
    have go : ∀ x1 x2 x3 hq u, v1[i]? = some x1 → v2[i]? = some x2 → v3[i]? = some x3 → ZS hq z TI TO i1 i2 i3 → (hq.IsTupleIter i1 t (i + 1) ∧ hq.IsTuple t v1) → (hq.IsListIter i2 l1 (i + 1) ∧ hq.IsList l1 v2) → (hq.IsListIter i3 l2 (i + 1) ∧ hq.IsList l2 v3) →
        IsTupOf3 hq s.heap.objs.size x1 x2 x3 → (∀ c o, c ∉ [z, TO, i1, i2, i3] → s.heap.get? c = some o → hq.get? c = some o) →
        wpAny (model X.prog X.w) A.in1 (updateSeq S (·.push (.ref s.heap.objs.size)) >>= fun _ => again (.builtin "list.extend.loop" ⟨[.ref S, .ref z, .none], []⟩))
          (fun fin s' => match fin with | .done f => R (.ok f) s' | .again c' => c'.quiet = true ∧ codeAny (model X.prog X.w) A c' R s') (fun e s' => R (.error e) s') { s with heap := hq, toks := u } := by
      intro x1 x2 x3 hq u p1 p2 p3 zs1 st1' st2' st3' new keep
      have grow : s.heap.objs.size < hq.objs.size := Heap.lt_size new
      have sub : ∀ {c : Addr}, c ∈ [z, TO, i1, i2, i3] → c ∈ [z, TI, TO, i1, i2, i3] := fun m => (List.Sublist.cons₂ z (List.sublist_cons_self TI _)).subset m
      obtain ⟨w1, g1, k1⟩ := r1.get hx
      obtain ⟨w2, g2, k2⟩ := r2.get hy
      obtain ⟨w3, g3, k3⟩ := r3.get hw
      have q1 : w1 = x1 := by rw [Array.getElem?_toList, p1] at g1; exact (Option.some.inj g1).symm
      have q2 : w2 = x2 := by rw [Array.getElem?_toList, p2] at g2; exact (Option.some.inj g2).symm
      have q3 : w3 = x3 := by rw [Array.getElem?_toList, p3] at g3; exact (Option.some.inj g3).symm
      subst q1
      subst q2
      subst q3
      have ok : ObjOk X.prog X.w (upd (upd H S (.lst Ts)) s.heap.objs.size (.tup [x, y, w])) hq s.heap.objs.size (.tup [x, y, w]) :=
        ⟨show 3 ≤ sizeLine by decide, [w1, w2, w3], .cons k1 (.cons k2 (.cons k3 .nil)), ⟨_, new, rfl, _, rfl⟩⟩
      have I1 : Inv X pins σ (upd (upd H S (.lst Ts)) s.heap.objs.size (.tup [x, y, w])) { s with heap := hq, toks := u } :=
        I.turnedNew (ch := [z, TI, TO, i1, i2, i3]) (fun c o hc e => keep c o (fun m => hc (sub m)) e) (fun b hb => (fp b hb).1) (Nat.le_refl _) ok
      rw [upd_swap (Ne.symm hne)] at I1
      have hS1 : hq.get? S = some (lsO acc c) := keep S _ (fun m => far (sub m)) hS
      have hS2 : hq.get? S = some { cls := .type "list", data := .seq acc.toList.toArray c } := by rw [Array.toArray_toList]; exact hS1
      have I2 := I1.lset (t' := u) (its' := acc.toList ++ [.ref s.heap.objs.size]) (ys := Ts ++ [.ref s.heap.objs.size]) (f := (·.push (.ref s.heap.objs.size))) upd_same hS2 (by
          show acc.toList.toArray.push _ = _
          rw [Array.toArray_toList, ← Array.toList_push, Array.toArray_toList]) (rT.append (.cons (show RelV (V.ref s.heap.objs.size) (Value.ref s.heap.objs.size) from rfl) .nil)) (by
        rw [List.length_append, lT]
        exact Nat.le_trans (m := 1001) (by simp; omega) (by decide))
      rw [L2.upd_upd] at I2
      refine wpAny_bind (wpAny_updateSeq hS1 rfl (wpAny_pure ⟨plainId_quiet PySem.F.plain_extend_loop _, ?_⟩) (Nat.le_trans (m := 1001) (by omega) (by decide)) (by rw [Array.size_push]; exact Nat.le_trans (m := 1001) (by omega) (by decide)))
      have oth : ∀ b o, b ≠ S → hq.get? b = some o → (hq.update S (Obj.mapSeq (·.push (.ref s.heap.objs.size)))).get? b = some o := fun b o hb e => (Heap.get?_update_other _ _ (Ne.symm hb)).trans e
      have size2 : (hq.update S (Obj.mapSeq (·.push (.ref s.heap.objs.size)))).objs.size = hq.objs.size := by simp [Heap.update]
      obtain ⟨c', hc'⟩ : ∃ c', (hq.update S (Obj.mapSeq (·.push (.ref s.heap.objs.size)))).get? S = some (lsO (acc.push (.ref s.heap.objs.size)) c') := ⟨_, Heap.get?_update_self (Obj.mapSeq (·.push (.ref s.heap.objs.size))) hS1 rfl⟩
      refine ih (i + 1) _ (upd H s.heap.objs.size (.tup [x, y, w])) (Ts ++ [.ref s.heap.objs.size]) (acc.push (.ref s.heap.objs.size)) c' (by omega) ?_ ?_ (by rw [List.length_append, lT]; rfl) I2 ?_ (fun b hb => ?_) ?_ ?_ ?_ ?_ ?_ ?_
      · exact hc'
      · rw [Array.toList_push]
        exact rT.append (.cons (show RelV (V.ref s.heap.objs.size) (Value.ref s.heap.objs.size) from rfl) .nil)
      · rw [upd_ne (Ne.symm hne)]; exact hH
      · obtain ⟨⟨b0, b1⟩, b2⟩ := fp b hb
        have bS : b ≠ S := fun e => far (e ▸ hb)
        rw [upd_ne bS] at b0
        refine ⟨⟨?_, b1⟩, ?_⟩
        · rw [upd_ne bS, upd_ne (Nat.ne_of_lt b2)]; exact b0
        · show b < (hq.update S _).objs.size
          rw [size2]
          exact Nat.lt_trans b2 grow
      · rcases zs1 with ⟨a1, a2⟩ | ⟨T, oT, f, a1, a2, a3⟩
        · exact .inl ⟨oth _ _ (Ne.symm far'.1) a1, oth _ _ (Ne.symm far'.2.2.1) a2⟩
        · by_cases e : T = S
          · subst e
            rw [hS1] at a2
            exact .inr ⟨T, _, f, oth _ _ (Ne.symm far'.1) a1, Heap.get?_update_self (Obj.mapSeq _) hS1 rfl, a3⟩
          · exact .inr ⟨T, oT, f, oth _ _ (Ne.symm far'.1) a1, oth _ _ e a2, a3⟩
      · have TIn : TI ∉ [z, TO, i1, i2, i3] := by
          simp only [List.mem_cons, List.mem_nil_iff, or_false, not_or]
          exact ⟨D.TIz, D.TITO, D.TIi1, D.TIi2, D.TIi3⟩
        exact oth _ _ (Ne.symm far'.2.1) (keep _ _ TIn ti)
      · exact D1.frame _ _ _ st1' fun b hb o e => oth b o (fun q => by
          rcases List.mem_cons.mp hb with m | m
          · exact far'.2.2.2.1 (q ▸ m)
          · exact S1 (q ▸ List.mem_singleton.mp m)) e
      · exact D2.frame _ _ _ st2' fun b hb o e => oth b o (fun q => by
          rcases List.mem_cons.mp hb with m | m
          · exact far'.2.2.2.2.1 (q ▸ m)
          · exact S2 (q ▸ List.mem_singleton.mp m)) e
      · exact D3.frame _ _ _ st3' fun b hb o e => oth b o (fun q => by
          rcases List.mem_cons.mp hb with m | m
          · exact far'.2.2.2.2.2 (q ▸ m)
          · exact S3 (q ▸ List.mem_singleton.mp m)) e
      · have ef : (fun Us G => ∀ p, G p = none → QF (.ref p) (upd G p (.lst (Ts ++ (.ref s.heap.objs.size :: Us))))) = fun Us G => ∀ p, G p = none → QF (.ref p) (upd G p (.lst (Ts ++ [.ref s.heap.objs.size] ++ Us))) := by
          funext Us G
          rw [List.append_assoc]
          rfl
        rw [← ef]
        exact q
    refine codeAny_builtin PySem.F.entry_extend_loop ?_
    rw [Around.under_plainId PySem.F.plain_extend_loop _]
    show wpAny _ A.in1 (pyNext (.ref z) >>= _) _ _ s
    have hzs := zs0
    rcases zs0 with ⟨zz, to⟩ | ⟨T, oT, f, zz, tt, out⟩
    · refine wpAny_bind (wpAny_pyNext_zipD3_item D D1 D2 D3 zz ti to st1 st2 st3 (by omega) (by omega) (by omega) fun x1 x2 x3 hq u p1 p2 p3 b1 b2 b3 b4 b5 b6 b7 keep => ?_)
      refine go x1 x2 x3 hq u p1 p2 p3 (.inr ⟨_, _, false, b1, b6, fun m => ?_⟩) b3 b4 b5 b6 fun c o hc e => ?_
      · exact absurd (fp _ m).2 (Nat.lt_irrefl _)
      · have hc : c ≠ z ∧ c ≠ TO ∧ c ≠ i1 ∧ c ≠ i2 ∧ c ≠ i3 := by simpa using hc
        exact keep c o hc.1 hc.2.1 hc.2.2.1 hc.2.2.2.1 hc.2.2.2.2 e
    · refine wpAny_bind (next_item D D1 D2 D3 zz tt ti st1 st2 st3 (by omega) (by omega) (by omega) fun x1 x2 x3 hq u p1 p2 p3 b1 b2 b3 b4 b5 keep => ?_)
      have out' : T ≠ z ∧ T ≠ TI ∧ T ≠ TO ∧ T ≠ i1 ∧ T ≠ i2 ∧ T ≠ i3 := by simpa using out
      refine go x1 x2 x3 hq u p1 p2 p3 (.inr ⟨T, oT, true, b1, keep _ _ out'.1 out'.2.2.2.1 out'.2.2.2.2.1 out'.2.2.2.2.2 tt, out⟩) b2 b3 b4 b5 fun c o hc e => ?_
      have hc : c ≠ z ∧ c ≠ TO ∧ c ≠ i1 ∧ c ≠ i2 ∧ c ≠ i3 := by simpa using hc
      exact keep c o hc.1 hc.2.2.1 hc.2.2.2.1 hc.2.2.2.2 e
set_option maxHeartbeats 4000000 in
theorem call_list_zip {s : Shared} {H : Hp} {Q : Value → Shared → Prop} {E : Value → Shared → Prop} (calm : A.handled = none) (I : Inv X pins σ H s) (q1 : SqT X.K H t xs) (q2 : SqL X.K H l1 ys) (q3 : SqL X.K H l2 zs) (e1 : xs.length = n) (e2 : ys.length = n) (e3 : zs.length = n) (few : n ≤ 1000)
    (q : layT (rowsV xs ys zs) (fun Us G => ∀ p, G p = none → QF (.ref p) (upd G p (.lst Us))) H) (fin : ∀ y G p, Inv X pins σ G y → QF (.ref p) G → Q (.ref p) y) :
    wpAny (model X.prog X.w) A (call (.type "zip") [.ref t, .ref l1, .ref l2]) (fun v y => wpAny (model X.prog X.w) A (call (.type "list") [v]) Q E y) E s := by
  obtain ⟨v1, r1, p1, _⟩ := I.tuple q1
  obtain ⟨v2, r2, p2, _⟩ := I.list q2
  obtain ⟨v3, r3, p3, _⟩ := I.list q3
  have p1 : s.heap.IsTuple t v1.toArray := p1
  have b1 : t < s.heap.objs.size := by obtain ⟨_, e, _⟩ := p1; exact Heap.lt_size e
  have b2 := p2.lt
  have b3 := p3.lt
  refine zip_begins3 (begins_tuple t v1.toArray) (begins_list l1 v2.toArray) (begins_list l2 v3.toArray) p1 p2.isList p3.isList fun hq zz ti to g1 g2 g3 size keep => ?_
  have I1 : Inv X pins σ H { s with heap := hq } := I.kept (t' := s.toks) keep
  have D := sep3 b1 b2 b3
  have nS : ∀ b, b < s.heap.objs.size + 6 → b ≠ hq.objs.size := fun b h => by rw [size]; exact Nat.ne_of_lt h
  have zS : hq.objs.size ≠ s.heap.objs.size + 5 := by rw [size]; exact Nat.ne_of_gt (Nat.lt_succ_self _)
  -- the new list, as list() works at it
  have hs : (hq.push (lsO #[] 0)).get? hq.objs.size = some (lsO #[] 0) := Heap.get?_push_size _ rfl
  have up : ∀ (h : Heap) (f : Obj → Obj), (∀ b o, hq.get? b = some o → h.get? b = some o) → ∀ b o, hq.get? b = some o → (h.update hq.objs.size f).get? b = some o := fun h f k b o e =>
    (Heap.get?_update_other _ _ (Ne.symm (Nat.ne_of_lt (Heap.lt_size e)))).trans (k b o e)
  have k1 : ∀ b o, hq.get? b = some o → (hq.push (lsO #[] 0)).get? b = some o := fun b o => Heap.get?_push_of_some _
  have hs2 := Heap.get?_update_self (Obj.mapSeq (fun _ => (#[] : Array Value))) hs rfl
  have k2 := up _ (Obj.mapSeq (fun _ => (#[] : Array Value))) k1
  have hs3 := Heap.get?_update_self (Obj.mapSeq (·.push Value.none)) hs2 rfl
  have k3 := up _ (Obj.mapSeq (·.push Value.none)) k2
  have hs4 := Heap.get?_update_self (Obj.mapSeq (·.pop)) hs3 rfl
  have k4 := up _ (Obj.mapSeq (·.pop)) k3
  refine callType_codes (Q₁ := fun v y => v = .ref hq.objs.size ∧ y = { s with heap := hq.push (lsO #[] 0) }) PySem.F.called_list (PySem.F.typeCall_list_1 _) PySem.F.entry_list_init
    (code_list_new (s := { s with heap := hq }) _ ⟨rfl, rfl⟩) fun v y hv => ?_
  obtain ⟨rfl, rfl⟩ := hv
  refine ⟨⟨_, hs, rfl⟩, PySem.F.args_list_init_2 _ _, ?_⟩
  show wpAny _ _ (do
      let was ← Builtin.List.listItems (.ref hq.objs.size)
      Builtin.List.listUpdate (.ref hq.objs.size) (fun _ => #[])
      letGo was.toList.reverse
      Builtin.List.listExtendWith (.ref hq.objs.size) (.ref (s.heap.objs.size + 5)) .none) _ _ _
  refine wpAny_bind ?_
  unfold Builtin.List.listItems
  refine wpAny_bind (wpAny_seqItems hs rfl (wpAny_pure ?_))
  show wpAny _ _ (updateSeq hq.objs.size (fun _ => #[]) >>= fun _ => letGo (#[] : Array Value).toList.reverse >>= fun _ => Builtin.List.listExtendWith (.ref hq.objs.size) (.ref (s.heap.objs.size + 5)) .none) _ _ _
  refine wpAny_bind (wpAny_updateSeq (hz := Nat.zero_le _) (_hz' := Nat.zero_le _) hs rfl (wpAny_bind (wpAny_letGo ?_)))
  unfold Builtin.List.listExtendWith
  have ty : ∀ {h : Heap}, (∀ b o, hq.get? b = some o → h.get? b = some o) → Shared.TypeIs { s with heap := h } (.ref (s.heap.objs.size + 5)) "zip" := fun k => ⟨_, k _ _ zz, rfl⟩
  refine wpAny_bind (wpAny_typeOf (ty k2) ?_)
  have d1 : Builtin.List.listSameRef (.ref hq.objs.size) (.ref (s.heap.objs.size + 5)) = false := by simp [Builtin.List.listSameRef, zS]
  have d2 : (Value.type "zip" == Value.type "list") = false := by decide
  have d3 : (Value.type "zip" == Value.type "tuple") = false := by decide
  simp only [d1, d2, d3, Bool.or_false, Bool.false_eq_true, if_false]
  refine wpAny_bind (wpAny_pyIter_zip (k2 _ _ zz) (wpAny_bind (wpAny_holding ?_)))
  unfold Builtin.List.listLengthHint
  refine wpAny_bind (wpAny_specialOf (ty k2) zip_no_len ?_)
  show wpAny _ _ (specialOf (Value.ref (s.heap.objs.size + 5)) (Str.ofString "__length_hint__") >>= _) _ _ _
  refine wpAny_bind (wpAny_specialOf (ty k2) zip_no_hint (wpAny_pure ?_))
  show wpAny _ _ (rule "list.extend.makes-room" >>= fun _ => Builtin.List.listTouch (.ref hq.objs.size) >>= fun _ =>
    again (.builtin "list.extend.loop" ⟨[.ref hq.objs.size, .ref (s.heap.objs.size + 5), .none], []⟩)) _ _ _
  refine wpAny_bind (wpAny_rule (wpAny_bind ?_))
  show wpAny _ _ (updateSeq hq.objs.size (·.push .none) >>= fun _ => updateSeq hq.objs.size (·.pop)) _ _ _
  refine wpAny_bind (wpAny_updateSeq (hz := Nat.zero_le _) (_hz' := Nat.le_add_left 1 _) hs2 rfl (wpAny_updateSeq (hz := (by decide : 1 ≤ sizeLine)) (_hz' := Nat.zero_le _) hs3 rfl (wpAny_pure ⟨plainId_quiet PySem.F.plain_extend_loop _, ?_⟩)))
  have hH : H hq.objs.size = none := I1.hok.fresh (Nat.le_refl _)
  have J : Inv X pins σ (upd H hq.objs.size (.lst [])) { s with heap := _, toks := s.toks } := I1.laid (t' := s.toks) k4 (Nat.le_refl _) ⟨by decide, [], _, .nil, hs4⟩
  refine loop (X := X) (QF := QF) (A := A.in1) calm D ?_ ?_ ?_ r1 r2 r3 e1 e2 e3 few ?_ ?_ ?_ ?_ (fun y G JJ qq => ⟨rfl, fin y G _ JJ qq⟩) n 0 _ H [] #[] _ (Nat.zero_add _) hs4 .nil rfl J hH ?_ ?_ (k4 _ _ ti) ⟨⟨_, k4 _ _ g1, rfl, rfl⟩, p1.at fun o e => k4 _ _ (keep _ _ e)⟩
    ⟨⟨_, k4 _ _ g2, rfl, rfl⟩, p2.isList.at fun o e => k4 _ _ (keep _ _ e)⟩ ⟨⟨_, k4 _ _ g3, rfl, rfl⟩, p3.isList.at fun o e => k4 _ _ (keep _ _ e)⟩ q
  · exact Nat.ne_of_lt b1
  · exact Nat.ne_of_lt (Nat.lt_succ_of_lt b2)
  · exact Nat.ne_of_lt (Nat.lt_succ_of_lt (Nat.lt_succ_of_lt b3))
  · intro m
    rw [size] at m
    simp at m
  · exact Ne.symm (nS t (Nat.lt_of_lt_of_le b1 (Nat.le_add_right _ _)))
  · exact Ne.symm (nS l1 (Nat.lt_of_lt_of_le b2 (Nat.le_add_right _ _)))
  · exact Ne.symm (nS l2 (Nat.lt_of_lt_of_le b3 (Nat.le_add_right _ _)))
  · intro b hb
    have hb : s.heap.objs.size ≤ b ∧ b < s.heap.objs.size + 6 := by
      have hb : b = s.heap.objs.size + 5 ∨ b = s.heap.objs.size + 3 ∨ b = s.heap.objs.size + 4 ∨ b = s.heap.objs.size ∨ b = s.heap.objs.size + 1 ∨ b = s.heap.objs.size + 2 := by simpa using hb
      rcases hb with e | e | e | e | e | e <;> (rw [e]; exact ⟨by first | exact Nat.le_add_right _ _ | exact Nat.le_refl _, by first | exact Nat.add_lt_add_left (by decide) _ | exact Nat.lt_add_of_pos_right (by decide)⟩)
    have nb := nS b hb.2
    refine ⟨I.fpOk hb.1 ?_, ?_⟩
    · rw [upd_ne nb]
      exact I.hok.fresh hb.1
    · have e : ((((hq.push (lsO #[] 0)).update hq.objs.size (Obj.mapSeq (fun _ => (#[] : Array Value)))).update hq.objs.size (Obj.mapSeq (·.push Value.none))).update hq.objs.size (Obj.mapSeq (·.pop))).objs.size = hq.objs.size + 1 := by
        simp [Heap.update, Heap.size_push]
      show b < Array.size _
      rw [e, size]
      exact Nat.lt_succ_of_lt hb.2
  · exact .inl ⟨k4 _ _ zz, k4 _ _ to⟩
end
end Z3
namespace DL
open PySem PySem.Spec PyProof.Rows L2
/-- list(zip(a, b, c)), a a tuple, b and c lists, of one length -/
def tLZ (K : PySem.W.Frag) (ta : TA) : TE := fun σ H Q => ta σ H fun vs H1 => ∃ (t l m : Addr) (xs ys zs : List V), vs = [.ref t, .ref l, .ref m] ∧ SqT K H1 t xs ∧ SqL K H1 l ys ∧ SqL K H1 m zs ∧ ys.length = xs.length ∧ zs.length = xs.length ∧ xs.length ≤ 1000 ∧
  Z3.layT (Z3.rowsV xs ys zs) (fun Us G => ∀ p, G p = none → Q (.ref p) (upd G p (.lst Us))) H1
theorem pe_lz {X : Cx} {e1 e2 e3 : Expr} {ta : TA} {p p2 q pos : Pos} (hc : X.calm = true) (hg : Gl X "list") (hm : X.mg "list" = none) (hg2 : Gl X "zip") (hm2 : X.mg "zip" = none) (ha : PA X [e1, e2, e3] ta)
    (hs : starEach [e1, e2, e3] X.env = (false, eval e1 X.env) :: starEach [e2, e3] X.env := by rfl) (hpl : (backTo q (starEach [e2, e3] X.env)).any (·.1) = false := by rfl) :
    PE X (.Call (.Name "list" p) [.Call (.Name "zip" p2) [e1, e2, e3] [] q] [] pos) (tLZ X.K ta) := by
  refine ⟨fun pins s σ H Q I h => ?_⟩
  refine Call_ (ld_blt I hg hm boot_list ?_)
  refine PyProof.Rows.callWith_type1 (PyProof.Rows.args_cons ?_ rfl) rfl rfl
  refine Call_ (ld_blt I hg2 hm2 PyProof.Rows.boot_zip ?_)
  refine PyProof.Rows.callWith_type1 (thn (ha.run q pins s σ H _ I h) fun us s1 ⟨vs, H1, I1, r1, q1⟩ => ?_) hs hpl
  obtain ⟨t, l, m, xs, ys, zs, rfl, h1, h2, h3, n2, n3, few, q1⟩ := q1
  cases r1 with
  | cons a1 r1 =>
    cases r1 with
    | cons a2 r1 =>
      cases r1 with
      | cons a3 r1 =>
        cases r1
        cases a1
        cases a2
        cases a3
        refine thn (Z3.call_list_zip (QF := Q) (Q := EP X pins σ Q) (I1.ok.hd hc) I1 h1 h2 h3 rfl n2 n3 few q1 fun y G p J qq => ⟨.ref p, G, J, rfl, qq⟩) fun v y hv => PyProof.Rows.args_nil hv
theorem lzK {X : Cx} {K : PySem.W.Frag} {e : Expr} {t : TA} (h : PE X e (tLZ X.K t)) (hK : X.K = K := by rfl) : PE X e (tLZ K t) := by subst hK; exact h
end DL
/-! list(zip) of three as data; owned lists within an owned list; is True; what a dict holds after a put -/
namespace DL
open PySem PySem.Spec PyProof.Rows L2
section
variable {K : PySem.W.Frag} {w : En} {Γ : Gm} {O : Own} {P : List (Dt × V)} {σ : L2.St} {H B : Hp}
def rowsD (xs ys zs : List Dt) : List Dt := (xs.zip (ys.zip zs)).map fun p => .tup [p.1, p.2.1, p.2.2]
theorem lay_den {Q : List V → Hp → Prop} : ∀ {xs ys zs : List Dt} {vx vy vz : List V} {H B : Hp}, DenL K B xs vx → DenL K B ys vy → DenL K B zs vz → Sat K w Γ O P σ H B →
    (∀ Us G B', Sat K w Γ O P σ G B' → Same B B' → DenL K B' (rowsD xs ys zs) Us → Q Us G) → Z3.layT (Z3.rowsV vx vy vz) Q H
  | [], _, _, vx, _, _, H, B, h1, _, _, S, k => by
    cases h1
    exact k [] H B S (Same.refl _) .nil
  | _ :: _, [], _, _, vy, _, H, B, h1, h2, _, S, k => by
    cases h1
    cases h2
    exact k [] H B S (Same.refl _) .nil
  | _ :: _, _ :: _, [], _, _, vz, H, B, h1, h2, h3, S, k => by
    cases h1
    cases h2
    cases h3
    exact k [] H B S (Same.refl _) .nil
  | x :: xs, y :: ys, z :: zs, _, _, _, H, B, h1, h2, h3, S, k => by
    cases h1 with
    | @cons _ a _ as a1 b1 =>
      cases h2 with
      | @cons _ b _ bs a2 b2 =>
        cases h3 with
        | @cons _ c _ cs a3 b3 =>
          intro T hT
          have e := same_upd (o := .tup [a, b, c]) (S.bfree hT)
          refine lay_den (b1.mono e) (b2.mono e) (b3.mono e) (S.new hT) fun Us G B' S' e' d => k _ _ _ S' (fun p o q => e' _ _ (e _ _ q)) ?_
          exact .cons (.tup (SqT.of (e' _ _ upd_same)) (.cons ((a1.mono e).mono e') (.cons ((a2.mono e).mono e') (.cons ((a3.mono e).mono e') .nil)))) d
theorem ew_lz {Post : Dt → Own → Prop} {ta : TA} (h : AW K ta Γ O fun ds O1 => ∃ xs ys zs, ds = [.tup xs, .lst ys, .lst zs] ∧ ys.length = xs.length ∧ zs.length = xs.length ∧ xs.length ≤ 1000 ∧ Post (.lst (rowsD xs ys zs)) O1) : EW K (tLZ K ta) Γ O Post := fun w P σ H B S Q q =>
  h w P σ H B S _ fun ds vs O1 H1 B1 ⟨xs, ys, zs, e, n2, n3, few, p⟩ hd S1 => by
    subst e
    cases hd with
    | cons h1 hd =>
      cases hd with
      | cons h2 hd =>
        cases hd with
        | cons h3 hd =>
          cases hd
          cases h1 with
          | tup a1 b1 =>
            cases h2 with
            | lst a2 b2 =>
              cases h3 with
              | lst a3 b3 =>
                refine ⟨_, _, _, _, _, _, rfl, sqT_mono S1.bh a1, SqL.of (S1.bh _ _ a2), SqL.of (S1.bh _ _ a3), by rw [← b2.length, ← b1.length]; exact n2, by rw [← b3.length, ← b1.length]; exact n3, by rw [← b1.length]; exact few, ?_⟩
                refine lay_den b1 b2 b3 S1 fun Us G B' S' e d p' hp => ?_
                exact q _ _ O1 _ _ p ((S'.new hp).pin (.lst upd_same (d.mono (same_upd (S'.bfree hp)))))
/-- a family of owned lists becomes data -/
def fam (ps : List (Addr × List Dt)) : Own := ps.map fun p => (p.1, .lst p.2)
theorem nest_go : ∀ {ps : List (Addr × List Dt)} {H B : Hp}, Sat K w Γ (fam ps ++ O) P σ H B → ∃ B', Sat K w Γ O P σ H B' ∧ Same B B' ∧ DenL K B' (ps.map fun p => .lst p.2) (ps.map fun p => .ref p.1)
  | [], H, B, S => ⟨B, S, Same.refl _, .nil⟩
  | p :: ps, H, B, S => by
    have hb : B p.1 = none := (S.ow p.1 _ List.mem_cons_self).1
    obtain ⟨vs, S1, d1⟩ := Sat.freeze (p := p.1) (ds := p.2) S
    obtain ⟨B', S2, e, d2⟩ := nest_go S1
    exact ⟨B', S2, fun a o q => e _ _ (same_upd hb _ _ q), .cons (d1.mono e) d2⟩
theorem den_raws {ps : List (Addr × List Dt)} {vs : List V} (h : DenL K B (ps.map fun p => .raw (.ref p.1)) vs) : vs = ps.map fun p => .ref p.1 := by
  induction ps generalizing vs with
  | nil => cases h; rfl
  | cons p ps ih =>
    cases h with
    | cons h1 h2 =>
      cases h1
      rw [ih h2]
      rfl
theorem ew_nest {Post : Dt → Own → Prop} {t : TE} (h : EW K t Γ O fun d O1 => ∃ (p : Addr) (ps : List (Addr × List Dt)) (O2 : Own), d = .raw (.ref p) ∧ O1.Perm (fam ps ++ (p, .lst (ps.map fun p => .raw (.ref p.1))) :: O2) ∧ Post (.lst (ps.map fun p => .lst p.2)) O2) : EW K t Γ O Post := fun w P σ H B S Q q =>
  h w P σ H B S Q fun d v O1 H1 B1 ⟨p, ps, O2, e, hp, p1⟩ S1 => by
    subst e
    have hv : v = .ref p := by
      have := S1.pi (.raw (.ref p)) v (by simp)
      cases this
      rfl
    subst hv
    obtain ⟨B2, S2, e2, d2⟩ := nest_go (S1.perm hp)
    obtain ⟨g1, g2, vs, g3, g4⟩ := S2.ow p _ List.mem_cons_self
    have ev := den_raws g4
    subst ev
    have S3 : Sat K w Γ ((p, .lst (ps.map fun p => .lst p.2)) :: O2) ((.raw (.ref p), .ref p) :: P) σ H1 B2 := ⟨S2.b0, S2.bh, S2.kh, S2.fr, S2.len, S2.sl, fun q c hq => by
      rcases List.mem_cons.mp hq with e | hq
      · cases e
        exact ⟨g1, g2, _, g3, d2⟩
      · exact S2.ow q c (List.mem_cons_of_mem _ hq), S2.nd, S2.pi⟩
    obtain ⟨us, S4, d4⟩ := S3.freeze
    exact q _ _ O2 _ _ p1 ((S4.pins fun z hz => by simp [hz]).pin d4)
theorem rw_isB {Post : Dt → Own → Prop} {a b : Bool} (k : Post (.bl (decide (a = b))) O) : RW K rIsB (.bl a) (.bl b) O Post := fun w Γ P σ H B x y S hx hy Q q => by
  cases hx
  cases hy
  exact ⟨a, b, rfl, rfl, q _ _ O H B k (S.pin (.bl _))⟩
theorem rw_notB {Post : Dt → Own → Prop} {a b : Bool} (k : Post (.bl (!decide (a = b))) O) : RW K rNotB (.bl a) (.bl b) O Post := fun w Γ P σ H B x y S hx hy Q q => by
  cases hx
  cases hy
  exact ⟨a, b, rfl, rfl, q _ _ O H B k (S.pin (.bl _))⟩
end
theorem getK_put {kvs : KD} {k j : Key} {v : Dt} : getK (putKD kvs k v) j = if j = k then some v else getK kvs j := by
  have here : ∀ kvs : KD, (kvs.any fun kv => decide (kv.1 = k)) = true → getK (kvs.map fun kv => if kv.1 = k then (kv.1, v) else kv) j = if j = k then some v else getK kvs j := by
    intro kvs
    induction kvs with
    | nil => intro h; cases h
    | cons p r ih =>
      intro h
      by_cases e : p.1 = k
      · by_cases ej : j = k
        · simp [getK, e, ej]
        · have e2 : ¬ k = j := fun z => ej z.symm
          have e3 : ¬ p.1 = j := fun z => e2 (e.symm.trans z)
          have rest : ∀ r : KD, ((r.map fun kv => if kv.1 = k then (kv.1, v) else kv).find? fun kv => decide (kv.1 = j)).map (·.2) = (r.find? fun kv => decide (kv.1 = j)).map (·.2) := by
            intro r
            induction r with
            | nil => rfl
            | cons q r ih =>
              rw [List.map_cons, List.find?_cons, List.find?_cons]
              by_cases eq : q.1 = k
              · have : ¬ q.1 = j := fun z => e2 (eq.symm.trans z)
                simp only [eq, if_true, decide_eq_false e2]
                exact ih
              · rw [if_neg eq]
                by_cases ek : q.1 = j
                · simp [ek]
                · simp only [decide_eq_false ek]
                  exact ih
          rw [if_neg ej]
          unfold getK
          rw [List.map_cons, List.find?_cons, List.find?_cons, if_pos e]
          simp only [decide_eq_false e3]
          exact rest r
      · have h' : (r.any fun kv => decide (kv.1 = k)) = true := by simpa [e] using h
        have := ih h'
        unfold getK at this ⊢
        rw [List.map_cons, List.find?_cons, List.find?_cons, if_neg e]
        by_cases ek : p.1 = j
        · have ej : ¬ j = k := fun z => e (ek.trans z)
          simp [ek, ej]
        · simp only [decide_eq_false ek]
          exact this
  have no : ∀ kvs : KD, (kvs.any fun kv => decide (kv.1 = k)) = false → getK (kvs ++ [(k, v)]) j = if j = k then some v else getK kvs j := by
    intro kvs
    induction kvs with
    | nil =>
      intro _
      by_cases ej : j = k
      · simp [getK, ej]
      · have : ¬ k = j := fun z => ej z.symm
        simp [getK, ej, this]
    | cons p r ih =>
      intro h
      have h1 : ¬ p.1 = k := by
        intro e
        simp [e] at h
      have h2 : (r.any fun kv => decide (kv.1 = k)) = false := by simpa [h1] using h
      have := ih h2
      unfold getK at this ⊢
      rw [List.cons_append, List.find?_cons, List.find?_cons]
      by_cases ek : p.1 = j
      · have ej : ¬ j = k := fun z => h1 (ek.trans z)
        simp [ek, ej]
      · simp only [decide_eq_false ek]
        exact this
  unfold putKD
  split
  · rename_i h
    exact here kvs h
  · rename_i h
    exact no kvs (Bool.eq_false_iff.mpr h)
theorem put_len (kvs : KD) (k : Key) (v : Dt) : (putKD kvs k v).length ≤ kvs.length + 1 := by
  unfold putKD
  split
  · rw [List.length_map]; omega
  · rw [List.length_append]; exact Nat.le_refl _
end DL
namespace DL
open PySem PySem.Spec PyProof.Rows L2
theorem kbn_of {K : PySem.W.Frag} {x qual : Str} {st : Stmt} {f : Addr} {fd : FuncData} {ps ks : List Str} {n : Nat} (F : Fun K x qual st f fd)
    (h : ∀ (kV doc pm : Value) (an : Option Addr) (cdv ct : Value) (us ws : List Value), us.length = n → ws.length = ks.length → bindArgs (PySem.W.fnOf x qual (defArgs st) (defBody st) (defScope st) .none kV doc pm an cdv ct) ⟨us, ks.zip ws⟩ = pure (ps.zip (us ++ ws))) :
    KBn K fd ps n ks (fun us ws => us ++ ws) (fun vs zs => vs ++ zs) := by
  obtain ⟨oc, od, kV, doc, pm, an, cdv, ct, osl, rfl, lk, hcd⟩ := F.ex
  exact ⟨fun s us ws _ h1 h2 => .of_eq (h kV doc pm an cdv ct us ws h1 h2), fun r1 r2 => r1.append r2⟩
def topS (i : Nat) : Stmt := PySem.Challenge.pw_spokenline_k11_whole_order_and_bound.main.body.getD i (.Pass ⟨0, 0, 0, 0⟩)
abbrev s_is_integer : Stmt := topS 12
theorem sc_is_integer : FnScope ["value", "low", "high"] ["value", "low", "high"] (defScope s_is_integer) := ⟨rfl, rfl, rfl, by decide +kernel, rfl, by decide +kernel, by decide +kernel⟩
abbrev s_is_topic : Stmt := topS 13
theorem sc_is_topic : FnScope ["value", "sign"] ["value"] (defScope s_is_topic) := ⟨rfl, rfl, rfl, by decide +kernel, rfl, by decide +kernel, by decide +kernel⟩
abbrev s_is_announcement : Stmt := topS 14
theorem sc_is_announcement : FnScope ["value", "most"] ["value", "most"] (defScope s_is_announcement) := ⟨rfl, rfl, rfl, by decide +kernel, rfl, by decide +kernel, by decide +kernel⟩
abbrev s_is_log : Stmt := topS 15
theorem sc_is_log : FnScope ["value", "one", "other"] ["value"] (defScope s_is_log) := ⟨rfl, rfl, rfl, by decide +kernel, rfl, by decide +kernel, by decide +kernel⟩
abbrev s_require_log : Stmt := topS 16
theorem sc_require_log : FnScope ["value"] ["value"] (defScope s_require_log) := ⟨rfl, rfl, rfl, by decide +kernel, rfl, by decide +kernel, by decide +kernel⟩
abbrev s_require_rule : Stmt := topS 17
theorem sc_require_rule : FnScope ["value"] ["value"] (defScope s_require_rule) := ⟨rfl, rfl, rfl, by decide +kernel, rfl, by decide +kernel, by decide +kernel⟩
abbrev s_received : Stmt := topS 20
theorem sc_received : FnScope ["line", "log", "index", "rule", "same", "renewed", "pair"] ["line", "log", "index", "rule"] (defScope s_received) := ⟨rfl, rfl, rfl, by decide +kernel, rfl, by decide +kernel, by decide +kernel⟩
abbrev s_played : Stmt := topS 21
theorem sc_played : FnScope ["log", "rule", "last_begin", "last_time", "line", "done", "found", "free", "now"] ["log", "rule", "last_begin", "last_time"] (defScope s_played) := ⟨rfl, rfl, rfl, by decide +kernel, rfl, by decide +kernel, by decide +kernel⟩
abbrev s_speech : Stmt := topS 22
theorem sc_speech : FnScope ["log", "rule", "begin", "first", "index"] ["log", "rule"] (defScope s_speech) := ⟨rfl, rfl, rfl, by decide +kernel, rfl, by decide +kernel, by decide +kernel⟩
abbrev s_waits : Stmt := topS 23
theorem sc_waits : FnScope ["log", "rule", "rows", "begin", "first", "index"] ["log", "rule"] (defScope s_waits) := ⟨rfl, rfl, rfl, by decide +kernel, rfl, by decide +kernel, by decide +kernel⟩
abbrev s_line_at : Stmt := topS 24
theorem sc_line_at : FnScope ["log", "time", "rule", "first", "index"] ["log", "time", "rule"] (defScope s_line_at) := ⟨rfl, rfl, rfl, by decide +kernel, rfl, by decide +kernel, by decide +kernel⟩
abbrev s__law_source : Stmt := topS 26
theorem sc__law_source : FnScope ["script", "k", "cell", "primes", "seed"] ["script", "k"] (defScope s__law_source) := ⟨rfl, rfl, rfl, by decide +kernel, rfl, by decide +kernel, by decide +kernel⟩
abbrev s__law_pick : Stmt := topS 27
theorem sc__law_pick : FnScope ["source", "size", "drawn"] ["source", "size"] (defScope s__law_pick) := ⟨rfl, rfl, rfl, by decide +kernel, rfl, by decide +kernel, by decide +kernel⟩
abbrev s__law_log : Stmt := topS 28
theorem sc__law_log : FnScope ["source", "most", "names", "time", "long", "found", "wide", "turn", "length"] ["source", "most"] (defScope s__law_log) := ⟨rfl, rfl, rfl, by decide +kernel, rfl, by decide +kernel, by decide +kernel⟩
abbrev s__law_firsts : Stmt := topS 29
theorem sc__law_firsts : FnScope ["log", "rows", "found", "begun", "begin", "topic", "length", "at", "came", "k", "one"] ["log", "rows"] (defScope s__law_firsts) := ⟨rfl, rfl, rfl, by decide +kernel, rfl, by decide +kernel, by decide +kernel⟩
abbrev s__law_bound_right : Stmt := topS 30
theorem sc__law_bound_right : FnScope ["log", "rows", "firsts", "row", "first", "last", "came", "rest", "others", "longest", "one", "topic"] ["log", "rows", "firsts"] (defScope s__law_bound_right) := ⟨rfl, rfl, rfl, by decide +kernel, rfl, by decide +kernel, by decide +kernel⟩
abbrev s_law : Stmt := topS 31
theorem sc_law : FnScope ["script", "k", "source", "log", "rows", "firsts", "due", "by", "time", "topics", "spoken_so", "topic", "pair", "row", "one", "at"] ["script"] (defScope s_law) := ⟨rfl, rfl, rfl, by decide +kernel, rfl, by decide +kernel, by decide +kernel⟩
structure Ad where
  a_is_integer : Addr
  d_is_integer : FuncData
  a_is_topic : Addr
  d_is_topic : FuncData
  a_is_announcement : Addr
  d_is_announcement : FuncData
  a_is_log : Addr
  d_is_log : FuncData
  a_require_log : Addr
  d_require_log : FuncData
  a_require_rule : Addr
  d_require_rule : FuncData
  a_received : Addr
  d_received : FuncData
  a_played : Addr
  d_played : FuncData
  a_speech : Addr
  d_speech : FuncData
  a_waits : Addr
  d_waits : FuncData
  a_line_at : Addr
  d_line_at : FuncData
  a__law_source : Addr
  d__law_source : FuncData
  a__law_pick : Addr
  d__law_pick : FuncData
  a__law_log : Addr
  d__law_log : FuncData
  a__law_firsts : Addr
  d__law_firsts : FuncData
  a__law_bound_right : Addr
  d__law_bound_right : FuncData
  a_law : Addr
  d_law : FuncData
  t_LETTERS : Tok
  a_RULES : Addr
  t_MAX_LOG : Tok
  t_MAX_TIME : Tok
  t_MAX_LENGTH : Tok
  t_MAX_NAME : Tok
  t_FAR : Tok
structure Txt (K : PySem.W.Frag) (mg : Str → Option Value) (A : Ad) : Prop where
  F_is_integer : Fun K "is_integer" "is_integer" s_is_integer A.a_is_integer A.d_is_integer
  g_is_integer : mg "is_integer" = some (.ref A.a_is_integer)
  F_is_topic : Fun K "is_topic" "is_topic" s_is_topic A.a_is_topic A.d_is_topic
  g_is_topic : mg "is_topic" = some (.ref A.a_is_topic)
  F_is_announcement : Fun K "is_announcement" "is_announcement" s_is_announcement A.a_is_announcement A.d_is_announcement
  g_is_announcement : mg "is_announcement" = some (.ref A.a_is_announcement)
  F_is_log : Fun K "is_log" "is_log" s_is_log A.a_is_log A.d_is_log
  g_is_log : mg "is_log" = some (.ref A.a_is_log)
  F_require_log : Fun K "require_log" "require_log" s_require_log A.a_require_log A.d_require_log
  g_require_log : mg "require_log" = some (.ref A.a_require_log)
  F_require_rule : Fun K "require_rule" "require_rule" s_require_rule A.a_require_rule A.d_require_rule
  g_require_rule : mg "require_rule" = some (.ref A.a_require_rule)
  F_received : Fun K "received" "received" s_received A.a_received A.d_received
  g_received : mg "received" = some (.ref A.a_received)
  F_played : Fun K "played" "played" s_played A.a_played A.d_played
  g_played : mg "played" = some (.ref A.a_played)
  F_speech : Fun K "speech" "speech" s_speech A.a_speech A.d_speech
  g_speech : mg "speech" = some (.ref A.a_speech)
  F_waits : Fun K "waits" "waits" s_waits A.a_waits A.d_waits
  g_waits : mg "waits" = some (.ref A.a_waits)
  F_line_at : Fun K "line_at" "line_at" s_line_at A.a_line_at A.d_line_at
  g_line_at : mg "line_at" = some (.ref A.a_line_at)
  F__law_source : Fun K "_law_source" "_law_source" s__law_source A.a__law_source A.d__law_source
  g__law_source : mg "_law_source" = some (.ref A.a__law_source)
  F__law_pick : Fun K "_law_pick" "_law_pick" s__law_pick A.a__law_pick A.d__law_pick
  g__law_pick : mg "_law_pick" = some (.ref A.a__law_pick)
  F__law_log : Fun K "_law_log" "_law_log" s__law_log A.a__law_log A.d__law_log
  g__law_log : mg "_law_log" = some (.ref A.a__law_log)
  F__law_firsts : Fun K "_law_firsts" "_law_firsts" s__law_firsts A.a__law_firsts A.d__law_firsts
  g__law_firsts : mg "_law_firsts" = some (.ref A.a__law_firsts)
  F__law_bound_right : Fun K "_law_bound_right" "_law_bound_right" s__law_bound_right A.a__law_bound_right A.d__law_bound_right
  g__law_bound_right : mg "_law_bound_right" = some (.ref A.a__law_bound_right)
  F_law : Fun K "law" "law" s_law A.a_law A.d_law
  g_law : mg "law" = some (.ref A.a_law)
  g_LETTERS : mg "LETTERS" = some (.str "abcdefghijklmnopqrstuvwxyz" A.t_LETTERS)
  g_RULES : mg "RULES" = some (.ref A.a_RULES)
  c_RULES : ∀ H, SqT K H A.a_RULES [.str "none", .str "place", .str "end"]
  g_MAX_LOG : mg "MAX_LOG" = some (.int 40 A.t_MAX_LOG)
  g_MAX_TIME : mg "MAX_TIME" = some (.int 10000 A.t_MAX_TIME)
  g_MAX_LENGTH : mg "MAX_LENGTH" = some (.int 99 A.t_MAX_LENGTH)
  g_MAX_NAME : mg "MAX_NAME" = some (.int 6 A.t_MAX_NAME)
  g_FAR : mg "FAR" = some (.int 1000000 A.t_FAR)
  len : mg "len" = none
  all : mg "all" = none
  sum : mg "sum" = none
  max : mg "max" = none
  min : mg "min" = none
  isinstance : mg "isinstance" = none
  sorted : mg "sorted" = none
  tuple : mg "tuple" = none
  int : mg "int" = none
  bool : mg "bool" = none
  str : mg "str" = none
  range : mg "range" = none
  zip : mg "zip" = none
  enumerate : mg "enumerate" = none
  set : mg "set" = none
section
variable {K : PySem.W.Frag} {mg : Str → Option Value} {A : Ad}
theorem b_is_integer (T : Txt K mg A) : Binds K A.d_is_integer ["value", "low", "high"] [] := T.F_is_integer.binds fun _ _ _ _ _ _ us hl => match us, hl with | [_, _, _], _ => rfl
theorem b_is_topic (T : Txt K mg A) : Binds K A.d_is_topic ["value"] [] := T.F_is_topic.binds fun _ _ _ _ _ _ us hl => match us, hl with | [_], _ => rfl
theorem b_is_announcement (T : Txt K mg A) : Binds K A.d_is_announcement ["value", "most"] [] := T.F_is_announcement.binds fun _ _ _ _ _ _ us hl => match us, hl with | [_, _], _ => rfl
theorem b_is_log (T : Txt K mg A) : Binds K A.d_is_log ["value"] [] := T.F_is_log.binds fun _ _ _ _ _ _ us hl => match us, hl with | [_], _ => rfl
theorem b_require_log (T : Txt K mg A) : Binds K A.d_require_log ["value"] [] := T.F_require_log.binds fun _ _ _ _ _ _ us hl => match us, hl with | [_], _ => rfl
theorem b_require_rule (T : Txt K mg A) : Binds K A.d_require_rule ["value"] [] := T.F_require_rule.binds fun _ _ _ _ _ _ us hl => match us, hl with | [_], _ => rfl
theorem b_received (T : Txt K mg A) : Binds K A.d_received ["line", "log", "index", "rule"] [] := T.F_received.binds fun _ _ _ _ _ _ us hl => match us, hl with | [_, _, _, _], _ => rfl
theorem b_played (T : Txt K mg A) : Binds K A.d_played ["log", "rule", "last_begin", "last_time"] [] := T.F_played.binds fun _ _ _ _ _ _ us hl => match us, hl with | [_, _, _, _], _ => rfl
theorem kb_speech (T : Txt K mg A) : KBn K A.d_speech ["log", "rule"] 1 ["rule"] (fun us ws => us ++ ws) (fun vs zs => vs ++ zs) := kbn_of T.F_speech fun _ _ _ _ _ _ us ws hl hm => match us, hl, ws, hm with | [_], _, [_], _ => rfl
theorem kb_waits (T : Txt K mg A) : KBn K A.d_waits ["log", "rule"] 1 ["rule"] (fun us ws => us ++ ws) (fun vs zs => vs ++ zs) := kbn_of T.F_waits fun _ _ _ _ _ _ us ws hl hm => match us, hl, ws, hm with | [_], _, [_], _ => rfl
theorem kb_line_at (T : Txt K mg A) : KBn K A.d_line_at ["log", "time", "rule"] 2 ["rule"] (fun us ws => us ++ ws) (fun vs zs => vs ++ zs) := kbn_of T.F_line_at fun _ _ _ _ _ _ us ws hl hm => match us, hl, ws, hm with | [_, _], _, [_], _ => rfl
theorem b__law_source (T : Txt K mg A) : Binds K A.d__law_source ["script", "k"] [] := T.F__law_source.binds fun _ _ _ _ _ _ us hl => match us, hl with | [_, _], _ => rfl
theorem b__law_pick (T : Txt K mg A) : Binds K A.d__law_pick ["source", "size"] [] := T.F__law_pick.binds fun _ _ _ _ _ _ us hl => match us, hl with | [_, _], _ => rfl
theorem b__law_log (T : Txt K mg A) : Binds K A.d__law_log ["source", "most"] [] := T.F__law_log.binds fun _ _ _ _ _ _ us hl => match us, hl with | [_, _], _ => rfl
theorem b__law_firsts (T : Txt K mg A) : Binds K A.d__law_firsts ["log", "rows"] [] := T.F__law_firsts.binds fun _ _ _ _ _ _ us hl => match us, hl with | [_, _], _ => rfl
theorem b__law_bound_right (T : Txt K mg A) : Binds K A.d__law_bound_right ["log", "rows", "firsts"] [] := T.F__law_bound_right.binds fun _ _ _ _ _ _ us hl => match us, hl with | [_, _, _], _ => rfl
end
end DL
namespace DL
open PySem PySem.Spec PyProof.Rows L2
local macro_rules | `(tactic| walk_at "dl") => `(tactic| first
  | (with_reducible_and_instances refine sw_seq ?_)
  | (with_reducible_and_instances refine sw_ret ?_)
  | (with_reducible_and_instances refine sw_retN ?_)
  | (with_reducible_and_instances refine sw_set ?_)
  | (with_reducible_and_instances refine sw_par ?_)
  | (with_reducible_and_instances refine sw_drop ?_)
  | (with_reducible_and_instances refine sw_next ?_)
  | (with_reducible_and_instances refine sw_break ?_)
  | (with_reducible_and_instances refine sw_if ?_)
  | (with_reducible_and_instances refine sw_asg ?_)
  | ((with_reducible_and_instances refine' ew_var ?hh ?kk); (case hh => rfl))
  | (with_reducible_and_instances refine ew_int ?_)
  | (with_reducible_and_instances refine ew_str ?_)
  | (with_reducible_and_instances refine ew_bl ?_)
  | (with_reducible_and_instances refine ew_non ?_)
  | (with_reducible_and_instances refine ew_raw (v := .ty _) ?_)
  | (with_reducible_and_instances refine ew_op ?_)
  | (with_reducible_and_instances refine ew_un ?_)
  | (with_reducible_and_instances refine ew_chain ?_)
  | (with_reducible_and_instances refine ew_andV ?_)
  | (with_reducible_and_instances refine ew_orV ?_)
  | (with_reducible_and_instances refine ew_notV ?_)
  | (with_reducible_and_instances refine ew_if ?_)
  | (with_reducible_and_instances refine ew_tup ?_)
  | (with_reducible_and_instances refine ew_cb ?_)
  | (with_reducible_and_instances refine ew_slA ?_)
  | (with_reducible_and_instances refine .inl ⟨_, rfl, ?_⟩)
  | (with_reducible_and_instances refine .inr ⟨_, .same _, ?_⟩)
  | (with_reducible_and_instances refine aw_cons ?_)
  | (with_reducible_and_instances refine aw_nil ?_)
  | (with_reducible_and_instances refine tw_test ?_)
  | (with_reducible_and_instances refine tw_B ?_)
  | (with_reducible_and_instances refine tw_and ?_)
  | (with_reducible_and_instances refine tw_or ?_)
  | (with_reducible_and_instances refine tw_not ?_)
  | (with_reducible_and_instances refine tw_yes ?_)
  | (with_reducible_and_instances refine pw_none ?_)
  | (with_reducible_and_instances refine pw_some ?_)
  | (with_reducible_and_instances refine rw_le ?_)
  | (with_reducible_and_instances refine rw_lt ?_)
  | (with_reducible_and_instances refine rw_gt ?_)
  | (with_reducible_and_instances refine rw_ge ?_)
  | (with_reducible_and_instances refine rw_sub ?_)
  | (with_reducible_and_instances refine uw_neg ?_)
  | (with_reducible_and_instances refine rwp_int ?_)
  | ((with_reducible_and_instances refine gw_name ?hj ?_); (case hj => first | exact trivial | decide))
  | (with_reducible_and_instances refine gsw_cons ?_)
  | (with_reducible_and_instances refine gsw_nil ?_)
  | (with_reducible_and_instances refine gw_tup rfl ?_)
  | (with_reducible_and_instances refine cw_max2 ?_)
  | (with_reducible_and_instances refine cw_min2 ?_)
  | (with_reducible_and_instances refine cw_lenT ?_)
  | (with_reducible_and_instances refine cw_lenR ?_)
  | (with_reducible_and_instances refine cw_lenL (.same _) ?_)
  | (with_reducible_and_instances refine cw_intB ?_)
  | (with_reducible_and_instances refine ⟨_, rfl, ?_⟩)
  | (with_reducible_and_instances refine ⟨_, _, rfl, ?_⟩)
  | (refine ⟨Nat.le_trans (by simp) (Nat.le_of_lt (small1000 (n := 1000) (by decide))), ?_⟩))
local macro_rules | `(tactic| walk_at "dx") => `(tactic| first
  | (with_reducible_and_instances refine sw_seq ?_)
  | (with_reducible_and_instances refine sw_ret ?_)
  | (with_reducible_and_instances refine sw_retN ?_)
  | (with_reducible_and_instances refine sw_set ?_)
  | (with_reducible_and_instances refine sw_par ?_)
  | (with_reducible_and_instances refine sw_drop ?_)
  | (with_reducible_and_instances refine sw_next ?_)
  | (with_reducible_and_instances refine sw_break ?_)
  | (with_reducible_and_instances refine sw_asg ?_)
  | ((with_reducible_and_instances refine' ew_var ?hh ?kk); (case hh => rfl))
  | (with_reducible_and_instances refine ew_int ?_)
  | (with_reducible_and_instances refine ew_str ?_)
  | (with_reducible_and_instances refine ew_bl ?_)
  | (with_reducible_and_instances refine ew_non ?_)
  | (with_reducible_and_instances refine ew_raw (v := .ty _) ?_)
  | (with_reducible_and_instances refine ew_op ?_)
  | (with_reducible_and_instances refine ew_un ?_)
  | (with_reducible_and_instances refine ew_chain ?_)
  | (with_reducible_and_instances refine ew_andV ?_)
  | (with_reducible_and_instances refine ew_orV ?_)
  | (with_reducible_and_instances refine ew_notV ?_)
  | (with_reducible_and_instances refine ew_if ?_)
  | (with_reducible_and_instances refine ew_tup ?_)
  | (with_reducible_and_instances refine ew_cb ?_)
  | (with_reducible_and_instances refine ew_slA ?_)
  | (with_reducible_and_instances refine .inl ⟨_, rfl, ?_⟩)
  | (with_reducible_and_instances refine .inr ⟨_, .same _, ?_⟩)
  | (with_reducible_and_instances refine aw_cons ?_)
  | (with_reducible_and_instances refine aw_nil ?_)
  | (with_reducible_and_instances refine tw_test ?_)
  | (with_reducible_and_instances refine tw_B ?_)
  | (with_reducible_and_instances refine tw_and ?_)
  | (with_reducible_and_instances refine tw_or ?_)
  | (with_reducible_and_instances refine tw_not ?_)
  | (with_reducible_and_instances refine tw_yes ?_)
  | (with_reducible_and_instances refine pw_none ?_)
  | (with_reducible_and_instances refine pw_some ?_)
  | (with_reducible_and_instances refine rw_le ?_)
  | (with_reducible_and_instances refine rw_lt ?_)
  | (with_reducible_and_instances refine rw_gt ?_)
  | (with_reducible_and_instances refine rw_ge ?_)
  | (with_reducible_and_instances refine rw_sub ?_)
  | (with_reducible_and_instances refine uw_neg ?_)
  | (with_reducible_and_instances refine rwp_int ?_)
  | ((with_reducible_and_instances refine gw_name ?hj ?_); (case hj => first | exact trivial | decide))
  | (with_reducible_and_instances refine gsw_cons ?_)
  | (with_reducible_and_instances refine gsw_nil ?_)
  | (with_reducible_and_instances refine gw_tup rfl ?_)
  | (with_reducible_and_instances refine cw_max2 ?_)
  | (with_reducible_and_instances refine cw_min2 ?_)
  | (with_reducible_and_instances refine cw_lenT ?_)
  | (with_reducible_and_instances refine cw_lenR ?_)
  | (with_reducible_and_instances refine cw_lenL (.same _) ?_)
  | (with_reducible_and_instances refine cw_intB ?_)
  | (with_reducible_and_instances refine ⟨_, rfl, ?_⟩)
  | (with_reducible_and_instances refine ⟨_, _, rfl, ?_⟩)
  | (refine ⟨Nat.le_trans (by simp) (Nat.le_of_lt (small1000 (n := 1000) (by decide))), ?_⟩))
local macro_rules | `(tactic| walk_at "dn") => `(tactic| first
  | (with_reducible_and_instances refine sw_ret ?_)
  | (with_reducible_and_instances refine sw_retN ?_)
  | (with_reducible_and_instances refine sw_set ?_)
  | (with_reducible_and_instances refine sw_par ?_)
  | (with_reducible_and_instances refine sw_drop ?_)
  | (with_reducible_and_instances refine sw_next ?_)
  | (with_reducible_and_instances refine sw_break ?_)
  | (with_reducible_and_instances refine sw_asg ?_)
  | ((with_reducible_and_instances refine' ew_var ?hh ?kk); (case hh => rfl))
  | (with_reducible_and_instances refine ew_int ?_)
  | (with_reducible_and_instances refine ew_str ?_)
  | (with_reducible_and_instances refine ew_bl ?_)
  | (with_reducible_and_instances refine ew_non ?_)
  | (with_reducible_and_instances refine ew_raw (v := .ty _) ?_)
  | (with_reducible_and_instances refine ew_op ?_)
  | (with_reducible_and_instances refine ew_un ?_)
  | (with_reducible_and_instances refine ew_chain ?_)
  | (with_reducible_and_instances refine ew_andV ?_)
  | (with_reducible_and_instances refine ew_orV ?_)
  | (with_reducible_and_instances refine ew_notV ?_)
  | (with_reducible_and_instances refine ew_if ?_)
  | (with_reducible_and_instances refine ew_tup ?_)
  | (with_reducible_and_instances refine ew_cb ?_)
  | (with_reducible_and_instances refine ew_slA ?_)
  | (with_reducible_and_instances refine .inl ⟨_, rfl, ?_⟩)
  | (with_reducible_and_instances refine .inr ⟨_, .same _, ?_⟩)
  | (with_reducible_and_instances refine aw_cons ?_)
  | (with_reducible_and_instances refine aw_nil ?_)
  | (with_reducible_and_instances refine tw_test ?_)
  | (with_reducible_and_instances refine tw_B ?_)
  | (with_reducible_and_instances refine tw_and ?_)
  | (with_reducible_and_instances refine tw_or ?_)
  | (with_reducible_and_instances refine tw_not ?_)
  | (with_reducible_and_instances refine tw_yes ?_)
  | (with_reducible_and_instances refine pw_none ?_)
  | (with_reducible_and_instances refine pw_some ?_)
  | (with_reducible_and_instances refine rw_le ?_)
  | (with_reducible_and_instances refine rw_lt ?_)
  | (with_reducible_and_instances refine rw_gt ?_)
  | (with_reducible_and_instances refine rw_ge ?_)
  | (with_reducible_and_instances refine rw_sub ?_)
  | (with_reducible_and_instances refine uw_neg ?_)
  | (with_reducible_and_instances refine rwp_int ?_)
  | ((with_reducible_and_instances refine gw_name ?hj ?_); (case hj => first | exact trivial | decide))
  | (with_reducible_and_instances refine gsw_cons ?_)
  | (with_reducible_and_instances refine gsw_nil ?_)
  | (with_reducible_and_instances refine gw_tup rfl ?_)
  | (with_reducible_and_instances refine cw_max2 ?_)
  | (with_reducible_and_instances refine cw_min2 ?_)
  | (with_reducible_and_instances refine cw_lenT ?_)
  | (with_reducible_and_instances refine cw_lenR ?_)
  | (with_reducible_and_instances refine cw_lenL (.same _) ?_)
  | (with_reducible_and_instances refine cw_intB ?_)
  | (with_reducible_and_instances refine ⟨_, rfl, ?_⟩)
  | (with_reducible_and_instances refine ⟨_, _, rfl, ?_⟩)
  | (refine ⟨Nat.le_trans (by simp) (Nat.le_of_lt (small1000 (n := 1000) (by decide))), ?_⟩))
/-! ### logs.py -/
def isInt : Dt → Int → Int → Bool
  | .int i, lo, hi => decide (lo ≤ i) && decide (i ≤ hi)
  | _, _, _ => false
def S_is_integer : SpT := fun ds Oc Post => ∃ d lo hi, ds = [d, .int lo, .int hi] ∧ isRaw d = false ∧ Post (.bl (isInt d lo hi)) Oc
def letters : Str := "abcdefghijklmnopqrstuvwxyz"
def topicS (z : Str) : Bool := decide (1 ≤ z.length) && decide (z.length ≤ 6) && z.cps.toList.all fun c => decide (c ∈ letters.cps.toList)
def isTopic : Dt → Bool
  | .str z => topicS z
  | _ => false
/-! small texts within, no reference -/
mutual
def gd : Nat → Dt → Bool
  | _, .non => true
  | _, .bl _ => true
  | _, .int _ => true
  | _, .str x => decide (x.length ≤ 1000)
  | 0, .tup _ => false
  | 0, .lst _ => false
  | n + 1, .tup xs => gdL n xs
  | n + 1, .lst xs => gdL n xs
  | _, .ro _ => false
  | _, .raw _ => false
def gdL : Nat → List Dt → Bool
  | _, [] => true
  | n, x :: xs => gd n x && gdL n xs
end
theorem gdL_iff {n : Nat} : ∀ {xs : List Dt}, gdL n xs = true ↔ ∀ x ∈ xs, gd n x = true
  | [] => by simp [gdL]
  | x :: xs => by simp [gdL, gdL_iff (n := n) (xs := xs)]
theorem gd_raw {n : Nat} {d : Dt} (h : gd n d = true) : isRaw d = false := by
  cases d <;> first | rfl | (exfalso; revert h; cases n <;> simp [gd])
theorem gd_tup {n : Nat} {xs : List Dt} (h : gd n (.tup xs) = true) : ∃ m, ∀ x ∈ xs, gd m x = true := by
  cases n with
  | zero => simp [gd] at h
  | succ n => exact ⟨n, gdL_iff.mp (by simpa [gd] using h)⟩
def S_is_topic : SpT := fun ds Oc Post => ∃ d n, ds = [d] ∧ gd n d = true ∧ Post (.bl (isTopic d)) Oc
def isAnn : Dt → Int → Bool
  | .tup [a, b, c], m => isInt a 0 m && isTopic b && isInt c 1 99
  | _, _ => false
def S_is_announcement : SpT := fun ds Oc Post => ∃ d m n, ds = [d, .int m] ∧ gd n d = true ∧ Post (.bl (isAnn d m)) Oc
def timeD : Dt → Int
  | .tup (.int t :: _) => t
  | _ => 0
def lenD : Dt → Int
  | .tup [_, _, .int t] => t
  | _ => 0
def pairsD (f : Dt → Dt → Bool) : List Dt → Bool
  | x :: y :: r => f x y && pairsD f (y :: r)
  | _ => true
def isLog : Dt → Bool
  | .tup xs => decide (xs.length ≤ 40) && xs.all (fun d => isAnn d 10000) && pairsD (fun x y => decide (timeD x ≤ timeD y)) xs
  | _ => false
def S_is_log : SpT := fun ds Oc Post => ∃ d n, ds = [d] ∧ gd n d = true ∧ Post (.bl (isLog d)) Oc
theorem inst_int {d : Dt} (h : instD d "int" = true) (h2 : instD d "bool" = false) : ∃ i, d = .int i := by
  cases d <;> first | exact ⟨_, rfl⟩ | (revert h h2; simp [instD, tyD])
theorem inst_str {d : Dt} (h : instD d "str" = true) : ∃ i, d = .str i := by
  cases d <;> first | exact ⟨_, rfl⟩ | (revert h; simp [instD, tyD])
theorem inst_tup {d : Dt} (h : instD d "tuple" = true) (hr : isRaw d = false) : ∃ i, d = .tup i := by
  cases d <;> first | exact ⟨_, rfl⟩ | (revert h hr; simp [instD, tyD, isRaw])
section
variable {P : Program} {w : World} {K : PySem.W.Frag} {mg : Str → Option Value} {base : Heap} {A : Ad}
theorem ok_is_integer (T : Txt K mg A) : FnOk P w K mg base CX0 1 A.a_is_integer A.d_is_integer ["value", "low", "high"] (SpD K S_is_integer) := by
  refine fn_ok T.F_is_integer sc_is_integer (fun ds Oc Post h => by obtain ⟨_, _, _, rfl, _⟩ := h; rfl) (fun cdv AA outer s H E hr => ?_)
  refine ⟨_, (pss_one (ps_ret (pe_and (pe_callB (isiK (K := K)) (by rfl) T.isinstance (by decide +kernel) (pa_cons (pv 0) (pa_cons (pe_bltn (v := .ty "int") (u := .type "int") (by rfl) T.int (by decide +kernel) rfl) pa_nil))) (pe_and (pe_not (pe_callB (isiK (K := K)) (by rfl) T.isinstance (by decide +kernel) (pa_cons (pv 0) (pa_cons (pe_bltn (v := .ty "bool") (u := .type "bool") (by rfl) T.bool (by decide +kernel) rfl) pa_nil)))) (pe_one (pe_chain op_le op_le (pv 1) (pv 0) (pv 2))))))), fun ds Oc Post h => ?_⟩
  obtain ⟨d, lo, hi, rfl, hr, hp⟩ := h
  repeat walk_at "dl"
  refine cw_isi (.same _) hr (.inl rfl) ?_
  repeat walk_at "dl"
  refine ⟨fun h1 => ?_, fun h1 => ?_⟩
  · repeat walk_at "dl"
    refine cw_isi (.same _) hr (.inr (.inl rfl)) ?_
    repeat walk_at "dl"
    refine ⟨fun h2 => ?_, fun h2 => ?_⟩
    · obtain ⟨i, rfl⟩ := inst_int h1 (by simpa using h2)
      repeat walk_at "dl"
      refine ⟨fun h3 => ?_, fun h3 => ?_⟩
      · repeat walk_at "dl"
        have e : isInt (.int i) lo hi = decide (i ≤ hi) := by simp only [isInt, h3, Bool.true_and]
        rw [e] at hp
        exact hp
      · have e : isInt (.int i) lo hi = false := by simp only [isInt, h3, Bool.false_and]
        rw [e] at hp
        exact hp
    · have e : isInt d lo hi = false := by
        cases d <;> first | rfl | (revert h2; simp [instD, tyD])
      rw [e] at hp
      exact hp
  · have e : isInt d lo hi = false := by
      cases d <;> first | rfl | (revert h1; simp [instD, tyD])
    rw [e] at hp
    exact hp
theorem ok_is_topic (T : Txt K mg A) : FnOk P w K mg base CX0 1 A.a_is_topic A.d_is_topic ["value"] (SpD K S_is_topic) := by
  refine fn_ok T.F_is_topic sc_is_topic (fun ds Oc Post h => by obtain ⟨_, _, rfl, _⟩ := h; rfl) (fun cdv AA outer s H E hr => ?_)
  refine ⟨_, (pss_one (ps_ret (pe_and (pe_callB (isiK (K := K)) (by rfl) T.isinstance (by decide +kernel) (pa_cons (pv 0) (pa_cons (pe_bltn (v := .ty "str") (u := .type "str") (by rfl) T.str (by decide +kernel) rfl) pa_nil))) (pe_and (pe_chain op_le op_le pe_int (pe_callB (lenK (K := K)) (by rfl) T.len (by decide +kernel) (pa_cons (pv 0) pa_nil)) (pe_glob (v := .int 6) rfl T.g_MAX_NAME ⟨_, rfl⟩)) (pe_one (pe_callB (allK (K := K)) (by rfl) T.all (by decide +kernel) (pa_cons (pe_lc (own := [("sign", 1)]) rfl sc_is_topic.nd (seqK (K := K) (pv 0)) (blkOk_by (N := ["value", "sign"]) (sc := defScope s_is_topic) (by decide +kernel)) (fun _ _ _ _ _ => (pg_name (i := 1) sc_is_topic.nd rfl (.inl rfl))) (fun _ _ _ _ _ => pts_nil) (fun _ _ _ _ _ => (pe_cmpR (inK (K := K) hr.units) (pv 1) (pe_glob (v := .str "abcdefghijklmnopqrstuvwxyz") rfl T.g_LETTERS ⟨_, rfl⟩) (by rfl)))) pa_nil))))))), fun ds Oc Post h => ?_⟩
  obtain ⟨d, n, rfl, hg, hp⟩ := h
  repeat walk_at "dl"
  refine cw_isi (.same _) (gd_raw hg) (.inr (.inr (.inl rfl))) ?_
  repeat walk_at "dl"
  refine ⟨fun h1 => ?_, fun h1 => ?_⟩
  · obtain ⟨z, rfl⟩ := inst_str h1
    have hz : z.length ≤ 1000 := by cases n <;> simpa [gd] using hg
    repeat walk_at "dl"
    refine cw_lenS (Nat.le_of_lt (small1000 hz)) ?_
    repeat walk_at "dl"
    refine ⟨fun h2 => ?_, fun h2 => ?_⟩
    · repeat walk_at "dl"
      refine ⟨fun h3 => ?_, fun h3 => ?_⟩
      · repeat walk_at "dl"
        refine ew_lcM (α := Nat) (iws_str ?_)
        repeat walk_at "dl"
        refine ⟨fun c => .str ⟨#[c]⟩, z.cps.toList, fun c => .bl (decide (c ∈ letters.cps.toList)), rfl, fun p e => (nomatch e), ?_, fun c hc => ?_, ?_⟩
        · have : z.cps.toList.length = z.length := rfl
          omega
        · repeat walk_at "dl"
          refine rwi_c ?_
          exact ⟨rfl, rfl⟩
        · repeat walk_at "dl"
          refine cw_all (bs := z.cps.toList.map fun c => decide (c ∈ letters.cps.toList)) (.same _) (by rw [List.map_map] <;> rfl) ?_
          have e : isTopic (.str z) = (z.cps.toList.map fun c => decide (c ∈ letters.cps.toList)).all id := by
            have h2' := of_decide_eq_true h2
            have h3' := of_decide_eq_true h3
            have a1 : decide (1 ≤ z.length) = true := decide_eq_true (by omega)
            have a2 : decide (z.length ≤ 6) = true := decide_eq_true (by omega)
            simp only [isTopic, topicS, a1, a2, Bool.true_and, List.all_map]
            rfl
          rw [← e]
          exact hp
      · have e : isTopic (.str z) = false := by
          have h3' := of_decide_eq_false h3
          have a2 : decide (z.length ≤ 6) = false := decide_eq_false (by omega)
          simp only [isTopic, topicS, a2, Bool.and_false, Bool.false_and]
        rw [e] at hp
        exact hp
    · have e : isTopic (.str z) = false := by
        have h2' := of_decide_eq_false h2
        have a2 : decide (1 ≤ z.length) = false := decide_eq_false (by omega)
        simp only [isTopic, topicS, a2, Bool.false_and]
      rw [e] at hp
      exact ⟨_, rfl, fun z => (by cases z), fun _ => hp⟩
  · have e : isTopic d = false := by
      cases d <;> first | rfl | (revert h1; simp [instD, tyD])
    rw [e] at hp
    exact hp
end
end DL
namespace DL
open PySem PySem.Spec PyProof.Rows L2
local macro_rules | `(tactic| walk_at "dl") => `(tactic| first
  | (with_reducible_and_instances refine sw_seq ?_)
  | (with_reducible_and_instances refine sw_ret ?_)
  | (with_reducible_and_instances refine sw_retN ?_)
  | (with_reducible_and_instances refine sw_set ?_)
  | (with_reducible_and_instances refine sw_par ?_)
  | (with_reducible_and_instances refine sw_drop ?_)
  | (with_reducible_and_instances refine sw_next ?_)
  | (with_reducible_and_instances refine sw_break ?_)
  | (with_reducible_and_instances refine sw_if ?_)
  | (with_reducible_and_instances refine sw_asg ?_)
  | ((with_reducible_and_instances refine' ew_var ?hh ?kk); (case hh => rfl))
  | (with_reducible_and_instances refine ew_int ?_)
  | (with_reducible_and_instances refine ew_str ?_)
  | (with_reducible_and_instances refine ew_bl ?_)
  | (with_reducible_and_instances refine ew_non ?_)
  | (with_reducible_and_instances refine ew_raw (v := .ty _) ?_)
  | (with_reducible_and_instances refine ew_op ?_)
  | (with_reducible_and_instances refine ew_un ?_)
  | (with_reducible_and_instances refine ew_chain ?_)
  | (with_reducible_and_instances refine ew_andV ?_)
  | (with_reducible_and_instances refine ew_orV ?_)
  | (with_reducible_and_instances refine ew_notV ?_)
  | (with_reducible_and_instances refine ew_if ?_)
  | (with_reducible_and_instances refine ew_tup ?_)
  | (with_reducible_and_instances refine ew_cb ?_)
  | (with_reducible_and_instances refine ew_slA ?_)
  | (with_reducible_and_instances refine .inl ⟨_, rfl, ?_⟩)
  | (with_reducible_and_instances refine .inr ⟨_, .same _, ?_⟩)
  | (with_reducible_and_instances refine aw_cons ?_)
  | (with_reducible_and_instances refine aw_nil ?_)
  | (with_reducible_and_instances refine tw_test ?_)
  | (with_reducible_and_instances refine tw_B ?_)
  | (with_reducible_and_instances refine tw_and ?_)
  | (with_reducible_and_instances refine tw_or ?_)
  | (with_reducible_and_instances refine tw_not ?_)
  | (with_reducible_and_instances refine tw_yes ?_)
  | (with_reducible_and_instances refine pw_none ?_)
  | (with_reducible_and_instances refine pw_some ?_)
  | (with_reducible_and_instances refine rw_le ?_)
  | (with_reducible_and_instances refine rw_lt ?_)
  | (with_reducible_and_instances refine rw_gt ?_)
  | (with_reducible_and_instances refine rw_ge ?_)
  | (with_reducible_and_instances refine rw_sub ?_)
  | (with_reducible_and_instances refine uw_neg ?_)
  | (with_reducible_and_instances refine rwp_int ?_)
  | ((with_reducible_and_instances refine gw_name ?hj ?_); (case hj => first | exact trivial | decide))
  | (with_reducible_and_instances refine gsw_cons ?_)
  | (with_reducible_and_instances refine gsw_nil ?_)
  | (with_reducible_and_instances refine gw_tup rfl ?_)
  | (with_reducible_and_instances refine cw_max2 ?_)
  | (with_reducible_and_instances refine cw_min2 ?_)
  | (with_reducible_and_instances refine cw_lenT ?_)
  | (with_reducible_and_instances refine cw_lenR ?_)
  | (with_reducible_and_instances refine cw_lenL (.same _) ?_)
  | (with_reducible_and_instances refine cw_intB ?_)
  | (with_reducible_and_instances refine ⟨_, rfl, ?_⟩)
  | (with_reducible_and_instances refine ⟨_, _, rfl, ?_⟩)
  | (refine ⟨Nat.le_trans (by simp) (Nat.le_of_lt (small1000 (n := 1000) (by decide))), ?_⟩))
local macro_rules | `(tactic| walk_at "dx") => `(tactic| first
  | (with_reducible_and_instances refine sw_seq ?_)
  | (with_reducible_and_instances refine sw_ret ?_)
  | (with_reducible_and_instances refine sw_retN ?_)
  | (with_reducible_and_instances refine sw_set ?_)
  | (with_reducible_and_instances refine sw_par ?_)
  | (with_reducible_and_instances refine sw_drop ?_)
  | (with_reducible_and_instances refine sw_next ?_)
  | (with_reducible_and_instances refine sw_break ?_)
  | (with_reducible_and_instances refine sw_asg ?_)
  | ((with_reducible_and_instances refine' ew_var ?hh ?kk); (case hh => rfl))
  | (with_reducible_and_instances refine ew_int ?_)
  | (with_reducible_and_instances refine ew_str ?_)
  | (with_reducible_and_instances refine ew_bl ?_)
  | (with_reducible_and_instances refine ew_non ?_)
  | (with_reducible_and_instances refine ew_raw (v := .ty _) ?_)
  | (with_reducible_and_instances refine ew_op ?_)
  | (with_reducible_and_instances refine ew_un ?_)
  | (with_reducible_and_instances refine ew_chain ?_)
  | (with_reducible_and_instances refine ew_andV ?_)
  | (with_reducible_and_instances refine ew_orV ?_)
  | (with_reducible_and_instances refine ew_notV ?_)
  | (with_reducible_and_instances refine ew_if ?_)
  | (with_reducible_and_instances refine ew_tup ?_)
  | (with_reducible_and_instances refine ew_cb ?_)
  | (with_reducible_and_instances refine ew_slA ?_)
  | (with_reducible_and_instances refine .inl ⟨_, rfl, ?_⟩)
  | (with_reducible_and_instances refine .inr ⟨_, .same _, ?_⟩)
  | (with_reducible_and_instances refine aw_cons ?_)
  | (with_reducible_and_instances refine aw_nil ?_)
  | (with_reducible_and_instances refine tw_test ?_)
  | (with_reducible_and_instances refine tw_B ?_)
  | (with_reducible_and_instances refine tw_and ?_)
  | (with_reducible_and_instances refine tw_or ?_)
  | (with_reducible_and_instances refine tw_not ?_)
  | (with_reducible_and_instances refine tw_yes ?_)
  | (with_reducible_and_instances refine pw_none ?_)
  | (with_reducible_and_instances refine pw_some ?_)
  | (with_reducible_and_instances refine rw_le ?_)
  | (with_reducible_and_instances refine rw_lt ?_)
  | (with_reducible_and_instances refine rw_gt ?_)
  | (with_reducible_and_instances refine rw_ge ?_)
  | (with_reducible_and_instances refine rw_sub ?_)
  | (with_reducible_and_instances refine uw_neg ?_)
  | (with_reducible_and_instances refine rwp_int ?_)
  | ((with_reducible_and_instances refine gw_name ?hj ?_); (case hj => first | exact trivial | decide))
  | (with_reducible_and_instances refine gsw_cons ?_)
  | (with_reducible_and_instances refine gsw_nil ?_)
  | (with_reducible_and_instances refine gw_tup rfl ?_)
  | (with_reducible_and_instances refine cw_max2 ?_)
  | (with_reducible_and_instances refine cw_min2 ?_)
  | (with_reducible_and_instances refine cw_lenT ?_)
  | (with_reducible_and_instances refine cw_lenR ?_)
  | (with_reducible_and_instances refine cw_lenL (.same _) ?_)
  | (with_reducible_and_instances refine cw_intB ?_)
  | (with_reducible_and_instances refine ⟨_, rfl, ?_⟩)
  | (with_reducible_and_instances refine ⟨_, _, rfl, ?_⟩)
  | (refine ⟨Nat.le_trans (by simp) (Nat.le_of_lt (small1000 (n := 1000) (by decide))), ?_⟩))
local macro_rules | `(tactic| walk_at "dn") => `(tactic| first
  | (with_reducible_and_instances refine sw_ret ?_)
  | (with_reducible_and_instances refine sw_retN ?_)
  | (with_reducible_and_instances refine sw_set ?_)
  | (with_reducible_and_instances refine sw_par ?_)
  | (with_reducible_and_instances refine sw_drop ?_)
  | (with_reducible_and_instances refine sw_next ?_)
  | (with_reducible_and_instances refine sw_break ?_)
  | (with_reducible_and_instances refine sw_asg ?_)
  | ((with_reducible_and_instances refine' ew_var ?hh ?kk); (case hh => rfl))
  | (with_reducible_and_instances refine ew_int ?_)
  | (with_reducible_and_instances refine ew_str ?_)
  | (with_reducible_and_instances refine ew_bl ?_)
  | (with_reducible_and_instances refine ew_non ?_)
  | (with_reducible_and_instances refine ew_raw (v := .ty _) ?_)
  | (with_reducible_and_instances refine ew_op ?_)
  | (with_reducible_and_instances refine ew_un ?_)
  | (with_reducible_and_instances refine ew_chain ?_)
  | (with_reducible_and_instances refine ew_andV ?_)
  | (with_reducible_and_instances refine ew_orV ?_)
  | (with_reducible_and_instances refine ew_notV ?_)
  | (with_reducible_and_instances refine ew_if ?_)
  | (with_reducible_and_instances refine ew_tup ?_)
  | (with_reducible_and_instances refine ew_cb ?_)
  | (with_reducible_and_instances refine ew_slA ?_)
  | (with_reducible_and_instances refine .inl ⟨_, rfl, ?_⟩)
  | (with_reducible_and_instances refine .inr ⟨_, .same _, ?_⟩)
  | (with_reducible_and_instances refine aw_cons ?_)
  | (with_reducible_and_instances refine aw_nil ?_)
  | (with_reducible_and_instances refine tw_test ?_)
  | (with_reducible_and_instances refine tw_B ?_)
  | (with_reducible_and_instances refine tw_and ?_)
  | (with_reducible_and_instances refine tw_or ?_)
  | (with_reducible_and_instances refine tw_not ?_)
  | (with_reducible_and_instances refine tw_yes ?_)
  | (with_reducible_and_instances refine pw_none ?_)
  | (with_reducible_and_instances refine pw_some ?_)
  | (with_reducible_and_instances refine rw_le ?_)
  | (with_reducible_and_instances refine rw_lt ?_)
  | (with_reducible_and_instances refine rw_gt ?_)
  | (with_reducible_and_instances refine rw_ge ?_)
  | (with_reducible_and_instances refine rw_sub ?_)
  | (with_reducible_and_instances refine uw_neg ?_)
  | (with_reducible_and_instances refine rwp_int ?_)
  | ((with_reducible_and_instances refine gw_name ?hj ?_); (case hj => first | exact trivial | decide))
  | (with_reducible_and_instances refine gsw_cons ?_)
  | (with_reducible_and_instances refine gsw_nil ?_)
  | (with_reducible_and_instances refine gw_tup rfl ?_)
  | (with_reducible_and_instances refine cw_max2 ?_)
  | (with_reducible_and_instances refine cw_min2 ?_)
  | (with_reducible_and_instances refine cw_lenT ?_)
  | (with_reducible_and_instances refine cw_lenR ?_)
  | (with_reducible_and_instances refine cw_lenL (.same _) ?_)
  | (with_reducible_and_instances refine cw_intB ?_)
  | (with_reducible_and_instances refine ⟨_, rfl, ?_⟩)
  | (with_reducible_and_instances refine ⟨_, _, rfl, ?_⟩)
  | (refine ⟨Nat.le_trans (by simp) (Nat.le_of_lt (small1000 (n := 1000) (by decide))), ?_⟩))
theorem or_t {b : Bool} {A B : Prop} (h : b = true) (k : B) : (b = false → A) ∧ (b = true → B) := ⟨fun z => (by rw [h] at z; cases z), fun _ => k⟩
theorem or_f {b : Bool} {A B : Prop} (h : b = false) (k : A) : (b = false → A) ∧ (b = true → B) := ⟨fun _ => k, fun z => by rw [h] at z; cases z⟩
theorem if_t {b : Bool} {A B : Prop} (h : b = true) (k : A) : (b = true → A) ∧ (b = false → B) := ⟨fun _ => k, fun z => by rw [h] at z; cases z⟩
theorem if_f {b : Bool} {A B : Prop} (h : b = false) (k : B) : (b = true → A) ∧ (b = false → B) := ⟨fun z => (by rw [h] at z; cases z), fun _ => k⟩
theorem not_tup {d : Dt} (h : ∀ xs, d ≠ .tup xs) : instD d "tuple" = false := by
  cases d <;> first | exact absurd rfl (h _) | simp [instD, tyD]
theorem inst_t (xs : List Dt) : instD (.tup xs) "tuple" = true := rfl
theorem isAnn_no {d : Dt} {m : Int} (h : ∀ a b c, d ≠ .tup [a, b, c]) : isAnn d m = false := by
  unfold isAnn
  split
  · exact absurd rfl (h _ _ _)
  · rfl
theorem atI_0 {α : Type} {a : α} {r : List α} : atI (a :: r) 0 = some a := atI_nat (j := 0) rfl
theorem atI_1 {α : Type} {a b : α} {r : List α} : atI (a :: b :: r) 1 = some b := atI_nat (j := 1) rfl
theorem atI_2 {α : Type} {a b c : α} {r : List α} : atI (a :: b :: c :: r) 2 = some c := atI_nat (j := 2) rfl
theorem atI_3 {α : Type} {a b c d : α} {r : List α} : atI (a :: b :: c :: d :: r) 3 = some d := atI_nat (j := 3) rfl
theorem atI_4 {α : Type} {a b c d e : α} {r : List α} : atI (a :: b :: c :: d :: e :: r) 4 = some e := atI_nat (j := 4) rfl
section
variable {P : Program} {w : World} {K : PySem.W.Frag} {mg : Str → Option Value} {base : Heap} {A : Ad}
theorem ok_is_announcement (T : Txt K mg A) : FnOk P w K mg base CX0 2 A.a_is_announcement A.d_is_announcement ["value", "most"] (SpD K S_is_announcement) := by
  refine fn_ok T.F_is_announcement sc_is_announcement (fun ds Oc Post h => by obtain ⟨_, _, _, rfl, _⟩ := h; rfl) (fun cdv AA outer s H E hr => ?_)
  refine ⟨_, (pss_cons (ps_if (PW.pt (pw_or (pt_not (pt_val (pe_callB (isiK (K := K)) (by rfl) T.isinstance (by decide +kernel) (pa_cons (pv 0) (pa_cons (pe_bltn (v := .ty "tuple") (u := .type "tuple") (by rfl) T.tuple (by decide +kernel) rfl) pa_nil))))) (pw_or (pt_cmpR (neK (K := K) hr.units) (pe_callB (lenK (K := K)) (by rfl) T.len (by decide +kernel) (pa_cons (pv 0) pa_nil)) pe_int (nomark _)) (pw_or1 (pt_not (pt_val (pe_call (ok_is_integer T) (hr.mono (by decide)) (by rfl) T.g_is_integer T.F_is_integer.kp (b_is_integer T) .nil pass0 (pa_cons (pe_ix (ixK (K := K)) (pv 0) pe_int (fun _ _ => rfl)) (pa_cons pe_int (pa_cons (pv 1) pa_nil)))))))))) (pss_one (ps_ret pe_bl)) pss_nil)
  (pss_one (ps_ret (pe_and (pe_call (ok_is_topic T) (hr.mono (by decide)) (by rfl) T.g_is_topic T.F_is_topic.kp (b_is_topic T) .nil pass0 (pa_cons (pe_ix (ixK (K := K)) (pv 0) pe_int (fun _ _ => rfl)) pa_nil)) (pe_one (pe_call (ok_is_integer T) (hr.mono (by decide)) (by rfl) T.g_is_integer T.F_is_integer.kp (b_is_integer T) .nil pass0 (pa_cons (pe_ix (ixK (K := K)) (pv 0) pe_int (fun _ _ => rfl)) (pa_cons pe_int (pa_cons (pe_glob (v := .int 99) rfl T.g_MAX_LENGTH ⟨_, rfl⟩) pa_nil))))))))), fun ds Oc Post h => ?_⟩
  obtain ⟨d, m, n, rfl, hg, hp⟩ := h
  repeat walk_at "dl"
  refine cw_isi (.same _) (gd_raw hg) (.inr (.inr (.inr (.inl rfl)))) ?_
  repeat walk_at "dl"
  by_cases hd : ∃ xs, d = .tup xs
  · obtain ⟨xs, rfl⟩ := hd
    obtain ⟨k, hx⟩ := gd_tup hg
    refine or_f rfl ?_
    repeat walk_at "dl"
    refine rw_ne (.same _) (.same _) rfl rfl ?_
    repeat walk_at "dl"
    by_cases hl : xs.length = 3
    · refine or_f (by simp [eqD, hl]) ?_
      obtain ⟨a, b, c, rfl⟩ : ∃ a b c, xs = [a, b, c] := by
        match xs, hl with
        | [a, b, c], _ => exact ⟨a, b, c, rfl⟩
      repeat walk_at "dl"
      refine ew_call0 ?_
      repeat walk_at "dl"
      refine rw_ixT_ atI_0 ?_
      repeat walk_at "dl"
      refine ⟨a, 0, m, rfl, gd_raw (hx a (by simp)), ?_⟩
      repeat walk_at "dl"
      refine ⟨fun h1 => ?_, fun h1 => ?_⟩
      · repeat walk_at "dl"
        have e : isAnn (.tup [a, b, c]) m = false := by
          have h1' : isInt a 0 m = false := by simpa using h1
          simp only [isAnn, h1', Bool.false_and]
        rw [e] at hp
        exact hp
      · have h1' : isInt a 0 m = true := by simpa using h1
        repeat walk_at "dl"
        refine ew_call0 ?_
        repeat walk_at "dl"
        refine rw_ixT_ atI_1 ?_
        repeat walk_at "dl"
        refine ⟨b, k, rfl, hx b (by simp), ?_⟩
        repeat walk_at "dl"
        refine ⟨fun h2 => ?_, fun h2 => ?_⟩
        · repeat walk_at "dl"
          refine ew_call0 ?_
          repeat walk_at "dl"
          refine rw_ixT_ atI_2 ?_
          repeat walk_at "dl"
          refine ⟨c, 1, 99, rfl, gd_raw (hx c (by simp)), ?_⟩
          have e : isAnn (.tup [a, b, c]) m = isInt c 1 99 := by simp only [isAnn, h1', h2, Bool.true_and]
          rw [e] at hp
          exact hp
        · have e : isAnn (.tup [a, b, c]) m = false := by simp only [isAnn, h2, Bool.and_false, Bool.false_and]
          rw [e] at hp
          exact hp
    · refine or_t (by simp only [eqD, Bool.not_eq_true', decide_eq_false_iff_not]; omega) ?_
      repeat walk_at "dl"
      rw [isAnn_no (fun a b c z => hl (by cases z; rfl))] at hp
      refine if_t rfl ?_
      repeat walk_at "dl"
      exact hp
  · refine or_t (by rw [not_tup fun xs z => hd ⟨xs, z⟩]; rfl) ?_
    rw [isAnn_no (fun a b c z => hd ⟨_, z⟩)] at hp
    repeat walk_at "dl"
    refine if_t rfl ?_
    repeat walk_at "dl"
    exact hp
theorem sorted_zip (f : Dt → Dt → Bool) : ∀ xs : List Dt, ((List.zipWith (fun a b => (a, b)) xs (xs.drop 1)).all fun p => f p.1 p.2) = pairsD f xs
  | [] => rfl
  | [x] => rfl
  | x :: y :: r => by
    have ih := sorted_zip f (y :: r)
    simp only [List.drop_succ_cons, List.drop_zero] at ih ⊢
    simp only [List.zipWith_cons_cons, List.all_cons, pairsD, ih]
theorem cut1D (xs : List Dt) : cutD xs (some 1) none = xs.drop 1 := by
  unfold cutD
  rw [show HT.sIx xs.length 0 (some 1) = min 1 xs.length from HT.sIx_nat xs.length 0 1, HT.sIx_none]
  cases xs with
  | nil => rfl
  | cons x r =>
    rw [show min 1 (x :: r).length = 1 by rw [List.length_cons]; omega]
    show (List.take ((x :: r).length - 1) r) = r
    rw [List.length_cons, Nat.add_sub_cancel]
    exact List.take_length
theorem ann_time {d : Dt} {m : Int} (h : isAnn d m = true) : ∃ t c n, d = .tup [.int t, .str c, .int n] ∧ 0 ≤ t ∧ t ≤ m ∧ topicS c = true ∧ 1 ≤ n ∧ n ≤ 99 := by
  match d, h with
  | .tup [a, b, c], h =>
    simp only [isAnn, Bool.and_eq_true] at h
    obtain ⟨⟨h1, h2⟩, h3⟩ := h
    cases a with
    | int t =>
      cases b with
      | str z =>
        cases c with
        | int n =>
          simp only [isInt, Bool.and_eq_true, decide_eq_true_eq] at h1 h3
          exact ⟨_, _, _, rfl, h1.1, h1.2, h2, h3.1, h3.2⟩
        | _ => exact absurd h3 (by simp [isInt])
      | _ => exact absurd h2 (by simp [isTopic])
    | _ => exact absurd h1 (by simp [isInt])
theorem ok_is_log (T : Txt K mg A) : FnOk P w K mg base CX0 3 A.a_is_log A.d_is_log ["value"] (SpD K S_is_log) := by
  refine fn_ok T.F_is_log sc_is_log (fun ds Oc Post h => by obtain ⟨_, _, rfl, _⟩ := h; rfl) (fun cdv AA outer s H E hr => ?_)
  refine ⟨_, (pss_cons (ps_if (PW.pt (pw_or (pt_not (pt_val (pe_callB (isiK (K := K)) (by rfl) T.isinstance (by decide +kernel) (pa_cons (pv 0) (pa_cons (pe_bltn (v := .ty "tuple") (u := .type "tuple") (by rfl) T.tuple (by decide +kernel) rfl) pa_nil))))) (pw_or1 (pt_cmpR op_gt (pe_callB (lenK (K := K)) (by rfl) T.len (by decide +kernel) (pa_cons (pv 0) pa_nil)) (pe_glob (v := .int 40) rfl T.g_MAX_LOG ⟨_, rfl⟩) (nomark _))))) (pss_one (ps_ret pe_bl)) pss_nil)
  (pss_cons (ps_if (pt_not (pt_val (pe_callB (allK (K := K)) (by rfl) T.all (by decide +kernel) (pa_cons (pe_lc (own := [("one", 1)]) rfl sc_is_log.nd (seqK (K := K) (pv 0)) (blkOk_by (N := ["value", "one", "other"]) (sc := defScope s_is_log) (by decide +kernel)) (fun _ _ _ _ _ => (pg_name (i := 1) sc_is_log.nd rfl (.inl rfl))) (fun _ _ _ _ _ => pts_nil) (fun _ _ _ _ _ => (pe_call (ok_is_announcement T) (hr.mono (by decide)) (by rfl) T.g_is_announcement T.F_is_announcement.kp (b_is_announcement T) .nil pass0 (pa_cons (pv 1) (pa_cons (pe_glob (v := .int 10000) rfl T.g_MAX_TIME ⟨_, rfl⟩) pa_nil))))) pa_nil)))) (pss_one (ps_ret pe_bl)) pss_nil)
  (pss_one (ps_ret (pe_callB (allK (K := K)) (by rfl) T.all (by decide +kernel) (pa_cons (pe_lc (own := [("one", 1), ("other", 2)]) rfl sc_is_log.nd (zipK (K := K) (pi_zipG (by rfl) T.zip (pa_cons (pv 0) (pa_cons (pe_slice (slK (K := K)) (pv 0) (po_some pe_int) po_none) pa_nil)))) (blkOk_by (N := ["value", "one", "other"]) (sc := defScope s_is_log) (by decide +kernel)) (fun _ _ _ _ _ => (tupK (K := K) (pg_tup (n := 2) rfl (pgs_cons (pg_name (i := 1) sc_is_log.nd rfl (.inl rfl)) (pgs_cons (pg_name (i := 2) sc_is_log.nd rfl (.inl rfl)) pgs_nil))))) (fun _ _ _ _ _ => pts_nil) (fun _ _ _ _ _ => (pe_cmpR op_le (pe_ix (ixK (K := K)) (pv 1) pe_int (fun _ _ => rfl)) (pe_ix (ixK (K := K)) (pv 2) pe_int (fun _ _ => rfl)) (nomark _)))) pa_nil)))))), fun ds Oc Post h => ?_⟩
  obtain ⟨d, n, rfl, hg, hp⟩ := h
  repeat walk_at "dl"
  refine cw_isi (.same _) (gd_raw hg) (.inr (.inr (.inr (.inl rfl)))) ?_
  repeat walk_at "dl"
  by_cases hd : ∃ xs, d = .tup xs
  · obtain ⟨xs, rfl⟩ := hd
    obtain ⟨k, hx⟩ := gd_tup hg
    refine or_f rfl ?_
    repeat walk_at "dl"
    by_cases hl : xs.length ≤ 40
    · refine if_f (decide_eq_false (by omega)) ?_
      repeat walk_at "dl"
      refine ew_lcM (α := Dt) (iws_tup ?_)
      repeat walk_at "dl"
      refine ⟨id, xs, fun d => .bl (isAnn d 10000), (List.map_id _).symm, fun p e => (nomatch e), by omega, fun d hdm => ?_, ?_⟩
      · repeat walk_at "dl"
        refine ew_call0 ?_
        repeat walk_at "dl"
        exact ⟨d, 10000, k, rfl, hx d hdm, rfl, rfl⟩
      · repeat walk_at "dl"
        refine cw_all (bs := xs.map fun d => isAnn d 10000) (.same _) (by rw [List.map_map] <;> rfl) ?_
        repeat walk_at "dl"
        have ea : (xs.map fun d => isAnn d 10000).all id = xs.all fun d => isAnn d 10000 := by rw [List.all_map]; rfl
        rw [ea]
        by_cases h1 : (xs.all fun d => isAnn d 10000) = true
        · refine if_f (by rw [h1]; rfl) ?_
          repeat walk_at "dl"
          refine ew_lcM (α := Dt × Dt) (iw_zipT ?_)
          repeat walk_at "dl"
          rw [cut1D]
          refine ⟨fun p => .tup [p.1, p.2], List.zipWith (fun a b => (a, b)) xs (xs.drop 1), fun p => .bl (decide (timeD p.1 ≤ timeD p.2)), ?_, fun p e => (nomatch e), ?_, fun p hpm => ?_, ?_⟩
          · rw [List.map_zipWith]
          · rw [List.length_zipWith]; omega
          · obtain ⟨a, b⟩ := p
            have h1' := List.all_eq_true.mp h1
            have hm : a ∈ xs ∧ b ∈ xs := by
              obtain ⟨i, hi⟩ := List.mem_iff_getElem?.mp hpm
              rw [List.getElem?_zipWith] at hi
              cases e1 : xs[i]? with
              | none => rw [e1] at hi; cases hi
              | some a' =>
                cases e2 : (xs.drop 1)[i]? with
                | none => rw [e1, e2] at hi; cases hi
                | some b' =>
                  rw [e1, e2] at hi
                  cases hi
                  exact ⟨List.mem_of_getElem? e1, List.mem_of_mem_drop (List.mem_of_getElem? e2)⟩
            obtain ⟨t1, c1, n1, rfl, _⟩ := ann_time (h1' a hm.1)
            obtain ⟨t2, c2, n2, rfl, _⟩ := ann_time (h1' b hm.2)
            repeat walk_at "dl"
            refine rw_ixT_ atI_0 ?_
            repeat walk_at "dl"
            refine rw_ixT_ atI_0 ?_
            repeat walk_at "dl"
            exact ⟨rfl, rfl⟩
          · repeat walk_at "dl"
            refine cw_all (bs := (List.zipWith (fun a b => (a, b)) xs (xs.drop 1)).map fun p => decide (timeD p.1 ≤ timeD p.2)) (.same _) (by rw [List.map_map] <;> rfl) ?_
            have e : isLog (.tup xs) = ((List.zipWith (fun a b => (a, b)) xs (xs.drop 1)).map fun p => decide (timeD p.1 ≤ timeD p.2)).all id := by
              rw [List.all_map]
              have := sorted_zip (fun x y => decide (timeD x ≤ timeD y)) xs
              simp only [isLog, h1, decide_eq_true hl, Bool.true_and]
              rw [← this]
              rfl
            rw [← e]
            exact hp
        · have h1' : (xs.all fun d => isAnn d 10000) = false := by simpa using h1
          refine if_t (by rw [h1']; rfl) ?_
          have e : isLog (.tup xs) = false := by simp only [isLog, h1', Bool.and_false, Bool.false_and]
          rw [e] at hp
          repeat walk_at "dl"
          exact hp
    · refine if_t (decide_eq_true (by omega)) ?_
      have e : isLog (.tup xs) = false := by simp only [isLog, decide_eq_false hl, Bool.false_and]
      rw [e] at hp
      repeat walk_at "dl"
      exact hp
  · refine or_t (by rw [not_tup fun xs z => hd ⟨xs, z⟩]; rfl) ?_
    have e : isLog d = false := by
      cases d <;> first | rfl | exact absurd ⟨_, rfl⟩ hd
    rw [e] at hp
    repeat walk_at "dl"
    refine if_t rfl ?_
    repeat walk_at "dl"
    exact hp
def S_require_log : SpT := fun ds Oc Post => ∃ d n, ds = [d] ∧ gd n d = true ∧ isLog d = true ∧ Post .non Oc
theorem ok_require_log (T : Txt K mg A) : FnOk P w K mg base CX0 4 A.a_require_log A.d_require_log ["value"] (SpD K S_require_log) := by
  refine fn_ok T.F_require_log sc_require_log (fun ds Oc Post h => by obtain ⟨_, _, rfl, _⟩ := h; rfl) (fun cdv AA outer s H E hr => ?_)
  refine ⟨_, (pss_one (ps_if (pt_not (pt_val (pe_call (ok_is_log T) (hr.mono (by decide)) (by rfl) T.g_is_log T.F_is_log.kp (b_is_log T) .nil pass0 (pa_cons (pv 0) pa_nil)))) (pss_one ps_never) pss_nil)), fun ds Oc Post h => ?_⟩
  obtain ⟨d, n, rfl, hg, hl, hp⟩ := h
  repeat walk_at "dl"
  refine ew_call0 ?_
  repeat walk_at "dl"
  refine ⟨d, n, rfl, hg, ?_⟩
  repeat walk_at "dl"
  refine if_f (by rw [hl]; rfl) ?_
  repeat walk_at "dl"
  exact hp
def rule3 (z : Str) : Prop := z = "none" ∨ z = "place" ∨ z = "end"
def S_require_rule : SpT := fun ds Oc Post => ∃ z, ds = [.str z] ∧ rule3 z ∧ Post .non Oc
theorem ok_require_rule (T : Txt K mg A) : FnOk P w K mg base CX0 1 A.a_require_rule A.d_require_rule ["value"] (SpD K S_require_rule) := by
  refine fn_ok T.F_require_rule sc_require_rule (fun ds Oc Post h => by obtain ⟨_, rfl, _⟩ := h; rfl) (fun cdv AA outer s H E hr => ?_)
  refine ⟨_, (pss_one (ps_if (PW.pt (pw_or (pt_not (pt_val (pe_callB (isiK (K := K)) (by rfl) T.isinstance (by decide +kernel) (pa_cons (pv 0) (pa_cons (pe_bltn (v := .ty "str") (u := .type "str") (by rfl) T.str (by decide +kernel) rfl) pa_nil))))) (pw_or1 (pt_cmpR (notInK (K := K) hr.units) (pv 0) (pe_glob (v := .ref A.a_RULES) rfl T.g_RULES rfl) (by rfl))))) (pss_one ps_never) pss_nil)), fun ds Oc Post h => ?_⟩
  obtain ⟨z, rfl, hz, hp⟩ := h
  repeat walk_at "dl"
  refine cw_isi (.same _) rfl (.inr (.inr (.inl rfl))) ?_
  repeat walk_at "dl"
  refine or_f rfl ?_
  repeat walk_at "dl"
  refine ew_den (d := .tup [.str "none", .str "place", .str "end"]) (fun H B => .tup (T.c_RULES _) (.cons (.str _) (.cons (.str _) (.cons (.str _) .nil)))) ?_
  refine rwi_T rfl rfl ?_
  repeat walk_at "dl"
  refine if_f ?_ ?_
  · rcases hz with rfl | rfl | rfl <;> decide
  repeat walk_at "dl"
  exact hp
end
end DL
namespace DL
open PySem PySem.Spec PyProof.Rows L2
open Enc (enc)
local macro_rules | `(tactic| walk_at "dl") => `(tactic| first
  | (with_reducible_and_instances refine sw_seq ?_)
  | (with_reducible_and_instances refine sw_ret ?_)
  | (with_reducible_and_instances refine sw_retN ?_)
  | (with_reducible_and_instances refine sw_set ?_)
  | (with_reducible_and_instances refine sw_par ?_)
  | (with_reducible_and_instances refine sw_drop ?_)
  | (with_reducible_and_instances refine sw_next ?_)
  | (with_reducible_and_instances refine sw_break ?_)
  | (with_reducible_and_instances refine sw_if ?_)
  | (with_reducible_and_instances refine sw_asg ?_)
  | ((with_reducible_and_instances refine' ew_var ?hh ?kk); (case hh => rfl))
  | (with_reducible_and_instances refine ew_int ?_)
  | (with_reducible_and_instances refine ew_str ?_)
  | (with_reducible_and_instances refine ew_bl ?_)
  | (with_reducible_and_instances refine ew_non ?_)
  | (with_reducible_and_instances refine ew_raw (v := .ty _) ?_)
  | (with_reducible_and_instances refine ew_op ?_)
  | (with_reducible_and_instances refine ew_un ?_)
  | (with_reducible_and_instances refine ew_chain ?_)
  | (with_reducible_and_instances refine ew_andV ?_)
  | (with_reducible_and_instances refine ew_orV ?_)
  | (with_reducible_and_instances refine ew_notV ?_)
  | (with_reducible_and_instances refine ew_if ?_)
  | (with_reducible_and_instances refine ew_tup ?_)
  | (with_reducible_and_instances refine ew_cb ?_)
  | (with_reducible_and_instances refine ew_slA ?_)
  | (with_reducible_and_instances refine .inl ⟨_, rfl, ?_⟩)
  | (with_reducible_and_instances refine .inr ⟨_, .same _, ?_⟩)
  | (with_reducible_and_instances refine aw_cons ?_)
  | (with_reducible_and_instances refine aw_nil ?_)
  | (with_reducible_and_instances refine tw_test ?_)
  | (with_reducible_and_instances refine tw_B ?_)
  | (with_reducible_and_instances refine tw_and ?_)
  | (with_reducible_and_instances refine tw_or ?_)
  | (with_reducible_and_instances refine tw_not ?_)
  | (with_reducible_and_instances refine tw_yes ?_)
  | (with_reducible_and_instances refine pw_none ?_)
  | (with_reducible_and_instances refine pw_some ?_)
  | (with_reducible_and_instances refine rw_le ?_)
  | (with_reducible_and_instances refine rw_lt ?_)
  | (with_reducible_and_instances refine rw_gt ?_)
  | (with_reducible_and_instances refine rw_ge ?_)
  | (with_reducible_and_instances refine rw_sub ?_)
  | (with_reducible_and_instances refine uw_neg ?_)
  | (with_reducible_and_instances refine rwp_int ?_)
  | ((with_reducible_and_instances refine gw_name ?hj ?_); (case hj => first | exact trivial | decide))
  | (with_reducible_and_instances refine gsw_cons ?_)
  | (with_reducible_and_instances refine gsw_nil ?_)
  | (with_reducible_and_instances refine gw_tup rfl ?_)
  | (with_reducible_and_instances refine cw_max2 ?_)
  | (with_reducible_and_instances refine cw_min2 ?_)
  | (with_reducible_and_instances refine cw_lenT ?_)
  | (with_reducible_and_instances refine cw_lenR ?_)
  | (with_reducible_and_instances refine cw_lenL (.same _) ?_)
  | (with_reducible_and_instances refine cw_intB ?_)
  | (with_reducible_and_instances refine ⟨_, rfl, ?_⟩)
  | (with_reducible_and_instances refine ⟨_, _, rfl, ?_⟩)
  | (refine ⟨Nat.le_trans (by simp) (Nat.le_of_lt (small1000 (n := 1000) (by decide))), ?_⟩))
local macro_rules | `(tactic| walk_at "dx") => `(tactic| first
  | (with_reducible_and_instances refine sw_seq ?_)
  | (with_reducible_and_instances refine sw_ret ?_)
  | (with_reducible_and_instances refine sw_retN ?_)
  | (with_reducible_and_instances refine sw_set ?_)
  | (with_reducible_and_instances refine sw_par ?_)
  | (with_reducible_and_instances refine sw_drop ?_)
  | (with_reducible_and_instances refine sw_next ?_)
  | (with_reducible_and_instances refine sw_break ?_)
  | (with_reducible_and_instances refine sw_asg ?_)
  | ((with_reducible_and_instances refine' ew_var ?hh ?kk); (case hh => rfl))
  | (with_reducible_and_instances refine ew_int ?_)
  | (with_reducible_and_instances refine ew_str ?_)
  | (with_reducible_and_instances refine ew_bl ?_)
  | (with_reducible_and_instances refine ew_non ?_)
  | (with_reducible_and_instances refine ew_raw (v := .ty _) ?_)
  | (with_reducible_and_instances refine ew_op ?_)
  | (with_reducible_and_instances refine ew_un ?_)
  | (with_reducible_and_instances refine ew_chain ?_)
  | (with_reducible_and_instances refine ew_andV ?_)
  | (with_reducible_and_instances refine ew_orV ?_)
  | (with_reducible_and_instances refine ew_notV ?_)
  | (with_reducible_and_instances refine ew_if ?_)
  | (with_reducible_and_instances refine ew_tup ?_)
  | (with_reducible_and_instances refine ew_cb ?_)
  | (with_reducible_and_instances refine ew_slA ?_)
  | (with_reducible_and_instances refine .inl ⟨_, rfl, ?_⟩)
  | (with_reducible_and_instances refine .inr ⟨_, .same _, ?_⟩)
  | (with_reducible_and_instances refine aw_cons ?_)
  | (with_reducible_and_instances refine aw_nil ?_)
  | (with_reducible_and_instances refine tw_test ?_)
  | (with_reducible_and_instances refine tw_B ?_)
  | (with_reducible_and_instances refine tw_and ?_)
  | (with_reducible_and_instances refine tw_or ?_)
  | (with_reducible_and_instances refine tw_not ?_)
  | (with_reducible_and_instances refine tw_yes ?_)
  | (with_reducible_and_instances refine pw_none ?_)
  | (with_reducible_and_instances refine pw_some ?_)
  | (with_reducible_and_instances refine rw_le ?_)
  | (with_reducible_and_instances refine rw_lt ?_)
  | (with_reducible_and_instances refine rw_gt ?_)
  | (with_reducible_and_instances refine rw_ge ?_)
  | (with_reducible_and_instances refine rw_sub ?_)
  | (with_reducible_and_instances refine uw_neg ?_)
  | (with_reducible_and_instances refine rwp_int ?_)
  | ((with_reducible_and_instances refine gw_name ?hj ?_); (case hj => first | exact trivial | decide))
  | (with_reducible_and_instances refine gsw_cons ?_)
  | (with_reducible_and_instances refine gsw_nil ?_)
  | (with_reducible_and_instances refine gw_tup rfl ?_)
  | (with_reducible_and_instances refine cw_max2 ?_)
  | (with_reducible_and_instances refine cw_min2 ?_)
  | (with_reducible_and_instances refine cw_lenT ?_)
  | (with_reducible_and_instances refine cw_lenR ?_)
  | (with_reducible_and_instances refine cw_lenL (.same _) ?_)
  | (with_reducible_and_instances refine cw_intB ?_)
  | (with_reducible_and_instances refine ⟨_, rfl, ?_⟩)
  | (with_reducible_and_instances refine ⟨_, _, rfl, ?_⟩)
  | (refine ⟨Nat.le_trans (by simp) (Nat.le_of_lt (small1000 (n := 1000) (by decide))), ?_⟩))
local macro_rules | `(tactic| walk_at "dn") => `(tactic| first
  | (with_reducible_and_instances refine sw_ret ?_)
  | (with_reducible_and_instances refine sw_retN ?_)
  | (with_reducible_and_instances refine sw_set ?_)
  | (with_reducible_and_instances refine sw_par ?_)
  | (with_reducible_and_instances refine sw_drop ?_)
  | (with_reducible_and_instances refine sw_next ?_)
  | (with_reducible_and_instances refine sw_break ?_)
  | (with_reducible_and_instances refine sw_asg ?_)
  | ((with_reducible_and_instances refine' ew_var ?hh ?kk); (case hh => rfl))
  | (with_reducible_and_instances refine ew_int ?_)
  | (with_reducible_and_instances refine ew_str ?_)
  | (with_reducible_and_instances refine ew_bl ?_)
  | (with_reducible_and_instances refine ew_non ?_)
  | (with_reducible_and_instances refine ew_raw (v := .ty _) ?_)
  | (with_reducible_and_instances refine ew_op ?_)
  | (with_reducible_and_instances refine ew_un ?_)
  | (with_reducible_and_instances refine ew_chain ?_)
  | (with_reducible_and_instances refine ew_andV ?_)
  | (with_reducible_and_instances refine ew_orV ?_)
  | (with_reducible_and_instances refine ew_notV ?_)
  | (with_reducible_and_instances refine ew_if ?_)
  | (with_reducible_and_instances refine ew_tup ?_)
  | (with_reducible_and_instances refine ew_cb ?_)
  | (with_reducible_and_instances refine ew_slA ?_)
  | (with_reducible_and_instances refine .inl ⟨_, rfl, ?_⟩)
  | (with_reducible_and_instances refine .inr ⟨_, .same _, ?_⟩)
  | (with_reducible_and_instances refine aw_cons ?_)
  | (with_reducible_and_instances refine aw_nil ?_)
  | (with_reducible_and_instances refine tw_test ?_)
  | (with_reducible_and_instances refine tw_B ?_)
  | (with_reducible_and_instances refine tw_and ?_)
  | (with_reducible_and_instances refine tw_or ?_)
  | (with_reducible_and_instances refine tw_not ?_)
  | (with_reducible_and_instances refine tw_yes ?_)
  | (with_reducible_and_instances refine pw_none ?_)
  | (with_reducible_and_instances refine pw_some ?_)
  | (with_reducible_and_instances refine rw_le ?_)
  | (with_reducible_and_instances refine rw_lt ?_)
  | (with_reducible_and_instances refine rw_gt ?_)
  | (with_reducible_and_instances refine rw_ge ?_)
  | (with_reducible_and_instances refine rw_sub ?_)
  | (with_reducible_and_instances refine uw_neg ?_)
  | (with_reducible_and_instances refine rwp_int ?_)
  | ((with_reducible_and_instances refine gw_name ?hj ?_); (case hj => first | exact trivial | decide))
  | (with_reducible_and_instances refine gsw_cons ?_)
  | (with_reducible_and_instances refine gsw_nil ?_)
  | (with_reducible_and_instances refine gw_tup rfl ?_)
  | (with_reducible_and_instances refine cw_max2 ?_)
  | (with_reducible_and_instances refine cw_min2 ?_)
  | (with_reducible_and_instances refine cw_lenT ?_)
  | (with_reducible_and_instances refine cw_lenR ?_)
  | (with_reducible_and_instances refine cw_lenL (.same _) ?_)
  | (with_reducible_and_instances refine cw_intB ?_)
  | (with_reducible_and_instances refine ⟨_, rfl, ?_⟩)
  | (with_reducible_and_instances refine ⟨_, _, rfl, ?_⟩)
  | (refine ⟨Nat.le_trans (by simp) (Nat.le_of_lt (small1000 (n := 1000) (by decide))), ?_⟩))
/-! ### speaking.py: what the program reckons -/
abbrev An := T3 Int Str Int
abbrev Pr := T2 Nat Nat
def topAt (L : List An) (k : Nat) : Str := match L[k]? with
  | some a => a.b
  | none => ""
def timAt (L : List An) (k : Nat) : Int := match L[k]? with
  | some a => a.a
  | none => 0
def lnAt (L : List An) (k : Nat) : Int := match L[k]? with
  | some a => a.c
  | none => 0
def rcv (r : Str) (L : List An) (line : List Pr) (k : Nat) : List Pr :=
  match line.filter fun p => decide (topAt L p.b = topAt L k) with
  | [] => line ++ [⟨k, k⟩]
  | p0 :: _ =>
    if r = "none" then line ++ [⟨k, k⟩]
    else if r = "place" then line.map fun p => if p = p0 then ⟨p0.a, k⟩ else p
    else line.filter (fun p => !decide (p = p0)) ++ [⟨p0.a, k⟩]
theorem topAt_get {L : List An} {k : Nat} (h : k < L.length) : topAt L k = L[k].b := by unfold topAt; rw [List.getElem?_eq_getElem h]
theorem timAt_get {L : List An} {k : Nat} (h : k < L.length) : timAt L k = L[k].a := by unfold timAt; rw [List.getElem?_eq_getElem h]
theorem lnAt_get {L : List An} {k : Nat} (h : k < L.length) : lnAt L k = L[k].c := by unfold lnAt; rw [List.getElem?_eq_getElem h]
def Fits (L : List An) (line : List Pr) : Prop := ∀ p ∈ line, p.a < L.length ∧ p.b < L.length
def S_received : SpT := fun ds Oc Post => ∃ (line : List Pr) (L : List An) (k : Nat) (r : Str), ds = [encL line, encU L, enc k, enc r] ∧ k < L.length ∧ Fits L line ∧ line.length ≤ 1000 ∧ Post (encL (rcv r L line k)) Oc
section
variable {P : Program} {w : World} {K : PySem.W.Frag} {mg : Str → Option Value} {base : Heap} {A : Ad}
theorem ok_received (T : Txt K mg A) : FnOk P w K mg base CX0 1 A.a_received A.d_received ["line", "log", "index", "rule"] (SpD K S_received) := by
  refine fn_ok T.F_received sc_received (fun ds Oc Post h => by obtain ⟨_, _, _, _, rfl, _⟩ := h; rfl) (fun cdv AA outer s H E hr => ?_)
  refine ⟨_, (pss_cons (ps_set (i := 4) sc_received.nd rfl (.inr rfl) (pe_lc (own := [("pair", 6)]) rfl sc_received.nd (seqK (K := K) (pv 0)) (blkOk_by (N := ["line", "log", "index", "rule", "same", "renewed", "pair"]) (sc := defScope s_received) (by decide +kernel)) (fun _ _ _ _ _ => (pg_name (i := 6) sc_received.nd rfl (.inl rfl))) (fun _ _ _ _ _ => (pts_one (pt_cmpR (eqK (K := K) hr.units) (pe_ix (ixK (K := K)) (pe_ix (ixK (K := K)) (pv 1) (pe_ix (ixK (K := K)) (pv 6) pe_int (fun _ _ => rfl)) (fun _ _ => rfl)) pe_int (fun _ _ => rfl)) (pe_ix (ixK (K := K)) (pe_ix (ixK (K := K)) (pv 1) (pv 2) (fun _ _ => rfl)) pe_int (fun _ _ => rfl)) (nomark _)))) (fun _ _ _ _ _ => (pv 6))))
  (pss_cons (ps_if (PW.pt (pw_or (pt_cmpR (eqK (K := K) hr.units) (pv 3) pe_str (nomark _)) (pw_or1 (pt_cmpR (eqK (K := K) hr.units) (pv 4) (pe_lst pa_nil) (nomark _))))) (pss_one (ps_ret (pe_op (plusK (K := K)) (pv 0) (pe_lst (pa_cons (pe_tup (pa_cons (pv 2) (pa_cons (pv 2) pa_nil))) pa_nil))))) pss_nil)
  (pss_cons (ps_set (i := 5) sc_received.nd rfl (.inr rfl) (pe_tup (pa_cons (pe_ix (ixK (K := K)) (pe_ix (ixK (K := K)) (pv 4) pe_int (fun _ _ => rfl)) pe_int (fun _ _ => rfl)) (pa_cons (pv 2) pa_nil))))
  (pss_cons (ps_if (pt_cmpR (eqK (K := K) hr.units) (pv 3) pe_str (nomark _)) (pss_one (ps_ret (pe_lc (own := [("pair", 6)]) rfl sc_received.nd (seqK (K := K) (pv 0)) (blkOk_by (N := ["line", "log", "index", "rule", "same", "renewed", "pair"]) (sc := defScope s_received) (by decide +kernel)) (fun _ _ _ _ _ => (pg_name (i := 6) sc_received.nd rfl (.inl rfl))) (fun _ _ _ _ _ => pts_nil) (fun _ _ _ _ _ => (pe_ifExp (pt_cmpR (eqK (K := K) hr.units) (pv 6) (pe_ix (ixK (K := K)) (pv 4) pe_int (fun _ _ => rfl)) (nomark _)) (pv 5) (pv 6)))))) pss_nil)
  (pss_one (ps_ret (pe_op (plusK (K := K)) (pe_lc (own := [("pair", 6)]) rfl sc_received.nd (seqK (K := K) (pv 0)) (blkOk_by (N := ["line", "log", "index", "rule", "same", "renewed", "pair"]) (sc := defScope s_received) (by decide +kernel)) (fun _ _ _ _ _ => (pg_name (i := 6) sc_received.nd rfl (.inl rfl))) (fun _ _ _ _ _ => (pts_one (pt_cmpR (neK (K := K) hr.units) (pv 6) (pe_ix (ixK (K := K)) (pv 4) pe_int (fun _ _ => rfl)) (nomark _)))) (fun _ _ _ _ _ => (pv 6))) (pe_lst (pa_cons (pv 5) pa_nil))))))))), fun ds Oc Post h => ?_⟩
  obtain ⟨line, L, k, r, rfl, hk, hf, hl, hp⟩ := h
  repeat walk_at "dl"
  refine ew_lcP (α := Pr) (iws_lst ?_)
  repeat walk_at "dl"
  refine ⟨enc, line, fun p => decide (topAt L p.b = topAt L k), enc, rfl, fun p e => (nomatch e), by omega, fun p hpm => ?_, ?_⟩
  · obtain ⟨h1, h2⟩ := hf p hpm
    repeat walk_at "dl"
    refine rw_ixT_ atI_1 ?_
    refine rw_ixT_ (atI_map h2) ?_
    repeat walk_at "dl"
    refine rw_ixT_ atI_1 ?_
    repeat walk_at "dl"
    refine rw_ixT_ (atI_map hk) ?_
    repeat walk_at "dl"
    refine rw_ixT_ atI_1 ?_
    refine rw_eqE (L[p.b].b) (L[k].b) (.same _) (.same _) ?_
    repeat walk_at "dl"
    have e : decide (L[p.b].b = L[k].b) = decide (topAt L p.b = topAt L k) := by rw [topAt_get h2, topAt_get hk]
    rw [e]
    refine ⟨fun z => ?_, fun z => ⟨rfl, z⟩⟩
    repeat walk_at "dl"
    exact ⟨rfl, z, rfl⟩
  · unfold rcv at hp
    have hbig : line.length + 1 ≤ sizeLine := Nat.le_of_lt (Nat.lt_of_le_of_lt (Nat.succ_le_succ hl) (by decide))
    -- return line + [(index, index)]
    have fin : ∀ Γ : Gm, Γ[0]? = some (some (encL line)) → Γ[2]? = some (some (enc k)) → Post (encL (line ++ [⟨k, k⟩])) Oc → EW K (tOp (rPlus K) (tVar 0) (tLst (tCons (tTup (tCons (tVar 2) (tCons (tVar 2) tNil))) tNil))) Γ Oc Post := fun Γ g0 g2 hp => by
      refine ew_op (ew_var g0 ?_)
      refine ew_lst ?_
      repeat walk_at "dl"
      refine ew_var g2 ?_
      repeat walk_at "dl"
      refine ew_var g2 ?_
      repeat walk_at "dl"
      refine rwp_lst (.same _) (.same _) (by simpa using hbig) ?_
      have e : Dt.lst (line.map enc ++ [Dt.tup [enc k, enc k]]) = encL (line ++ [⟨k, k⟩]) := by unfold encL; rw [List.map_append]; rfl
      rw [e]
      exact hp
    cases hq : line.filter fun p => decide (topAt L p.b = topAt L k) with
    | nil =>
      rw [hq] at hp
      have hp : Post (encL (line ++ [⟨k, k⟩])) Oc := hp
      repeat walk_at "dl"
      refine rw_eqE r "none" (.same _) (.same _) ?_
      repeat walk_at "dl"
      by_cases hn : r = "none"
      · refine or_t (decide_eq_true hn) (if_t rfl ?_)
        exact sw_ret (fin _ rfl rfl hp)
      · refine or_f (decide_eq_false hn) ?_
        repeat walk_at "dl"
        refine ew_lst ?_
        repeat walk_at "dl"
        refine rw_eqE ([] : List Pr) [] (.same _) (.same _) ?_
        refine ⟨_, rfl, if_t rfl ?_⟩
        exact sw_ret (fin _ rfl rfl hp)
    | cons p0 ps =>
      rw [hq] at hp
      have hp : Post (encL (if r = "none" then line ++ [⟨k, k⟩] else if r = "place" then line.map fun p => if p = p0 then ⟨p0.a, k⟩ else p else line.filter (fun p => !decide (p = p0)) ++ [⟨p0.a, k⟩])) Oc := hp
      repeat walk_at "dl"
      refine rw_eqE r "none" (.same _) (.same _) ?_
      repeat walk_at "dl"
      by_cases hn : r = "none"
      · rw [if_pos hn] at hp
        refine or_t (decide_eq_true hn) (if_t rfl ?_)
        exact sw_ret (fin _ rfl rfl hp)
      · rw [if_neg hn] at hp
        refine or_f (decide_eq_false hn) ?_
        repeat walk_at "dl"
        refine ew_lst ?_
        repeat walk_at "dl"
        refine rw_eqE (p0 :: ps) [] (.same _) (.same _) ?_
        refine ⟨_, rfl, if_f rfl ?_⟩
        repeat walk_at "dl"
        refine rw_ixL (.same _) atI_0 ?_
        repeat walk_at "dl"
        refine rw_ixT_ atI_0 ?_
        repeat walk_at "dl"
        refine rw_eqE r "place" (.same _) (.same _) ?_
        refine ⟨_, rfl, ?_⟩
        by_cases hpl : r = "place"
        · rw [if_pos hpl] at hp
          refine if_t (decide_eq_true hpl) ?_
          refine sw_ret ?_
          refine ew_lcM (α := Pr) (iws_lst ?_)
          repeat walk_at "dl"
          refine ⟨enc, line, fun p => enc (if p = p0 then (⟨p0.a, k⟩ : Pr) else p), rfl, fun p e => (nomatch e), by omega, fun p hpm => ?_, ?_⟩
          · repeat walk_at "dl"
            refine rw_ixL (.same _) atI_0 ?_
            refine rw_eqE p p0 (.same _) (.same _) ?_
            refine ⟨_, rfl, ⟨fun z => ?_, fun z => ?_⟩⟩
            · repeat walk_at "dl"
              refine ⟨rfl, ?_⟩
              show _ = enc (if p = p0 then (⟨p0.a, k⟩ : Pr) else p)
              rw [if_pos (of_decide_eq_true z)] <;> rfl
            · repeat walk_at "dl"
              refine ⟨rfl, ?_⟩
              show _ = enc (if p = p0 then (⟨p0.a, k⟩ : Pr) else p)
              rw [if_neg (of_decide_eq_false z)]
          · have e : Dt.lst (line.map fun p => enc (if p = p0 then (⟨p0.a, k⟩ : Pr) else p)) = encL (line.map fun p => if p = p0 then (⟨p0.a, k⟩ : Pr) else p) := by unfold encL; rw [List.map_map]; rfl
            rw [e]
            exact hp
        · rw [if_neg hpl] at hp
          refine if_f (decide_eq_false hpl) ?_
          repeat walk_at "dl"
          refine ew_lcP (α := Pr) (iws_lst ?_)
          repeat walk_at "dl"
          refine ⟨enc, line, fun p => !decide (p = p0), enc, rfl, fun p e => (nomatch e), by omega, fun p hpm => ?_, ?_⟩
          · repeat walk_at "dl"
            refine rw_ixL (.same _) atI_0 ?_
            refine rw_neE p p0 (.same _) (.same _) ?_
            refine ⟨_, rfl, ⟨fun z => ?_, fun z => ⟨rfl, z⟩⟩⟩
            repeat walk_at "dl"
            exact ⟨rfl, z, rfl⟩
          · refine ew_lst ?_
            repeat walk_at "dl"
            refine rwp_lst (.same _) (.same _) ?_ ?_
            · have h1 := List.length_filter_le (fun p => !decide (p = p0)) line
              simp only [List.length_map, List.length_cons, List.length_nil]
              omega
            · have e : Dt.lst ((line.filter fun p => !decide (p = p0)).map enc ++ [Dt.tup [enc p0.a, enc k]]) = encL (line.filter (fun p => !decide (p = p0)) ++ [⟨p0.a, k⟩]) := by unfold encL; rw [List.map_append]; rfl
              rw [← e] at hp
              exact hp
end
end DL
namespace DL
open PySem PySem.Spec PyProof.Rows L2
open Enc (enc)
local macro_rules | `(tactic| walk_at "dl") => `(tactic| first
  | (with_reducible_and_instances refine sw_seq ?_)
  | (with_reducible_and_instances refine sw_ret ?_)
  | (with_reducible_and_instances refine sw_retN ?_)
  | (with_reducible_and_instances refine sw_set ?_)
  | (with_reducible_and_instances refine sw_par ?_)
  | (with_reducible_and_instances refine sw_drop ?_)
  | (with_reducible_and_instances refine sw_next ?_)
  | (with_reducible_and_instances refine sw_break ?_)
  | (with_reducible_and_instances refine sw_if ?_)
  | (with_reducible_and_instances refine sw_asg ?_)
  | ((with_reducible_and_instances refine' ew_var ?hh ?kk); (case hh => rfl))
  | (with_reducible_and_instances refine ew_int ?_)
  | (with_reducible_and_instances refine ew_str ?_)
  | (with_reducible_and_instances refine ew_bl ?_)
  | (with_reducible_and_instances refine ew_non ?_)
  | (with_reducible_and_instances refine ew_raw (v := .ty _) ?_)
  | (with_reducible_and_instances refine ew_op ?_)
  | (with_reducible_and_instances refine ew_un ?_)
  | (with_reducible_and_instances refine ew_chain ?_)
  | (with_reducible_and_instances refine ew_andV ?_)
  | (with_reducible_and_instances refine ew_orV ?_)
  | (with_reducible_and_instances refine ew_notV ?_)
  | (with_reducible_and_instances refine ew_if ?_)
  | (with_reducible_and_instances refine ew_tup ?_)
  | (with_reducible_and_instances refine ew_cb ?_)
  | (with_reducible_and_instances refine ew_slA ?_)
  | (with_reducible_and_instances refine .inl ⟨_, rfl, ?_⟩)
  | (with_reducible_and_instances refine .inr ⟨_, .same _, ?_⟩)
  | (with_reducible_and_instances refine aw_cons ?_)
  | (with_reducible_and_instances refine aw_nil ?_)
  | (with_reducible_and_instances refine tw_test ?_)
  | (with_reducible_and_instances refine tw_B ?_)
  | (with_reducible_and_instances refine tw_and ?_)
  | (with_reducible_and_instances refine tw_or ?_)
  | (with_reducible_and_instances refine tw_not ?_)
  | (with_reducible_and_instances refine tw_yes ?_)
  | (with_reducible_and_instances refine pw_none ?_)
  | (with_reducible_and_instances refine pw_some ?_)
  | (with_reducible_and_instances refine rw_le ?_)
  | (with_reducible_and_instances refine rw_lt ?_)
  | (with_reducible_and_instances refine rw_gt ?_)
  | (with_reducible_and_instances refine rw_ge ?_)
  | (with_reducible_and_instances refine rw_sub ?_)
  | (with_reducible_and_instances refine uw_neg ?_)
  | (with_reducible_and_instances refine rwp_int ?_)
  | ((with_reducible_and_instances refine gw_name ?hj ?_); (case hj => first | exact trivial | decide))
  | (with_reducible_and_instances refine gsw_cons ?_)
  | (with_reducible_and_instances refine gsw_nil ?_)
  | (with_reducible_and_instances refine gw_tup rfl ?_)
  | (with_reducible_and_instances refine cw_max2 ?_)
  | (with_reducible_and_instances refine cw_min2 ?_)
  | (with_reducible_and_instances refine cw_lenT ?_)
  | (with_reducible_and_instances refine cw_lenR ?_)
  | (with_reducible_and_instances refine cw_lenL (.same _) ?_)
  | (with_reducible_and_instances refine cw_intB ?_)
  | (with_reducible_and_instances refine ⟨_, rfl, ?_⟩)
  | (with_reducible_and_instances refine ⟨_, _, rfl, ?_⟩)
  | (refine ⟨Nat.le_trans (by simp) (Nat.le_of_lt (small1000 (n := 1000) (by decide))), ?_⟩))
local macro_rules | `(tactic| walk_at "dx") => `(tactic| first
  | (with_reducible_and_instances refine sw_seq ?_)
  | (with_reducible_and_instances refine sw_ret ?_)
  | (with_reducible_and_instances refine sw_retN ?_)
  | (with_reducible_and_instances refine sw_set ?_)
  | (with_reducible_and_instances refine sw_par ?_)
  | (with_reducible_and_instances refine sw_drop ?_)
  | (with_reducible_and_instances refine sw_next ?_)
  | (with_reducible_and_instances refine sw_break ?_)
  | (with_reducible_and_instances refine sw_asg ?_)
  | ((with_reducible_and_instances refine' ew_var ?hh ?kk); (case hh => rfl))
  | (with_reducible_and_instances refine ew_int ?_)
  | (with_reducible_and_instances refine ew_str ?_)
  | (with_reducible_and_instances refine ew_bl ?_)
  | (with_reducible_and_instances refine ew_non ?_)
  | (with_reducible_and_instances refine ew_raw (v := .ty _) ?_)
  | (with_reducible_and_instances refine ew_op ?_)
  | (with_reducible_and_instances refine ew_un ?_)
  | (with_reducible_and_instances refine ew_chain ?_)
  | (with_reducible_and_instances refine ew_andV ?_)
  | (with_reducible_and_instances refine ew_orV ?_)
  | (with_reducible_and_instances refine ew_notV ?_)
  | (with_reducible_and_instances refine ew_if ?_)
  | (with_reducible_and_instances refine ew_tup ?_)
  | (with_reducible_and_instances refine ew_cb ?_)
  | (with_reducible_and_instances refine ew_slA ?_)
  | (with_reducible_and_instances refine .inl ⟨_, rfl, ?_⟩)
  | (with_reducible_and_instances refine .inr ⟨_, .same _, ?_⟩)
  | (with_reducible_and_instances refine aw_cons ?_)
  | (with_reducible_and_instances refine aw_nil ?_)
  | (with_reducible_and_instances refine tw_test ?_)
  | (with_reducible_and_instances refine tw_B ?_)
  | (with_reducible_and_instances refine tw_and ?_)
  | (with_reducible_and_instances refine tw_or ?_)
  | (with_reducible_and_instances refine tw_not ?_)
  | (with_reducible_and_instances refine tw_yes ?_)
  | (with_reducible_and_instances refine pw_none ?_)
  | (with_reducible_and_instances refine pw_some ?_)
  | (with_reducible_and_instances refine rw_le ?_)
  | (with_reducible_and_instances refine rw_lt ?_)
  | (with_reducible_and_instances refine rw_gt ?_)
  | (with_reducible_and_instances refine rw_ge ?_)
  | (with_reducible_and_instances refine rw_sub ?_)
  | (with_reducible_and_instances refine uw_neg ?_)
  | (with_reducible_and_instances refine rwp_int ?_)
  | ((with_reducible_and_instances refine gw_name ?hj ?_); (case hj => first | exact trivial | decide))
  | (with_reducible_and_instances refine gsw_cons ?_)
  | (with_reducible_and_instances refine gsw_nil ?_)
  | (with_reducible_and_instances refine gw_tup rfl ?_)
  | (with_reducible_and_instances refine cw_max2 ?_)
  | (with_reducible_and_instances refine cw_min2 ?_)
  | (with_reducible_and_instances refine cw_lenT ?_)
  | (with_reducible_and_instances refine cw_lenR ?_)
  | (with_reducible_and_instances refine cw_lenL (.same _) ?_)
  | (with_reducible_and_instances refine cw_intB ?_)
  | (with_reducible_and_instances refine ⟨_, rfl, ?_⟩)
  | (with_reducible_and_instances refine ⟨_, _, rfl, ?_⟩)
  | (refine ⟨Nat.le_trans (by simp) (Nat.le_of_lt (small1000 (n := 1000) (by decide))), ?_⟩))
local macro_rules | `(tactic| walk_at "dn") => `(tactic| first
  | (with_reducible_and_instances refine sw_ret ?_)
  | (with_reducible_and_instances refine sw_retN ?_)
  | (with_reducible_and_instances refine sw_set ?_)
  | (with_reducible_and_instances refine sw_par ?_)
  | (with_reducible_and_instances refine sw_drop ?_)
  | (with_reducible_and_instances refine sw_next ?_)
  | (with_reducible_and_instances refine sw_break ?_)
  | (with_reducible_and_instances refine sw_asg ?_)
  | ((with_reducible_and_instances refine' ew_var ?hh ?kk); (case hh => rfl))
  | (with_reducible_and_instances refine ew_int ?_)
  | (with_reducible_and_instances refine ew_str ?_)
  | (with_reducible_and_instances refine ew_bl ?_)
  | (with_reducible_and_instances refine ew_non ?_)
  | (with_reducible_and_instances refine ew_raw (v := .ty _) ?_)
  | (with_reducible_and_instances refine ew_op ?_)
  | (with_reducible_and_instances refine ew_un ?_)
  | (with_reducible_and_instances refine ew_chain ?_)
  | (with_reducible_and_instances refine ew_andV ?_)
  | (with_reducible_and_instances refine ew_orV ?_)
  | (with_reducible_and_instances refine ew_notV ?_)
  | (with_reducible_and_instances refine ew_if ?_)
  | (with_reducible_and_instances refine ew_tup ?_)
  | (with_reducible_and_instances refine ew_cb ?_)
  | (with_reducible_and_instances refine ew_slA ?_)
  | (with_reducible_and_instances refine .inl ⟨_, rfl, ?_⟩)
  | (with_reducible_and_instances refine .inr ⟨_, .same _, ?_⟩)
  | (with_reducible_and_instances refine aw_cons ?_)
  | (with_reducible_and_instances refine aw_nil ?_)
  | (with_reducible_and_instances refine tw_test ?_)
  | (with_reducible_and_instances refine tw_B ?_)
  | (with_reducible_and_instances refine tw_and ?_)
  | (with_reducible_and_instances refine tw_or ?_)
  | (with_reducible_and_instances refine tw_not ?_)
  | (with_reducible_and_instances refine tw_yes ?_)
  | (with_reducible_and_instances refine pw_none ?_)
  | (with_reducible_and_instances refine pw_some ?_)
  | (with_reducible_and_instances refine rw_le ?_)
  | (with_reducible_and_instances refine rw_lt ?_)
  | (with_reducible_and_instances refine rw_gt ?_)
  | (with_reducible_and_instances refine rw_ge ?_)
  | (with_reducible_and_instances refine rw_sub ?_)
  | (with_reducible_and_instances refine uw_neg ?_)
  | (with_reducible_and_instances refine rwp_int ?_)
  | ((with_reducible_and_instances refine gw_name ?hj ?_); (case hj => first | exact trivial | decide))
  | (with_reducible_and_instances refine gsw_cons ?_)
  | (with_reducible_and_instances refine gsw_nil ?_)
  | (with_reducible_and_instances refine gw_tup rfl ?_)
  | (with_reducible_and_instances refine cw_max2 ?_)
  | (with_reducible_and_instances refine cw_min2 ?_)
  | (with_reducible_and_instances refine cw_lenT ?_)
  | (with_reducible_and_instances refine cw_lenR ?_)
  | (with_reducible_and_instances refine cw_lenL (.same _) ?_)
  | (with_reducible_and_instances refine cw_intB ?_)
  | (with_reducible_and_instances refine ⟨_, rfl, ?_⟩)
  | (with_reducible_and_instances refine ⟨_, _, rfl, ?_⟩)
  | (refine ⟨Nat.le_trans (by simp) (Nat.le_of_lt (small1000 (n := 1000) (by decide))), ?_⟩))
/-! ### played: what it reckons -/
abbrev Bg := T3 Int Nat Nat
def rcvTo (r : Str) (L : List An) (now : Int) : Nat → List Pr → Nat → List Pr × Nat
  | 0, line, done => (line, done)
  | f + 1, line, done => if done < L.length ∧ timAt L done ≤ now then rcvTo r L now f (rcv r L line done) (done + 1) else (line, done)
def rcvAll (r : Str) (L : List An) (now : Int) (line : List Pr) (done : Nat) : List Pr × Nat := rcvTo r L now (L.length - done) line done
theorem rcvAll_go {r : Str} {L : List An} {now : Int} {line : List Pr} {done : Nat} (h1 : done < L.length) (h2 : timAt L done ≤ now) : rcvAll r L now line done = rcvAll r L now (rcv r L line done) (done + 1) := by
  unfold rcvAll
  obtain ⟨f, hf⟩ : ∃ f, L.length - done = f + 1 := ⟨L.length - done - 1, by omega⟩
  rw [hf, show L.length - (done + 1) = f by omega]
  show (if _ then _ else _) = _
  rw [if_pos ⟨h1, h2⟩]
theorem rcvAll_stop {r : Str} {L : List An} {now : Int} {line : List Pr} {done : Nat} (h : ¬ (done < L.length ∧ timAt L done ≤ now)) : rcvAll r L now line done = (line, done) := by
  unfold rcvAll
  cases hf : L.length - done with
  | zero => rfl
  | succ f =>
    show (if _ then _ else _) = _
    rw [if_neg h]
theorem rcv_len (r : Str) (L : List An) (line : List Pr) (k : Nat) : (rcv r L line k).length ≤ line.length + 1 := by
  unfold rcv
  split
  · simp
  · split
    · simp
    · split
      · simp
      · rename_i p0 _ _ _ _
        have := List.length_filter_le (fun p => !decide (p = p0)) line
        simp only [List.length_append, List.length_cons, List.length_nil]
        exact Nat.succ_le_succ (List.length_filter_le _ _)
theorem rcv_ne (r : Str) (L : List An) (line : List Pr) (k : Nat) : rcv r L line k ≠ [] := by
  unfold rcv
  split
  · simp
  · rename_i p0 ps hq
    have hm : p0 ∈ line := (List.mem_filter.mp (by rw [hq]; exact List.mem_cons_self)).1
    split
    · simp
    · split
      · intro e
        rw [List.map_eq_nil_iff] at e
        rw [e] at hm
        cases hm
      · simp
theorem rcv_fits {r : Str} {L : List An} {line : List Pr} {k : Nat} (hk : k < L.length) (h : Fits L line) : Fits L (rcv r L line k) := by
  unfold rcv
  split
  · intro p hp
    rcases List.mem_append.mp hp with hp | hp
    · exact h p hp
    · simp at hp; subst hp; exact ⟨hk, hk⟩
  · rename_i p0 ps hq
    have hm : p0 ∈ line := (List.mem_filter.mp (by rw [hq]; exact List.mem_cons_self)).1
    split
    · intro p hp
      rcases List.mem_append.mp hp with hp | hp
      · exact h p hp
      · simp at hp; subst hp; exact ⟨hk, hk⟩
    · split
      · intro p hp
        obtain ⟨q, hq, rfl⟩ := List.mem_map.mp hp
        split
        · exact ⟨(h p0 hm).1, hk⟩
        · exact h q hq
      · intro p hp
        rcases List.mem_append.mp hp with hp | hp
        · exact h p (List.mem_filter.mp hp).1
        · simp at hp; subst hp; exact ⟨(h p0 hm).1, hk⟩
/-- what the inner loop keeps -/
structure Rk (L : List An) (line : List Pr) (done : Nat) (line' : List Pr) (done' : Nat) : Prop where
  fits : Fits L line'
  le : done ≤ done'
  top : done' ≤ L.length
  mu : line'.length + (L.length - done') ≤ line.length + (L.length - done)
  len : line'.length + done ≤ line.length + done'
  ne : line ≠ [] → line' ≠ []
theorem Rk.refl {L : List An} {line : List Pr} {done : Nat} (h : Fits L line) (hd : done ≤ L.length) : Rk L line done line done := ⟨h, Nat.le_refl _, hd, Nat.le_refl _, Nat.le_refl _, id⟩
theorem Rk.step {r : Str} {L : List An} {line : List Pr} {done : Nat} (h : Fits L line) (hd : done < L.length) : Rk L line done (rcv r L line done) (done + 1) := by
  have := rcv_len r L line done
  exact ⟨rcv_fits hd h, Nat.le_succ _, hd, by omega, by omega, fun _ => rcv_ne r L line done⟩
theorem Rk.trans {L : List An} {l1 l2 l3 : List Pr} {d1 d2 d3 : Nat} (a : Rk L l1 d1 l2 d2) (b : Rk L l2 d2 l3 d3) : Rk L l1 d1 l3 d3 :=
  ⟨b.fits, Nat.le_trans a.le b.le, b.top, Nat.le_trans b.mu a.mu, by have := a.len; have := b.len; omega, fun h => b.ne (a.ne h)⟩
theorem rcvTo_rk {r : Str} {L : List An} {now : Int} : ∀ (f : Nat) (line : List Pr) (done : Nat), Fits L line → done ≤ L.length → Rk L line done (rcvTo r L now f line done).1 (rcvTo r L now f line done).2
  | 0, line, done, h, hd => Rk.refl h hd
  | f + 1, line, done, h, hd => by
    show Rk L line done (if _ then _ else _ : List Pr × Nat).1 (if _ then _ else _ : List Pr × Nat).2
    split
    · rename_i hc
      exact (Rk.step h hc.1).trans (rcvTo_rk f _ _ (rcv_fits hc.1 h) hc.1)
    · exact Rk.refl h hd
theorem rcvAll_rk {r : Str} {L : List An} {now : Int} {line : List Pr} {done : Nat} (h : Fits L line) (hd : done ≤ L.length) : Rk L line done (rcvAll r L now line done).1 (rcvAll r L now line done).2 := rcvTo_rk _ _ _ h hd
abbrev PlR := List Bg × List Pr × Nat
def nowOf (L : List An) (line : List Pr) (done : Nat) (free : Int) : Int := if line ≠ [] then free else max free (timAt L done)
def playF (r : Str) (L : List An) (lb : Int) : Nat → List Pr → Nat → List Bg → Int → PlR
  | 0, line, done, found, _ => (found, line, done)
  | f + 1, line, done, found, free =>
    if line = [] ∧ ¬ done < L.length then (found, line, done)
    else if lb < nowOf L line done free then (found, line, done)
    else match rcvAll r L (nowOf L line done free) line done with
      | ([], d) => (found, [], d)
      | (p :: ps, d) => playF r L lb f ps d (found ++ [⟨nowOf L line done free, p.a, p.b⟩]) (nowOf L line done free + lnAt L p.b)
def muP (L : List An) (line : List Pr) (done : Nat) : Nat := line.length + (L.length - done)
theorem rcvAll_cons {r : Str} {L : List An} {line : List Pr} {done : Nat} {free : Int} (h : ¬ (line = [] ∧ ¬ done < L.length)) (hf : Fits L line) (hd : done ≤ L.length) : ∃ p ps d, rcvAll r L (nowOf L line done free) line done = (p :: ps, d) ∧ Rk L line done (p :: ps) d := by
  have rk := rcvAll_rk (r := r) (now := nowOf L line done free) hf hd
  cases e : rcvAll r L (nowOf L line done free) line done with
  | mk l d =>
    rw [e] at rk
    cases l with
    | cons p ps => exact ⟨p, ps, d, rfl, rk⟩
    | nil =>
      exfalso
      by_cases hl : line = []
      · subst hl
        have hdl : done < L.length := Classical.byContradiction fun z => h ⟨rfl, z⟩
        have hle : timAt L done ≤ nowOf L [] done free := by
          unfold nowOf
          rw [if_neg (by simp)]
          omega
        rw [rcvAll_go hdl hle] at e
        have rk2 := rcvAll_rk (r := r) (now := nowOf L [] done free) (rcv_fits (r := r) hdl hf) (Nat.succ_le_of_lt hdl)
        rw [e] at rk2
        exact rk2.ne (rcv_ne r L [] done) rfl
      · exact rk.ne hl rfl
theorem playF_any {r : Str} {L : List An} {lb : Int} : ∀ (f g : Nat) (line : List Pr) (done : Nat) (found : List Bg) (free : Int), Fits L line → done ≤ L.length → muP L line done < f → muP L line done < g → playF r L lb f line done found free = playF r L lb g line done found free
  | 0, _, _, _, _, _, _, _, h, _ => absurd h (Nat.not_lt_zero _)
  | _ + 1, 0, _, _, _, _, _, _, _, h => absurd h (Nat.not_lt_zero _)
  | f + 1, g + 1, line, done, found, free, hf, hd, h1, h2 => by
    show (if _ then _ else _) = (if _ then _ else _)
    by_cases hc : line = [] ∧ ¬ done < L.length
    · rw [if_pos hc, if_pos hc]
    · rw [if_neg hc, if_neg hc]
      by_cases hb : lb < nowOf L line done free
      · rw [if_pos hb, if_pos hb]
      · rw [if_neg hb, if_neg hb]
        obtain ⟨p, ps, d, e, rk⟩ := rcvAll_cons (r := r) (free := free) hc hf hd
        rw [e]
        have hmu := rk.mu
        unfold muP at h1 h2
        rw [List.length_cons] at hmu
        exact playF_any f g ps d _ _ (fun q hq => rk.fits q (List.mem_cons_of_mem _ hq)) rk.top (by unfold muP; omega) (by unfold muP; omega)
def playR (r : Str) (L : List An) (lb : Int) : PlR := playF r L lb (L.length + 1) [] 0 [] 0
def played (r : Str) (L : List An) (lb lt : Int) : List Bg × List Pr := ((playR r L lb).1, (rcvAll r L lt (playR r L lb).2.1 (playR r L lb).2.2).1)
def S_played : SpT := fun ds Oc Post => ∃ (L : List An) (r : Str) (lb lt : Int), ds = [encU L, enc r, .int lb, .int lt] ∧ L.length ≤ 500 ∧ Post (.tup [encL (played r L lb lt).1, encL (played r L lb lt).2]) Oc
/-- the slots of played -/
def gPl (L : List An) (r : Str) (lb lt : Int) (line : List Pr) (done : Nat) (p : Addr) (free : Int) (now : Option Dt) : Gm := [some (encU L), some (enc r), some (.int lb), some (.int lt), some (encL line), some (.int (done : Int)), some (.raw (.ref p)), some (.int free), now]
theorem inner_played {K : PySem.W.Frag} {L : List An} {r : Str} {lb lt : Int} {p : Addr} {free : Int} {O : Own} {E : De} (hL : L.length ≤ 500) (j : Nat) (lim : Int) (now : Option Dt) (hj : ∀ line done, (gPl L r lb lt line done p free now)[j]? = some (some (.int lim)))
    (line : List Pr) (done : Nat) (hf : Fits L line) (hd : done ≤ L.length) (hld : line.length ≤ done) (h : E.nx (gPl L r lb lt (rcvAll r L lim line done).1 (rcvAll r L lim line done).2 p free now) O) :
    SW K (tWhile (tAnd (tTest (tOp (rI0 fun i j => V.bl (decide (i < j))) (tVar 5) (tCB (rLen K) (tCons (tVar 0) tNil)))) (tTest (tOp (rI0 fun i j => V.bl (decide (i ≤ j))) (tOp (rIx K) (tOp (rIx K) (tVar 0) (tVar 5)) (tC (V.int 0))) (tVar j))))
      (tSeq (tAsg (tCall (SpD K S_received) [] E0 (tCons (tVar 4) (tCons (tVar 0) (tCons (tVar 5) (tCons (tVar 1) tNil))))) (gName 4)) (tAsg (tOp (rPlus K) (tVar 5) (tC (V.int 1))) (gName 5)))) (gPl L r lb lt line done p free now) O E := by
  refine sw_while (fun m Γ O' => O' = O ∧ ∃ line1 done1, Γ = gPl L r lb lt line1 done1 p free now ∧ Fits L line1 ∧ done1 ≤ L.length ∧ line1.length ≤ done1 ∧ m = L.length - done1 ∧ rcvAll r L lim line done = rcvAll r L lim line1 done1) (L.length - done) ⟨rfl, line, done, rfl, hf, hd, hld, rfl, rfl⟩ ?_
  rintro m Γ O' ⟨rfl, line1, done1, rfl, hf1, hd1, hld1, rfl, hR⟩
  repeat walk_at "dl"
  rw [List.length_map]
  by_cases hlt : done1 < L.length
  · refine if_t (decide_eq_true (by omega)) ?_
    repeat walk_at "dl"
    refine rw_ixT_ (atI_map hlt) ?_
    repeat walk_at "dl"
    refine rw_ixT_ atI_0 ?_
    refine ew_var (hj line1 done1) ?_
    repeat walk_at "dl"
    by_cases hle : timAt L done1 ≤ lim
    · refine if_t ?hh ?_
      case hh => exact decide_eq_true (by rw [← timAt_get hlt]; exact hle)
      repeat walk_at "dl"
      refine ew_call0 ?_
      repeat walk_at "dl"
      refine ⟨line1, L, done1, r, rfl, hlt, hf1, by omega, ?_⟩
      repeat walk_at "dl"
      have st := Rk.step (r := r) hf1 hlt
      have hlen := rcv_len r L line1 done1
      refine ⟨L.length - (done1 + 1), by omega, rfl, rcv r L line1 done1, done1 + 1, rfl, st.fits, hlt, by omega, rfl, ?_⟩
      rw [hR, rcvAll_go hlt hle]
    · refine if_f ?hh ?_
      case hh => exact decide_eq_false (by rw [← timAt_get hlt]; exact hle)
      rw [hR, rcvAll_stop (fun z => hle z.2)] at h
      exact h
  · refine if_f (decide_eq_false (by omega)) ?_
    rw [hR, rcvAll_stop (fun z => hlt z.1)] at h
    exact if_f rfl h
section
variable {P : Program} {w : World} {K : PySem.W.Frag} {mg : Str → Option Value} {base : Heap} {A : Ad}
theorem ok_played (T : Txt K mg A) : FnOk P w K mg base CX0 2 A.a_played A.d_played ["log", "rule", "last_begin", "last_time"] (SpD K S_played) := by
  refine fn_ok T.F_played sc_played (fun ds Oc Post h => by obtain ⟨_, _, _, _, rfl, _⟩ := h; rfl) (fun cdv AA outer s H E hr => ?_)
  refine ⟨_, (pss_cons (ps_asg (pe_tup (pa_cons (pe_lst pa_nil) (pa_cons pe_int (pa_cons (pe_lst pa_nil) (pa_cons pe_int pa_nil))))) (tupK (K := K) (pg_tup (n := 4) rfl (pgs_cons (pg_name (i := 4) sc_played.nd rfl (.inl rfl)) (pgs_cons (pg_name (i := 5) sc_played.nd rfl (.inl rfl)) (pgs_cons (pg_name (i := 6) sc_played.nd rfl (.inl rfl)) (pgs_cons (pg_name (i := 7) sc_played.nd rfl (.inl rfl)) pgs_nil)))))))
  (pss_cons (ps_while PassesOwn.never (PW.pt (pw_or (pt_cmpR (neK (K := K) hr.units) (pv 4) (pe_lst pa_nil) (nomark _)) (pw_or1 (pt_cmpR op_lt (pv 5) (pe_callB (lenK (K := K)) (by rfl) T.len (by decide +kernel) (pa_cons (pv 0) pa_nil)) (nomark _))))) (pss_cons (ps_set (i := 8) sc_played.nd rfl (.inl rfl) (pe_ifExp (pt_cmpR (neK (K := K) hr.units) (pv 4) (pe_lst pa_nil) (nomark _)) (pv 7) (pe_callB (call_max2 rfl) (by rfl) T.max (by decide +kernel) (pa_cons (pv 7) (pa_cons (pe_ix (ixK (K := K)) (pe_ix (ixK (K := K)) (pv 0) (pv 5) (fun _ _ => rfl)) pe_int (fun _ _ => rfl)) pa_nil)))))
    (pss_cons (ps_if (pt_cmpR op_gt (pv 8) (pv 2) (nomark _)) (pss_one ps_break) pss_nil)
    (pss_cons (ps_while PassesOwn.never (PW.pt (pw_and (pt_cmpR op_lt (pv 5) (pe_callB (lenK (K := K)) (by rfl) T.len (by decide +kernel) (pa_cons (pv 0) pa_nil)) (nomark _)) (pw_and1 (pt_cmpR op_le (pe_ix (ixK (K := K)) (pe_ix (ixK (K := K)) (pv 0) (pv 5) (fun _ _ => rfl)) pe_int (fun _ _ => rfl)) (pv 8) (nomark _))))) (pss_cons (ps_set (i := 4) sc_played.nd rfl (.inl rfl) (pe_call (ok_received T) (hr.mono (by decide)) (by rfl) T.g_received T.F_received.kp (b_received T) .nil pass0 (pa_cons (pv 4) (pa_cons (pv 0) (pa_cons (pv 5) (pa_cons (pv 1) pa_nil))))))
      (pss_one (ps_set (i := 5) sc_played.nd rfl (.inl rfl) (pe_op (plusK (K := K)) (pv 5) pe_int)))))
    (pss_cons (ps_expr (bmK (K := K) (pe_bm PySem.F.plainAttrs_list PySem.F.slot_list_append PySem.F.type_list_append mt_append (pv 6) (pa_cons (pe_op (plusK (K := K)) (pe_tup (pa_cons (pv 8) pa_nil)) (pe_ix (ixK (K := K)) (pv 4) pe_int (fun _ _ => rfl))) pa_nil))))
    (pss_one (ps_par (i := 7) (j := 4) rfl sc_played.nd rfl rfl (by decide) rfl rfl (pa_cons (pe_op (plusK (K := K)) (pv 8) (pe_ix (ixK (K := K)) (pe_ix (ixK (K := K)) (pv 0) (pe_ix (ixK (K := K)) (pe_ix (ixK (K := K)) (pv 4) pe_int (fun _ _ => rfl)) pe_int (fun _ _ => rfl)) (fun _ _ => rfl)) pe_int (fun _ _ => rfl))) (pa_cons (pe_slice (slK (K := K)) (pv 4) (po_some pe_int) po_none) pa_nil)) (by rfl))))))))
  (pss_cons (ps_while PassesOwn.never (PW.pt (pw_and (pt_cmpR op_lt (pv 5) (pe_callB (lenK (K := K)) (by rfl) T.len (by decide +kernel) (pa_cons (pv 0) pa_nil)) (nomark _)) (pw_and1 (pt_cmpR op_le (pe_ix (ixK (K := K)) (pe_ix (ixK (K := K)) (pv 0) (pv 5) (fun _ _ => rfl)) pe_int (fun _ _ => rfl)) (pv 3) (nomark _))))) (pss_cons (ps_set (i := 4) sc_played.nd rfl (.inl rfl) (pe_call (ok_received T) (hr.mono (by decide)) (by rfl) T.g_received T.F_received.kp (b_received T) .nil pass0 (pa_cons (pv 4) (pa_cons (pv 0) (pa_cons (pv 5) (pa_cons (pv 1) pa_nil))))))
    (pss_one (ps_set (i := 5) sc_played.nd rfl (.inl rfl) (pe_op (plusK (K := K)) (pv 5) pe_int)))))
  (pss_one (ps_ret (pe_tup (pa_cons (pv 6) (pa_cons (pv 4) pa_nil)))))))), fun ds Oc Post h => ?_⟩
  obtain ⟨L, r, lb, lt, rfl, hL, hp⟩ := h
  repeat walk_at "dl"
  refine ew_lst ?_
  repeat walk_at "dl"
  refine ew_lstO ?_
  repeat walk_at "dl"
  intro p
  repeat walk_at "dl"
  -- the loop
  refine sw_mid (fun Γ O => ∃ line done found free now, Γ = gPl L r lb lt line done p free now ∧ O = (p, .lst (found.map enc)) :: Oc ∧ Fits L line ∧ done ≤ L.length ∧ line.length + found.length ≤ done ∧ playR r L lb = (found, line, done)) ?_ ?_
  · refine sw_while (fun m Γ O => ∃ line done found free now, Γ = gPl L r lb lt line done p free now ∧ O = (p, .lst (found.map enc)) :: Oc ∧ Fits L line ∧ done ≤ L.length ∧ line.length + found.length ≤ done ∧ m = muP L line done ∧ playR r L lb = playF r L lb (m + 1) line done found free)
      (muP L [] 0) ⟨[], 0, [], 0, none, rfl, rfl, (fun q hq => by cases hq), Nat.zero_le _, Nat.le_refl _, rfl, (by unfold muP playR; simp)⟩ ?_
    rintro m Γ O ⟨line, done, found, free, now0, rfl, rfl, hf, hd, hlen, rfl, hR⟩
    repeat walk_at "dl"
    refine ew_lst ?_
    repeat walk_at "dl"
    refine rw_neE line [] (.same _) (.same _) ?_
    repeat walk_at "dl"
    -- what a turn does, and what stands behind the loop
    have quit : ∀ now' : Option Dt, (line = [] ∧ ¬ done < L.length) ∨ (¬ (line = [] ∧ ¬ done < L.length) ∧ lb < nowOf L line done free) → ∃ line1 done1 found1 free1 now1, gPl L r lb lt line done p free now' = gPl L r lb lt line1 done1 p free1 now1 ∧ (p, Cell.lst (found.map enc)) :: Oc = (p, .lst (found1.map enc)) :: Oc ∧ Fits L line1 ∧ done1 ≤ L.length ∧ line1.length + found1.length ≤ done1 ∧ playR r L lb = (found1, line1, done1) := fun now' hq => by
      refine ⟨line, done, found, free, now', rfl, rfl, hf, hd, hlen, ?_⟩
      rw [hR]
      show (if _ then _ else _) = _
      rcases hq with hq | ⟨hq1, hq2⟩
      · rw [if_pos hq]
      · rw [if_neg hq1, if_pos hq2]
    have turn : ¬ (line = [] ∧ ¬ done < L.length) → ∀ E : De, E.bk = (fun Γ O => ∃ line done found free now, Γ = gPl L r lb lt line done p free now ∧ O = (p, .lst (found.map enc)) :: Oc ∧ Fits L line ∧ done ≤ L.length ∧ line.length + found.length ≤ done ∧ playR r L lb = (found, line, done)) →
        E.nx = (fun Γ' O' => ∃ m', m' < muP L line done ∧ ∃ line done found free now, Γ' = gPl L r lb lt line done p free now ∧ O' = (p, .lst (found.map enc)) :: Oc ∧ Fits L line ∧ done ≤ L.length ∧ line.length + found.length ≤ done ∧ m' = muP L line done ∧ playR r L lb = playF r L lb (m' + 1) line done found free) →
        SW K (tSeq (tAsg (tIf (tTest (tOp (rNeG K) (tVar 4) (tLst tNil))) (tVar 7) (tCB rMax2 (tCons (tVar 7) (tCons (tOp (rIx K) (tOp (rIx K) (tVar 0) (tVar 5)) (tC (V.int 0))) tNil)))) (gName 8))
          (tSeq (tIfS (tTest (tOp (rI0 fun i j => V.bl (decide (j < i))) (tVar 8) (tVar 2))) tBreak tNext)
          (tSeq (tWhile (tAnd (tTest (tOp (rI0 fun i j => V.bl (decide (i < j))) (tVar 5) (tCB (rLen K) (tCons (tVar 0) tNil)))) (tTest (tOp (rI0 fun i j => V.bl (decide (i ≤ j))) (tOp (rIx K) (tOp (rIx K) (tVar 0) (tVar 5)) (tC (V.int 0))) (tVar 8))))
            (tSeq (tAsg (tCall (SpD K S_received) [] E0 (tCons (tVar 4) (tCons (tVar 0) (tCons (tVar 5) (tCons (tVar 1) tNil))))) (gName 4)) (tAsg (tOp (rPlus K) (tVar 5) (tC (V.int 1))) (gName 5))))
          (tSeq (tDrop (tBM K "list" rAppend (tVar 6) (tCons (tOp (rPlus K) (tTup (tCons (tVar 8) tNil)) (tOp (rIx K) (tVar 4) (tC (V.int 0)))) tNil)))
            (tPar 7 4 (tCons (tOp (rPlus K) (tVar 8) (tOp (rIx K) (tOp (rIx K) (tVar 0) (tOp (rIx K) (tOp (rIx K) (tVar 4) (tC (V.int 0))) (tC (V.int 1)))) (tC (V.int 2)))) (tCons (tSl (rSl K) (tVar 4) (tPart (tC (V.int 1))) tNoPart) tNil)))))))
          (gPl L r lb lt line done p free now0) ((p, .lst (found.map enc)) :: Oc) E := fun hc E eb en => by
      refine sw_seq (sw_mid (fun Γ O => Γ = gPl L r lb lt line done p free (some (.int (nowOf L line done free))) ∧ O = (p, .lst (found.map enc)) :: Oc) ?_ ?_)
      · repeat walk_at "dl"
        refine ew_lst ?_
        repeat walk_at "dl"
        refine rw_neE line [] (.same _) (.same _) ?_
        repeat walk_at "dl"
        by_cases hl : line = []
        · have hdl : done < L.length := Classical.byContradiction fun z => hc ⟨hl, z⟩
          refine if_f (by rw [decide_eq_true hl]; rfl) ?_
          repeat walk_at "dl"
          refine rw_ixT_ (atI_map hdl) ?_
          repeat walk_at "dl"
          refine rw_ixT_ atI_0 ?_
          repeat walk_at "dl"
          refine ⟨?_, rfl⟩
          have e : nowOf L line done free = max free L[done].a := by unfold nowOf; rw [if_neg (fun z => z hl), timAt_get hdl]
          rw [e]
          rfl
        · refine if_t (by rw [decide_eq_false hl]; rfl) ?_
          repeat walk_at "dl"
          refine ⟨?_, rfl⟩
          have e : nowOf L line done free = free := by unfold nowOf; rw [if_pos hl]
          rw [e]
          rfl
      · rintro Γ O ⟨rfl, rfl⟩
        repeat walk_at "dl"
        by_cases hb : lb < nowOf L line done free
        · refine if_t (decide_eq_true hb) ?_
          refine sw_break ?_
          show E.bk _ _
          rw [eb]
          exact quit _ (.inr ⟨hc, hb⟩)
        · refine if_f (decide_eq_false hb) ?_
          repeat walk_at "dl"
          obtain ⟨q, qs, d, eq, rk⟩ := rcvAll_cons (r := r) (free := free) hc hf hd
          refine inner_played hL 8 (nowOf L line done free) _ (fun _ _ => rfl) line done hf hd (by omega) ?_
          rw [eq]
          have hq := rk.fits q List.mem_cons_self
          have hlen2 := rk.len
          have htop := rk.top
          have hmu := rk.mu
          rw [List.length_cons] at hlen2 hmu
          repeat walk_at "dl"
          refine ew_append (p := p) (ds := found.map enc) (O2 := Oc) ?_
          repeat walk_at "dl"
          refine ⟨rfl, ⟨_, List.mem_cons_self⟩, ?_⟩
          repeat walk_at "dl"
          refine rw_ixL (.same _) atI_0 ?_
          refine rwp_tup (show 1 + 2 ≤ sizeLine by decide) ?_
          refine ⟨.refl _, ?_, ?_⟩
          · rw [List.length_map]
            exact Nat.lt_of_le_of_lt (m := 500) (by omega) (by decide)
          repeat walk_at "dl"
          refine rw_ixL (.same _) atI_0 ?_
          repeat walk_at "dl"
          refine rw_ixT_ atI_1 ?_
          refine rw_ixT_ (atI_map hq.2) ?_
          repeat walk_at "dl"
          refine rw_ixT_ atI_2 ?_
          repeat walk_at "dl"
          rw [cut1D]
          show E.nx _ _
          rw [en]
          refine ⟨muP L qs d, by unfold muP; omega, qs, d, found ++ [⟨nowOf L line done free, q.a, q.b⟩], nowOf L line done free + lnAt L q.b, some (.int (nowOf L line done free)), ?_, ?_, (fun x hx => rk.fits x (List.mem_cons_of_mem _ hx)), htop, ?_, rfl, ?_⟩
          · rw [lnAt_get hq.2]
            rfl
          · rw [List.map_append]
            rfl
          · rw [List.length_append, List.length_singleton]
            omega
          · rw [hR]
            show (if _ then _ else _) = _
            rw [if_neg hc, if_neg hb, eq]
            exact playF_any _ _ _ _ _ _ (fun x hx => rk.fits x (List.mem_cons_of_mem _ hx)) htop (by unfold muP; omega) (by omega)
    by_cases hl : line = []
    · refine or_f (by rw [decide_eq_true hl]; rfl) ?_
      repeat walk_at "dl"
      rw [List.length_map]
      by_cases hdl : done < L.length
      · refine if_t (decide_eq_true (by omega)) ?_
        exact turn (fun z => z.2 hdl) _ rfl rfl
      · refine if_f (decide_eq_false (by omega)) ?_
        exact quit _ (.inl ⟨hl, hdl⟩)
    · refine or_t (by rw [decide_eq_false hl]; rfl) ?_
      refine if_t rfl ?_
      exact turn (fun z => hl z.1) _ rfl rfl
  · rintro Γ O ⟨line, done, found, free, now0, rfl, rfl, hf, hd, hlen, hR⟩
    repeat walk_at "dl"
    refine inner_played hL 3 lt _ (fun _ _ => rfl) line done hf hd (by omega) ?_
    refine sw_ret (ew_tup (aw_cons (ew_freeze (p := p) (ds := found.map enc) (ew_var rfl ⟨rfl, Oc, .refl _, ?_⟩))))
    repeat walk_at "dl"
    have e : played r L lb lt = (found, (rcvAll r L lt line done).1) := by unfold played; rw [hR]
    rw [e] at hp
    exact hp
end
end DL
namespace DL
open PySem PySem.Spec PyProof.Rows L2
open Enc (enc)
local macro_rules | `(tactic| walk_at "dl") => `(tactic| first
  | (with_reducible_and_instances refine sw_seq ?_)
  | (with_reducible_and_instances refine sw_ret ?_)
  | (with_reducible_and_instances refine sw_retN ?_)
  | (with_reducible_and_instances refine sw_set ?_)
  | (with_reducible_and_instances refine sw_par ?_)
  | (with_reducible_and_instances refine sw_drop ?_)
  | (with_reducible_and_instances refine sw_next ?_)
  | (with_reducible_and_instances refine sw_break ?_)
  | (with_reducible_and_instances refine sw_if ?_)
  | (with_reducible_and_instances refine sw_asg ?_)
  | ((with_reducible_and_instances refine' ew_var ?hh ?kk); (case hh => rfl))
  | (with_reducible_and_instances refine ew_int ?_)
  | (with_reducible_and_instances refine ew_str ?_)
  | (with_reducible_and_instances refine ew_bl ?_)
  | (with_reducible_and_instances refine ew_non ?_)
  | (with_reducible_and_instances refine ew_raw (v := .ty _) ?_)
  | (with_reducible_and_instances refine ew_op ?_)
  | (with_reducible_and_instances refine ew_un ?_)
  | (with_reducible_and_instances refine ew_chain ?_)
  | (with_reducible_and_instances refine ew_andV ?_)
  | (with_reducible_and_instances refine ew_orV ?_)
  | (with_reducible_and_instances refine ew_notV ?_)
  | (with_reducible_and_instances refine ew_if ?_)
  | (with_reducible_and_instances refine ew_tup ?_)
  | (with_reducible_and_instances refine ew_cb ?_)
  | (with_reducible_and_instances refine ew_slA ?_)
  | (with_reducible_and_instances refine .inl ⟨_, rfl, ?_⟩)
  | (with_reducible_and_instances refine .inr ⟨_, .same _, ?_⟩)
  | (with_reducible_and_instances refine aw_cons ?_)
  | (with_reducible_and_instances refine aw_nil ?_)
  | (with_reducible_and_instances refine tw_test ?_)
  | (with_reducible_and_instances refine tw_B ?_)
  | (with_reducible_and_instances refine tw_and ?_)
  | (with_reducible_and_instances refine tw_or ?_)
  | (with_reducible_and_instances refine tw_not ?_)
  | (with_reducible_and_instances refine tw_yes ?_)
  | (with_reducible_and_instances refine pw_none ?_)
  | (with_reducible_and_instances refine pw_some ?_)
  | (with_reducible_and_instances refine rw_le ?_)
  | (with_reducible_and_instances refine rw_lt ?_)
  | (with_reducible_and_instances refine rw_gt ?_)
  | (with_reducible_and_instances refine rw_ge ?_)
  | (with_reducible_and_instances refine rw_sub ?_)
  | (with_reducible_and_instances refine uw_neg ?_)
  | (with_reducible_and_instances refine rwp_int ?_)
  | ((with_reducible_and_instances refine gw_name ?hj ?_); (case hj => first | exact trivial | decide))
  | (with_reducible_and_instances refine gsw_cons ?_)
  | (with_reducible_and_instances refine gsw_nil ?_)
  | (with_reducible_and_instances refine gw_tup rfl ?_)
  | (with_reducible_and_instances refine cw_max2 ?_)
  | (with_reducible_and_instances refine cw_min2 ?_)
  | (with_reducible_and_instances refine cw_lenT ?_)
  | (with_reducible_and_instances refine cw_lenR ?_)
  | (with_reducible_and_instances refine cw_lenL (.same _) ?_)
  | (with_reducible_and_instances refine cw_intB ?_)
  | (with_reducible_and_instances refine ⟨_, rfl, ?_⟩)
  | (with_reducible_and_instances refine ⟨_, _, rfl, ?_⟩)
  | (refine ⟨Nat.le_trans (by simp) (Nat.le_of_lt (small1000 (n := 1000) (by decide))), ?_⟩))
local macro_rules | `(tactic| walk_at "dx") => `(tactic| first
  | (with_reducible_and_instances refine sw_seq ?_)
  | (with_reducible_and_instances refine sw_ret ?_)
  | (with_reducible_and_instances refine sw_retN ?_)
  | (with_reducible_and_instances refine sw_set ?_)
  | (with_reducible_and_instances refine sw_par ?_)
  | (with_reducible_and_instances refine sw_drop ?_)
  | (with_reducible_and_instances refine sw_next ?_)
  | (with_reducible_and_instances refine sw_break ?_)
  | (with_reducible_and_instances refine sw_asg ?_)
  | ((with_reducible_and_instances refine' ew_var ?hh ?kk); (case hh => rfl))
  | (with_reducible_and_instances refine ew_int ?_)
  | (with_reducible_and_instances refine ew_str ?_)
  | (with_reducible_and_instances refine ew_bl ?_)
  | (with_reducible_and_instances refine ew_non ?_)
  | (with_reducible_and_instances refine ew_raw (v := .ty _) ?_)
  | (with_reducible_and_instances refine ew_op ?_)
  | (with_reducible_and_instances refine ew_un ?_)
  | (with_reducible_and_instances refine ew_chain ?_)
  | (with_reducible_and_instances refine ew_andV ?_)
  | (with_reducible_and_instances refine ew_orV ?_)
  | (with_reducible_and_instances refine ew_notV ?_)
  | (with_reducible_and_instances refine ew_if ?_)
  | (with_reducible_and_instances refine ew_tup ?_)
  | (with_reducible_and_instances refine ew_cb ?_)
  | (with_reducible_and_instances refine ew_slA ?_)
  | (with_reducible_and_instances refine .inl ⟨_, rfl, ?_⟩)
  | (with_reducible_and_instances refine .inr ⟨_, .same _, ?_⟩)
  | (with_reducible_and_instances refine aw_cons ?_)
  | (with_reducible_and_instances refine aw_nil ?_)
  | (with_reducible_and_instances refine tw_test ?_)
  | (with_reducible_and_instances refine tw_B ?_)
  | (with_reducible_and_instances refine tw_and ?_)
  | (with_reducible_and_instances refine tw_or ?_)
  | (with_reducible_and_instances refine tw_not ?_)
  | (with_reducible_and_instances refine tw_yes ?_)
  | (with_reducible_and_instances refine pw_none ?_)
  | (with_reducible_and_instances refine pw_some ?_)
  | (with_reducible_and_instances refine rw_le ?_)
  | (with_reducible_and_instances refine rw_lt ?_)
  | (with_reducible_and_instances refine rw_gt ?_)
  | (with_reducible_and_instances refine rw_ge ?_)
  | (with_reducible_and_instances refine rw_sub ?_)
  | (with_reducible_and_instances refine uw_neg ?_)
  | (with_reducible_and_instances refine rwp_int ?_)
  | ((with_reducible_and_instances refine gw_name ?hj ?_); (case hj => first | exact trivial | decide))
  | (with_reducible_and_instances refine gsw_cons ?_)
  | (with_reducible_and_instances refine gsw_nil ?_)
  | (with_reducible_and_instances refine gw_tup rfl ?_)
  | (with_reducible_and_instances refine cw_max2 ?_)
  | (with_reducible_and_instances refine cw_min2 ?_)
  | (with_reducible_and_instances refine cw_lenT ?_)
  | (with_reducible_and_instances refine cw_lenR ?_)
  | (with_reducible_and_instances refine cw_lenL (.same _) ?_)
  | (with_reducible_and_instances refine cw_intB ?_)
  | (with_reducible_and_instances refine ⟨_, rfl, ?_⟩)
  | (with_reducible_and_instances refine ⟨_, _, rfl, ?_⟩)
  | (refine ⟨Nat.le_trans (by simp) (Nat.le_of_lt (small1000 (n := 1000) (by decide))), ?_⟩))
local macro_rules | `(tactic| walk_at "dn") => `(tactic| first
  | (with_reducible_and_instances refine sw_ret ?_)
  | (with_reducible_and_instances refine sw_retN ?_)
  | (with_reducible_and_instances refine sw_set ?_)
  | (with_reducible_and_instances refine sw_par ?_)
  | (with_reducible_and_instances refine sw_drop ?_)
  | (with_reducible_and_instances refine sw_next ?_)
  | (with_reducible_and_instances refine sw_break ?_)
  | (with_reducible_and_instances refine sw_asg ?_)
  | ((with_reducible_and_instances refine' ew_var ?hh ?kk); (case hh => rfl))
  | (with_reducible_and_instances refine ew_int ?_)
  | (with_reducible_and_instances refine ew_str ?_)
  | (with_reducible_and_instances refine ew_bl ?_)
  | (with_reducible_and_instances refine ew_non ?_)
  | (with_reducible_and_instances refine ew_raw (v := .ty _) ?_)
  | (with_reducible_and_instances refine ew_op ?_)
  | (with_reducible_and_instances refine ew_un ?_)
  | (with_reducible_and_instances refine ew_chain ?_)
  | (with_reducible_and_instances refine ew_andV ?_)
  | (with_reducible_and_instances refine ew_orV ?_)
  | (with_reducible_and_instances refine ew_notV ?_)
  | (with_reducible_and_instances refine ew_if ?_)
  | (with_reducible_and_instances refine ew_tup ?_)
  | (with_reducible_and_instances refine ew_cb ?_)
  | (with_reducible_and_instances refine ew_slA ?_)
  | (with_reducible_and_instances refine .inl ⟨_, rfl, ?_⟩)
  | (with_reducible_and_instances refine .inr ⟨_, .same _, ?_⟩)
  | (with_reducible_and_instances refine aw_cons ?_)
  | (with_reducible_and_instances refine aw_nil ?_)
  | (with_reducible_and_instances refine tw_test ?_)
  | (with_reducible_and_instances refine tw_B ?_)
  | (with_reducible_and_instances refine tw_and ?_)
  | (with_reducible_and_instances refine tw_or ?_)
  | (with_reducible_and_instances refine tw_not ?_)
  | (with_reducible_and_instances refine tw_yes ?_)
  | (with_reducible_and_instances refine pw_none ?_)
  | (with_reducible_and_instances refine pw_some ?_)
  | (with_reducible_and_instances refine rw_le ?_)
  | (with_reducible_and_instances refine rw_lt ?_)
  | (with_reducible_and_instances refine rw_gt ?_)
  | (with_reducible_and_instances refine rw_ge ?_)
  | (with_reducible_and_instances refine rw_sub ?_)
  | (with_reducible_and_instances refine uw_neg ?_)
  | (with_reducible_and_instances refine rwp_int ?_)
  | ((with_reducible_and_instances refine gw_name ?hj ?_); (case hj => first | exact trivial | decide))
  | (with_reducible_and_instances refine gsw_cons ?_)
  | (with_reducible_and_instances refine gsw_nil ?_)
  | (with_reducible_and_instances refine gw_tup rfl ?_)
  | (with_reducible_and_instances refine cw_max2 ?_)
  | (with_reducible_and_instances refine cw_min2 ?_)
  | (with_reducible_and_instances refine cw_lenT ?_)
  | (with_reducible_and_instances refine cw_lenR ?_)
  | (with_reducible_and_instances refine cw_lenL (.same _) ?_)
  | (with_reducible_and_instances refine cw_intB ?_)
  | (with_reducible_and_instances refine ⟨_, rfl, ?_⟩)
  | (with_reducible_and_instances refine ⟨_, _, rfl, ?_⟩)
  | (refine ⟨Nat.le_trans (by simp) (Nat.le_of_lt (small1000 (n := 1000) (by decide))), ?_⟩))
/-! ### speech, unheard -/
/-- a log, as data the program takes -/
structure VLog (L : List An) : Prop where
  len : L.length ≤ 40
  ann : ∀ a ∈ L, 0 ≤ a.a ∧ a.a ≤ 10000 ∧ topicS a.b = true ∧ 1 ≤ a.c ∧ a.c ≤ 99
  ord : L.Pairwise fun x y => x.a ≤ y.a
theorem VLog.isLog {L : List An} (h : VLog L) : isLog (encU L) = true := by
  have h1 : decide ((L.map (enc : An → Dt)).length ≤ 40) = true := decide_eq_true (by rw [List.length_map]; exact h.len)
  have h2 : ((L.map (enc : An → Dt)).all fun d => isAnn d 10000) = true := by
    rw [List.all_eq_true]
    intro d hd
    obtain ⟨a, ha, rfl⟩ := List.mem_map.mp hd
    obtain ⟨a1, a2, a3, a4, a5⟩ := h.ann a ha
    show isAnn (.tup [.int a.a, .str a.b, .int a.c]) 10000 = true
    simp [isAnn, isInt, isTopic, a1, a2, a3, a4, a5]
  have h3 : ∀ L : List An, L.Pairwise (fun x y => x.a ≤ y.a) → pairsD (fun x y => decide (timeD x ≤ timeD y)) (L.map enc) = true := by
    intro L
    induction L with
    | nil => intro _; rfl
    | cons x r ih =>
      intro hp
      cases r with
      | nil => rfl
      | cons y r =>
        rw [List.pairwise_cons] at hp
        have e := ih hp.2
        have h4 := hp.1 y List.mem_cons_self
        show (decide (x.a ≤ y.a) && pairsD _ ((y :: r).map enc)) = true
        rw [e, decide_eq_true h4]
        rfl
  show (decide _ && _ && _) = true
  rw [h1, h2, h3 L h.ord]
  rfl
theorem topic_len {z : Str} (h : topicS z = true) : z.length ≤ 6 := by
  simp only [topicS, Bool.and_eq_true, decide_eq_true_eq] at h
  exact h.1.2
theorem VLog.gd {L : List An} (h : VLog L) : gd 5 (encU L) = true := by
  show gdL 4 (L.map enc) = true
  rw [gdL_iff]
  intro d hd
  obtain ⟨a, ha, rfl⟩ := List.mem_map.mp hd
  have := topic_len (h.ann a ha).2.2.1
  show DL.gd 4 (.tup [.int a.a, .str a.b, .int a.c]) = true
  simp only [DL.gd, DL.gdL, Bool.true_and, Bool.and_true, decide_eq_true_eq]
  omega
theorem playF_fits {r : Str} {L : List An} {lb : Int} : ∀ (f : Nat) (line : List Pr) (done : Nat) (found : List Bg) (free : Int), Fits L line → done ≤ L.length → (∀ g ∈ found, g.b < L.length ∧ g.c < L.length) → line.length + found.length ≤ done →
    (∀ g ∈ (playF r L lb f line done found free).1, g.b < L.length ∧ g.c < L.length) ∧ Fits L (playF r L lb f line done found free).2.1 ∧ (playF r L lb f line done found free).2.2 ≤ L.length ∧ (playF r L lb f line done found free).2.1.length + (playF r L lb f line done found free).1.length ≤ (playF r L lb f line done found free).2.2
  | 0, line, done, found, free, hf, hd, hg, hl => ⟨hg, hf, hd, hl⟩
  | f + 1, line, done, found, free, hf, hd, hg, hl => by
    by_cases hc : line = [] ∧ ¬ done < L.length
    · have e : playF r L lb (f + 1) line done found free = (found, line, done) := by
        show (if _ then _ else _) = _
        rw [if_pos hc]
      rw [e]
      exact ⟨hg, hf, hd, hl⟩
    · by_cases hb : lb < nowOf L line done free
      · have e : playF r L lb (f + 1) line done found free = (found, line, done) := by
          show (if _ then _ else _) = _
          rw [if_neg hc, if_pos hb]
        rw [e]
        exact ⟨hg, hf, hd, hl⟩
      · obtain ⟨p, ps, d, eq, rk⟩ := rcvAll_cons (r := r) (free := free) hc hf hd
        have e : playF r L lb (f + 1) line done found free = playF r L lb f ps d (found ++ [⟨nowOf L line done free, p.a, p.b⟩]) (nowOf L line done free + lnAt L p.b) := by
          show (if _ then _ else _) = _
          rw [if_neg hc, if_neg hb, eq]
        rw [e]
        have hlen := rk.len
        rw [List.length_cons] at hlen
        refine playF_fits f ps d _ _ (fun q hq => rk.fits q (List.mem_cons_of_mem _ hq)) rk.top (fun g hm => ?_) (by rw [List.length_append, List.length_singleton]; omega)
        rcases List.mem_append.mp hm with hm | hm
        · exact hg g hm
        · simp at hm
          subst hm
          exact rk.fits p List.mem_cons_self
theorem played_fits {r : Str} {L : List An} {lb lt : Int} : (∀ g ∈ (played r L lb lt).1, g.b < L.length ∧ g.c < L.length) ∧ (played r L lb lt).1.length ≤ L.length := by
  have h := playF_fits (r := r) (L := L) (lb := lb) (L.length + 1) [] 0 [] 0 (fun _ h => by cases h) (Nat.zero_le _) (fun _ h => by cases h) (Nat.le_refl _)
  exact ⟨h.1, Nat.le_trans (Nat.le_trans (Nat.le_add_left _ _) h.2.2.2) h.2.2.1⟩
abbrev Row := T4 Int Str Int Nat
def spoken (r : Str) (L : List An) : List Bg := (played r L 1000000 1000000).1
def speechOf (r : Str) (L : List An) : List Row := (spoken r L).map fun g => ⟨g.a, topAt L g.c, lnAt L g.c, g.c⟩
def unheardOf (r : Str) (L : List An) : List Nat := (List.range L.length).filter fun k => !decide (k ∈ (spoken r L).map fun g => g.c)
def S_speech : SpT := fun ds Oc Post => ∃ (L : List An) (r : Str), ds = [encU L, .str r] ∧ VLog L ∧ rule3 r ∧ ∀ p, Post (.raw (.ref p)) ((p, .lst ((speechOf r L).map enc)) :: Oc)
def S_unheard : SpT := fun ds Oc Post => ∃ (L : List An) (r : Str), ds = [encU L, .str r] ∧ VLog L ∧ rule3 r ∧ ∀ p, Post (.raw (.ref p)) ((p, .lst ((unheardOf r L).map enc)) :: Oc)
section
variable {P : Program} {w : World} {K : PySem.W.Frag} {mg : Str → Option Value} {base : Heap} {A : Ad}
theorem ok_speech (T : Txt K mg A) : FnOk P w K mg base CX0 5 A.a_speech A.d_speech ["log", "rule"] (SpD K S_speech) := by
  refine fn_ok T.F_speech sc_speech (fun ds Oc Post h => by obtain ⟨_, _, rfl, _⟩ := h; rfl) (fun cdv AA outer s H E hr => ?_)
  refine ⟨_, (pss_cons (ps_expr (pe_call (ok_require_log T) (hr.mono (by decide)) (by rfl) T.g_require_log T.F_require_log.kp (b_require_log T) .nil pass0 (pa_cons (pv 0) pa_nil)))
  (pss_cons (ps_expr (pe_call (ok_require_rule T) (hr.mono (by decide)) (by rfl) T.g_require_rule T.F_require_rule.kp (b_require_rule T) .nil pass0 (pa_cons (pv 1) pa_nil)))
  (pss_one (ps_ret (pe_lc (own := [("begin", 2), ("first", 3), ("index", 4)]) rfl sc_speech.nd (seqK (K := K) (pe_ix (ixK (K := K)) (pe_call (ok_played T) (hr.mono (by decide)) (by rfl) T.g_played T.F_played.kp (b_played T) .nil pass0 (pa_cons (pv 0) (pa_cons (pv 1) (pa_cons (pe_glob (v := .int 1000000) rfl T.g_FAR ⟨_, rfl⟩) (pa_cons (pe_glob (v := .int 1000000) rfl T.g_FAR ⟨_, rfl⟩) pa_nil))))) pe_int (fun _ _ => rfl))) (blkOk_by (N := ["log", "rule", "begin", "first", "index"]) (sc := defScope s_speech) (by decide +kernel)) (fun _ _ _ _ _ => (tupK (K := K) (pg_tup (n := 3) rfl (pgs_cons (pg_name (i := 2) sc_speech.nd rfl (.inl rfl)) (pgs_cons (pg_name (i := 3) sc_speech.nd rfl (.inl rfl)) (pgs_cons (pg_name (i := 4) sc_speech.nd rfl (.inl rfl)) pgs_nil)))))) (fun _ _ _ _ _ => pts_nil) (fun _ _ _ _ _ => (pe_op (plusK (K := K)) (pe_op (plusK (K := K)) (pe_tup (pa_cons (pv 2) pa_nil)) (pe_slice (slK (K := K)) (pe_ix (ixK (K := K)) (pv 0) (pv 4) (fun _ _ => rfl)) (po_some pe_int) po_none)) (pe_tup (pa_cons (pv 4) pa_nil))))))))), fun ds Oc Post h => ?_⟩
  obtain ⟨L, r, rfl, hL, hr3, hp⟩ := h
  repeat walk_at "dl"
  refine ew_call0 ?_
  repeat walk_at "dl"
  refine ⟨_, 5, rfl, hL.gd, hL.isLog, ?_⟩
  repeat walk_at "dl"
  refine ew_call0 ?_
  repeat walk_at "dl"
  refine ⟨_, rfl, hr3, ?_⟩
  repeat walk_at "dl"
  refine ew_lcMO (α := Bg) (iws_lst ?_)
  repeat walk_at "dl"
  refine ew_call0 ?_
  repeat walk_at "dl"
  refine ⟨L, r, _, _, rfl, Nat.le_trans hL.len (by decide), ?_⟩
  repeat walk_at "dl"
  refine rw_ixT_ atI_0 ?_
  repeat walk_at "dl"
  obtain ⟨hfit, hlen⟩ := played_fits (r := r) (L := L) (lb := 1000000) (lt := 1000000)
  have := hL.len
  refine ⟨enc, spoken r L, fun g => enc (⟨g.a, topAt L g.c, lnAt L g.c, g.c⟩ : Row), rfl, (fun p e => by cases e), (show (played r L 1000000 1000000).1.length ≤ _ by omega), fun g hg => ?_, fun p => ?_⟩
  · obtain ⟨g1, g2⟩ := hfit g hg
    repeat walk_at "dl"
    refine rw_ixT_ (atI_map g2) ?_
    repeat walk_at "dl"
    rw [cut1D]
    refine rwp_tup (show 1 + 2 ≤ sizeLine by decide) ?_
    repeat walk_at "dl"
    refine rwp_tup (show 3 + 1 ≤ sizeLine by decide) ?_
    refine ⟨rfl, ?_⟩
    show _ = Dt.tup [.int g.a, .str (topAt L g.c), .int (lnAt L g.c), .int (g.c : Int)]
    rw [topAt_get g2, lnAt_get g2]
    rfl
  · have e : (speechOf r L).map enc = (spoken r L).map fun g => enc (⟨g.a, topAt L g.c, lnAt L g.c, g.c⟩ : Row) := by unfold speechOf; rw [List.map_map]; rfl
    have := hp p
    rw [e] at this
    exact this
theorem rngD_nat (n : Nat) : rngD 0 n = (List.range n).map (enc : Nat → Dt) := by
  unfold rngD
  refine List.map_congr_left fun i _ => ?_
  show Dt.int (0 + (i : Int)) = .int (i : Int)
  rw [Int.zero_add]
end
end DL
namespace DL
open PySem PySem.Spec PyProof.Rows L2
open Enc (enc)
local macro_rules | `(tactic| walk_at "dl") => `(tactic| first
  | (with_reducible_and_instances refine sw_seq ?_)
  | (with_reducible_and_instances refine sw_ret ?_)
  | (with_reducible_and_instances refine sw_retN ?_)
  | (with_reducible_and_instances refine sw_set ?_)
  | (with_reducible_and_instances refine sw_par ?_)
  | (with_reducible_and_instances refine sw_drop ?_)
  | (with_reducible_and_instances refine sw_next ?_)
  | (with_reducible_and_instances refine sw_break ?_)
  | (with_reducible_and_instances refine sw_if ?_)
  | (with_reducible_and_instances refine sw_asg ?_)
  | ((with_reducible_and_instances refine' ew_var ?hh ?kk); (case hh => rfl))
  | (with_reducible_and_instances refine ew_int ?_)
  | (with_reducible_and_instances refine ew_str ?_)
  | (with_reducible_and_instances refine ew_bl ?_)
  | (with_reducible_and_instances refine ew_non ?_)
  | (with_reducible_and_instances refine ew_raw (v := .ty _) ?_)
  | (with_reducible_and_instances refine ew_op ?_)
  | (with_reducible_and_instances refine ew_un ?_)
  | (with_reducible_and_instances refine ew_chain ?_)
  | (with_reducible_and_instances refine ew_andV ?_)
  | (with_reducible_and_instances refine ew_orV ?_)
  | (with_reducible_and_instances refine ew_notV ?_)
  | (with_reducible_and_instances refine ew_if ?_)
  | (with_reducible_and_instances refine ew_tup ?_)
  | (with_reducible_and_instances refine ew_cb ?_)
  | (with_reducible_and_instances refine ew_slA ?_)
  | (with_reducible_and_instances refine .inl ⟨_, rfl, ?_⟩)
  | (with_reducible_and_instances refine .inr ⟨_, .same _, ?_⟩)
  | (with_reducible_and_instances refine aw_cons ?_)
  | (with_reducible_and_instances refine aw_nil ?_)
  | (with_reducible_and_instances refine tw_test ?_)
  | (with_reducible_and_instances refine tw_B ?_)
  | (with_reducible_and_instances refine tw_and ?_)
  | (with_reducible_and_instances refine tw_or ?_)
  | (with_reducible_and_instances refine tw_not ?_)
  | (with_reducible_and_instances refine tw_yes ?_)
  | (with_reducible_and_instances refine pw_none ?_)
  | (with_reducible_and_instances refine pw_some ?_)
  | (with_reducible_and_instances refine rw_le ?_)
  | (with_reducible_and_instances refine rw_lt ?_)
  | (with_reducible_and_instances refine rw_gt ?_)
  | (with_reducible_and_instances refine rw_ge ?_)
  | (with_reducible_and_instances refine rw_sub ?_)
  | (with_reducible_and_instances refine uw_neg ?_)
  | (with_reducible_and_instances refine rwp_int ?_)
  | ((with_reducible_and_instances refine gw_name ?hj ?_); (case hj => first | exact trivial | decide))
  | (with_reducible_and_instances refine gsw_cons ?_)
  | (with_reducible_and_instances refine gsw_nil ?_)
  | (with_reducible_and_instances refine gw_tup rfl ?_)
  | (with_reducible_and_instances refine cw_max2 ?_)
  | (with_reducible_and_instances refine cw_min2 ?_)
  | (with_reducible_and_instances refine cw_lenT ?_)
  | (with_reducible_and_instances refine cw_lenR ?_)
  | (with_reducible_and_instances refine cw_lenL (.same _) ?_)
  | (with_reducible_and_instances refine cw_intB ?_)
  | (with_reducible_and_instances refine ⟨_, rfl, ?_⟩)
  | (with_reducible_and_instances refine ⟨_, _, rfl, ?_⟩)
  | (refine ⟨Nat.le_trans (by simp) (Nat.le_of_lt (small1000 (n := 1000) (by decide))), ?_⟩))
local macro_rules | `(tactic| walk_at "dx") => `(tactic| first
  | (with_reducible_and_instances refine sw_seq ?_)
  | (with_reducible_and_instances refine sw_ret ?_)
  | (with_reducible_and_instances refine sw_retN ?_)
  | (with_reducible_and_instances refine sw_set ?_)
  | (with_reducible_and_instances refine sw_par ?_)
  | (with_reducible_and_instances refine sw_drop ?_)
  | (with_reducible_and_instances refine sw_next ?_)
  | (with_reducible_and_instances refine sw_break ?_)
  | (with_reducible_and_instances refine sw_asg ?_)
  | ((with_reducible_and_instances refine' ew_var ?hh ?kk); (case hh => rfl))
  | (with_reducible_and_instances refine ew_int ?_)
  | (with_reducible_and_instances refine ew_str ?_)
  | (with_reducible_and_instances refine ew_bl ?_)
  | (with_reducible_and_instances refine ew_non ?_)
  | (with_reducible_and_instances refine ew_raw (v := .ty _) ?_)
  | (with_reducible_and_instances refine ew_op ?_)
  | (with_reducible_and_instances refine ew_un ?_)
  | (with_reducible_and_instances refine ew_chain ?_)
  | (with_reducible_and_instances refine ew_andV ?_)
  | (with_reducible_and_instances refine ew_orV ?_)
  | (with_reducible_and_instances refine ew_notV ?_)
  | (with_reducible_and_instances refine ew_if ?_)
  | (with_reducible_and_instances refine ew_tup ?_)
  | (with_reducible_and_instances refine ew_cb ?_)
  | (with_reducible_and_instances refine ew_slA ?_)
  | (with_reducible_and_instances refine .inl ⟨_, rfl, ?_⟩)
  | (with_reducible_and_instances refine .inr ⟨_, .same _, ?_⟩)
  | (with_reducible_and_instances refine aw_cons ?_)
  | (with_reducible_and_instances refine aw_nil ?_)
  | (with_reducible_and_instances refine tw_test ?_)
  | (with_reducible_and_instances refine tw_B ?_)
  | (with_reducible_and_instances refine tw_and ?_)
  | (with_reducible_and_instances refine tw_or ?_)
  | (with_reducible_and_instances refine tw_not ?_)
  | (with_reducible_and_instances refine tw_yes ?_)
  | (with_reducible_and_instances refine pw_none ?_)
  | (with_reducible_and_instances refine pw_some ?_)
  | (with_reducible_and_instances refine rw_le ?_)
  | (with_reducible_and_instances refine rw_lt ?_)
  | (with_reducible_and_instances refine rw_gt ?_)
  | (with_reducible_and_instances refine rw_ge ?_)
  | (with_reducible_and_instances refine rw_sub ?_)
  | (with_reducible_and_instances refine uw_neg ?_)
  | (with_reducible_and_instances refine rwp_int ?_)
  | ((with_reducible_and_instances refine gw_name ?hj ?_); (case hj => first | exact trivial | decide))
  | (with_reducible_and_instances refine gsw_cons ?_)
  | (with_reducible_and_instances refine gsw_nil ?_)
  | (with_reducible_and_instances refine gw_tup rfl ?_)
  | (with_reducible_and_instances refine cw_max2 ?_)
  | (with_reducible_and_instances refine cw_min2 ?_)
  | (with_reducible_and_instances refine cw_lenT ?_)
  | (with_reducible_and_instances refine cw_lenR ?_)
  | (with_reducible_and_instances refine cw_lenL (.same _) ?_)
  | (with_reducible_and_instances refine cw_intB ?_)
  | (with_reducible_and_instances refine ⟨_, rfl, ?_⟩)
  | (with_reducible_and_instances refine ⟨_, _, rfl, ?_⟩)
  | (refine ⟨Nat.le_trans (by simp) (Nat.le_of_lt (small1000 (n := 1000) (by decide))), ?_⟩))
local macro_rules | `(tactic| walk_at "dn") => `(tactic| first
  | (with_reducible_and_instances refine sw_ret ?_)
  | (with_reducible_and_instances refine sw_retN ?_)
  | (with_reducible_and_instances refine sw_set ?_)
  | (with_reducible_and_instances refine sw_par ?_)
  | (with_reducible_and_instances refine sw_drop ?_)
  | (with_reducible_and_instances refine sw_next ?_)
  | (with_reducible_and_instances refine sw_break ?_)
  | (with_reducible_and_instances refine sw_asg ?_)
  | ((with_reducible_and_instances refine' ew_var ?hh ?kk); (case hh => rfl))
  | (with_reducible_and_instances refine ew_int ?_)
  | (with_reducible_and_instances refine ew_str ?_)
  | (with_reducible_and_instances refine ew_bl ?_)
  | (with_reducible_and_instances refine ew_non ?_)
  | (with_reducible_and_instances refine ew_raw (v := .ty _) ?_)
  | (with_reducible_and_instances refine ew_op ?_)
  | (with_reducible_and_instances refine ew_un ?_)
  | (with_reducible_and_instances refine ew_chain ?_)
  | (with_reducible_and_instances refine ew_andV ?_)
  | (with_reducible_and_instances refine ew_orV ?_)
  | (with_reducible_and_instances refine ew_notV ?_)
  | (with_reducible_and_instances refine ew_if ?_)
  | (with_reducible_and_instances refine ew_tup ?_)
  | (with_reducible_and_instances refine ew_cb ?_)
  | (with_reducible_and_instances refine ew_slA ?_)
  | (with_reducible_and_instances refine .inl ⟨_, rfl, ?_⟩)
  | (with_reducible_and_instances refine .inr ⟨_, .same _, ?_⟩)
  | (with_reducible_and_instances refine aw_cons ?_)
  | (with_reducible_and_instances refine aw_nil ?_)
  | (with_reducible_and_instances refine tw_test ?_)
  | (with_reducible_and_instances refine tw_B ?_)
  | (with_reducible_and_instances refine tw_and ?_)
  | (with_reducible_and_instances refine tw_or ?_)
  | (with_reducible_and_instances refine tw_not ?_)
  | (with_reducible_and_instances refine tw_yes ?_)
  | (with_reducible_and_instances refine pw_none ?_)
  | (with_reducible_and_instances refine pw_some ?_)
  | (with_reducible_and_instances refine rw_le ?_)
  | (with_reducible_and_instances refine rw_lt ?_)
  | (with_reducible_and_instances refine rw_gt ?_)
  | (with_reducible_and_instances refine rw_ge ?_)
  | (with_reducible_and_instances refine rw_sub ?_)
  | (with_reducible_and_instances refine uw_neg ?_)
  | (with_reducible_and_instances refine rwp_int ?_)
  | ((with_reducible_and_instances refine gw_name ?hj ?_); (case hj => first | exact trivial | decide))
  | (with_reducible_and_instances refine gsw_cons ?_)
  | (with_reducible_and_instances refine gsw_nil ?_)
  | (with_reducible_and_instances refine gw_tup rfl ?_)
  | (with_reducible_and_instances refine cw_max2 ?_)
  | (with_reducible_and_instances refine cw_min2 ?_)
  | (with_reducible_and_instances refine cw_lenT ?_)
  | (with_reducible_and_instances refine cw_lenR ?_)
  | (with_reducible_and_instances refine cw_lenL (.same _) ?_)
  | (with_reducible_and_instances refine cw_intB ?_)
  | (with_reducible_and_instances refine ⟨_, rfl, ?_⟩)
  | (with_reducible_and_instances refine ⟨_, _, rfl, ?_⟩)
  | (refine ⟨Nat.le_trans (by simp) (Nat.le_of_lt (small1000 (n := 1000) (by decide))), ?_⟩))
/-! ### the law's drawn logs -/
structure SrcOk (a b c : Int) : Prop where
  a0 : 0 ≤ a
  b0 : 0 ≤ b
  b1 : b < 4294967296
  c0 : 2147483497 ≤ c
  c1 : c ≤ 2147483647
abbrev src (a b c : Int) : Cell := .lst [.int a, .int b, .int c]
def S__law_source : SpT := fun ds Oc Post => ∃ (ns : List Int) (k : Nat), ds = [.ro (ns.map .int), .int (k : Int)] ∧ k ≤ 1000 ∧ ∀ p a b c, SrcOk a b c → Post (.raw (.ref p)) ((p, src a b c) :: Oc)
def S__law_pick : SpT := fun ds Oc Post => ∃ p a b c n, ds = [.raw (.ref p), .int n] ∧ Oc = [(p, src a b c)] ∧ SrcOk a b c ∧ 0 < n ∧ n < 1073741824 ∧ ∀ r a' b', 0 ≤ r → r < n → SrcOk a' b' c → Post (.int r) [(p, src a' b' c)]
def names4 : List Str := ["a", "b", "zz", "news"]
structure DLog (L : List An) : Prop where
  v : VLog L
  t : ∀ x ∈ L, x.a ≤ 9600
  n : ∀ x ∈ L, x.b ∈ names4
def S__law_log : SpT := fun ds Oc Post => ∃ p a b c m, ds = [.raw (.ref p), .int m] ∧ Oc = [(p, src a b c)] ∧ SrcOk a b c ∧ 0 ≤ m ∧ m ≤ 40 ∧ ∀ L a' b', DLog L → (L.length : Int) ≤ m → SrcOk a' b' c → Post (encU L) [(p, src a' b' c)]
theorem atI_some {α : Type} {xs : List α} {i : Int} (h0 : 0 ≤ i) (h1 : i < xs.length) : ∃ x, x ∈ xs ∧ atI xs i = some x := by
  obtain ⟨j, rfl⟩ := Int.eq_ofNat_of_zero_le h0
  have hj : j < xs.length := by omega
  exact ⟨xs[j], List.getElem_mem hj, atI_nat (List.getElem?_eq_getElem hj)⟩
theorem atI_someE {α : Type} [DecidableEq α] [Enc α] {xs : List α} {i : Int} (h0 : 0 ≤ i) (h1 : i < xs.length) : ∃ x, x ∈ xs ∧ atI (xs.map enc) i = some (enc x) := by
  obtain ⟨j, rfl⟩ := Int.eq_ofNat_of_zero_le h0
  have hj : j < xs.length := by omega
  exact ⟨xs[j], List.getElem_mem hj, atI_map hj⟩
section
variable {P : Program} {w : World} {K : PySem.W.Frag} {mg : Str → Option Value} {base : Heap} {A : Ad}
theorem ok__law_source (T : Txt K mg A) : FnOk P w K mg base CX0 1 A.a__law_source A.d__law_source ["script", "k"] (SpD K S__law_source) := by
  refine fn_ok T.F__law_source sc__law_source (fun ds Oc Post h => by obtain ⟨_, _, rfl, _⟩ := h; rfl) (fun cdv AA outer s H E hr => ?_)
  refine ⟨_, (pss_cons (ps_set (i := 2) sc__law_source.nd rfl (.inl rfl) pe_int)
  (pss_cons (ps_if (pt_cmpR op_lt (pv 1) (pe_callB (lenK (K := K)) (by rfl) T.len (by decide +kernel) (pa_cons (pv 0) pa_nil)) (nomark _)) (pss_one (ps_set (i := 2) sc__law_source.nd rfl (.inl rfl) (pe_ix (ixK (K := K)) (pv 0) (pv 1) (fun _ _ => rfl)))) pss_nil)
  (pss_cons (ps_set (i := 3) sc__law_source.nd rfl (.inl rfl) (pe_lst (pa_cons pe_int (pa_cons pe_int (pa_cons pe_int (pa_cons pe_int (pa_cons pe_int (pa_cons pe_int (pa_cons pe_int (pa_cons pe_int pa_nil))))))))))
  (pss_cons (ps_set (i := 4) sc__law_source.nd rfl (.inl rfl) (pe_op op_mod (pe_op (timesK (K := K)) (pe_op (plusK (K := K)) (pe_op op_mod (pv 2) pe_int) pe_int) (pe_op (plusK (K := K)) pe_int (pe_op (timesK (K := K)) pe_int (pv 1)))) pe_int))
  (pss_cons (ps_set (i := 4) sc__law_source.nd rfl (.inl rfl) (pe_op (plusK (K := K)) (pe_op (plusK (K := K)) (pe_op op_mod (pe_op (timesK (K := K)) (pv 4) (pv 4)) pe_int) (pv 1)) pe_int))
  (pss_cons (ps_if (pt_cmpR op_ge (pv 2) (pe_op op_pow pe_int pe_int) (nomark _)) (pss_one (ps_ret (pe_lst (pa_cons (pv 2) (pa_cons (pv 4) (pa_cons (pe_ix (ixK (K := K)) (pv 3) (pe_op op_mod (pv 1) pe_int) (fun _ _ => rfl)) pa_nil)))))) pss_nil)
  (pss_one (ps_ret (pe_lst (pa_cons pe_int (pa_cons (pv 4) (pa_cons (pe_ix (ixK (K := K)) (pv 3) (pe_op op_mod (pv 1) pe_int) (fun _ _ => rfl)) pa_nil)))))))))))), fun ds Oc Post h => ?_⟩
  obtain ⟨ns, k, rfl, hk, hp⟩ := h
  repeat walk_at "dx"
  refine sw_mid (fun Γ O => O = Oc ∧ ∃ cell : Int, Γ = [some (.ro (ns.map .int)), some (.int k), some (.int cell), none, none]) ?_ ?_
  · repeat walk_at "dl"
    refine ⟨fun hb => ?_, fun hb => ?_⟩
    · have hb' := of_decide_eq_true hb
      rw [List.length_map] at hb'
      have hlt : k < ns.length := by omega
      repeat walk_at "dl"
      refine rw_ixR (atI_nat (v := .int ns[k]) (by rw [List.getElem?_map, List.getElem?_eq_getElem hlt]; rfl)) ?_
      exact ⟨rfl, _, rfl⟩
    · exact sw_next ⟨rfl, _, rfl⟩
  · rintro Γ O ⟨rfl, cell, rfl⟩
    repeat walk_at "dl"
    refine ew_lst ?_
    repeat walk_at "dl"
    refine rw_mod (by decide) ?_
    repeat walk_at "dl"
    refine rwt_int (.inr (by omega)) ?_
    repeat walk_at "dl"
    refine rwt_int (.inr (by omega)) ?_
    repeat walk_at "dl"
    refine rw_mod (by decide) ?_
    repeat walk_at "dl"
    generalize hs : (cell % 2147483489 + 1) * (48271 + 2 * (k : Int)) % 2147483489 = sd
    have hs0 : 0 ≤ sd := by rw [← hs]; exact Int.emod_nonneg _ (by decide)
    have hs1 : sd < 2147483489 := by rw [← hs]; exact Int.emod_lt_of_pos _ (by decide)
    refine rwt_int (.inr ⟨by omega, by omega⟩) ?_
    repeat walk_at "dl"
    refine rw_mod (by decide) ?_
    repeat walk_at "dl"
    generalize ht : sd * sd % 2147483477 = td
    have ht0 : 0 ≤ td := by rw [← ht]; exact Int.emod_nonneg _ (by decide)
    have ht1 : td < 2147483477 := by rw [← ht]; exact Int.emod_lt_of_pos _ (by decide)
    refine rw_pow ⟨by decide, by decide, by decide⟩ ?_
    repeat walk_at "dl"
    have hm0 : 0 ≤ (k : Int) % 8 := Int.emod_nonneg _ (by decide)
    have hm1 : (k : Int) % 8 < 8 := Int.emod_lt_of_pos _ (by decide)
    obtain ⟨c, hc, hat⟩ := atI_someE (xs := [(2147483647 : Int), 2147483629, 2147483587, 2147483579, 2147483563, 2147483549, 2147483543, 2147483497]) hm0 hm1
    have hc2 : 2147483497 ≤ c ∧ c ≤ 2147483647 := by
      simp only [List.mem_cons, List.mem_nil_iff, or_false] at hc
      omega
    refine ⟨fun hb => ?_, fun hb => ?_⟩
    · have hb' : (10 : Int) ^ (18 : Int).toNat ≤ cell := of_decide_eq_true hb
      repeat walk_at "dl"
      refine ew_lstO ?_
      repeat walk_at "dl"
      refine rw_mod (by decide) ?_
      refine rw_ixL (.same _) hat ?_
      repeat walk_at "dl"
      intro p
      exact hp p cell (td + k + 1) c ⟨Int.le_trans (by decide) hb', by omega, by omega, hc2.1, hc2.2⟩
    · repeat walk_at "dl"
      refine ew_lstO ?_
      repeat walk_at "dl"
      refine rw_mod (by decide) ?_
      refine rw_ixL (.same _) hat ?_
      repeat walk_at "dl"
      intro p
      exact hp p 0 (td + k + 1) c ⟨by decide, by omega, by omega, hc2.1, hc2.2⟩
theorem ok__law_pick (T : Txt K mg A) : FnOk P w K mg base CX0 1 A.a__law_pick A.d__law_pick ["source", "size"] (SpD K S__law_pick) := by
  refine fn_ok T.F__law_pick sc__law_pick (fun ds Oc Post h => by obtain ⟨_, _, _, _, _, rfl, _⟩ := h; rfl) (fun cdv AA outer s H E hr => ?_)
  refine ⟨_, (pss_cons (ps_if (pt_cmpR op_gt (pe_ix (ixK (K := K)) (pv 0) pe_int (fun _ _ => rfl)) pe_int (nomark _)) (pss_cons (ps_set (i := 2) sc__law_pick.nd rfl (.inl rfl) (pe_op op_mod (pe_ix (ixK (K := K)) (pv 0) pe_int (fun _ _ => rfl)) (pv 1)))
    (pss_cons (ps_asg (pe_op op_fdiv (pe_ix (ixK (K := K)) (pv 0) pe_int (fun _ _ => rfl)) (pv 1)) (pg_sub (pv 0) pe_int set_list))
    (pss_one (ps_ret (pv 2))))) pss_nil)
  (pss_cons (ps_asg (pe_op (plusK (K := K)) (pe_op op_mod (pe_op (timesK (K := K)) (pe_ix (ixK (K := K)) (pv 0) pe_int (fun _ _ => rfl)) pe_int) (pe_ix (ixK (K := K)) (pv 0) pe_int (fun _ _ => rfl))) pe_int) (pg_sub (pv 0) pe_int set_list))
  (pss_one (ps_ret (pe_op op_mod (pe_op op_fdiv (pe_op op_mod (pe_op (timesK (K := K)) (pe_ix (ixK (K := K)) (pv 0) pe_int (fun _ _ => rfl)) (pe_ix (ixK (K := K)) (pv 0) pe_int (fun _ _ => rfl))) pe_int) pe_int) (pv 1)))))), fun ds Oc Post h => ?_⟩
  obtain ⟨p, a, b, c, n, rfl, rfl, hs, hn, hn2, hp⟩ := h
  have own : ∀ a b c : Int, View [(p, src a b c)] (.raw (.ref p)) (.lst [.int a, .int b, .int c]) := fun a b c => .own List.mem_cons_self
  repeat walk_at "dl"
  refine rw_ixL (own a b c) atI_0 ?_
  repeat walk_at "dl"
  refine ⟨fun hb => ?_, fun hb => ?_⟩
  · have hb' : 0 < a := of_decide_eq_true hb
    repeat walk_at "dl"
    refine rw_ixL (own a b c) atI_0 ?_
    repeat walk_at "dl"
    refine rw_mod hn ?_
    repeat walk_at "dl"
    refine rw_ixL (own a b c) atI_0 ?_
    repeat walk_at "dl"
    refine rw_fdiv ⟨hn, hn2⟩ ?_
    refine gw_setL (p := p) (es := [.int a, .int b, .int c]) (i := 0) (j := 0) (O2 := []) ?_
    repeat walk_at "dl"
    refine ⟨rfl, ?_⟩
    repeat walk_at "dl"
    refine ⟨rfl, .refl _, rfl, ?_⟩
    repeat walk_at "dl"
    exact hp _ _ _ (Int.emod_nonneg _ (by omega)) (Int.emod_lt_of_pos _ hn) ⟨Int.ediv_nonneg hs.a0 (by omega), hs.b0, hs.b1, hs.c0, hs.c1⟩
  · repeat walk_at "dl"
    refine rw_ixL (own a b c) atI_1 ?_
    repeat walk_at "dl"
    have := hs.b0
    have := hs.b1
    have hc0 := hs.c0
    have hc1 := hs.c1
    refine rwt_int (.inl ⟨by omega, by omega⟩) ?_
    repeat walk_at "dl"
    refine rw_ixL (own a b c) atI_2 ?_
    refine rw_mod (by omega) ?_
    repeat walk_at "dl"
    generalize ht : b * 48271 % c = t
    have ht0 : 0 ≤ t := by rw [← ht]; exact Int.emod_nonneg _ (by omega)
    have ht1 : t < c := by rw [← ht]; exact Int.emod_lt_of_pos _ (by omega)
    refine gw_setL (p := p) (es := [.int a, .int b, .int c]) (i := 1) (j := 1) (O2 := []) ?_
    repeat walk_at "dl"
    refine ⟨rfl, ?_⟩
    repeat walk_at "dl"
    refine ⟨rfl, .refl _, rfl, ?_⟩
    repeat walk_at "dl"
    refine rw_ixL (own a (t + 1) c) atI_1 ?_
    repeat walk_at "dl"
    refine rw_ixL (own a (t + 1) c) atI_1 ?_
    refine rwt_int (.inl ⟨by omega, by omega⟩) ?_
    repeat walk_at "dl"
    refine rw_mod (by decide) ?_
    repeat walk_at "dl"
    refine rw_fdiv ⟨by decide, by decide⟩ ?_
    repeat walk_at "dl"
    refine rw_mod hn ?_
    exact hp _ _ _ (Int.emod_nonneg _ (by omega)) (Int.emod_lt_of_pos _ hn) ⟨hs.a0, by omega, by omega, hs.c0, hs.c1⟩
theorem ok__law_log (T : Txt K mg A) : FnOk P w K mg base CX0 2 A.a__law_log A.d__law_log ["source", "most"] (SpD K S__law_log) := by
  refine fn_ok T.F__law_log sc__law_log (fun ds Oc Post h => by obtain ⟨_, _, _, _, _, rfl, _⟩ := h; rfl) (fun cdv AA outer s H E hr => ?_)
  refine ⟨_, (pss_cons (ps_set (i := 2) sc__law_log.nd rfl (.inl rfl) (pe_ix (ixK (K := K)) (pe_lst (pa_cons (pe_lst (pa_cons pe_str pa_nil)) (pa_cons (pe_lst (pa_cons pe_str (pa_cons pe_str pa_nil))) (pa_cons (pe_lst (pa_cons pe_str (pa_cons pe_str (pa_cons pe_str pa_nil)))) (pa_cons (pe_lst (pa_cons pe_str (pa_cons pe_str (pa_cons pe_str (pa_cons pe_str pa_nil))))) pa_nil))))) (pe_call (ok__law_pick T) (hr.mono (by decide)) (by rfl) T.g__law_pick T.F__law_pick.kp (b__law_pick T) .nil pass0 (pa_cons (pv 0) (pa_cons pe_int pa_nil))) (fun _ _ => rfl)))
  (pss_cons (ps_par (i := 3) (j := 4) rfl sc__law_log.nd rfl rfl (by decide) rfl rfl (pa_cons (pe_call (ok__law_pick T) (hr.mono (by decide)) (by rfl) T.g__law_pick T.F__law_pick.kp (b__law_pick T) .nil pass0 (pa_cons (pv 0) (pa_cons (pe_ix (ixK (K := K)) (pe_lst (pa_cons pe_int (pa_cons pe_int (pa_cons pe_int pa_nil)))) (pe_call (ok__law_pick T) (hr.mono (by decide)) (by rfl) T.g__law_pick T.F__law_pick.kp (b__law_pick T) .nil pass0 (pa_cons (pv 0) (pa_cons pe_int pa_nil))) (fun _ _ => rfl)) pa_nil))) (pa_cons (pe_ix (ixK (K := K)) (pe_lst (pa_cons pe_int (pa_cons pe_int (pa_cons pe_int (pa_cons pe_int pa_nil))))) (pe_call (ok__law_pick T) (hr.mono (by decide)) (by rfl) T.g__law_pick T.F__law_pick.kp (b__law_pick T) .nil pass0 (pa_cons (pv 0) (pa_cons pe_int pa_nil))) (fun _ _ => rfl)) pa_nil)) (by rfl))
  (pss_cons (ps_par (i := 5) (j := 6) rfl sc__law_log.nd rfl rfl (by decide) rfl rfl (pa_cons (pe_tup pa_nil) (pa_cons (pe_ix (ixK (K := K)) (pe_lst (pa_cons pe_int (pa_cons pe_int (pa_cons pe_int (pa_cons pe_int pa_nil))))) (pe_call (ok__law_pick T) (hr.mono (by decide)) (by rfl) T.g__law_pick T.F__law_pick.kp (b__law_pick T) .nil pass0 (pa_cons (pv 0) (pa_cons pe_int pa_nil))) (fun _ _ => rfl)) pa_nil)) (by rfl))
  (pss_cons (ps_for PassesOwn.never rfl (pi_range1 (by rfl) T.range (pa_cons (pe_call (ok__law_pick T) (hr.mono (by decide)) (by rfl) T.g__law_pick T.F__law_pick.kp (b__law_pick T) .nil pass0 (pa_cons (pv 0) (pa_cons (pe_op (plusK (K := K)) (pv 1) pe_int) pa_nil))) pa_nil)) (pg_name (i := 7) sc__law_log.nd rfl (.inl rfl)) (pss_cons (ps_set (i := 3) sc__law_log.nd rfl (.inl rfl) (pe_op (plusK (K := K)) (pv 3) (pe_call (ok__law_pick T) (hr.mono (by decide)) (by rfl) T.g__law_pick T.F__law_pick.kp (b__law_pick T) .nil pass0 (pa_cons (pv 0) (pa_cons (pe_op (plusK (K := K)) (pv 6) pe_int) pa_nil)))))
    (pss_cons (ps_set (i := 8) sc__law_log.nd rfl (.inl rfl) (pe_op (plusK (K := K)) pe_int (pe_call (ok__law_pick T) (hr.mono (by decide)) (by rfl) T.g__law_pick T.F__law_pick.kp (b__law_pick T) .nil pass0 (pa_cons (pv 0) (pa_cons (pv 4) pa_nil)))))
    (pss_one (ps_set (i := 5) sc__law_log.nd rfl (.inl rfl) (pe_op (plusK (K := K)) (pv 5) (pe_tup (pa_cons (pe_tup (pa_cons (pv 3) (pa_cons (pe_ix (ixK (K := K)) (pv 2) (pe_call (ok__law_pick T) (hr.mono (by decide)) (by rfl) T.g__law_pick T.F__law_pick.kp (b__law_pick T) .nil pass0 (pa_cons (pv 0) (pa_cons (pe_callB (lenK (K := K)) (by rfl) T.len (by decide +kernel) (pa_cons (pv 2) pa_nil)) pa_nil))) (fun _ _ => rfl)) (pa_cons (pv 8) pa_nil)))) pa_nil))))))))
  (pss_one (ps_ret (pv 5))))))), fun ds Oc Post h => ?_⟩
  obtain ⟨p, a, b, c, m, rfl, rfl, hs, hm0, hm1, hp⟩ := h
  repeat (first | walk_at "dl" | refine ew_lst ?_)
  refine ew_call ?_
  repeat walk_at "dl"
  refine ⟨[(p, src a b c)], [], .refl _, p, a, b, c, 4, rfl, rfl, hs, by decide, by decide, fun i a b i0 i1 hs => ?_⟩
  obtain ⟨ss, hss, hat⟩ := atI_someE (xs := [(["a"] : List Str), ["a", "b"], ["b", "a", "zz"], ["news", "b", "a", "zz"]]) i0 i1
  refine rw_ixL (.same _) hat ?_
  have hn : 0 < ss.length ∧ ss.length ≤ 4 ∧ ∀ x ∈ ss, x ∈ names4 := by
    simp only [List.mem_cons, List.mem_nil_iff, or_false] at hss
    rcases hss with rfl | rfl | rfl | rfl <;> decide
  clear hat hss i0 i1
  repeat (first | walk_at "dl" | refine ew_lst ?_)
  refine ew_call ?_
  repeat (first | walk_at "dl" | refine ew_lst ?_)
  refine ew_call ?_
  repeat walk_at "dl"
  refine ⟨[(p, src a b c)], [], .refl _, p, a, b, c, 3, rfl, rfl, hs, by decide, by decide, fun i a b i0 i1 hs => ?_⟩
  obtain ⟨t0, ht0, hat⟩ := atI_someE (xs := [(1 : Int), 30, 6000]) i0 i1
  refine rw_ixL (.same _) hat ?_
  have ht0 : 0 < t0 ∧ t0 ≤ 6000 := by
    simp only [List.mem_cons, List.mem_nil_iff, or_false] at ht0
    omega
  clear hat i0 i1
  repeat walk_at "dl"
  refine ⟨[(p, src a b c)], [], .refl _, p, a, b, c, t0, rfl, rfl, hs, by omega, by omega, fun t a b i0 i1 hs => ?_⟩
  have htt : 0 ≤ t ∧ t ≤ 6000 := by omega
  clear i0 i1
  repeat (first | walk_at "dl" | refine ew_lst ?_)
  refine ew_call ?_
  repeat walk_at "dl"
  refine ⟨[(p, src a b c)], [], .refl _, p, a, b, c, 4, rfl, rfl, hs, by decide, by decide, fun i a b i0 i1 hs => ?_⟩
  obtain ⟨lg, hlg, hat⟩ := atI_someE (xs := [(3 : Int), 9, 40, 99]) i0 i1
  refine rw_ixL (.same _) hat ?_
  have hlg : 0 < lg ∧ lg ≤ 99 := by
    simp only [List.mem_cons, List.mem_nil_iff, or_false] at hlg
    omega
  clear hat i0 i1
  repeat (first | walk_at "dl" | refine ew_lst ?_)
  refine ew_call ?_
  repeat walk_at "dl"
  refine ⟨[(p, src a b c)], [], .refl _, p, a, b, c, 4, rfl, rfl, hs, by decide, by decide, fun i a b i0 i1 hs => ?_⟩
  obtain ⟨wd, hwd, hat⟩ := atI_someE (xs := [(1 : Int), 3, 12, 90]) i0 i1
  refine rw_ixL (.same _) hat ?_
  have hwd : 0 < wd ∧ wd ≤ 90 := by
    simp only [List.mem_cons, List.mem_nil_iff, or_false] at hwd
    omega
  clear hat i0 i1
  repeat walk_at "dl"
  refine sw_for (iw_rng1 ?_)
  repeat walk_at "dl"
  refine ew_call ?_
  repeat walk_at "dl"
  refine ⟨[(p, src a b c)], [], .refl _, p, a, b, c, m + 1, rfl, rfl, hs, by omega, by omega, fun n a0 b0 n0 n1 hs0 => ?_⟩
  repeat walk_at "dl"
  refine ⟨by omega, by omega, fun i Γ O => ∃ (L : List An) (time a b : Int) (x7 x8 : Option Dt), Γ = [some (.raw (.ref p)), some (.int m), some (encL ss), some (.int time), some (.int lg), some (encU L), some (.int wd), x7, x8] ∧ O = [(p, src a b c)] ∧ SrcOk a b c ∧
    0 ≤ time ∧ time ≤ 6000 + 90 * (i : Int) ∧ DLog L ∧ L.length = i ∧ ∀ x ∈ L, x.a ≤ time, ?_, ?_, ?_, ?_⟩
  · exact ⟨[], t, a0, b0, none, none, rfl, rfl, hs0, htt.1, by omega, ⟨⟨by decide, fun x hx => (nomatch hx), .nil⟩, fun x hx => (nomatch hx), fun x hx => (nomatch hx)⟩, rfl, fun x hx => (nomatch hx)⟩
  · intro q e
    cases e
  · rintro i d Γ O hd ⟨L, time, a, b, x7, x8, rfl, rfl, hs, h0, h1, hL, hlen, hlast⟩
    obtain ⟨hi, rfl⟩ := rngD_get hd
    have hi' : (i : Int) < n := by omega
    repeat walk_at "dl"
    refine ew_call ?_
    repeat walk_at "dl"
    refine ⟨[(p, src a b c)], [], .refl _, p, a, b, c, wd + 1, rfl, rfl, hs, by omega, by omega, fun st a b s0 s1 hs => ?_⟩
    repeat walk_at "dl"
    refine ew_call ?_
    repeat walk_at "dl"
    refine ⟨[(p, src a b c)], [], .refl _, p, a, b, c, lg, rfl, rfl, hs, by omega, by omega, fun ln a b l0 l1 hs => ?_⟩
    repeat walk_at "dl"
    refine ew_call ?_
    repeat walk_at "dl"
    refine ⟨[(p, src a b c)], [], .refl _, p, a, b, c, _, rfl, rfl, hs, ?_, ?_, fun j a b j0 j1 hs => ?_⟩
    · rw [List.length_map]; omega
    · rw [List.length_map]; omega
    rw [List.length_map] at j1
    obtain ⟨z, hz, hat⟩ := atI_someE (xs := ss) j0 j1
    refine rw_ixL (.same _) hat ?_
    repeat walk_at "dl"
    refine rwp_tup ?_ ?_
    · rw [List.length_map]
      exact Nat.le_trans (m := 500) (show L.length + 1 ≤ 500 by omega) (by decide)
    have hz4 := hn.2.2 z hz
    have ht : topicS z = true := by
      have : ∀ z ∈ names4, topicS z = true := by decide +kernel
      exact this z hz4
    refine ⟨L ++ [⟨time + st, z, 1 + ln⟩], time + st, a, b, some (.int (0 + (i : Int))), some (.int (1 + ln)), ?_, rfl, hs, by omega, by omega, ⟨⟨?_, ?_, ?_⟩, ?_, ?_⟩, ?_, ?_⟩
    · show _ = [some (.raw (.ref p)), some (.int m), some (encL ss), some (.int (time + st)), some (.int lg), some (.tup ((L ++ [(⟨time + st, z, 1 + ln⟩ : An)]).map enc)), some (.int wd), some (.int (0 + (i : Int))), some (.int (1 + ln))]
      rw [List.map_append]
      rfl
    · rw [List.length_append, List.length_singleton]; omega
    · intro x hx
      rcases List.mem_append.mp hx with hx | hx
      · exact hL.v.ann x hx
      · simp at hx
        subst hx
        exact ⟨by show 0 ≤ time + st; omega, by show time + st ≤ 10000; omega, ht, by show 1 ≤ 1 + ln; omega, by show 1 + ln ≤ 99; omega⟩
    · rw [List.pairwise_append]
      refine ⟨hL.v.ord, List.pairwise_singleton _ _, fun x hx y hy => ?_⟩
      simp at hy
      subst hy
      have := hlast x hx
      show x.a ≤ time + st
      omega
    · intro x hx
      rcases List.mem_append.mp hx with hx | hx
      · exact hL.t x hx
      · simp at hx
        subst hx
        show time + st ≤ 9600
        omega
    · intro x hx
      rcases List.mem_append.mp hx with hx | hx
      · exact hL.n x hx
      · simp at hx
        subst hx
        exact hz4
    · rw [List.length_append, List.length_singleton, hlen]
    · intro x hx
      rcases List.mem_append.mp hx with hx | hx
      · have := hlast x hx; omega
      · simp at hx
        subst hx
        exact Int.le_refl _
  · rintro Γ O ⟨L, time, a, b, x7, x8, rfl, rfl, hs, h0, h1, hL, hlen, hlast⟩
    repeat walk_at "dl"
    refine hp L a b hL ?_ hs
    rw [hlen, rngD_length]
    omega
def rules3 : List Str := ["none", "place", "end"]
def S__law_rules : SpT := fun ds Oc Post => ds = [] ∧ Post (encL rules3) Oc
end
end DL
namespace DL
open PySem PySem.Spec PyProof.Rows L2
open Enc (enc)
local macro_rules | `(tactic| walk_at "dl") => `(tactic| first
  | (with_reducible_and_instances refine sw_seq ?_)
  | (with_reducible_and_instances refine sw_ret ?_)
  | (with_reducible_and_instances refine sw_retN ?_)
  | (with_reducible_and_instances refine sw_set ?_)
  | (with_reducible_and_instances refine sw_par ?_)
  | (with_reducible_and_instances refine sw_drop ?_)
  | (with_reducible_and_instances refine sw_next ?_)
  | (with_reducible_and_instances refine sw_break ?_)
  | (with_reducible_and_instances refine sw_if ?_)
  | (with_reducible_and_instances refine sw_asg ?_)
  | ((with_reducible_and_instances refine' ew_var ?hh ?kk); (case hh => rfl))
  | (with_reducible_and_instances refine ew_int ?_)
  | (with_reducible_and_instances refine ew_str ?_)
  | (with_reducible_and_instances refine ew_bl ?_)
  | (with_reducible_and_instances refine ew_non ?_)
  | (with_reducible_and_instances refine ew_raw (v := .ty _) ?_)
  | (with_reducible_and_instances refine ew_op ?_)
  | (with_reducible_and_instances refine ew_un ?_)
  | (with_reducible_and_instances refine ew_chain ?_)
  | (with_reducible_and_instances refine ew_andV ?_)
  | (with_reducible_and_instances refine ew_orV ?_)
  | (with_reducible_and_instances refine ew_notV ?_)
  | (with_reducible_and_instances refine ew_if ?_)
  | (with_reducible_and_instances refine ew_tup ?_)
  | (with_reducible_and_instances refine ew_cb ?_)
  | (with_reducible_and_instances refine ew_slA ?_)
  | (with_reducible_and_instances refine .inl ⟨_, rfl, ?_⟩)
  | (with_reducible_and_instances refine .inr ⟨_, .same _, ?_⟩)
  | (with_reducible_and_instances refine aw_cons ?_)
  | (with_reducible_and_instances refine aw_nil ?_)
  | (with_reducible_and_instances refine tw_test ?_)
  | (with_reducible_and_instances refine tw_B ?_)
  | (with_reducible_and_instances refine tw_and ?_)
  | (with_reducible_and_instances refine tw_or ?_)
  | (with_reducible_and_instances refine tw_not ?_)
  | (with_reducible_and_instances refine tw_yes ?_)
  | (with_reducible_and_instances refine pw_none ?_)
  | (with_reducible_and_instances refine pw_some ?_)
  | (with_reducible_and_instances refine rw_le ?_)
  | (with_reducible_and_instances refine rw_lt ?_)
  | (with_reducible_and_instances refine rw_gt ?_)
  | (with_reducible_and_instances refine rw_ge ?_)
  | (with_reducible_and_instances refine rw_sub ?_)
  | (with_reducible_and_instances refine uw_neg ?_)
  | (with_reducible_and_instances refine rwp_int ?_)
  | ((with_reducible_and_instances refine gw_name ?hj ?_); (case hj => first | exact trivial | decide))
  | (with_reducible_and_instances refine gsw_cons ?_)
  | (with_reducible_and_instances refine gsw_nil ?_)
  | (with_reducible_and_instances refine gw_tup rfl ?_)
  | (with_reducible_and_instances refine cw_max2 ?_)
  | (with_reducible_and_instances refine cw_min2 ?_)
  | (with_reducible_and_instances refine cw_lenT ?_)
  | (with_reducible_and_instances refine cw_lenR ?_)
  | (with_reducible_and_instances refine cw_lenL (.same _) ?_)
  | (with_reducible_and_instances refine cw_intB ?_)
  | (with_reducible_and_instances refine ⟨_, rfl, ?_⟩)
  | (with_reducible_and_instances refine ⟨_, _, rfl, ?_⟩)
  | (refine ⟨Nat.le_trans (by simp) (Nat.le_of_lt (small1000 (n := 1000) (by decide))), ?_⟩))
local macro_rules | `(tactic| walk_at "dx") => `(tactic| first
  | (with_reducible_and_instances refine sw_seq ?_)
  | (with_reducible_and_instances refine sw_ret ?_)
  | (with_reducible_and_instances refine sw_retN ?_)
  | (with_reducible_and_instances refine sw_set ?_)
  | (with_reducible_and_instances refine sw_par ?_)
  | (with_reducible_and_instances refine sw_drop ?_)
  | (with_reducible_and_instances refine sw_next ?_)
  | (with_reducible_and_instances refine sw_break ?_)
  | (with_reducible_and_instances refine sw_asg ?_)
  | ((with_reducible_and_instances refine' ew_var ?hh ?kk); (case hh => rfl))
  | (with_reducible_and_instances refine ew_int ?_)
  | (with_reducible_and_instances refine ew_str ?_)
  | (with_reducible_and_instances refine ew_bl ?_)
  | (with_reducible_and_instances refine ew_non ?_)
  | (with_reducible_and_instances refine ew_raw (v := .ty _) ?_)
  | (with_reducible_and_instances refine ew_op ?_)
  | (with_reducible_and_instances refine ew_un ?_)
  | (with_reducible_and_instances refine ew_chain ?_)
  | (with_reducible_and_instances refine ew_andV ?_)
  | (with_reducible_and_instances refine ew_orV ?_)
  | (with_reducible_and_instances refine ew_notV ?_)
  | (with_reducible_and_instances refine ew_if ?_)
  | (with_reducible_and_instances refine ew_tup ?_)
  | (with_reducible_and_instances refine ew_cb ?_)
  | (with_reducible_and_instances refine ew_slA ?_)
  | (with_reducible_and_instances refine .inl ⟨_, rfl, ?_⟩)
  | (with_reducible_and_instances refine .inr ⟨_, .same _, ?_⟩)
  | (with_reducible_and_instances refine aw_cons ?_)
  | (with_reducible_and_instances refine aw_nil ?_)
  | (with_reducible_and_instances refine tw_test ?_)
  | (with_reducible_and_instances refine tw_B ?_)
  | (with_reducible_and_instances refine tw_and ?_)
  | (with_reducible_and_instances refine tw_or ?_)
  | (with_reducible_and_instances refine tw_not ?_)
  | (with_reducible_and_instances refine tw_yes ?_)
  | (with_reducible_and_instances refine pw_none ?_)
  | (with_reducible_and_instances refine pw_some ?_)
  | (with_reducible_and_instances refine rw_le ?_)
  | (with_reducible_and_instances refine rw_lt ?_)
  | (with_reducible_and_instances refine rw_gt ?_)
  | (with_reducible_and_instances refine rw_ge ?_)
  | (with_reducible_and_instances refine rw_sub ?_)
  | (with_reducible_and_instances refine uw_neg ?_)
  | (with_reducible_and_instances refine rwp_int ?_)
  | ((with_reducible_and_instances refine gw_name ?hj ?_); (case hj => first | exact trivial | decide))
  | (with_reducible_and_instances refine gsw_cons ?_)
  | (with_reducible_and_instances refine gsw_nil ?_)
  | (with_reducible_and_instances refine gw_tup rfl ?_)
  | (with_reducible_and_instances refine cw_max2 ?_)
  | (with_reducible_and_instances refine cw_min2 ?_)
  | (with_reducible_and_instances refine cw_lenT ?_)
  | (with_reducible_and_instances refine cw_lenR ?_)
  | (with_reducible_and_instances refine cw_lenL (.same _) ?_)
  | (with_reducible_and_instances refine cw_intB ?_)
  | (with_reducible_and_instances refine ⟨_, rfl, ?_⟩)
  | (with_reducible_and_instances refine ⟨_, _, rfl, ?_⟩)
  | (refine ⟨Nat.le_trans (by simp) (Nat.le_of_lt (small1000 (n := 1000) (by decide))), ?_⟩))
local macro_rules | `(tactic| walk_at "dn") => `(tactic| first
  | (with_reducible_and_instances refine sw_ret ?_)
  | (with_reducible_and_instances refine sw_retN ?_)
  | (with_reducible_and_instances refine sw_set ?_)
  | (with_reducible_and_instances refine sw_par ?_)
  | (with_reducible_and_instances refine sw_drop ?_)
  | (with_reducible_and_instances refine sw_next ?_)
  | (with_reducible_and_instances refine sw_break ?_)
  | (with_reducible_and_instances refine sw_asg ?_)
  | ((with_reducible_and_instances refine' ew_var ?hh ?kk); (case hh => rfl))
  | (with_reducible_and_instances refine ew_int ?_)
  | (with_reducible_and_instances refine ew_str ?_)
  | (with_reducible_and_instances refine ew_bl ?_)
  | (with_reducible_and_instances refine ew_non ?_)
  | (with_reducible_and_instances refine ew_raw (v := .ty _) ?_)
  | (with_reducible_and_instances refine ew_op ?_)
  | (with_reducible_and_instances refine ew_un ?_)
  | (with_reducible_and_instances refine ew_chain ?_)
  | (with_reducible_and_instances refine ew_andV ?_)
  | (with_reducible_and_instances refine ew_orV ?_)
  | (with_reducible_and_instances refine ew_notV ?_)
  | (with_reducible_and_instances refine ew_if ?_)
  | (with_reducible_and_instances refine ew_tup ?_)
  | (with_reducible_and_instances refine ew_cb ?_)
  | (with_reducible_and_instances refine ew_slA ?_)
  | (with_reducible_and_instances refine .inl ⟨_, rfl, ?_⟩)
  | (with_reducible_and_instances refine .inr ⟨_, .same _, ?_⟩)
  | (with_reducible_and_instances refine aw_cons ?_)
  | (with_reducible_and_instances refine aw_nil ?_)
  | (with_reducible_and_instances refine tw_test ?_)
  | (with_reducible_and_instances refine tw_B ?_)
  | (with_reducible_and_instances refine tw_and ?_)
  | (with_reducible_and_instances refine tw_or ?_)
  | (with_reducible_and_instances refine tw_not ?_)
  | (with_reducible_and_instances refine tw_yes ?_)
  | (with_reducible_and_instances refine pw_none ?_)
  | (with_reducible_and_instances refine pw_some ?_)
  | (with_reducible_and_instances refine rw_le ?_)
  | (with_reducible_and_instances refine rw_lt ?_)
  | (with_reducible_and_instances refine rw_gt ?_)
  | (with_reducible_and_instances refine rw_ge ?_)
  | (with_reducible_and_instances refine rw_sub ?_)
  | (with_reducible_and_instances refine uw_neg ?_)
  | (with_reducible_and_instances refine rwp_int ?_)
  | ((with_reducible_and_instances refine gw_name ?hj ?_); (case hj => first | exact trivial | decide))
  | (with_reducible_and_instances refine gsw_cons ?_)
  | (with_reducible_and_instances refine gsw_nil ?_)
  | (with_reducible_and_instances refine gw_tup rfl ?_)
  | (with_reducible_and_instances refine cw_max2 ?_)
  | (with_reducible_and_instances refine cw_min2 ?_)
  | (with_reducible_and_instances refine cw_lenT ?_)
  | (with_reducible_and_instances refine cw_lenR ?_)
  | (with_reducible_and_instances refine cw_lenL (.same _) ?_)
  | (with_reducible_and_instances refine cw_intB ?_)
  | (with_reducible_and_instances refine ⟨_, rfl, ?_⟩)
  | (with_reducible_and_instances refine ⟨_, _, rfl, ?_⟩)
  | (refine ⟨Nat.le_trans (by simp) (Nat.le_of_lt (small1000 (n := 1000) (by decide))), ?_⟩))
/-! ### the law's own line -/
def Dist (r : Str) (L : List An) (line : List Pr) : Prop := r = "none" ∨ (line.map fun p => topAt L p.b).Nodup
def mt (L : List An) (k : Nat) (p : Pr) : Bool := decide (topAt L p.b = topAt L k)
/-- the law's loop, behind some of the line -/
def lfound (r : Str) (L : List An) (k : Nat) (xs : List Pr) : List Pr :=
  if r = "none" then xs else if r = "place" then xs.map fun p => if mt L k p then ⟨p.a, k⟩ else p else xs.filter fun p => !mt L k p
def lren (r : Str) (L : List An) (k : Nat) (xs : List Pr) : Option Pr :=
  if r = "none" then none else match (xs.filter (mt L k)).getLast? with
    | some p => some ⟨p.a, k⟩
    | none => none
def lrcv (r : Str) (L : List An) (line : List Pr) (k : Nat) : List Pr :=
  match lren r L k line with
  | none => lfound r L k line ++ [⟨k, k⟩]
  | some p => if r = "place" then lfound r L k line else lfound r L k line ++ [p]
theorem lfound_snoc (r : Str) (L : List An) (k : Nat) (xs : List Pr) (p : Pr) : lfound r L k (xs ++ [p]) = if r = "none" ∨ mt L k p = false then lfound r L k xs ++ [p] else if r = "place" then lfound r L k xs ++ [⟨p.a, k⟩] else lfound r L k xs := by
  unfold lfound
  by_cases h1 : r = "none"
  · simp [h1]
  · by_cases h2 : r = "place"
    · subst h2
      cases h3 : mt L k p <;> simp [h1, h3]
    · cases h3 : mt L k p <;> simp [h1, h2, h3]
theorem lren_snoc (r : Str) (L : List An) (k : Nat) (xs : List Pr) (p : Pr) : lren r L k (xs ++ [p]) = if r = "none" ∨ mt L k p = false then lren r L k xs else some ⟨p.a, k⟩ := by
  unfold lren
  by_cases h1 : r = "none"
  · simp [h1]
  · cases h3 : mt L k p <;> simp [h1, h3]
theorem filter_one {L : List An} {k : Nat} : ∀ {line : List Pr}, (line.map fun p => topAt L p.b).Nodup → ∀ p0 ps, line.filter (mt L k) = p0 :: ps → ps = [] ∧ ∀ p ∈ line, mt L k p = decide (p = p0)
  | [], _, p0, ps, h => by cases h
  | q :: line, hn, p0, ps, h => by
    rw [List.map_cons, List.nodup_cons] at hn
    rw [List.filter_cons] at h
    cases hq : mt L k q with
    | true =>
      rw [hq, if_pos rfl] at h
      injection h with h1 h2
      subst h1
      have hno : ∀ p ∈ line, mt L k p = false := fun p hp => by
        cases e : mt L k p with
        | false => rfl
        | true =>
          have e1 := of_decide_eq_true e
          have e2 := of_decide_eq_true hq
          exact absurd (List.mem_map.mpr ⟨p, hp, e1.trans e2.symm⟩) hn.1
      have hz : line.filter (mt L k) = [] := List.filter_eq_nil_iff.mpr fun p hp => by rw [hno p hp]; decide
      rw [hz] at h2
      refine ⟨h2.symm, fun p hp => ?_⟩
      rcases List.mem_cons.mp hp with e | hp'
      · subst e; rw [hq]; simp
      · rw [hno p hp']
        symm
        apply decide_eq_false
        intro e
        rw [← e, hno p hp'] at hq
        cases hq
    | false =>
      rw [hq, if_neg Bool.false_ne_true] at h
      obtain ⟨h1, h2⟩ := filter_one hn.2 p0 ps h
      refine ⟨h1, fun p hp => ?_⟩
      rcases List.mem_cons.mp hp with e | hp
      · subst e
        rw [hq]
        symm
        apply decide_eq_false
        rintro rfl
        have hm : p ∈ line.filter (mt L k) := by rw [h]; exact List.mem_cons_self
        rw [(List.mem_filter.mp hm).2] at hq
        cases hq
      · exact h2 p hp
theorem lrcv_eq {r : Str} {L : List An} {line : List Pr} {k : Nat} (hd : Dist r L line) : lrcv r L line k = rcv r L line k := by
  unfold lrcv rcv
  show _ = match line.filter (mt L k) with
    | [] => line ++ [(⟨k, k⟩ : Pr)]
    | p0 :: _ => if r = "none" then line ++ [(⟨k, k⟩ : Pr)] else if r = "place" then line.map fun p => if p = p0 then (⟨p0.a, k⟩ : Pr) else p else line.filter (fun p => !decide (p = p0)) ++ [(⟨p0.a, k⟩ : Pr)]
  by_cases hr : r = "none"
  · have e1 : lren r L k line = none := by unfold lren; rw [if_pos hr]
    have e2 : lfound r L k line = line := by unfold lfound; rw [if_pos hr]
    rw [e1, e2]
    cases line.filter (mt L k) with
    | nil => rfl
    | cons p0 ps => show _ = if _ then _ else _; rw [if_pos hr]
  · have hn := hd.resolve_left hr
    cases hf : line.filter (mt L k) with
    | nil =>
      have e1 : lren r L k line = none := by unfold lren; rw [if_neg hr, hf]; rfl
      have hno : ∀ p ∈ line, mt L k p = false := fun p hp => by
        have := List.filter_eq_nil_iff.mp hf p hp
        simpa using this
      have e2 : lfound r L k line = line := by
        unfold lfound
        rw [if_neg hr]
        split
        · conv => rhs; rw [← List.map_id line]
          exact List.map_congr_left fun p hp => by rw [hno p hp]; rfl
        · exact List.filter_eq_self.mpr fun p hp => by rw [hno p hp]; rfl
      rw [e1, e2]
    | cons p0 ps =>
      obtain ⟨rfl, hm⟩ := filter_one hn p0 ps hf
      have e1 : lren r L k line = some ⟨p0.a, k⟩ := by unfold lren; rw [if_neg hr, hf]; rfl
      rw [e1]
      show (if _ then _ else _) = if _ then _ else _
      rw [if_neg hr]
      by_cases hp : r = "place"
      · rw [if_pos hp, if_pos hp]
        unfold lfound
        rw [if_neg hr, if_pos hp]
        refine List.map_congr_left fun p hpm => ?_
        rw [hm p hpm]
        by_cases e : p = p0
        · subst e; simp
        · simp [e]
      · rw [if_neg hp, if_neg hp]
        unfold lfound
        rw [if_neg hr, if_neg hp]
        congr 1
        exact List.filter_congr fun p hpm => by rw [hm p hpm]
def S__law_received : SpT := fun ds Oc Post => ∃ (p : Addr) (line : List Pr) (L : List An) (k : Nat) (r : Str), ds = [.raw (.ref p), encU L, .int (k : Int), .str r] ∧ Oc = [(p, .lst (line.map enc))] ∧ k < L.length ∧ Fits L line ∧ line.length ≤ 1000 ∧ Dist r L line ∧ ∀ q, Post (.raw (.ref q)) [(q, .lst ((rcv r L line k).map enc))]
def encO : Option Pr → Dt
  | none => .non
  | some p => enc p
section
variable {P : Program} {w : World} {K : PySem.W.Frag} {mg : Str → Option Value} {base : Heap} {A : Ad}
end
end DL
namespace DL
open PySem PySem.Spec PyProof.Rows L2
open Enc (enc)
local macro_rules | `(tactic| walk_at "dl") => `(tactic| first
  | (with_reducible_and_instances refine sw_seq ?_)
  | (with_reducible_and_instances refine sw_ret ?_)
  | (with_reducible_and_instances refine sw_retN ?_)
  | (with_reducible_and_instances refine sw_set ?_)
  | (with_reducible_and_instances refine sw_par ?_)
  | (with_reducible_and_instances refine sw_drop ?_)
  | (with_reducible_and_instances refine sw_next ?_)
  | (with_reducible_and_instances refine sw_break ?_)
  | (with_reducible_and_instances refine sw_if ?_)
  | (with_reducible_and_instances refine sw_asg ?_)
  | ((with_reducible_and_instances refine' ew_var ?hh ?kk); (case hh => rfl))
  | (with_reducible_and_instances refine ew_int ?_)
  | (with_reducible_and_instances refine ew_str ?_)
  | (with_reducible_and_instances refine ew_bl ?_)
  | (with_reducible_and_instances refine ew_non ?_)
  | (with_reducible_and_instances refine ew_raw (v := .ty _) ?_)
  | (with_reducible_and_instances refine ew_op ?_)
  | (with_reducible_and_instances refine ew_un ?_)
  | (with_reducible_and_instances refine ew_chain ?_)
  | (with_reducible_and_instances refine ew_andV ?_)
  | (with_reducible_and_instances refine ew_orV ?_)
  | (with_reducible_and_instances refine ew_notV ?_)
  | (with_reducible_and_instances refine ew_if ?_)
  | (with_reducible_and_instances refine ew_tup ?_)
  | (with_reducible_and_instances refine ew_cb ?_)
  | (with_reducible_and_instances refine ew_slA ?_)
  | (with_reducible_and_instances refine .inl ⟨_, rfl, ?_⟩)
  | (with_reducible_and_instances refine .inr ⟨_, .same _, ?_⟩)
  | (with_reducible_and_instances refine aw_cons ?_)
  | (with_reducible_and_instances refine aw_nil ?_)
  | (with_reducible_and_instances refine tw_test ?_)
  | (with_reducible_and_instances refine tw_B ?_)
  | (with_reducible_and_instances refine tw_and ?_)
  | (with_reducible_and_instances refine tw_or ?_)
  | (with_reducible_and_instances refine tw_not ?_)
  | (with_reducible_and_instances refine tw_yes ?_)
  | (with_reducible_and_instances refine pw_none ?_)
  | (with_reducible_and_instances refine pw_some ?_)
  | (with_reducible_and_instances refine rw_le ?_)
  | (with_reducible_and_instances refine rw_lt ?_)
  | (with_reducible_and_instances refine rw_gt ?_)
  | (with_reducible_and_instances refine rw_ge ?_)
  | (with_reducible_and_instances refine rw_sub ?_)
  | (with_reducible_and_instances refine uw_neg ?_)
  | (with_reducible_and_instances refine rwp_int ?_)
  | ((with_reducible_and_instances refine gw_name ?hj ?_); (case hj => first | exact trivial | decide))
  | (with_reducible_and_instances refine gsw_cons ?_)
  | (with_reducible_and_instances refine gsw_nil ?_)
  | (with_reducible_and_instances refine gw_tup rfl ?_)
  | (with_reducible_and_instances refine cw_max2 ?_)
  | (with_reducible_and_instances refine cw_min2 ?_)
  | (with_reducible_and_instances refine cw_lenT ?_)
  | (with_reducible_and_instances refine cw_lenR ?_)
  | (with_reducible_and_instances refine cw_lenL (.same _) ?_)
  | (with_reducible_and_instances refine cw_intB ?_)
  | (with_reducible_and_instances refine ⟨_, rfl, ?_⟩)
  | (with_reducible_and_instances refine ⟨_, _, rfl, ?_⟩)
  | (refine ⟨Nat.le_trans (by simp) (Nat.le_of_lt (small1000 (n := 1000) (by decide))), ?_⟩))
local macro_rules | `(tactic| walk_at "dx") => `(tactic| first
  | (with_reducible_and_instances refine sw_seq ?_)
  | (with_reducible_and_instances refine sw_ret ?_)
  | (with_reducible_and_instances refine sw_retN ?_)
  | (with_reducible_and_instances refine sw_set ?_)
  | (with_reducible_and_instances refine sw_par ?_)
  | (with_reducible_and_instances refine sw_drop ?_)
  | (with_reducible_and_instances refine sw_next ?_)
  | (with_reducible_and_instances refine sw_break ?_)
  | (with_reducible_and_instances refine sw_asg ?_)
  | ((with_reducible_and_instances refine' ew_var ?hh ?kk); (case hh => rfl))
  | (with_reducible_and_instances refine ew_int ?_)
  | (with_reducible_and_instances refine ew_str ?_)
  | (with_reducible_and_instances refine ew_bl ?_)
  | (with_reducible_and_instances refine ew_non ?_)
  | (with_reducible_and_instances refine ew_raw (v := .ty _) ?_)
  | (with_reducible_and_instances refine ew_op ?_)
  | (with_reducible_and_instances refine ew_un ?_)
  | (with_reducible_and_instances refine ew_chain ?_)
  | (with_reducible_and_instances refine ew_andV ?_)
  | (with_reducible_and_instances refine ew_orV ?_)
  | (with_reducible_and_instances refine ew_notV ?_)
  | (with_reducible_and_instances refine ew_if ?_)
  | (with_reducible_and_instances refine ew_tup ?_)
  | (with_reducible_and_instances refine ew_cb ?_)
  | (with_reducible_and_instances refine ew_slA ?_)
  | (with_reducible_and_instances refine .inl ⟨_, rfl, ?_⟩)
  | (with_reducible_and_instances refine .inr ⟨_, .same _, ?_⟩)
  | (with_reducible_and_instances refine aw_cons ?_)
  | (with_reducible_and_instances refine aw_nil ?_)
  | (with_reducible_and_instances refine tw_test ?_)
  | (with_reducible_and_instances refine tw_B ?_)
  | (with_reducible_and_instances refine tw_and ?_)
  | (with_reducible_and_instances refine tw_or ?_)
  | (with_reducible_and_instances refine tw_not ?_)
  | (with_reducible_and_instances refine tw_yes ?_)
  | (with_reducible_and_instances refine pw_none ?_)
  | (with_reducible_and_instances refine pw_some ?_)
  | (with_reducible_and_instances refine rw_le ?_)
  | (with_reducible_and_instances refine rw_lt ?_)
  | (with_reducible_and_instances refine rw_gt ?_)
  | (with_reducible_and_instances refine rw_ge ?_)
  | (with_reducible_and_instances refine rw_sub ?_)
  | (with_reducible_and_instances refine uw_neg ?_)
  | (with_reducible_and_instances refine rwp_int ?_)
  | ((with_reducible_and_instances refine gw_name ?hj ?_); (case hj => first | exact trivial | decide))
  | (with_reducible_and_instances refine gsw_cons ?_)
  | (with_reducible_and_instances refine gsw_nil ?_)
  | (with_reducible_and_instances refine gw_tup rfl ?_)
  | (with_reducible_and_instances refine cw_max2 ?_)
  | (with_reducible_and_instances refine cw_min2 ?_)
  | (with_reducible_and_instances refine cw_lenT ?_)
  | (with_reducible_and_instances refine cw_lenR ?_)
  | (with_reducible_and_instances refine cw_lenL (.same _) ?_)
  | (with_reducible_and_instances refine cw_intB ?_)
  | (with_reducible_and_instances refine ⟨_, rfl, ?_⟩)
  | (with_reducible_and_instances refine ⟨_, _, rfl, ?_⟩)
  | (refine ⟨Nat.le_trans (by simp) (Nat.le_of_lt (small1000 (n := 1000) (by decide))), ?_⟩))
local macro_rules | `(tactic| walk_at "dn") => `(tactic| first
  | (with_reducible_and_instances refine sw_ret ?_)
  | (with_reducible_and_instances refine sw_retN ?_)
  | (with_reducible_and_instances refine sw_set ?_)
  | (with_reducible_and_instances refine sw_par ?_)
  | (with_reducible_and_instances refine sw_drop ?_)
  | (with_reducible_and_instances refine sw_next ?_)
  | (with_reducible_and_instances refine sw_break ?_)
  | (with_reducible_and_instances refine sw_asg ?_)
  | ((with_reducible_and_instances refine' ew_var ?hh ?kk); (case hh => rfl))
  | (with_reducible_and_instances refine ew_int ?_)
  | (with_reducible_and_instances refine ew_str ?_)
  | (with_reducible_and_instances refine ew_bl ?_)
  | (with_reducible_and_instances refine ew_non ?_)
  | (with_reducible_and_instances refine ew_raw (v := .ty _) ?_)
  | (with_reducible_and_instances refine ew_op ?_)
  | (with_reducible_and_instances refine ew_un ?_)
  | (with_reducible_and_instances refine ew_chain ?_)
  | (with_reducible_and_instances refine ew_andV ?_)
  | (with_reducible_and_instances refine ew_orV ?_)
  | (with_reducible_and_instances refine ew_notV ?_)
  | (with_reducible_and_instances refine ew_if ?_)
  | (with_reducible_and_instances refine ew_tup ?_)
  | (with_reducible_and_instances refine ew_cb ?_)
  | (with_reducible_and_instances refine ew_slA ?_)
  | (with_reducible_and_instances refine .inl ⟨_, rfl, ?_⟩)
  | (with_reducible_and_instances refine .inr ⟨_, .same _, ?_⟩)
  | (with_reducible_and_instances refine aw_cons ?_)
  | (with_reducible_and_instances refine aw_nil ?_)
  | (with_reducible_and_instances refine tw_test ?_)
  | (with_reducible_and_instances refine tw_B ?_)
  | (with_reducible_and_instances refine tw_and ?_)
  | (with_reducible_and_instances refine tw_or ?_)
  | (with_reducible_and_instances refine tw_not ?_)
  | (with_reducible_and_instances refine tw_yes ?_)
  | (with_reducible_and_instances refine pw_none ?_)
  | (with_reducible_and_instances refine pw_some ?_)
  | (with_reducible_and_instances refine rw_le ?_)
  | (with_reducible_and_instances refine rw_lt ?_)
  | (with_reducible_and_instances refine rw_gt ?_)
  | (with_reducible_and_instances refine rw_ge ?_)
  | (with_reducible_and_instances refine rw_sub ?_)
  | (with_reducible_and_instances refine uw_neg ?_)
  | (with_reducible_and_instances refine rwp_int ?_)
  | ((with_reducible_and_instances refine gw_name ?hj ?_); (case hj => first | exact trivial | decide))
  | (with_reducible_and_instances refine gsw_cons ?_)
  | (with_reducible_and_instances refine gsw_nil ?_)
  | (with_reducible_and_instances refine gw_tup rfl ?_)
  | (with_reducible_and_instances refine cw_max2 ?_)
  | (with_reducible_and_instances refine cw_min2 ?_)
  | (with_reducible_and_instances refine cw_lenT ?_)
  | (with_reducible_and_instances refine cw_lenR ?_)
  | (with_reducible_and_instances refine cw_lenL (.same _) ?_)
  | (with_reducible_and_instances refine cw_intB ?_)
  | (with_reducible_and_instances refine ⟨_, rfl, ?_⟩)
  | (with_reducible_and_instances refine ⟨_, _, rfl, ?_⟩)
  | (refine ⟨Nat.le_trans (by simp) (Nat.le_of_lt (small1000 (n := 1000) (by decide))), ?_⟩))
/-! ### receiving, second by second -/
theorem rcvAll_next {r : Str} {L : List An} {a : Int} : ∀ (n : Nat) {line : List Pr} {done : Nat}, L.length - done = n → ¬ ((rcvAll r L a line done).2 < L.length ∧ timAt L (rcvAll r L a line done).2 ≤ a)
  | 0, line, done, h => by
    rw [rcvAll_stop (fun z => by omega)]
    exact fun z => by have := z.1; omega
  | n + 1, line, done, h => by
    by_cases hc : done < L.length ∧ timAt L done ≤ a
    · rw [rcvAll_go hc.1 hc.2]
      exact rcvAll_next n (by omega)
    · rw [rcvAll_stop hc]
      exact hc
theorem rcvAll_comp {r : Str} {L : List An} {a b : Int} (hab : a ≤ b) : ∀ (n : Nat) {line : List Pr} {done : Nat}, L.length - done = n → rcvAll r L b (rcvAll r L a line done).1 (rcvAll r L a line done).2 = rcvAll r L b line done
  | 0, line, done, h => by rw [rcvAll_stop (now := a) (fun z => by omega)]
  | n + 1, line, done, h => by
    by_cases hc : done < L.length ∧ timAt L done ≤ a
    · rw [rcvAll_go (now := a) hc.1 hc.2, rcvAll_go (now := b) hc.1 (Int.le_trans hc.2 hab)]
      exact rcvAll_comp hab n (by omega)
    · rw [rcvAll_stop (now := a) hc]
/-- nothing comes between a and c -/
theorem rcvAll_gap {r : Str} {L : List An} {a c : Int} {line : List Pr} {done : Nat} (hac : a ≤ c) (h : (rcvAll r L a line done).2 < L.length → c < timAt L (rcvAll r L a line done).2) : rcvAll r L c line done = rcvAll r L a line done := by
  rw [← rcvAll_comp hac _ rfl, rcvAll_stop]
  rintro ⟨h1, h2⟩
  have := h h1
  omega
theorem Dist.tail {r : Str} {L : List An} {p : Pr} {ps : List Pr} (h : Dist r L (p :: ps)) : Dist r L ps := h.imp id fun z => by
  rw [List.map_cons, List.nodup_cons] at z
  exact z.2
theorem Dist.rcv {r : Str} {L : List An} {line : List Pr} (k : Nat) (h : Dist r L line) : Dist r L (rcv r L line k) := by
  rcases h with h | hn
  · exact .inl h
  · by_cases hr : r = "none"
    · exact .inl hr
    · right
      rw [← lrcv_eq (.inr hn)]
      unfold lrcv
      cases hf : line.filter (mt L k) with
      | nil =>
        have hno : ∀ p ∈ line, mt L k p = false := fun p hp => by
          have := List.filter_eq_nil_iff.mp hf p hp
          simpa using this
        have e1 : lren r L k line = none := by unfold lren; rw [if_neg hr, hf]; rfl
        have e2 : lfound r L k line = line := by
          unfold lfound
          rw [if_neg hr]
          split
          · conv => rhs; rw [← List.map_id line]
            exact List.map_congr_left fun p hp => by rw [hno p hp]; rfl
          · exact List.filter_eq_self.mpr fun p hp => by rw [hno p hp]; rfl
        rw [e1, e2]
        show ((line ++ [(⟨k, k⟩ : Pr)]).map fun p => topAt L p.b).Nodup
        rw [List.map_append, List.nodup_append]
        refine ⟨hn, by simp, fun a ha b hb => ?_⟩
        simp at hb
        subst hb
        rintro rfl
        obtain ⟨p, hp, e⟩ := List.mem_map.mp ha
        have := of_decide_eq_false (hno p hp)
        exact this e
      | cons p0 ps =>
        obtain ⟨rfl, hm⟩ := filter_one hn p0 ps hf
        have e1 : lren r L k line = some ⟨p0.a, k⟩ := by unfold lren; rw [if_neg hr, hf]; rfl
        rw [e1]
        show ((if r = "place" then lfound r L k line else lfound r L k line ++ [(⟨p0.a, k⟩ : Pr)]).map fun p => topAt L p.b).Nodup
        by_cases hp : r = "place"
        · rw [if_pos hp]
          unfold lfound
          rw [if_neg hr, if_pos hp, List.map_map]
          have e : line.map ((fun p => topAt L p.b) ∘ fun p => if mt L k p then (⟨p.a, k⟩ : Pr) else p) = line.map fun p => topAt L p.b := by
            refine List.map_congr_left fun p hpm => ?_
            show topAt L (if mt L k p then (⟨p.a, k⟩ : Pr) else p).b = _
            cases e : mt L k p with
            | true => exact (of_decide_eq_true e).symm
            | false => rfl
          rw [e]
          exact hn
        · rw [if_neg hp]
          unfold lfound
          rw [if_neg hr, if_neg hp, List.map_append, List.nodup_append]
          refine ⟨?_, by simp, fun a ha b hb => ?_⟩
          · exact List.Sublist.nodup (List.filter_sublist.map _) hn
          · simp at hb
            subst hb
            rintro rfl
            obtain ⟨p, hp, e⟩ := List.mem_map.mp ha
            have := (List.mem_filter.mp hp).2
            have h3 : mt L k p = true := decide_eq_true e
            rw [h3] at this
            cases this
theorem rcvTo_dist {r : Str} {L : List An} {now : Int} : ∀ (f : Nat) (line : List Pr) (done : Nat), Dist r L line → Dist r L (rcvTo r L now f line done).1
  | 0, _, _, h => h
  | f + 1, line, done, h => by
    show Dist r L (if _ then _ else _ : List Pr × Nat).1
    split
    · exact rcvTo_dist f _ _ (h.rcv done)
    · exact h
theorem rcvAll_dist {r : Str} {L : List An} {now : Int} {line : List Pr} {done : Nat} (h : Dist r L line) : Dist r L (rcvAll r L now line done).1 := rcvTo_dist _ _ _ h
/-- a log for the law's own clock -/
structure SLog (L : List An) : Prop where
  len : L.length ≤ 500
  ord : L.Pairwise fun x y => x.a ≤ y.a
  pos : ∀ x ∈ L, 1 ≤ x.c
theorem VLog.s {L : List An} (h : VLog L) : SLog L := ⟨Nat.le_trans h.len (by decide), h.ord, fun x hx => (h.ann x hx).2.2.2.1⟩
theorem SLog.tim {L : List An} (h : SLog L) {i j : Nat} (hij : i ≤ j) (hj : j < L.length) : timAt L i ≤ timAt L j := by
  rcases Nat.lt_or_ge i j with hl | hl
  · rw [timAt_get (by omega), timAt_get hj]
    exact List.pairwise_iff_getElem.mp h.ord i j (by omega) hj hl
  · rw [show i = j by omega]; exact Int.le_refl _
theorem SLog.ln {L : List An} (h : SLog L) {i : Nat} (hi : i < L.length) : 1 ≤ lnAt L i := by
  rw [lnAt_get hi]
  exact h.pos _ (List.getElem_mem hi)
/-- what the law's loop knows at the head of a turn: line0, done0 are the program's (behind its last begin) -/
structure LwI (r : Str) (L : List An) (last time : Int) (line : List Pr) (done : Nat) (busy : Int) (found : List Bg) (line0 : List Pr) (done0 f : Nat) : Prop where
  fits0 : Fits L line0
  dle : done0 ≤ L.length
  len0 : line0.length + found.length ≤ done0
  dist0 : Dist r L line0
  eqs : (line, done) = rcvAll r L (time - 1) line0 done0
  nowle : (line0 ≠ [] ∨ done0 < L.length) → time ≤ nowOf L line0 done0 busy
  play : playR r L last = playF r L last f line0 done0 found busy
  fuel : muP L line0 done0 < f
  top : time ≤ last + 1 ∨ (line0 = [] ∧ done0 = 0 ∧ line = [] ∧ done = 0)
theorem LwI.rk {r : Str} {L : List An} {last time busy : Int} {line line0 : List Pr} {done done0 f : Nat} {found : List Bg} (h : LwI r L last time line done busy found line0 done0 f) : Rk L line0 done0 line done := by
  have := rcvAll_rk (r := r) (now := time - 1) h.fits0 h.dle
  rw [← h.eqs] at this
  exact this
theorem LwI.dist {r : Str} {L : List An} {last time busy : Int} {line line0 : List Pr} {done done0 f : Nat} {found : List Bg} (h : LwI r L last time line done busy found line0 done0 f) : Dist r L line := by
  have := rcvAll_dist (now := time - 1) (done := done0) h.dist0
  rw [← h.eqs] at this
  exact this
/-- all that is left comes at this time or later -/
theorem LwI.later {r : Str} {L : List An} {last time busy : Int} {line line0 : List Pr} {done done0 f : Nat} {found : List Bg} (h : LwI r L last time line done busy found line0 done0 f) (hs : SLog L) {k : Nat} (hk : done ≤ k) (hl : k < L.length) : time ≤ timAt L k := by
  have := rcvAll_next (r := r) (L := L) (a := time - 1) (line := line0) (done := done0) _ rfl
  rw [← h.eqs] at this
  have h1 : ¬ timAt L done ≤ time - 1 := fun z => this ⟨by show done < _; omega, z⟩
  have h2 := hs.tim hk hl
  omega
theorem LwI.recv {r : Str} {L : List An} {last time busy : Int} {line line0 : List Pr} {done done0 f : Nat} {found : List Bg} (h : LwI r L last time line done busy found line0 done0 f) : rcvAll r L time line done = rcvAll r L time line0 done0 := by
  have := rcvAll_comp (r := r) (L := L) (a := time - 1) (b := time) (by omega) _ (line := line0) (done := done0) rfl
  rw [← h.eqs] at this
  exact this
theorem LwI.start {r : Str} {L : List An} {last : Int} (time : Int) (ht : (L = [] ∧ time = last + 1) ∨ (L ≠ [] ∧ time = timAt L 0)) : LwI r L last time [] 0 0 [] [] 0 (L.length + 1) := by
  refine ⟨fun _ h => (by cases h), Nat.zero_le _, Nat.le_refl _, .inr .nil, ?_, fun hz => ?_, rfl, by unfold muP; simp, .inr ⟨rfl, rfl, rfl, rfl⟩⟩
  · rw [rcvAll_stop]
    rintro ⟨h1, h2⟩
    rcases ht with ⟨rfl, _⟩ | ⟨_, rfl⟩
    · simp at h1
    · omega
  · rcases ht with ⟨rfl, rfl⟩ | ⟨hL, rfl⟩
    · rcases hz with hz | hz
      · exact absurd rfl hz
      · simp at hz
    · unfold nowOf
      rw [if_neg (by simp)]
      omega
/-- a begin at this time -/
theorem LwI.begin {r : Str} {L : List An} {last time busy : Int} {line line0 ps : List Pr} {p : Pr} {done done0 d f : Nat} {found : List Bg} (hs : SLog L) (h : LwI r L last time line done busy found line0 done0 f) (hlast : time ≤ last)
    (e : rcvAll r L time line done = (p :: ps, d)) (hb : busy ≤ time) (time' : Int) (t1 : time < time') (t2 : d < L.length → time' ≤ timAt L d) (t3 : ps ≠ [] → time' ≤ time + lnAt L p.b) (t4 : time' ≤ last + 1) :
    ∃ f', LwI r L last time' ps d (time + lnAt L p.b) (found ++ [⟨time, p.a, p.b⟩]) ps d f' := by
  have rk := rcvAll_rk (r := r) (now := time) h.fits0 h.dle
  rw [← h.recv, e] at rk
  have hne : ¬ (line0 = [] ∧ ¬ done0 < L.length) := fun ⟨z1, z2⟩ => by
    have e2 := h.recv
    rw [e, rcvAll_stop (fun z => z2 z.1), z1] at e2
    cases e2
  have hnow : nowOf L line0 done0 busy = time := by
    have h1 := h.nowle (by
      rcases Classical.em (line0 = []) with z | z
      · right
        exact Classical.byContradiction fun z2 => hne ⟨z, z2⟩
      · exact .inl z)
    refine Int.le_antisymm ?_ h1
    unfold nowOf
    split
    · exact hb
    · rename_i z
      have z' : line0 = [] := Classical.byContradiction z
      have hlt : done0 < L.length := Classical.byContradiction fun z2 => hne ⟨z', z2⟩
      have : timAt L done0 ≤ time := Classical.byContradiction fun z2 => by
        have e2 := h.recv
        rw [e, rcvAll_stop (fun z => z2 z.2), z'] at e2
        cases e2
      omega
  have hfit := rk.fits
  have hmu := rk.mu
  have hlen := rk.len
  rw [List.length_cons] at hmu hlen
  have hl0 := h.len0
  have hdist : Dist r L (p :: ps) := by
    have := rcvAll_dist (r := r) (L := L) (now := time) (done := done0) h.dist0
    rw [← h.recv, e] at this
    exact this
  have htop := rk.top
  have hfu := h.fuel
  obtain ⟨f1, rfl⟩ : ∃ f1, f = f1 + 1 := ⟨f - 1, by omega⟩
  refine ⟨f1, fun q hq => hfit q (List.mem_cons_of_mem _ hq), htop, ?_, hdist.tail, ?_, fun hz => ?_, ?_, ?_, .inl t4⟩
  · rw [List.length_append, List.length_singleton]; omega
  · rw [rcvAll_stop]
    rintro ⟨z1, z2⟩
    have := t2 z1
    omega
  · unfold nowOf
    split
    · rename_i z
      exact t3 z
    · rename_i z
      have z' : ps = [] := Classical.byContradiction z
      have hlt : d < L.length := hz.resolve_left z
      have := t2 hlt
      omega
  · rw [h.play]
    show (if _ then _ else _) = _
    rw [if_neg hne, hnow, if_neg (by omega), ← h.recv, e]
  · unfold muP at hfu ⊢
    omega
/-- no begin at this time -/
theorem LwI.quiet {r : Str} {L : List An} {last time busy : Int} {line line0 ln1 : List Pr} {done done0 d f : Nat} {found : List Bg} (hs : SLog L) (h : LwI r L last time line done busy found line0 done0 f)
    (e : rcvAll r L time line done = (ln1, d)) (hb : ¬ (busy ≤ time ∧ ln1 ≠ [])) (time' : Int) (t1 : time < time') (t2 : d < L.length → time' ≤ timAt L d) (t3 : ln1 ≠ [] → time' ≤ busy) (t4 : time' ≤ last + 1) :
    LwI r L last time' ln1 d busy found line0 done0 f := by
  have rk := rcvAll_rk (r := r) (now := time) h.fits0 h.dle
  have e0 : rcvAll r L time line0 done0 = (ln1, d) := by rw [← h.recv, e]
  rw [e0] at rk
  refine ⟨h.fits0, h.dle, h.len0, h.dist0, ?_, fun hz => ?_, h.play, h.fuel, .inl t4⟩
  · rw [rcvAll_gap (a := time) (by omega) (fun z => ?_), e0]
    rw [e0] at z ⊢
    have := t2 z
    show _ < timAt L d
    omega
  · unfold nowOf
    split
    · rename_i z
      exact t3 (rk.ne z)
    · rename_i z
      have z' : line0 = [] := Classical.byContradiction z
      have hlt : done0 < L.length := hz.resolve_left z
      by_cases hl1 : ln1 = []
      · -- nothing came
        have hd : d = done0 := by
          by_cases hc : timAt L done0 ≤ time
          · rw [rcvAll_go hlt hc] at e0
            have rk2 := rcvAll_rk (r := r) (now := time) (rcv_fits (r := r) hlt h.fits0) (Nat.succ_le_of_lt hlt)
            rw [e0] at rk2
            exact absurd hl1 (rk2.ne (rcv_ne r L line0 done0))
          · rw [rcvAll_stop (fun z => hc z.2)] at e0
            cases e0
            rfl
        have := t2 (by omega)
        rw [hd] at this
        omega
      · have := t3 hl1
        omega
theorem LwI.stop {r : Str} {L : List An} {last time busy : Int} {line line0 : List Pr} {done done0 f : Nat} {found : List Bg} (h : LwI r L last time line done busy found line0 done0 f) (hs : SLog L) (hx : ¬ (time ≤ last ∧ (done < L.length ∨ line ≠ []))) :
    played r L last last = (found, line) := by
  have hfu := h.fuel
  obtain ⟨f1, rfl⟩ : ∃ f1, f = f1 + 1 := ⟨f - 1, by omega⟩
  have key : playR r L last = (found, line0, done0) ∧ (rcvAll r L last line0 done0).1 = line := by
    by_cases hc : line0 = [] ∧ ¬ done0 < L.length
    · have e2 := h.eqs
      rw [rcvAll_stop (fun z => hc.2 z.1)] at e2
      refine ⟨?_, ?_⟩
      · rw [h.play]
        show (if _ then _ else _) = _
        rw [if_pos hc]
      · rw [rcvAll_stop (fun z => hc.2 z.1)]
        exact (Prod.mk.inj e2).1.symm
    · have hnow := h.nowle (by
        rcases Classical.em (line0 = []) with z | z
        · right
          exact Classical.byContradiction fun z2 => hc ⟨z, z2⟩
        · exact .inl z)
      have htl : ¬ time ≤ last := fun z => by
        refine hx ⟨z, ?_⟩
        -- something is left
        rcases Classical.em (done < L.length) with z1 | z1
        · exact .inl z1
        · right
          have rk := h.rk
          rcases Classical.em (line0 = []) with z2 | z2
          · intro z3
            have hlt : done0 < L.length := Classical.byContradiction fun z4 => hc ⟨z2, z4⟩
            have e2 := h.eqs
            by_cases hcc : timAt L done0 ≤ time - 1
            · rw [rcvAll_go hlt hcc] at e2
              have rk2 := rcvAll_rk (r := r) (now := time - 1) (rcv_fits (r := r) hlt h.fits0) (Nat.succ_le_of_lt hlt)
              rw [← e2] at rk2
              exact absurd z3 (rk2.ne (rcv_ne r L line0 done0))
            · rw [rcvAll_stop (fun z => hcc z.2)] at e2
              have := (Prod.mk.inj e2).2
              omega
          · exact rk.ne z2
      refine ⟨?_, ?_⟩
      · rw [h.play]
        show (if _ then _ else _) = _
        rw [if_neg hc, if_pos (by omega)]
      · rcases h.top with z | ⟨z1, z2, z3, z4⟩
        · have e : last = time - 1 := by omega
          rw [e, ← h.eqs]
        · subst z1 z2 z3
          have hlt : 0 < L.length := Classical.byContradiction fun z => hc ⟨rfl, z⟩
          rw [rcvAll_stop]
          rintro ⟨_, q⟩
          have := h.later hs (k := 0) (by omega) hlt
          omega
  unfold played
  rw [key.1]
  show (found, _) = _
  rw [key.2]
end DL
namespace DL
open PySem PySem.Spec PyProof.Rows L2
open Enc (enc)
local macro_rules | `(tactic| walk_at "dl") => `(tactic| first
  | (with_reducible_and_instances refine sw_seq ?_)
  | (with_reducible_and_instances refine sw_ret ?_)
  | (with_reducible_and_instances refine sw_retN ?_)
  | (with_reducible_and_instances refine sw_set ?_)
  | (with_reducible_and_instances refine sw_par ?_)
  | (with_reducible_and_instances refine sw_drop ?_)
  | (with_reducible_and_instances refine sw_next ?_)
  | (with_reducible_and_instances refine sw_break ?_)
  | (with_reducible_and_instances refine sw_if ?_)
  | (with_reducible_and_instances refine sw_asg ?_)
  | ((with_reducible_and_instances refine' ew_var ?hh ?kk); (case hh => rfl))
  | (with_reducible_and_instances refine ew_int ?_)
  | (with_reducible_and_instances refine ew_str ?_)
  | (with_reducible_and_instances refine ew_bl ?_)
  | (with_reducible_and_instances refine ew_non ?_)
  | (with_reducible_and_instances refine ew_raw (v := .ty _) ?_)
  | (with_reducible_and_instances refine ew_op ?_)
  | (with_reducible_and_instances refine ew_un ?_)
  | (with_reducible_and_instances refine ew_chain ?_)
  | (with_reducible_and_instances refine ew_andV ?_)
  | (with_reducible_and_instances refine ew_orV ?_)
  | (with_reducible_and_instances refine ew_notV ?_)
  | (with_reducible_and_instances refine ew_if ?_)
  | (with_reducible_and_instances refine ew_tup ?_)
  | (with_reducible_and_instances refine ew_cb ?_)
  | (with_reducible_and_instances refine ew_slA ?_)
  | (with_reducible_and_instances refine .inl ⟨_, rfl, ?_⟩)
  | (with_reducible_and_instances refine .inr ⟨_, .same _, ?_⟩)
  | (with_reducible_and_instances refine aw_cons ?_)
  | (with_reducible_and_instances refine aw_nil ?_)
  | (with_reducible_and_instances refine tw_test ?_)
  | (with_reducible_and_instances refine tw_B ?_)
  | (with_reducible_and_instances refine tw_and ?_)
  | (with_reducible_and_instances refine tw_or ?_)
  | (with_reducible_and_instances refine tw_not ?_)
  | (with_reducible_and_instances refine tw_yes ?_)
  | (with_reducible_and_instances refine pw_none ?_)
  | (with_reducible_and_instances refine pw_some ?_)
  | (with_reducible_and_instances refine rw_le ?_)
  | (with_reducible_and_instances refine rw_lt ?_)
  | (with_reducible_and_instances refine rw_gt ?_)
  | (with_reducible_and_instances refine rw_ge ?_)
  | (with_reducible_and_instances refine rw_sub ?_)
  | (with_reducible_and_instances refine uw_neg ?_)
  | (with_reducible_and_instances refine rwp_int ?_)
  | ((with_reducible_and_instances refine gw_name ?hj ?_); (case hj => first | exact trivial | decide))
  | (with_reducible_and_instances refine gsw_cons ?_)
  | (with_reducible_and_instances refine gsw_nil ?_)
  | (with_reducible_and_instances refine gw_tup rfl ?_)
  | (with_reducible_and_instances refine cw_max2 ?_)
  | (with_reducible_and_instances refine cw_min2 ?_)
  | (with_reducible_and_instances refine cw_lenT ?_)
  | (with_reducible_and_instances refine cw_lenR ?_)
  | (with_reducible_and_instances refine cw_lenL (.same _) ?_)
  | (with_reducible_and_instances refine cw_intB ?_)
  | (with_reducible_and_instances refine ⟨_, rfl, ?_⟩)
  | (with_reducible_and_instances refine ⟨_, _, rfl, ?_⟩)
  | (refine ⟨Nat.le_trans (by simp) (Nat.le_of_lt (small1000 (n := 1000) (by decide))), ?_⟩))
local macro_rules | `(tactic| walk_at "dx") => `(tactic| first
  | (with_reducible_and_instances refine sw_seq ?_)
  | (with_reducible_and_instances refine sw_ret ?_)
  | (with_reducible_and_instances refine sw_retN ?_)
  | (with_reducible_and_instances refine sw_set ?_)
  | (with_reducible_and_instances refine sw_par ?_)
  | (with_reducible_and_instances refine sw_drop ?_)
  | (with_reducible_and_instances refine sw_next ?_)
  | (with_reducible_and_instances refine sw_break ?_)
  | (with_reducible_and_instances refine sw_asg ?_)
  | ((with_reducible_and_instances refine' ew_var ?hh ?kk); (case hh => rfl))
  | (with_reducible_and_instances refine ew_int ?_)
  | (with_reducible_and_instances refine ew_str ?_)
  | (with_reducible_and_instances refine ew_bl ?_)
  | (with_reducible_and_instances refine ew_non ?_)
  | (with_reducible_and_instances refine ew_raw (v := .ty _) ?_)
  | (with_reducible_and_instances refine ew_op ?_)
  | (with_reducible_and_instances refine ew_un ?_)
  | (with_reducible_and_instances refine ew_chain ?_)
  | (with_reducible_and_instances refine ew_andV ?_)
  | (with_reducible_and_instances refine ew_orV ?_)
  | (with_reducible_and_instances refine ew_notV ?_)
  | (with_reducible_and_instances refine ew_if ?_)
  | (with_reducible_and_instances refine ew_tup ?_)
  | (with_reducible_and_instances refine ew_cb ?_)
  | (with_reducible_and_instances refine ew_slA ?_)
  | (with_reducible_and_instances refine .inl ⟨_, rfl, ?_⟩)
  | (with_reducible_and_instances refine .inr ⟨_, .same _, ?_⟩)
  | (with_reducible_and_instances refine aw_cons ?_)
  | (with_reducible_and_instances refine aw_nil ?_)
  | (with_reducible_and_instances refine tw_test ?_)
  | (with_reducible_and_instances refine tw_B ?_)
  | (with_reducible_and_instances refine tw_and ?_)
  | (with_reducible_and_instances refine tw_or ?_)
  | (with_reducible_and_instances refine tw_not ?_)
  | (with_reducible_and_instances refine tw_yes ?_)
  | (with_reducible_and_instances refine pw_none ?_)
  | (with_reducible_and_instances refine pw_some ?_)
  | (with_reducible_and_instances refine rw_le ?_)
  | (with_reducible_and_instances refine rw_lt ?_)
  | (with_reducible_and_instances refine rw_gt ?_)
  | (with_reducible_and_instances refine rw_ge ?_)
  | (with_reducible_and_instances refine rw_sub ?_)
  | (with_reducible_and_instances refine uw_neg ?_)
  | (with_reducible_and_instances refine rwp_int ?_)
  | ((with_reducible_and_instances refine gw_name ?hj ?_); (case hj => first | exact trivial | decide))
  | (with_reducible_and_instances refine gsw_cons ?_)
  | (with_reducible_and_instances refine gsw_nil ?_)
  | (with_reducible_and_instances refine gw_tup rfl ?_)
  | (with_reducible_and_instances refine cw_max2 ?_)
  | (with_reducible_and_instances refine cw_min2 ?_)
  | (with_reducible_and_instances refine cw_lenT ?_)
  | (with_reducible_and_instances refine cw_lenR ?_)
  | (with_reducible_and_instances refine cw_lenL (.same _) ?_)
  | (with_reducible_and_instances refine cw_intB ?_)
  | (with_reducible_and_instances refine ⟨_, rfl, ?_⟩)
  | (with_reducible_and_instances refine ⟨_, _, rfl, ?_⟩)
  | (refine ⟨Nat.le_trans (by simp) (Nat.le_of_lt (small1000 (n := 1000) (by decide))), ?_⟩))
local macro_rules | `(tactic| walk_at "dn") => `(tactic| first
  | (with_reducible_and_instances refine sw_ret ?_)
  | (with_reducible_and_instances refine sw_retN ?_)
  | (with_reducible_and_instances refine sw_set ?_)
  | (with_reducible_and_instances refine sw_par ?_)
  | (with_reducible_and_instances refine sw_drop ?_)
  | (with_reducible_and_instances refine sw_next ?_)
  | (with_reducible_and_instances refine sw_break ?_)
  | (with_reducible_and_instances refine sw_asg ?_)
  | ((with_reducible_and_instances refine' ew_var ?hh ?kk); (case hh => rfl))
  | (with_reducible_and_instances refine ew_int ?_)
  | (with_reducible_and_instances refine ew_str ?_)
  | (with_reducible_and_instances refine ew_bl ?_)
  | (with_reducible_and_instances refine ew_non ?_)
  | (with_reducible_and_instances refine ew_raw (v := .ty _) ?_)
  | (with_reducible_and_instances refine ew_op ?_)
  | (with_reducible_and_instances refine ew_un ?_)
  | (with_reducible_and_instances refine ew_chain ?_)
  | (with_reducible_and_instances refine ew_andV ?_)
  | (with_reducible_and_instances refine ew_orV ?_)
  | (with_reducible_and_instances refine ew_notV ?_)
  | (with_reducible_and_instances refine ew_if ?_)
  | (with_reducible_and_instances refine ew_tup ?_)
  | (with_reducible_and_instances refine ew_cb ?_)
  | (with_reducible_and_instances refine ew_slA ?_)
  | (with_reducible_and_instances refine .inl ⟨_, rfl, ?_⟩)
  | (with_reducible_and_instances refine .inr ⟨_, .same _, ?_⟩)
  | (with_reducible_and_instances refine aw_cons ?_)
  | (with_reducible_and_instances refine aw_nil ?_)
  | (with_reducible_and_instances refine tw_test ?_)
  | (with_reducible_and_instances refine tw_B ?_)
  | (with_reducible_and_instances refine tw_and ?_)
  | (with_reducible_and_instances refine tw_or ?_)
  | (with_reducible_and_instances refine tw_not ?_)
  | (with_reducible_and_instances refine tw_yes ?_)
  | (with_reducible_and_instances refine pw_none ?_)
  | (with_reducible_and_instances refine pw_some ?_)
  | (with_reducible_and_instances refine rw_le ?_)
  | (with_reducible_and_instances refine rw_lt ?_)
  | (with_reducible_and_instances refine rw_gt ?_)
  | (with_reducible_and_instances refine rw_ge ?_)
  | (with_reducible_and_instances refine rw_sub ?_)
  | (with_reducible_and_instances refine uw_neg ?_)
  | (with_reducible_and_instances refine rwp_int ?_)
  | ((with_reducible_and_instances refine gw_name ?hj ?_); (case hj => first | exact trivial | decide))
  | (with_reducible_and_instances refine gsw_cons ?_)
  | (with_reducible_and_instances refine gsw_nil ?_)
  | (with_reducible_and_instances refine gw_tup rfl ?_)
  | (with_reducible_and_instances refine cw_max2 ?_)
  | (with_reducible_and_instances refine cw_min2 ?_)
  | (with_reducible_and_instances refine cw_lenT ?_)
  | (with_reducible_and_instances refine cw_lenR ?_)
  | (with_reducible_and_instances refine cw_lenL (.same _) ?_)
  | (with_reducible_and_instances refine cw_intB ?_)
  | (with_reducible_and_instances refine ⟨_, rfl, ?_⟩)
  | (with_reducible_and_instances refine ⟨_, _, rfl, ?_⟩)
  | (refine ⟨Nat.le_trans (by simp) (Nat.le_of_lt (small1000 (n := 1000) (by decide))), ?_⟩))
abbrev Row5 := T5 Int Str Int Nat Nat
def row5 (L : List An) (g : Bg) : Row5 := ⟨g.a, topAt L g.c, lnAt L g.c, g.c, g.b⟩
def S__law_played : SpT := fun ds Oc Post => ∃ (L : List An) (r : Str) (last : Int), ds = [encU L, .str r, .int last] ∧ SLog L ∧ Post (.tup [.lst (((played r L last last).1.map (row5 L)).map enc), .lst ((played r L last last).2.map enc)]) Oc
def gLw (L : List An) (r : Str) (last : Int) (pl : Addr) (done : Nat) (pf : Addr) (busy time : Int) (x8 x9 x10 : Option Dt) : Gm :=
  [some (encU L), some (.str r), some (.int last), some (.raw (.ref pl)), some (.int (done : Int)), some (.raw (.ref pf)), some (.int busy), some (.int time), x8, x9, x10, none]
abbrev oLw (L : List An) (pf pl : Addr) (found : List Bg) (line : List Pr) (Oc : Own) : Own := (pf, .lst ((found.map (row5 L)).map enc)) :: (pl, .lst (line.map enc)) :: Oc
theorem cut_one {xs : List Dt} {d : Nat} (h : d ≤ xs.length) : cutD xs (some (d : Int)) (some ((d : Int) + 1)) = (xs.drop d).take 1 := by
  unfold cutD
  rw [HT.sIx_nat]
  have e : ((d : Int) + 1) = ((d + 1 : Nat) : Int) := by omega
  rw [e, HT.sIx_nat, Nat.min_eq_left h]
  by_cases hd : d < xs.length
  · rw [Nat.min_eq_left (by omega : d + 1 ≤ xs.length), Nat.add_sub_cancel_left]
  · have : d = xs.length := by omega
    subst this
    simp
section
variable {P : Program} {w : World} {K : PySem.W.Frag} {mg : Str → Option Value} {base : Heap} {A : Ad}
theorem inner_law {K : PySem.W.Frag} {L : List An} {r : Str} {last : Int} {pf : Addr} {busy time : Int} {x8 x9 x10 : Option Dt} {found : List Bg} {Oc : Own} {E : De} (hs : SLog L) (pl : Addr) (line : List Pr) (done : Nat) (hf : Fits L line) (hd : done ≤ L.length) (hld : line.length ≤ done)
    (hdi : Dist r L line) (hlater : ∀ k, done ≤ k → k < L.length → time ≤ timAt L k)
    (h : ∀ pl', E.nx (gLw L r last pl' (rcvAll r L time line done).2 pf busy time x8 x9 x10) (oLw L pf pl' found (rcvAll r L time line done).1 Oc)) :
    SW K (tWhile (tAnd (tTest (tOp (rI0 fun i j => V.bl (decide (i < j))) (tVar 4) (tCB (rLen K) (tCons (tVar 0) tNil)))) (tTest (tOp (rEqG K) (tOp (rIx K) (tOp (rIx K) (tVar 0) (tVar 4)) (tC (V.int 0))) (tVar 7))))
      (tPar 3 4 (tCons (tCall (SpD K S__law_received) [] E0 (tCons (tVar 3) (tCons (tVar 0) (tCons (tVar 4) (tCons (tVar 1) tNil))))) (tCons (tOp (rPlus K) (tVar 4) (tC (V.int 1))) tNil)))) (gLw L r last pl done pf busy time x8 x9 x10) (oLw L pf pl found line Oc) E := by
  refine sw_while (fun m Γ O' => ∃ pl1 line1 done1, Γ = gLw L r last pl1 done1 pf busy time x8 x9 x10 ∧ O'.Perm (oLw L pf pl1 found line1 Oc) ∧ Fits L line1 ∧ done1 ≤ L.length ∧ line1.length ≤ done1 ∧ Dist r L line1 ∧ done ≤ done1 ∧ m = L.length - done1 ∧ rcvAll r L time line done = rcvAll r L time line1 done1) (L.length - done) ⟨pl, line, done, rfl, .refl _, hf, hd, hld, hdi, Nat.le_refl _, rfl, rfl⟩ ?_
  rintro m Γ O' ⟨pl1, line1, done1, rfl, hO, hf1, hd1, hld1, hdi1, hge, rfl, hR⟩
  refine tw_perm hO ?_
  repeat walk_at "dl"
  rw [List.length_map]
  by_cases hlt : done1 < L.length
  · refine if_t (decide_eq_true (by omega)) ?_
    repeat walk_at "dl"
    refine rw_ixT_ (atI_map hlt) ?_
    repeat walk_at "dl"
    refine rw_ixT_ atI_0 ?_
    repeat walk_at "dl"
    refine rw_eqE (L[done1].a) time (.same _) (.same _) ?_
    repeat walk_at "dl"
    have h1 := hlater done1 hge hlt
    rw [timAt_get hlt] at h1
    by_cases hle : L[done1].a = time
    · refine if_t (decide_eq_true hle) ?_
      repeat walk_at "dl"
      refine ew_call ?_
      repeat walk_at "dl"
      have hL := hs.len
      refine ⟨[(pl1, .lst (line1.map enc))], (pf, .lst ((found.map (row5 L)).map enc)) :: Oc, .swap _ _ _, pl1, line1, L, done1, r, rfl, rfl, hlt, hf1, by omega, hdi1, fun q => ?_⟩
      repeat walk_at "dl"
      have st := Rk.step (r := r) hf1 hlt
      have hlen := rcv_len r L line1 done1
      refine ⟨L.length - (done1 + 1), by omega, q, rcv r L line1 done1, done1 + 1, rfl, .swap _ _ _, st.fits, hlt, by omega, hdi1.rcv _, by omega, rfl, ?_⟩
      · rw [hR, rcvAll_go hlt (by rw [timAt_get hlt, hle]; exact Int.le_refl _)]
    · refine if_f (decide_eq_false hle) ?_
      have h := h pl1
      rw [hR, rcvAll_stop (fun z => hle (by have := z.2; rw [timAt_get hlt] at this; omega))] at h
      exact h
  · refine if_f (decide_eq_false (by omega)) ?_
    have h := h pl1
    rw [hR, rcvAll_stop (fun z => hlt z.1)] at h
    exact if_f rfl h
def S__law_spoken : SpT := fun ds Oc Post => ∃ (L : List An) (r : Str), ds = [encU L, .str r] ∧ SLog L ∧ Post (encL ((played r L 100000 100000).1.map (row5 L))) Oc
end
end DL
namespace DL
open PySem PySem.Spec PyProof.Rows L2
open Enc (enc)
local macro_rules | `(tactic| walk_at "dl") => `(tactic| first
  | (with_reducible_and_instances refine sw_seq ?_)
  | (with_reducible_and_instances refine sw_ret ?_)
  | (with_reducible_and_instances refine sw_retN ?_)
  | (with_reducible_and_instances refine sw_set ?_)
  | (with_reducible_and_instances refine sw_par ?_)
  | (with_reducible_and_instances refine sw_drop ?_)
  | (with_reducible_and_instances refine sw_next ?_)
  | (with_reducible_and_instances refine sw_break ?_)
  | (with_reducible_and_instances refine sw_if ?_)
  | (with_reducible_and_instances refine sw_asg ?_)
  | ((with_reducible_and_instances refine' ew_var ?hh ?kk); (case hh => rfl))
  | (with_reducible_and_instances refine ew_int ?_)
  | (with_reducible_and_instances refine ew_str ?_)
  | (with_reducible_and_instances refine ew_bl ?_)
  | (with_reducible_and_instances refine ew_non ?_)
  | (with_reducible_and_instances refine ew_raw (v := .ty _) ?_)
  | (with_reducible_and_instances refine ew_op ?_)
  | (with_reducible_and_instances refine ew_un ?_)
  | (with_reducible_and_instances refine ew_chain ?_)
  | (with_reducible_and_instances refine ew_andV ?_)
  | (with_reducible_and_instances refine ew_orV ?_)
  | (with_reducible_and_instances refine ew_notV ?_)
  | (with_reducible_and_instances refine ew_if ?_)
  | (with_reducible_and_instances refine ew_tup ?_)
  | (with_reducible_and_instances refine ew_cb ?_)
  | (with_reducible_and_instances refine ew_slA ?_)
  | (with_reducible_and_instances refine .inl ⟨_, rfl, ?_⟩)
  | (with_reducible_and_instances refine .inr ⟨_, .same _, ?_⟩)
  | (with_reducible_and_instances refine aw_cons ?_)
  | (with_reducible_and_instances refine aw_nil ?_)
  | (with_reducible_and_instances refine tw_test ?_)
  | (with_reducible_and_instances refine tw_B ?_)
  | (with_reducible_and_instances refine tw_and ?_)
  | (with_reducible_and_instances refine tw_or ?_)
  | (with_reducible_and_instances refine tw_not ?_)
  | (with_reducible_and_instances refine tw_yes ?_)
  | (with_reducible_and_instances refine pw_none ?_)
  | (with_reducible_and_instances refine pw_some ?_)
  | (with_reducible_and_instances refine rw_le ?_)
  | (with_reducible_and_instances refine rw_lt ?_)
  | (with_reducible_and_instances refine rw_gt ?_)
  | (with_reducible_and_instances refine rw_ge ?_)
  | (with_reducible_and_instances refine rw_sub ?_)
  | (with_reducible_and_instances refine uw_neg ?_)
  | (with_reducible_and_instances refine rwp_int ?_)
  | ((with_reducible_and_instances refine gw_name ?hj ?_); (case hj => first | exact trivial | decide))
  | (with_reducible_and_instances refine gsw_cons ?_)
  | (with_reducible_and_instances refine gsw_nil ?_)
  | (with_reducible_and_instances refine gw_tup rfl ?_)
  | (with_reducible_and_instances refine cw_max2 ?_)
  | (with_reducible_and_instances refine cw_min2 ?_)
  | (with_reducible_and_instances refine cw_lenT ?_)
  | (with_reducible_and_instances refine cw_lenR ?_)
  | (with_reducible_and_instances refine cw_lenL (.same _) ?_)
  | (with_reducible_and_instances refine cw_intB ?_)
  | (with_reducible_and_instances refine ⟨_, rfl, ?_⟩)
  | (with_reducible_and_instances refine ⟨_, _, rfl, ?_⟩)
  | (refine ⟨Nat.le_trans (by simp) (Nat.le_of_lt (small1000 (n := 1000) (by decide))), ?_⟩))
local macro_rules | `(tactic| walk_at "dx") => `(tactic| first
  | (with_reducible_and_instances refine sw_seq ?_)
  | (with_reducible_and_instances refine sw_ret ?_)
  | (with_reducible_and_instances refine sw_retN ?_)
  | (with_reducible_and_instances refine sw_set ?_)
  | (with_reducible_and_instances refine sw_par ?_)
  | (with_reducible_and_instances refine sw_drop ?_)
  | (with_reducible_and_instances refine sw_next ?_)
  | (with_reducible_and_instances refine sw_break ?_)
  | (with_reducible_and_instances refine sw_asg ?_)
  | ((with_reducible_and_instances refine' ew_var ?hh ?kk); (case hh => rfl))
  | (with_reducible_and_instances refine ew_int ?_)
  | (with_reducible_and_instances refine ew_str ?_)
  | (with_reducible_and_instances refine ew_bl ?_)
  | (with_reducible_and_instances refine ew_non ?_)
  | (with_reducible_and_instances refine ew_raw (v := .ty _) ?_)
  | (with_reducible_and_instances refine ew_op ?_)
  | (with_reducible_and_instances refine ew_un ?_)
  | (with_reducible_and_instances refine ew_chain ?_)
  | (with_reducible_and_instances refine ew_andV ?_)
  | (with_reducible_and_instances refine ew_orV ?_)
  | (with_reducible_and_instances refine ew_notV ?_)
  | (with_reducible_and_instances refine ew_if ?_)
  | (with_reducible_and_instances refine ew_tup ?_)
  | (with_reducible_and_instances refine ew_cb ?_)
  | (with_reducible_and_instances refine ew_slA ?_)
  | (with_reducible_and_instances refine .inl ⟨_, rfl, ?_⟩)
  | (with_reducible_and_instances refine .inr ⟨_, .same _, ?_⟩)
  | (with_reducible_and_instances refine aw_cons ?_)
  | (with_reducible_and_instances refine aw_nil ?_)
  | (with_reducible_and_instances refine tw_test ?_)
  | (with_reducible_and_instances refine tw_B ?_)
  | (with_reducible_and_instances refine tw_and ?_)
  | (with_reducible_and_instances refine tw_or ?_)
  | (with_reducible_and_instances refine tw_not ?_)
  | (with_reducible_and_instances refine tw_yes ?_)
  | (with_reducible_and_instances refine pw_none ?_)
  | (with_reducible_and_instances refine pw_some ?_)
  | (with_reducible_and_instances refine rw_le ?_)
  | (with_reducible_and_instances refine rw_lt ?_)
  | (with_reducible_and_instances refine rw_gt ?_)
  | (with_reducible_and_instances refine rw_ge ?_)
  | (with_reducible_and_instances refine rw_sub ?_)
  | (with_reducible_and_instances refine uw_neg ?_)
  | (with_reducible_and_instances refine rwp_int ?_)
  | ((with_reducible_and_instances refine gw_name ?hj ?_); (case hj => first | exact trivial | decide))
  | (with_reducible_and_instances refine gsw_cons ?_)
  | (with_reducible_and_instances refine gsw_nil ?_)
  | (with_reducible_and_instances refine gw_tup rfl ?_)
  | (with_reducible_and_instances refine cw_max2 ?_)
  | (with_reducible_and_instances refine cw_min2 ?_)
  | (with_reducible_and_instances refine cw_lenT ?_)
  | (with_reducible_and_instances refine cw_lenR ?_)
  | (with_reducible_and_instances refine cw_lenL (.same _) ?_)
  | (with_reducible_and_instances refine cw_intB ?_)
  | (with_reducible_and_instances refine ⟨_, rfl, ?_⟩)
  | (with_reducible_and_instances refine ⟨_, _, rfl, ?_⟩)
  | (refine ⟨Nat.le_trans (by simp) (Nat.le_of_lt (small1000 (n := 1000) (by decide))), ?_⟩))
local macro_rules | `(tactic| walk_at "dn") => `(tactic| first
  | (with_reducible_and_instances refine sw_ret ?_)
  | (with_reducible_and_instances refine sw_retN ?_)
  | (with_reducible_and_instances refine sw_set ?_)
  | (with_reducible_and_instances refine sw_par ?_)
  | (with_reducible_and_instances refine sw_drop ?_)
  | (with_reducible_and_instances refine sw_next ?_)
  | (with_reducible_and_instances refine sw_break ?_)
  | (with_reducible_and_instances refine sw_asg ?_)
  | ((with_reducible_and_instances refine' ew_var ?hh ?kk); (case hh => rfl))
  | (with_reducible_and_instances refine ew_int ?_)
  | (with_reducible_and_instances refine ew_str ?_)
  | (with_reducible_and_instances refine ew_bl ?_)
  | (with_reducible_and_instances refine ew_non ?_)
  | (with_reducible_and_instances refine ew_raw (v := .ty _) ?_)
  | (with_reducible_and_instances refine ew_op ?_)
  | (with_reducible_and_instances refine ew_un ?_)
  | (with_reducible_and_instances refine ew_chain ?_)
  | (with_reducible_and_instances refine ew_andV ?_)
  | (with_reducible_and_instances refine ew_orV ?_)
  | (with_reducible_and_instances refine ew_notV ?_)
  | (with_reducible_and_instances refine ew_if ?_)
  | (with_reducible_and_instances refine ew_tup ?_)
  | (with_reducible_and_instances refine ew_cb ?_)
  | (with_reducible_and_instances refine ew_slA ?_)
  | (with_reducible_and_instances refine .inl ⟨_, rfl, ?_⟩)
  | (with_reducible_and_instances refine .inr ⟨_, .same _, ?_⟩)
  | (with_reducible_and_instances refine aw_cons ?_)
  | (with_reducible_and_instances refine aw_nil ?_)
  | (with_reducible_and_instances refine tw_test ?_)
  | (with_reducible_and_instances refine tw_B ?_)
  | (with_reducible_and_instances refine tw_and ?_)
  | (with_reducible_and_instances refine tw_or ?_)
  | (with_reducible_and_instances refine tw_not ?_)
  | (with_reducible_and_instances refine tw_yes ?_)
  | (with_reducible_and_instances refine pw_none ?_)
  | (with_reducible_and_instances refine pw_some ?_)
  | (with_reducible_and_instances refine rw_le ?_)
  | (with_reducible_and_instances refine rw_lt ?_)
  | (with_reducible_and_instances refine rw_gt ?_)
  | (with_reducible_and_instances refine rw_ge ?_)
  | (with_reducible_and_instances refine rw_sub ?_)
  | (with_reducible_and_instances refine uw_neg ?_)
  | (with_reducible_and_instances refine rwp_int ?_)
  | ((with_reducible_and_instances refine gw_name ?hj ?_); (case hj => first | exact trivial | decide))
  | (with_reducible_and_instances refine gsw_cons ?_)
  | (with_reducible_and_instances refine gsw_nil ?_)
  | (with_reducible_and_instances refine gw_tup rfl ?_)
  | (with_reducible_and_instances refine cw_max2 ?_)
  | (with_reducible_and_instances refine cw_min2 ?_)
  | (with_reducible_and_instances refine cw_lenT ?_)
  | (with_reducible_and_instances refine cw_lenR ?_)
  | (with_reducible_and_instances refine cw_lenL (.same _) ?_)
  | (with_reducible_and_instances refine cw_intB ?_)
  | (with_reducible_and_instances refine ⟨_, rfl, ?_⟩)
  | (with_reducible_and_instances refine ⟨_, _, rfl, ?_⟩)
  | (refine ⟨Nat.le_trans (by simp) (Nat.le_of_lt (small1000 (n := 1000) (by decide))), ?_⟩))
/-! ### the bounds do not matter -/
theorem playF_lb {r : Str} {L : List An} {lb lb' : Int} (h1 : 60000 ≤ lb) (h2 : 60000 ≤ lb') (ht : ∀ k, k < L.length → timAt L k ≤ 10000) (hl : ∀ k, k < L.length → lnAt L k ≤ 99) : ∀ (f : Nat) (line : List Pr) (done : Nat) (found : List Bg) (free : Int) (c : Nat), Fits L line → done ≤ L.length → free ≤ 10000 + 99 * (c : Int) → c + muP L line done ≤ 500 →
    playF r L lb f line done found free = playF r L lb' f line done found free
  | 0, _, _, _, _, _, _, _, _, _ => rfl
  | f + 1, line, done, found, free, c, hf, hd, hc, hm => by
    show (if _ then _ else _) = (if _ then _ else _)
    by_cases hz : line = [] ∧ ¬ done < L.length
    · rw [if_pos hz, if_pos hz]
    · rw [if_neg hz, if_neg hz]
      have hmu0 : 1 ≤ muP L line done := by
        unfold muP
        rcases Classical.em (line = []) with z | z
        · have : done < L.length := Classical.byContradiction fun q => hz ⟨z, q⟩
          omega
        · have : 0 < line.length := List.length_pos_iff.mpr z
          omega
      have hn : nowOf L line done free ≤ 10000 + 99 * (c : Int) := by
        unfold nowOf
        split
        · exact hc
        · rename_i z
          have z' : line = [] := Classical.byContradiction z
          have : done < L.length := Classical.byContradiction fun q => hz ⟨z', q⟩
          have := ht done this
          omega
      rw [if_neg (by omega), if_neg (by omega)]
      obtain ⟨p, ps, d, e, rk⟩ := rcvAll_cons (r := r) (free := free) hz hf hd
      rw [e]
      have hmu := rk.mu
      rw [List.length_cons] at hmu
      have hp := rk.fits p List.mem_cons_self
      have := hl p.b hp.2
      unfold muP at hm hmu0
      exact playF_lb h1 h2 ht hl f ps d _ _ (c + 1) (fun q hq => rk.fits q (List.mem_cons_of_mem _ hq)) rk.top (by omega) (by unfold muP; omega)
theorem spoken_lb {r : Str} {L : List An} (h : VLog L) {lb lt lt' : Int} (h1 : 60000 ≤ lb) : (played r L lb lt).1 = spoken r L := by
  have e := playF_lb (r := r) (L := L) (lb := lb) (lb' := 1000000) h1 (by decide) (fun k hk => by rw [timAt_get hk]; exact (h.ann _ (List.getElem_mem hk)).2.1) (fun k hk => by rw [lnAt_get hk]; exact (h.ann _ (List.getElem_mem hk)).2.2.2.2)
    (L.length + 1) [] 0 [] 0 0 (fun _ z => by cases z) (Nat.zero_le _) (by decide) (by have := h.len; unfold muP; simp; omega)
  show (playF r L lb (L.length + 1) [] 0 [] 0).1 = (playF r L 1000000 (L.length + 1) [] 0 [] 0).1
  rw [e]
theorem cut_to {xs : List Dt} (k : Nat) : cutD xs none (some (k : Int)) = xs.take k := by
  unfold cutD
  rw [HT.sIx_none, HT.sIx_nat, Nat.sub_zero, List.drop_zero]
  rcases Nat.le_total k xs.length with h | h
  · rw [Nat.min_eq_left h]
  · rw [Nat.min_eq_right h, List.take_length, List.take_of_length_le h]
theorem cut_last {xs : List Dt} {x : Dt} : cutD (xs ++ [x]) none (some (-1)) = xs := by
  unfold cutD
  rw [HT.sIx_none, Nat.sub_zero, List.drop_zero]
  have e : HT.sIx (xs ++ [x]).length (xs ++ [x]).length (some (-1)) = xs.length := by
    have h1 := HT.clip_eq (-1) (xs ++ [x]).length (xs ++ [x]).length
    rw [if_pos (by decide), List.length_append, List.length_singleton] at h1
    rw [List.length_append, List.length_singleton]
    omega
  rw [e, List.take_left]
def S_law : SpT := fun ds Oc Post => ∃ ns : List Int, ds = [.ro (ns.map .int)] ∧ Oc = [] ∧ ns.length ≤ 63 ∧ ∀ O, Post (.bl true) O
theorem den_intL {K : PySem.W.Frag} {B : Hp} : ∀ ns : List Int, DenL K B (ns.map Dt.int) (ns.map V.int)
  | [] => .nil
  | n :: ns => .cons (.int n) (den_intL ns)
theorem law_end {K : PySem.W.Frag} {H : Hp} {a : Addr} {ns : List Int} {E : XK} (hl : ns.length ≤ 63) (hS : SqL K H a (ns.map V.int)) : SpD K S_law [.ref a] H (fun v _ => v = .bl true) E := by
  refine ⟨H, [.ro (ns.map .int)], [], fun d _ => d = .bl true, Same.refl _, .cons (.ro hS (den_intL ns)) .nil, (fun p c h => by cases h), .nil, ⟨ns, rfl, rfl, hl, fun _ => rfl⟩, fun d v Oc' H' B' hd C => ?_⟩
  subst hd
  have := C.den
  cases this
  rfl
end DL
namespace DL
open PySem PySem.Spec PyProof.Rows L2
/-! ### what is spoken, begin by begin -/
inductive Run (r : Str) (L : List An) : List Pr → Nat → Int → List Bg → Prop
  | stop {free : Int} {done : Nat} : ¬ done < L.length → Run r L [] done free []
  | step {line : List Pr} {done : Nat} {free : Int} {p : Pr} {ps : List Pr} {d : Nat} {gs : List Bg} : ¬ (line = [] ∧ ¬ done < L.length) → rcvAll r L (nowOf L line done free) line done = (p :: ps, d) →
      Run r L ps d (nowOf L line done free + lnAt L p.b) gs → Run r L line done free (⟨nowOf L line done free, p.a, p.b⟩ :: gs)
theorem run_play {r : Str} {L : List An} {lb : Int} (h1 : 60000 ≤ lb) (ht : ∀ k, k < L.length → timAt L k ≤ 10000) (hl : ∀ k, k < L.length → lnAt L k ≤ 99) : ∀ (f : Nat) (line : List Pr) (done : Nat) (found : List Bg) (free : Int) (c : Nat), Fits L line → done ≤ L.length → free ≤ 10000 + 99 * (c : Int) → c + muP L line done ≤ 500 → muP L line done < f →
    ∃ gs, (playF r L lb f line done found free).1 = found ++ gs ∧ Run r L line done free gs
  | 0, _, _, _, _, _, _, _, _, _, h => absurd h (Nat.not_lt_zero _)
  | f + 1, line, done, found, free, c, hf, hd, hc, hm, hfu => by
    by_cases hz : line = [] ∧ ¬ done < L.length
    · refine ⟨[], ?_, ?_⟩
      · show (if _ then _ else _ : PlR).1 = _
        rw [if_pos hz, List.append_nil]
      · obtain ⟨rfl, z⟩ := hz
        exact .stop z
    · have hmu0 : 1 ≤ muP L line done := by
        unfold muP
        rcases Classical.em (line = []) with z | z
        · have : done < L.length := Classical.byContradiction fun q => hz ⟨z, q⟩
          omega
        · have : 0 < line.length := List.length_pos_iff.mpr z
          omega
      have hn : nowOf L line done free ≤ 10000 + 99 * (c : Int) := by
        unfold nowOf
        split
        · exact hc
        · rename_i z
          have z' : line = [] := Classical.byContradiction z
          have : done < L.length := Classical.byContradiction fun q => hz ⟨z', q⟩
          have := ht done this
          omega
      obtain ⟨p, ps, d, e, rk⟩ := rcvAll_cons (r := r) (free := free) hz hf hd
      have hmu := rk.mu
      rw [List.length_cons] at hmu
      have hp := rk.fits p List.mem_cons_self
      have := hl p.b hp.2
      unfold muP at hm hmu0 hfu
      obtain ⟨gs, g1, g2⟩ := run_play h1 ht hl f ps d (found ++ [⟨nowOf L line done free, p.a, p.b⟩]) (nowOf L line done free + lnAt L p.b) (c + 1) (fun q hq => rk.fits q (List.mem_cons_of_mem _ hq)) rk.top (by omega) (by unfold muP; omega) (by unfold muP; omega)
      refine ⟨_ :: gs, ?_, .step hz e g2⟩
      show (if _ then _ else _ : PlR).1 = _
      rw [if_neg hz, if_neg (by omega), e]
      show (playF _ _ _ _ _ _ _ _).1 = _
      rw [g1, List.append_assoc]
      rfl
theorem run_spoken {r : Str} {L : List An} (h : VLog L) : Run r L [] 0 0 (spoken r L) := by
  obtain ⟨gs, g1, g2⟩ := run_play (r := r) (L := L) (lb := 1000000) (by decide) (fun k hk => by rw [timAt_get hk]; exact (h.ann _ (List.getElem_mem hk)).2.1) (fun k hk => by rw [lnAt_get hk]; exact (h.ann _ (List.getElem_mem hk)).2.2.2.2)
    (L.length + 1) [] 0 [] 0 0 (fun _ z => by cases z) (Nat.zero_le _) (by decide) (by have := h.len; unfold muP; simp; omega) (by unfold muP; simp)
  have e : spoken r L = gs := by
    unfold spoken played playR
    rw [g1]; rfl
  rw [e]; exact g2
/-- one run alone -/
theorem Run.uniq {r : Str} {L : List An} {line : List Pr} {done : Nat} {free : Int} {gs gs' : List Bg} (h : Run r L line done free gs) (h' : Run r L line done free gs') : gs = gs' := by
  induction h generalizing gs' with
  | stop z =>
    cases h' with
    | stop _ => rfl
    | step hz _ _ => exact absurd ⟨rfl, z⟩ hz
  | step hz e _ ih =>
    cases h' with
    | stop z => exact absurd ⟨rfl, z⟩ hz
    | step hz' e' k =>
      have q := e.symm.trans e'
      cases q
      rw [ih k]
/-! ### by the rule none -/
theorem rcv_none (L : List An) (line : List Pr) (k : Nat) : rcv "none" L line k = line ++ [⟨k, k⟩] := by
  unfold rcv
  split
  · rfl
  · rw [if_pos rfl]
theorem rcvTo_none {L : List An} {now : Int} : ∀ (f : Nat) (line : List Pr) (done : Nat), L.length - done ≤ f → done ≤ L.length →
    ∃ d, done ≤ d ∧ d ≤ L.length ∧ rcvTo "none" L now f line done = (line ++ (List.range' done (d - done)).map (fun k => (⟨k, k⟩ : Pr)), d) ∧ (∀ k, done ≤ k → k < d → timAt L k ≤ now) ∧ (d < L.length → now < timAt L d)
  | 0, line, done, h, hd => ⟨done, Nat.le_refl _, hd, by simp [rcvTo], (fun k h1 h2 => by omega), fun z => by omega⟩
  | f + 1, line, done, h, hd => by
    by_cases hc : done < L.length ∧ timAt L done ≤ now
    · obtain ⟨d, h1, h2, h3, h4, h5⟩ := rcvTo_none (L := L) (now := now) f (line ++ [⟨done, done⟩]) (done + 1) (by omega) hc.1
      refine ⟨d, by omega, h2, ?_, (fun k k1 k2 => ?_), h5⟩
      · show (if _ then _ else _) = _
        rw [if_pos hc, rcv_none, h3, show d - done = (d - (done + 1)) + 1 by omega, List.range'_succ, List.map_cons, List.append_assoc]
        rfl
      · rcases Nat.eq_or_lt_of_le k1 with e | e
        · subst e; exact hc.2
        · exact h4 k e k2
    · refine ⟨done, Nat.le_refl _, hd, ?_, (fun k h1 h2 => by omega), fun z => Int.not_le.mp fun q => hc ⟨z, q⟩⟩
      show (if _ then _ else _) = _
      rw [if_neg hc]
      simp
theorem run_none {L : List An} {line : List Pr} {done : Nat} {free : Int} {gs : List Bg} (h : Run "none" L line done free gs) (hd : done ≤ L.length) : gs.map (fun g => g.c) = line.map (fun p => p.b) ++ List.range' done (L.length - done) := by
  generalize hr : ("none" : Str) = r at h
  induction h with
  | stop z => rw [show L.length - _ = 0 by omega]; rfl
  | @step line done free p ps d gs hz e _ ih =>
    subst hr
    obtain ⟨d', h1, h2, h3, _, _⟩ := rcvTo_none (L := L) (now := nowOf L line done free) (L.length - done) line done (Nat.le_refl _) hd
    unfold rcvAll at e
    have q := e.symm.trans h3
    injection q with q1 q2
    subst q2
    rw [List.map_cons, ih h2]
    have e2 := congrArg (List.map fun p : Pr => p.b) q1
    rw [List.map_cons, List.map_append, List.map_map] at e2
    have e3 : ((List.range' done (d - done)).map ((fun p : Pr => p.b) ∘ fun k => ⟨k, k⟩)) = List.range' done (d - done) := by
      conv => rhs; rw [← List.map_id (List.range' done (d - done))]
      rfl
    rw [e3] at e2
    rw [← List.cons_append, e2, List.append_assoc]
    congr 1
    have : L.length - done = (d - done) + (L.length - d) := by omega
    rw [this, ← List.range'_append_1]
    congr 1
    rw [show done + (d - done) = d by omega]
theorem none_all {L : List An} (h : VLog L) : (spoken "none" L).map (fun g => g.c) = List.range L.length := by
  rw [run_none (run_spoken h) (Nat.zero_le _), List.range_eq_range']
  rfl
theorem heard_rowsN {r : Str} {L : List An} : (speechOf r L).map (fun g => g.d) = (spoken r L).map fun g => g.c := by
  unfold speechOf
  rw [List.map_map]
  rfl
theorem none_len {L : List An} (h : VLog L) : (spoken "none" L).length = L.length := by
  have := congrArg List.length (none_all h)
  rwa [List.length_map, List.length_range] at this
end DL
namespace DL
open PySem PySem.Spec PyProof.Rows L2
open Enc (enc)
/-! ### what is spoken is heard -/
theorem nowOf_free (L : List An) (line : List Pr) (done : Nat) (free : Int) : free ≤ nowOf L line done free := by
  unfold nowOf
  split
  · exact Int.le_refl _
  · omega
theorem Run.rk {r : Str} {L : List An} {line : List Pr} {done : Nat} {now : Int} {p : Pr} {ps : List Pr} {d : Nat} (hf : Fits L line) (hd : done ≤ L.length) (e : rcvAll r L now line done = (p :: ps, d)) : Rk L line done (p :: ps) d := by
  have := rcvAll_rk (r := r) (now := now) hf hd
  rw [e] at this
  exact this
theorem Fits.tail {L : List An} {p : Pr} {ps : List Pr} (h : Fits L (p :: ps)) : Fits L ps := fun q hq => h q (List.mem_cons_of_mem _ hq)
theorem Run.order {r : Str} {L : List An} {line : List Pr} {done : Nat} {free : Int} {gs : List Bg} (h : Run r L line done free gs) (hl : ∀ k, k < L.length → 1 ≤ lnAt L k) (hf : Fits L line) (hd : done ≤ L.length) :
    (∀ g ∈ gs, free ≤ g.a) ∧ gs.Pairwise (fun g g' => g.a + lnAt L g.c ≤ g'.a) := by
  induction h with
  | stop z => exact ⟨fun g hg => (by cases hg), .nil⟩
  | @step line done free p ps d gs hz e _ ih =>
    have rk := Run.rk hf hd e
    obtain ⟨h1, h2⟩ := ih rk.fits.tail rk.top
    have hp := hl p.b (rk.fits p List.mem_cons_self).2
    have hn := nowOf_free L line done free
    refine ⟨fun g hg => ?_, List.pairwise_cons.mpr ⟨fun g hg => h1 g hg, h2⟩⟩
    rcases List.mem_cons.mp hg with rfl | hg
    · exact hn
    · have := h1 g hg
      omega
theorem Run.bound {r : Str} {L : List An} {line : List Pr} {done : Nat} {free : Int} {gs : List Bg} (h : Run r L line done free gs) (ht : ∀ k, k < L.length → timAt L k ≤ 10000) (hl : ∀ k, k < L.length → lnAt L k ≤ 99) (hf : Fits L line) (hd : done ≤ L.length) (c m : Nat) (hc : free ≤ 10000 + 99 * (c : Int)) (hm : c + muP L line done ≤ m) :
    ∀ g ∈ gs, g.a ≤ 10000 + 99 * (m : Int) := by
  induction h generalizing c with
  | stop z => exact fun g hg => (by cases hg)
  | @step line done free p ps d gs hz e _ ih =>
    have rk := Run.rk hf hd e
    have hmu := rk.mu
    rw [List.length_cons] at hmu
    have hn : nowOf L line done free ≤ 10000 + 99 * (c : Int) := by
      unfold nowOf
      split
      · exact hc
      · rename_i z
        have z' : line = [] := Classical.byContradiction z
        have : done < L.length := Classical.byContradiction fun q => hz ⟨z', q⟩
        have := ht done this
        omega
    have hp := hl p.b (rk.fits p List.mem_cons_self).2
    unfold muP at hm
    intro g hg
    rcases List.mem_cons.mp hg with rfl | hg
    · show nowOf L line done free ≤ _
      omega
    · exact ih rk.fits.tail rk.top (c + 1) (by omega) (by unfold muP; omega) g hg
theorem VLog.tim {L : List An} (h : VLog L) : ∀ k, k < L.length → timAt L k ≤ 10000 := fun k hk => by rw [timAt_get hk]; exact (h.ann _ (List.getElem_mem hk)).2.1
theorem VLog.ln {L : List An} (h : VLog L) : ∀ k, k < L.length → lnAt L k ≤ 99 := fun k hk => by rw [lnAt_get hk]; exact (h.ann _ (List.getElem_mem hk)).2.2.2.2
theorem VLog.ln1 {L : List An} (h : VLog L) : ∀ k, k < L.length → 1 ≤ lnAt L k := fun k hk => by rw [lnAt_get hk]; exact (h.ann _ (List.getElem_mem hk)).2.2.2.1
theorem VLog.tp {L : List An} (h : VLog L) : ∀ k, k < L.length → topicS (topAt L k) = true := fun k hk => by rw [topAt_get hk]; exact (h.ann _ (List.getElem_mem hk)).2.2.1
theorem fits_nil (L : List An) : Fits L [] := fun _ z => by cases z
theorem spoken_bound {r : Str} {L : List An} (h : VLog L) : ∀ g ∈ spoken r L, g.a ≤ 13960 := fun g hg => by
  have := (run_spoken (r := r) h).bound h.tim h.ln (fits_nil L) (Nat.zero_le _) 0 40 (by decide) (by have := h.len; unfold muP; simp; omega) g hg
  omega
end DL
namespace DL
open PySem PySem.Spec PyProof.Rows L2
open Enc (enc)
local macro_rules | `(tactic| walk_at "dl") => `(tactic| first
  | (with_reducible_and_instances refine sw_seq ?_)
  | (with_reducible_and_instances refine sw_ret ?_)
  | (with_reducible_and_instances refine sw_retN ?_)
  | (with_reducible_and_instances refine sw_set ?_)
  | (with_reducible_and_instances refine sw_par ?_)
  | (with_reducible_and_instances refine sw_drop ?_)
  | (with_reducible_and_instances refine sw_next ?_)
  | (with_reducible_and_instances refine sw_break ?_)
  | (with_reducible_and_instances refine sw_if ?_)
  | (with_reducible_and_instances refine sw_asg ?_)
  | ((with_reducible_and_instances refine' ew_var ?hh ?kk); (case hh => rfl))
  | (with_reducible_and_instances refine ew_int ?_)
  | (with_reducible_and_instances refine ew_str ?_)
  | (with_reducible_and_instances refine ew_bl ?_)
  | (with_reducible_and_instances refine ew_non ?_)
  | (with_reducible_and_instances refine ew_raw (v := .ty _) ?_)
  | (with_reducible_and_instances refine ew_op ?_)
  | (with_reducible_and_instances refine ew_un ?_)
  | (with_reducible_and_instances refine ew_chain ?_)
  | (with_reducible_and_instances refine ew_andV ?_)
  | (with_reducible_and_instances refine ew_orV ?_)
  | (with_reducible_and_instances refine ew_notV ?_)
  | (with_reducible_and_instances refine ew_if ?_)
  | (with_reducible_and_instances refine ew_tup ?_)
  | (with_reducible_and_instances refine ew_cb ?_)
  | (with_reducible_and_instances refine ew_slA ?_)
  | (with_reducible_and_instances refine .inl ⟨_, rfl, ?_⟩)
  | (with_reducible_and_instances refine .inr ⟨_, .same _, ?_⟩)
  | (with_reducible_and_instances refine aw_cons ?_)
  | (with_reducible_and_instances refine aw_nil ?_)
  | (with_reducible_and_instances refine tw_test ?_)
  | (with_reducible_and_instances refine tw_B ?_)
  | (with_reducible_and_instances refine tw_and ?_)
  | (with_reducible_and_instances refine tw_or ?_)
  | (with_reducible_and_instances refine tw_not ?_)
  | (with_reducible_and_instances refine tw_yes ?_)
  | (with_reducible_and_instances refine pw_none ?_)
  | (with_reducible_and_instances refine pw_some ?_)
  | (with_reducible_and_instances refine rw_le ?_)
  | (with_reducible_and_instances refine rw_lt ?_)
  | (with_reducible_and_instances refine rw_gt ?_)
  | (with_reducible_and_instances refine rw_ge ?_)
  | (with_reducible_and_instances refine rw_sub ?_)
  | (with_reducible_and_instances refine uw_neg ?_)
  | (with_reducible_and_instances refine rwp_int ?_)
  | ((with_reducible_and_instances refine gw_name ?hj ?_); (case hj => first | exact trivial | decide))
  | (with_reducible_and_instances refine gsw_cons ?_)
  | (with_reducible_and_instances refine gsw_nil ?_)
  | (with_reducible_and_instances refine gw_tup rfl ?_)
  | (with_reducible_and_instances refine cw_max2 ?_)
  | (with_reducible_and_instances refine cw_min2 ?_)
  | (with_reducible_and_instances refine cw_lenT ?_)
  | (with_reducible_and_instances refine cw_lenR ?_)
  | (with_reducible_and_instances refine cw_lenL (.same _) ?_)
  | (with_reducible_and_instances refine cw_intB ?_)
  | (with_reducible_and_instances refine ⟨_, rfl, ?_⟩)
  | (with_reducible_and_instances refine ⟨_, _, rfl, ?_⟩)
  | (refine ⟨Nat.le_trans (by simp) (Nat.le_of_lt (small1000 (n := 1000) (by decide))), ?_⟩))
local macro_rules | `(tactic| walk_at "dx") => `(tactic| first
  | (with_reducible_and_instances refine sw_seq ?_)
  | (with_reducible_and_instances refine sw_ret ?_)
  | (with_reducible_and_instances refine sw_retN ?_)
  | (with_reducible_and_instances refine sw_set ?_)
  | (with_reducible_and_instances refine sw_par ?_)
  | (with_reducible_and_instances refine sw_drop ?_)
  | (with_reducible_and_instances refine sw_next ?_)
  | (with_reducible_and_instances refine sw_break ?_)
  | (with_reducible_and_instances refine sw_asg ?_)
  | ((with_reducible_and_instances refine' ew_var ?hh ?kk); (case hh => rfl))
  | (with_reducible_and_instances refine ew_int ?_)
  | (with_reducible_and_instances refine ew_str ?_)
  | (with_reducible_and_instances refine ew_bl ?_)
  | (with_reducible_and_instances refine ew_non ?_)
  | (with_reducible_and_instances refine ew_raw (v := .ty _) ?_)
  | (with_reducible_and_instances refine ew_op ?_)
  | (with_reducible_and_instances refine ew_un ?_)
  | (with_reducible_and_instances refine ew_chain ?_)
  | (with_reducible_and_instances refine ew_andV ?_)
  | (with_reducible_and_instances refine ew_orV ?_)
  | (with_reducible_and_instances refine ew_notV ?_)
  | (with_reducible_and_instances refine ew_if ?_)
  | (with_reducible_and_instances refine ew_tup ?_)
  | (with_reducible_and_instances refine ew_cb ?_)
  | (with_reducible_and_instances refine ew_slA ?_)
  | (with_reducible_and_instances refine .inl ⟨_, rfl, ?_⟩)
  | (with_reducible_and_instances refine .inr ⟨_, .same _, ?_⟩)
  | (with_reducible_and_instances refine aw_cons ?_)
  | (with_reducible_and_instances refine aw_nil ?_)
  | (with_reducible_and_instances refine tw_test ?_)
  | (with_reducible_and_instances refine tw_B ?_)
  | (with_reducible_and_instances refine tw_and ?_)
  | (with_reducible_and_instances refine tw_or ?_)
  | (with_reducible_and_instances refine tw_not ?_)
  | (with_reducible_and_instances refine tw_yes ?_)
  | (with_reducible_and_instances refine pw_none ?_)
  | (with_reducible_and_instances refine pw_some ?_)
  | (with_reducible_and_instances refine rw_le ?_)
  | (with_reducible_and_instances refine rw_lt ?_)
  | (with_reducible_and_instances refine rw_gt ?_)
  | (with_reducible_and_instances refine rw_ge ?_)
  | (with_reducible_and_instances refine rw_sub ?_)
  | (with_reducible_and_instances refine uw_neg ?_)
  | (with_reducible_and_instances refine rwp_int ?_)
  | ((with_reducible_and_instances refine gw_name ?hj ?_); (case hj => first | exact trivial | decide))
  | (with_reducible_and_instances refine gsw_cons ?_)
  | (with_reducible_and_instances refine gsw_nil ?_)
  | (with_reducible_and_instances refine gw_tup rfl ?_)
  | (with_reducible_and_instances refine cw_max2 ?_)
  | (with_reducible_and_instances refine cw_min2 ?_)
  | (with_reducible_and_instances refine cw_lenT ?_)
  | (with_reducible_and_instances refine cw_lenR ?_)
  | (with_reducible_and_instances refine cw_lenL (.same _) ?_)
  | (with_reducible_and_instances refine cw_intB ?_)
  | (with_reducible_and_instances refine ⟨_, rfl, ?_⟩)
  | (with_reducible_and_instances refine ⟨_, _, rfl, ?_⟩)
  | (refine ⟨Nat.le_trans (by simp) (Nat.le_of_lt (small1000 (n := 1000) (by decide))), ?_⟩))
local macro_rules | `(tactic| walk_at "dn") => `(tactic| first
  | (with_reducible_and_instances refine sw_ret ?_)
  | (with_reducible_and_instances refine sw_retN ?_)
  | (with_reducible_and_instances refine sw_set ?_)
  | (with_reducible_and_instances refine sw_par ?_)
  | (with_reducible_and_instances refine sw_drop ?_)
  | (with_reducible_and_instances refine sw_next ?_)
  | (with_reducible_and_instances refine sw_break ?_)
  | (with_reducible_and_instances refine sw_asg ?_)
  | ((with_reducible_and_instances refine' ew_var ?hh ?kk); (case hh => rfl))
  | (with_reducible_and_instances refine ew_int ?_)
  | (with_reducible_and_instances refine ew_str ?_)
  | (with_reducible_and_instances refine ew_bl ?_)
  | (with_reducible_and_instances refine ew_non ?_)
  | (with_reducible_and_instances refine ew_raw (v := .ty _) ?_)
  | (with_reducible_and_instances refine ew_op ?_)
  | (with_reducible_and_instances refine ew_un ?_)
  | (with_reducible_and_instances refine ew_chain ?_)
  | (with_reducible_and_instances refine ew_andV ?_)
  | (with_reducible_and_instances refine ew_orV ?_)
  | (with_reducible_and_instances refine ew_notV ?_)
  | (with_reducible_and_instances refine ew_if ?_)
  | (with_reducible_and_instances refine ew_tup ?_)
  | (with_reducible_and_instances refine ew_cb ?_)
  | (with_reducible_and_instances refine ew_slA ?_)
  | (with_reducible_and_instances refine .inl ⟨_, rfl, ?_⟩)
  | (with_reducible_and_instances refine .inr ⟨_, .same _, ?_⟩)
  | (with_reducible_and_instances refine aw_cons ?_)
  | (with_reducible_and_instances refine aw_nil ?_)
  | (with_reducible_and_instances refine tw_test ?_)
  | (with_reducible_and_instances refine tw_B ?_)
  | (with_reducible_and_instances refine tw_and ?_)
  | (with_reducible_and_instances refine tw_or ?_)
  | (with_reducible_and_instances refine tw_not ?_)
  | (with_reducible_and_instances refine tw_yes ?_)
  | (with_reducible_and_instances refine pw_none ?_)
  | (with_reducible_and_instances refine pw_some ?_)
  | (with_reducible_and_instances refine rw_le ?_)
  | (with_reducible_and_instances refine rw_lt ?_)
  | (with_reducible_and_instances refine rw_gt ?_)
  | (with_reducible_and_instances refine rw_ge ?_)
  | (with_reducible_and_instances refine rw_sub ?_)
  | (with_reducible_and_instances refine uw_neg ?_)
  | (with_reducible_and_instances refine rwp_int ?_)
  | ((with_reducible_and_instances refine gw_name ?hj ?_); (case hj => first | exact trivial | decide))
  | (with_reducible_and_instances refine gsw_cons ?_)
  | (with_reducible_and_instances refine gsw_nil ?_)
  | (with_reducible_and_instances refine gw_tup rfl ?_)
  | (with_reducible_and_instances refine cw_max2 ?_)
  | (with_reducible_and_instances refine cw_min2 ?_)
  | (with_reducible_and_instances refine cw_lenT ?_)
  | (with_reducible_and_instances refine cw_lenR ?_)
  | (with_reducible_and_instances refine cw_lenL (.same _) ?_)
  | (with_reducible_and_instances refine cw_intB ?_)
  | (with_reducible_and_instances refine ⟨_, rfl, ?_⟩)
  | (with_reducible_and_instances refine ⟨_, _, rfl, ?_⟩)
  | (refine ⟨Nat.le_trans (by simp) (Nat.le_of_lt (small1000 (n := 1000) (by decide))), ?_⟩))
/-! ### triples -/
/-- a statement that changes nothing -/
theorem sw_chk {K : PySem.W.Frag} {Γ : Gm} {O : Own} {E : De} {t u : TS} (h1 : SW K t Γ O { E with nx := fun Γ' O' => Γ' = Γ ∧ O' = O }) (h2 : SW K u Γ O E) : SW K (tSeq t u) Γ O E :=
  sw_cut _ h1 fun Γ' O' ⟨e1, e2⟩ => by subst e1; subst e2; exact h2
theorem rules3_get {j : Nat} {d : Dt} (hd : (rules3.map (enc : Str → Dt))[j]? = some d) : ∃ r, rule3 r ∧ d = .str r :=
  match j, hd with
  | 0, hd => ⟨"none", .inl rfl, by cases hd; rfl⟩
  | 1, hd => ⟨"place", .inr (.inl rfl), by cases hd; rfl⟩
  | 2, hd => ⟨"end", .inr (.inr rfl), by cases hd; rfl⟩
  | j + 3, hd => by cases hd
theorem cut_from {xs : List Dt} (k : Nat) : cutD xs (some (k : Int)) none = xs.drop k := by
  unfold cutD
  rw [HT.sIx_none, HT.sIx_nat]
  rcases Nat.le_total k xs.length with h | h
  · rw [Nat.min_eq_left h, ← List.length_drop, List.take_length]
  · rw [Nat.min_eq_right h, List.drop_length, List.drop_of_length_le h, List.take_nil]
theorem view_map {α β : Type} [DecidableEq β] [Enc β] {O : Own} {xs : List α} (f : α → β) : View O (.lst (xs.map fun x => enc (f x))) (enc (xs.map f)) := by
  have e : (enc (xs.map f) : Dt) = .lst (xs.map fun x => enc (f x)) := by
    show Dt.lst ((xs.map f).map enc) = _
    rw [List.map_map]; rfl
  rw [e]; exact .same _
def triplesOf (r : Str) (L : List An) : List An := (spoken r L).map fun g => ⟨g.a, topAt L g.c, lnAt L g.c⟩
def cutAt (L : List An) (k : Nat) : List An := L.take k ++ L.drop (k + 1)
theorem cutAt_sub (L : List An) (k : Nat) : (cutAt L k).Sublist L := by
  unfold cutAt
  conv => rhs; rw [← List.take_append_drop k L]
  exact (List.Sublist.refl _).append (by rw [← List.drop_drop]; exact List.drop_sublist _ _)
theorem VLog.sub {L L' : List An} (h : VLog L) (s : L'.Sublist L) : VLog L' := ⟨Nat.le_trans s.length_le h.len, fun a ha => h.ann a (s.subset ha), h.ord.sublist s⟩
theorem speech_triples {r : Str} {L : List An} (h : VLog L) : ((played r L 100000 100000).1.map (row5 L)).map (fun g => (⟨g.a, g.b, g.c⟩ : An)) = triplesOf r L := by
  rw [spoken_lb (lt' := 0) h (by decide), List.map_map]
  rfl
theorem triples_len {r : Str} {L : List An} : (triplesOf r L).length ≤ L.length := by
  unfold triplesOf spoken
  rw [List.length_map]
  exact played_fits.2
def S_triples : SpT := fun ds Oc Post => ∃ (L : List An) (r : Str), ds = [encU L, .str r] ∧ L.length ≤ 500 ∧ Post (encL (triplesOf r L)) Oc
section
variable {P : Program} {w : World} {K : PySem.W.Frag} {mg : Str → Option Value} {base : Heap} {A : Ad}
end
end DL
namespace DL
open PySem PySem.Spec PyProof.Rows L2
/-! ### what is received, in detail -/
def Low (line : List Pr) (d : Nat) : Prop := ∀ p ∈ line, p.a < d ∧ p.b < d
theorem Low.mono {line : List Pr} {d e : Nat} (h : Low line d) (k : d ≤ e) : Low line e := fun p hp => ⟨Nat.lt_of_lt_of_le (h p hp).1 k, Nat.lt_of_lt_of_le (h p hp).2 k⟩
theorem Low.tail {p : Pr} {ps : List Pr} {d : Nat} (h : Low (p :: ps) d) : Low ps d := fun q hq => h q (List.mem_cons_of_mem _ hq)
theorem Low.fits {L : List An} {line : List Pr} {d : Nat} (h : Low line d) (k : d ≤ L.length) : Fits L line := h.mono k
theorem low_nil (d : Nat) : Low [] d := fun _ z => by cases z
theorem rcv_low {r : Str} {L : List An} {line : List Pr} {d : Nat} (h0 : Low line d) : Low (rcv r L line d) (d + 1) := by
  have h := h0.mono (Nat.le_succ d)
  have hk := Nat.lt_succ_self d
  unfold rcv
  split
  · intro p hp
    rcases List.mem_append.mp hp with hp | hp
    · exact h p hp
    · simp at hp; subst hp; exact ⟨hk, hk⟩
  · rename_i p0 ps hq
    have hm : p0 ∈ line := (List.mem_filter.mp (by rw [hq]; exact List.mem_cons_self)).1
    split
    · intro p hp
      rcases List.mem_append.mp hp with hp | hp
      · exact h p hp
      · simp at hp; subst hp; exact ⟨hk, hk⟩
    · split
      · intro p hp
        obtain ⟨q, hq, rfl⟩ := List.mem_map.mp hp
        split
        · exact ⟨(h p0 hm).1, hk⟩
        · exact h q hq
      · intro p hp
        rcases List.mem_append.mp hp with hp | hp
        · exact h p (List.mem_filter.mp hp).1
        · simp at hp; subst hp; exact ⟨(h p0 hm).1, hk⟩
theorem rcv_new {r : Str} {L : List An} {line : List Pr} {i : Nat} {p : Pr} (hp : p ∈ rcv r L line i) : p.b = i ∨ p ∈ line := by
  unfold rcv at hp
  split at hp
  · rcases List.mem_append.mp hp with hp | hp
    · exact .inr hp
    · simp at hp; subst hp; exact .inl rfl
  · split at hp
    · rcases List.mem_append.mp hp with hp | hp
      · exact .inr hp
      · simp at hp; subst hp; exact .inl rfl
    · split at hp
      · obtain ⟨q, hq, e⟩ := List.mem_map.mp hp
        split at e
        · subst e; exact .inl rfl
        · subst e; exact .inr hq
      · rcases List.mem_append.mp hp with hp | hp
        · exact .inr (List.mem_filter.mp hp).1
        · simp at hp; subst hp; exact .inl rfl
theorem rcv_self (r : Str) (L : List An) (line : List Pr) (i : Nat) : ∃ p ∈ rcv r L line i, p.b = i := by
  unfold rcv
  split
  · exact ⟨_, List.mem_append_right _ List.mem_cons_self, rfl⟩
  · rename_i p0 ps hq
    have hm : p0 ∈ line := (List.mem_filter.mp (by rw [hq]; exact List.mem_cons_self)).1
    split
    · exact ⟨_, List.mem_append_right _ List.mem_cons_self, rfl⟩
    · split
      · exact ⟨_, List.mem_map.mpr ⟨p0, hm, if_pos rfl⟩, rfl⟩
      · exact ⟨_, List.mem_append_right _ List.mem_cons_self, rfl⟩
theorem rcv_keep {r : Str} {L : List An} {line : List Pr} {i : Nat} {p : Pr} (hp : p ∈ line) (ht : topAt L p.b ≠ topAt L i) : p ∈ rcv r L line i := by
  unfold rcv
  split
  · exact List.mem_append_left _ hp
  · rename_i p0 ps hq
    have hm := List.mem_filter.mp (by rw [hq]; exact List.mem_cons_self : p0 ∈ line.filter fun p => decide (topAt L p.b = topAt L i))
    have hne : p ≠ p0 := by
      rintro rfl
      exact ht (of_decide_eq_true hm.2)
    split
    · exact List.mem_append_left _ hp
    · split
      · exact List.mem_map.mpr ⟨p, hp, if_neg hne⟩
      · exact List.mem_append_left _ (List.mem_filter.mpr ⟨hp, by simp [hne]⟩)
theorem rcv_drop {r : Str} {L : List An} {line : List Pr} {j k : Nat} (hr : r ≠ "none") (hd : Dist r L line) (ht : topAt L j = topAt L k) (hjk : j ≠ k) : ∀ p ∈ rcv r L line j, p.b ≠ k := by
  have hn := hd.resolve_left hr
  intro p hp e
  unfold rcv at hp
  split at hp
  · rename_i hq
    rcases List.mem_append.mp hp with hp | hp
    · have : p ∈ line.filter fun p => decide (topAt L p.b = topAt L j) := List.mem_filter.mpr ⟨hp, by rw [e, ht]; simp⟩
      rw [hq] at this
      cases this
    · simp at hp; subst hp; exact hjk e
  · rename_i p0 ps hq
    obtain ⟨_, hall⟩ := filter_one (L := L) (k := j) hn p0 ps hq
    have one : ∀ q ∈ line, q.b = k → q = p0 := fun q hq e => by
      have := hall q hq
      rw [show mt L j q = true by unfold mt; rw [e, ht]; simp] at this
      exact of_decide_eq_true this.symm
    split at hp
    · rename_i z; exact hr z
    · split at hp
      · obtain ⟨q, hq, eq⟩ := List.mem_map.mp hp
        split at eq
        · subst eq; exact hjk e
        · rename_i hne
          subst eq
          exact hne (one _ hq e)
      · rcases List.mem_append.mp hp with hp | hp
        · have h2 := List.mem_filter.mp hp
          have := one p h2.1 e
          subst this
          simp at h2
        · simp at hp; subst hp; exact hjk e
theorem rcv_congr {r : Str} {L M : List An} {line : List Pr} {k : Nat} (h : ∀ p ∈ line, topAt L p.b = topAt M p.b) (hk : topAt L k = topAt M k) : rcv r L line k = rcv r M line k := by
  have e : line.filter (fun p => decide (topAt L p.b = topAt L k)) = line.filter fun p => decide (topAt M p.b = topAt M k) := List.filter_congr fun p hp => by rw [h p hp, hk]
  unfold rcv
  rw [e]
/-- two logs that begin alike -/
def Agree (L M : List An) (j : Nat) : Prop := ∀ i, i < j → topAt L i = topAt M i ∧ timAt L i = timAt M i ∧ lnAt L i = lnAt M i
theorem rcvAll_same {r : Str} {L M : List An} {j : Nat} {now : Int} (hag : Agree L M j) (hLj : j ≤ L.length) (hMj : j ≤ M.length) (hL : j < L.length → now < timAt L j) (hM : j < M.length → now < timAt M j) : ∀ (n : Nat) (line : List Pr) (done : Nat), j - done = n → done ≤ j → Low line done →
    rcvAll r L now line done = rcvAll r M now line done ∧ (rcvAll r L now line done).2 ≤ j ∧ Low (rcvAll r L now line done).1 (rcvAll r L now line done).2
  | 0, line, done, hn, hd, hl => by
    have e : done = j := by omega
    subst e
    have s1 : ¬ (done < L.length ∧ timAt L done ≤ now) := fun z => by have := hL z.1; omega
    have s2 : ¬ (done < M.length ∧ timAt M done ≤ now) := fun z => by have := hM z.1; omega
    rw [rcvAll_stop s1, rcvAll_stop s2]
    exact ⟨rfl, Nat.le_refl _, hl⟩
  | n + 1, line, done, hn, hd, hl => by
    have hdj : done < j := by omega
    obtain ⟨a1, a2, a3⟩ := hag done hdj
    by_cases hc : timAt L done ≤ now
    · rw [rcvAll_go (L := L) (by omega) hc, rcvAll_go (L := M) (by omega) (by rw [← a2]; exact hc)]
      rw [show rcv r M line done = rcv r L line done from (rcv_congr (fun p hp => (hag p.b (by have := (hl p hp).2; omega)).1) a1).symm]
      exact rcvAll_same hag hLj hMj hL hM n _ _ (by omega) hdj (rcv_low hl)
    · rw [rcvAll_stop (L := L) (fun z => hc z.2), rcvAll_stop (L := M) (fun z => hc (by rw [a2]; exact z.2))]
      exact ⟨rfl, hd, hl⟩
theorem rcvAll_low {r : Str} {L : List An} {now : Int} : ∀ (n : Nat) {line : List Pr} {done : Nat}, L.length - done = n → Low line done → Low (rcvAll r L now line done).1 (rcvAll r L now line done).2
  | 0, line, done, h, hl => by rw [rcvAll_stop (fun z => by omega)]; exact hl
  | n + 1, line, done, h, hl => by
    by_cases hc : done < L.length ∧ timAt L done ≤ now
    · rw [rcvAll_go hc.1 hc.2]; exact rcvAll_low n (by omega) (rcv_low hl)
    · rw [rcvAll_stop hc]; exact hl
/-- what is gone stays gone -/
theorem rcvAll_not {r : Str} {L : List An} {now : Int} {k : Nat} : ∀ (n : Nat) {line : List Pr} {done : Nat}, L.length - done = n → k < done → (∀ p ∈ line, p.b ≠ k) → (∀ p ∈ (rcvAll r L now line done).1, p.b ≠ k) ∧ k < (rcvAll r L now line done).2
  | 0, line, done, h, hk, hl => by rw [rcvAll_stop (fun z => by omega)]; exact ⟨hl, hk⟩
  | n + 1, line, done, h, hk, hl => by
    by_cases hc : done < L.length ∧ timAt L done ≤ now
    · rw [rcvAll_go hc.1 hc.2]
      refine rcvAll_not n (by omega) (by omega) fun p hp => ?_
      rcases rcv_new hp with e | hp
      · omega
      · exact hl p hp
    · rw [rcvAll_stop hc]; exact ⟨hl, hk⟩
theorem Run.never {r : Str} {L : List An} {line : List Pr} {done : Nat} {free : Int} {gs : List Bg} {k : Nat} (h : Run r L line done free gs) (hk : k < done) (hl : ∀ p ∈ line, p.b ≠ k) : ∀ g ∈ gs, g.c ≠ k := by
  induction h with
  | stop z => exact fun g hg => by cases hg
  | @step line done free p ps d gs hz e _ ih =>
    have h2 := rcvAll_not (r := r) (L := L) (now := nowOf L line done free) _ rfl hk hl
    rw [e] at h2
    intro g hg
    rcases List.mem_cons.mp hg with rfl | hg
    · exact h2.1 p List.mem_cons_self
    · exact ih h2.2 (fun q hq => h2.1 q (List.mem_cons_of_mem _ hq)) g hg
/-- k is still to be begun -/
def Pend (line : List Pr) (done k : Nat) : Prop := done ≤ k ∨ (k < done ∧ ∃ p ∈ line, p.b = k)
theorem rcv_pend {r : Str} {L : List An} {line : List Pr} {done k : Nat} (hlast : ∀ i, k < i → i < L.length → topAt L i ≠ topAt L k) (hd : done < L.length) (h : Pend line done k) : Pend (rcv r L line done) (done + 1) k := by
  rcases h with h | ⟨h, p, hp, e⟩
  · rcases Nat.eq_or_lt_of_le h with e | h
    · subst e
      exact .inr ⟨Nat.lt_succ_self _, rcv_self r L line done⟩
    · exact .inl h
  · subst e
    exact .inr ⟨Nat.lt_succ_of_lt h, p, rcv_keep hp (hlast done h hd).symm, rfl⟩
theorem rcvAll_pend {r : Str} {L : List An} {now : Int} {k : Nat} (hlast : ∀ i, k < i → i < L.length → topAt L i ≠ topAt L k) : ∀ (n : Nat) {line : List Pr} {done : Nat}, L.length - done = n → Pend line done k → Pend (rcvAll r L now line done).1 (rcvAll r L now line done).2 k
  | 0, line, done, h, hp => by rw [rcvAll_stop (fun z => by omega)]; exact hp
  | n + 1, line, done, h, hp => by
    by_cases hc : done < L.length ∧ timAt L done ≤ now
    · rw [rcvAll_go hc.1 hc.2]; exact rcvAll_pend hlast n (by omega) (rcv_pend hlast hc.1 hp)
    · rw [rcvAll_stop hc]; exact hp
theorem Pend.tail {p : Pr} {ps : List Pr} {d k : Nat} (h : Pend (p :: ps) d k) (hne : p.b ≠ k) : Pend ps d k := h.imp id fun ⟨h1, q, hq, e⟩ => ⟨h1, by
  rcases List.mem_cons.mp hq with rfl | hq
  · exact absurd e hne
  · exact ⟨q, hq, e⟩⟩
/-- the last one of a topic is heard -/
theorem Run.heard {r : Str} {L : List An} {line : List Pr} {done : Nat} {free : Int} {gs : List Bg} {k : Nat} (h : Run r L line done free gs) (hk : k < L.length) (hlast : ∀ i, k < i → i < L.length → topAt L i ≠ topAt L k) (hp : Pend line done k) : ∃ g ∈ gs, g.c = k := by
  induction h with
  | stop z =>
    rcases hp with h | ⟨_, p, hp, _⟩
    · omega
    · cases hp
  | @step line done free p ps d gs hz e _ ih =>
    have h2 := rcvAll_pend (r := r) (now := nowOf L line done free) hlast _ rfl hp
    rw [e] at h2
    by_cases hb : p.b = k
    · exact ⟨_, List.mem_cons_self, hb⟩
    · obtain ⟨g, hg, e⟩ := ih (h2.tail hb)
      exact ⟨g, List.mem_cons_of_mem _ hg, e⟩
theorem rcvAll_kill {r : Str} {L : List An} {now : Int} {j k : Nat} (hr : r ≠ "none") (hj : j < L.length) (hkj : k < j) (ht : topAt L j = topAt L k) (htim : ∀ i, i ≤ j → timAt L i ≤ now) : ∀ (n : Nat) {line : List Pr} {done : Nat}, j - done = n → done ≤ j → Dist r L line →
    (∀ p ∈ (rcvAll r L now line done).1, p.b ≠ k) ∧ k < (rcvAll r L now line done).2
  | 0, line, done, h, hd, hdi => by
    have e : done = j := by omega
    subst e
    rw [rcvAll_go hj (htim done (Nat.le_refl _))]
    exact rcvAll_not _ rfl (by omega) (rcv_drop hr hdi ht (by omega))
  | n + 1, line, done, h, hd, hdi => by
    rw [rcvAll_go (by omega) (htim done hd)]
    exact rcvAll_kill hr hj hkj ht htim n (by omega) (by omega) (hdi.rcv _)
/-- is k heard, told by the log without the later ones of its topic -/
theorem Run.would {r : Str} {L M : List An} {j k : Nat} {line : List Pr} {done : Nat} {free : Int} {gs gs' : List Bg} (hr : r ≠ "none") (hj : j < L.length) (hkj : k < j) (ht : topAt L j = topAt L k) (hs : ∀ a b, a ≤ b → b < L.length → timAt L a ≤ timAt L b)
    (hag : Agree L M j) (hMj : j ≤ M.length) (hM : ∀ i, k < i → i < M.length → topAt M i ≠ topAt M k) (htM : j < M.length → timAt L j ≤ timAt M j) (hlM : ∀ i, i < M.length → 1 ≤ lnAt M i)
    (h : Run r L line done free gs) (h' : Run r M line done free gs') (hd : done ≤ j) (hl : Low line done) (hdi : Dist r L line) (hp : Pend line done k) :
    ∃ g, gs'.find? (fun g => decide (g.c = k)) = some g ∧ ((∃ x ∈ gs, x.c = k) ↔ g.a < timAt L j) := by
  induction h generalizing gs' with
  | stop z => omega
  | @step line done free p ps d gs hz e h2 ih =>
    cases h' with
    | stop z =>
      rcases hp with h | ⟨_, q, hq, _⟩
      · omega
      · cases hq
    | @step _ _ _ p' ps' d' gs' hz' e' h2' =>
      have en : nowOf M line done free = nowOf L line done free := by
        unfold nowOf
        by_cases hln : line = []
        · subst hln
          rcases hp with h | ⟨_, q, hq, _⟩
          · rw [(hag done (by omega)).2.1]
          · cases hq
        · rw [if_pos hln, if_pos hln]
      rw [en] at e' h2' ⊢
      by_cases hnow : nowOf L line done free < timAt L j
      · obtain ⟨s1, s2, s3⟩ := rcvAll_same (r := r) (now := nowOf L line done free) hag (by omega) hMj (fun _ => hnow) (fun z => Int.lt_of_lt_of_le hnow (htM z)) _ line done rfl hd hl
        have pd := rcvAll_pend (r := r) (now := nowOf L line done free) hM _ rfl hp
        rw [e'] at pd
        rw [s1, e'] at e
        cases e
        rw [s1, e'] at s2 s3
        have hpb := (s3 p List.mem_cons_self).2
        have hdd := rcvAll_dist (now := nowOf L line done free) (done := done) hdi
        rw [s1, e'] at hdd
        by_cases hb : p.b = k
        · refine ⟨_, List.find?_cons_of_pos (by simpa using hb), ⟨fun _ => hnow, fun _ => ⟨_, List.mem_cons_self, hb⟩⟩⟩
        · have el := (hag p.b (Nat.lt_of_lt_of_le hpb s2)).2.2
          rw [← el] at h2'
          obtain ⟨g, g1, g2⟩ := ih h2' s2 s3.tail hdd.tail (pd.tail hb)
          refine ⟨g, by rw [List.find?_cons_of_neg (by simpa using hb)]; exact g1, ⟨fun ⟨x, hx, ex⟩ => g2.mp ?_, fun z => ?_⟩⟩
          · rcases List.mem_cons.mp hx with rfl | hx
            · exact absurd ex hb
            · exact ⟨x, hx, ex⟩
          · obtain ⟨x, hx, ex⟩ := g2.mpr z
            exact ⟨x, List.mem_cons_of_mem _ hx, ex⟩
      · have hge : timAt L j ≤ nowOf L line done free := Int.not_lt.mp hnow
        have kl := rcvAll_kill (now := nowOf L line done free) hr hj hkj ht (fun i hi => Int.le_trans (hs i j hi hj) hge) _ rfl hd hdi
        rw [e] at kl
        have no : ¬ ∃ x ∈ (⟨nowOf L line done free, p.a, p.b⟩ : Bg) :: gs, x.c = k := by
          rintro ⟨x, hx, ex⟩
          rcases List.mem_cons.mp hx with rfl | hx
          · exact kl.1 p List.mem_cons_self ex
          · exact h2.never kl.2 (fun q hq => kl.1 q (List.mem_cons_of_mem _ hq)) x hx ex
        have hrun : Run r M line done free (⟨nowOf L line done free, p'.a, p'.b⟩ :: gs') := by
          have := Run.step (r := r) hz' (by rw [en]; exact e') (by rw [en]; exact h2')
          rw [en] at this
          exact this
        obtain ⟨g0, hg0, eg0⟩ := hrun.heard (by omega) hM hp
        have hsome : ((⟨nowOf L line done free, p'.a, p'.b⟩ : Bg) :: gs').find? (fun g => decide (g.c = k)) ≠ none := fun z => by
          have := List.find?_eq_none.mp z g0 hg0
          simp [eg0] at this
        obtain ⟨g, hg⟩ := Option.ne_none_iff_exists'.mp hsome
        refine ⟨g, hg, ⟨fun z => absurd z no, fun z => ?_⟩⟩
        exfalso
        have hm := List.mem_of_find?_eq_some hg
        have rk := Run.rk (hl.fits (Nat.le_trans hd hMj)) (Nat.le_trans hd hMj) e'
        have hle := (h2'.order hlM rk.fits.tail rk.top).1
        have hp' := hlM p'.b (rk.fits p' List.mem_cons_self).2
        rcases List.mem_cons.mp hm with rfl | hm
        · exact hnow z
        · have := hle g hm
          omega
def wM (L : List An) (k : Nat) : List An := L.take (k + 1) ++ (L.drop (k + 1)).filter fun x => decide (x.b ≠ topAt L k)
theorem wM_sub (L : List An) (k : Nat) : (wM L k).Sublist L := by
  unfold wM
  conv => rhs; rw [← List.take_append_drop (k + 1) L]
  exact (List.Sublist.refl _).append List.filter_sublist
theorem at_left {A X Y : List An} {i : Nat} (h : i < A.length) : topAt (A ++ X) i = topAt (A ++ Y) i ∧ timAt (A ++ X) i = timAt (A ++ Y) i ∧ lnAt (A ++ X) i = lnAt (A ++ Y) i := by
  unfold topAt timAt lnAt
  rw [List.getElem?_append_left h, List.getElem?_append_left h]
  exact ⟨rfl, rfl, rfl⟩
theorem wM_top {L : List An} {k : Nat} (hk : k < L.length) : topAt (wM L k) k = topAt L k := by
  have h : k < (L.take (k + 1)).length := by rw [List.length_take]; omega
  have := (at_left (X := (L.drop (k + 1)).filter fun x => decide (x.b ≠ topAt L k)) (Y := L.drop (k + 1)) h).1
  rw [List.take_append_drop] at this
  exact this
theorem wM_last {L : List An} {k : Nat} (hk : k < L.length) : ∀ i, k < i → i < (wM L k).length → topAt (wM L k) i ≠ topAt (wM L k) k := by
  intro i hi hl
  rw [wM_top hk, topAt_get hl]
  have hlt : (L.take (k + 1)).length = k + 1 := by rw [List.length_take]; omega
  have e : (wM L k)[i]? = ((L.drop (k + 1)).filter fun x => decide (x.b ≠ topAt L k))[i - (k + 1)]? := by
    unfold wM
    rw [List.getElem?_append_right (by omega), hlt]
  rw [List.getElem?_eq_getElem hl] at e
  exact of_decide_eq_true (List.mem_filter.mp (List.mem_of_getElem? e.symm)).2
theorem k12_find {r : Str} {L : List An} {k : Nat} (hV : VLog L) (hr : r ≠ "none") (hk : k < L.length) : ∃ g, (spoken r (wM L k)).find? (fun g => decide (g.c = k)) = some g ∧
    ∀ h t, ((L.drop (k + 1)).filter fun x => decide (x.b = topAt L k)) = h :: t → ((∃ x ∈ spoken r L, x.c = k) ↔ g.a < h.a) := by
  have hM := hV.sub (wM_sub L k)
  have hkM : k < (wM L k).length := by
    unfold wM
    rw [List.length_append, List.length_take]
    omega
  cases hf : (L.drop (k + 1)).filter fun x => decide (x.b = topAt L k) with
  | nil =>
    obtain ⟨g0, hg0, eg0⟩ := (run_spoken (r := r) hM).heard hkM (wM_last hk) (.inl (Nat.zero_le _))
    have hsome : (spoken r (wM L k)).find? (fun g => decide (g.c = k)) ≠ none := fun z => by
      have := List.find?_eq_none.mp z g0 hg0
      simp [eg0] at this
    obtain ⟨g, hg⟩ := Option.ne_none_iff_exists'.mp hsome
    exact ⟨g, hg, fun h t z => by cases z⟩
  | cons h t =>
    obtain ⟨pre, post, e1, e2, e3, e4⟩ := List.filter_eq_cons_iff.mp hf
    have eL : L = (L.take (k + 1) ++ pre) ++ h :: post := by rw [List.append_assoc, ← e1, List.take_append_drop]
    have eM : wM L k = (L.take (k + 1) ++ pre) ++ post.filter fun x => decide (x.b ≠ topAt L k) := by
      have eh : decide (h.b ≠ topAt L k) = false := by have := of_decide_eq_true e3; simp [this]
      unfold wM
      rw [e1, List.filter_append, List.filter_cons, eh, List.filter_eq_self.mpr fun x hx => ?_, List.append_assoc]
      · rfl
      · have := e2 x hx
        simpa using this
    generalize hA : L.take (k + 1) ++ pre = A at eL eM
    have hlt : (L.take (k + 1)).length = k + 1 := by rw [List.length_take]; omega
    have hjk : k < A.length := by rw [← hA, List.length_append, hlt]; omega
    have hjL : A.length < L.length := by
      have := congrArg List.length eL
      rw [List.length_append, List.length_cons] at this
      omega
    have hAL : A.length ≤ (wM L k).length := by rw [eM, List.length_append]; omega
    have eget : L[A.length] = h := by
      have : L[A.length]? = some h := by rw [eL, List.getElem?_append_right (by simp)]; simp
      rw [List.getElem?_eq_getElem hjL] at this
      exact Option.some.inj this
    have etim : timAt L A.length = h.a := by rw [timAt_get hjL, eget]
    have etop : topAt L A.length = topAt L k := by rw [topAt_get hjL, eget]; exact of_decide_eq_true e3
    have hag : Agree L (wM L k) A.length := fun i hi => by
      rw [eM]
      have := at_left (A := A) (X := h :: post) (Y := post.filter fun x => decide (x.b ≠ topAt L k)) hi
      rw [← eL] at this
      exact this
    have hord := hV.ord
    rw [eL, List.pairwise_append] at hord
    have hpost := (List.pairwise_cons.mp hord.2.1).1
    obtain ⟨g, g1, g2⟩ := Run.would (r := r) hr hjL hjk etop (fun a b hab hb => hV.s.tim hab hb) hag hAL (wM_last hk) (fun z => by
        rw [etim, timAt_get z]
        have hm : (wM L k)[A.length] ∈ post.filter fun x => decide (x.b ≠ topAt L k) := by
          have e5 : (wM L k)[A.length]? = (post.filter fun x => decide (x.b ≠ topAt L k))[0]? := by
            conv => lhs; rw [eM]
            rw [List.getElem?_append_right (Nat.le_refl _), Nat.sub_self]
          rw [List.getElem?_eq_getElem z] at e5
          exact List.mem_of_getElem? e5.symm
        exact hpost _ (List.mem_filter.mp hm).1) (fun i hi => hM.ln1 i hi) (run_spoken hV) (run_spoken hM) (Nat.zero_le _) (low_nil _) (.inr .nil) (.inl (Nat.zero_le _))
    refine ⟨g, g1, fun h' t' z => ?_⟩
    cases z
    rw [etim] at g2
    exact g2
theorem k12_last {r : Str} {L : List An} {k : Nat} (hV : VLog L) (hk : k < L.length) (h : ((L.drop (k + 1)).filter fun x => decide (x.b = topAt L k)) = []) : ∃ x ∈ spoken r L, x.c = k := by
  refine (run_spoken hV).heard hk (fun i hi hl e => ?_) (.inl (Nat.zero_le _))
  have hm : L[i] ∈ (L.drop (k + 1)).filter fun x => decide (x.b = topAt L k) := by
    refine List.mem_filter.mpr ⟨?_, ?_⟩
    · have : (L.drop (k + 1))[i - (k + 1)]? = some L[i] := by rw [List.getElem?_drop, show k + 1 + (i - (k + 1)) = i by omega, List.getElem?_eq_getElem hl]
      exact List.mem_of_getElem? this
    · rw [← topAt_get hl, e]; simp
  rw [h] at hm
  cases hm
end DL
namespace DL
open PySem PySem.Spec PyProof.Rows L2
/-! ### the line as a queue of texts and lengths, one event after another -/
structure It (β : Type) where
  top : Str
  len : Int
  pay : β
section
variable {β : Type}
def itH (r : Str) (x y : It β) : List (It β) := if r = "none" ∨ y.top ≠ x.top then [y] else if r = "place" then [x] else []
def itT (r : Str) (x : It β) (b : Bool) : List (It β) := if r = "place" ∧ b = true then [] else [x]
def arcv (r : Str) (line : List (It β)) (x : It β) : List (It β) := line.flatMap (itH r x) ++ itT r x (line.any fun y => decide (y.top = x.top))
inductive Ply (r : Str) : List (It β) → List (Int × It β) → Int → List (Int × It β) → Prop
  | stop {free : Int} : Ply r [] [] free []
  | wake {a : Int} {x : It β} {rest : List (Int × It β)} {free : Int} {out : List (Int × It β)} : Ply r [x] rest (max free a) out → Ply r [] ((a, x) :: rest) free out
  | recv {p : It β} {ps : List (It β)} {a : Int} {x : It β} {rest : List (Int × It β)} {free : Int} {out : List (Int × It β)} : a ≤ free → Ply r (arcv r (p :: ps) x) rest free out → Ply r (p :: ps) ((a, x) :: rest) free out
  | beg {p : It β} {ps : List (It β)} {rest : List (Int × It β)} {free : Int} {out : List (Int × It β)} : (∀ a x t, rest = (a, x) :: t → free < a) → Ply r ps rest (free + p.len) out → Ply r (p :: ps) rest free ((free, p) :: out)
def itm (L : List An) (φ : Nat → β) (k : Nat) : It β := ⟨topAt L k, lnAt L k, φ k⟩
def restOf (L : List An) (φ : Nat → β) (done : Nat) : List (Int × It β) := (List.range' done (L.length - done)).map fun k => (timAt L k, itm L φ k)
theorem restOf_cons {L : List An} {φ : Nat → β} {done : Nat} (h : done < L.length) : restOf L φ done = (timAt L done, itm L φ done) :: restOf L φ (done + 1) := by
  unfold restOf
  rw [show L.length - done = (L.length - (done + 1)) + 1 by omega, List.range'_succ, List.map_cons]
theorem restOf_end {L : List An} {φ : Nat → β} {done : Nat} (h : ¬ done < L.length) : restOf L φ done = [] := by
  unfold restOf
  rw [show L.length - done = 0 by omega]
  rfl
theorem arcv_rcv {r : Str} {L : List An} {line : List Pr} {k : Nat} (φ : Nat → β) (hd : Dist r L line) : (rcv r L line k).map (fun p => itm L φ p.b) = arcv r (line.map fun p => itm L φ p.b) (itm L φ k) := by
  rw [← lrcv_eq hd]
  have hflat : ∀ line : List Pr, (line.map fun p => itm L φ p.b).flatMap (itH r (itm L φ k)) = (lfound r L k line).map fun p => itm L φ p.b := by
    intro line
    induction line with
    | nil => unfold lfound; split <;> (try split) <;> rfl
    | cons p ps ih =>
      rw [List.map_cons, List.flatMap_cons, ih]
      unfold lfound itH
      by_cases hr : r = "none"
      · rw [if_pos (.inl hr), if_pos hr, if_pos hr]; rfl
      · rw [if_neg hr, if_neg hr]
        by_cases hm : topAt L p.b = topAt L k
        · have e : mt L k p = true := decide_eq_true hm
          rw [if_neg (by rintro (z | z) <;> contradiction)]
          by_cases hp : r = "place"
          · rw [if_pos hp, if_pos hp, if_pos hp, List.map_cons, List.map_cons, e, if_pos rfl]
            rfl
          · rw [if_neg hp, if_neg hp, if_neg hp, List.filter_cons, e]
            rfl
        · have e : mt L k p = false := decide_eq_false hm
          rw [if_pos (.inr hm)]
          by_cases hp : r = "place"
          · rw [if_pos hp, if_pos hp, List.map_cons, List.map_cons, e]
            rfl
          · rw [if_neg hp, if_neg hp, List.filter_cons, e]
            rfl
  have hany : (line.map fun p => itm L φ p.b).any (fun y => decide (y.top = (itm L φ k).top)) = !(line.filter (mt L k)).isEmpty := by
    induction line with
    | nil => rfl
    | cons p ps ih =>
      have ih := ih (hd.imp id fun z => by rw [List.map_cons, List.nodup_cons] at z; exact z.2)
      rw [List.map_cons, List.any_cons, ih, List.filter_cons]
      show (decide (topAt L p.b = topAt L k) || _) = _
      by_cases hm : topAt L p.b = topAt L k
      · have e : mt L k p = true := decide_eq_true hm
        rw [e, decide_eq_true hm]; rfl
      · have e : mt L k p = false := decide_eq_false hm
        rw [e, decide_eq_false hm]; simp
  unfold arcv
  rw [hflat, hany]
  unfold lrcv lren itT
  by_cases hr : r = "none"
  · rw [if_pos hr, if_neg (by rintro ⟨z, _⟩; rw [hr] at z; exact absurd z (by decide))]
    show (lfound r L k line ++ [(⟨k, k⟩ : Pr)]).map _ = _
    rw [List.map_append]; rfl
  · rw [if_neg hr]
    cases hf : line.filter (mt L k) with
    | nil =>
      rw [if_neg (by rintro ⟨_, z⟩; cases z)]
      show (lfound r L k line ++ [(⟨k, k⟩ : Pr)]).map _ = _
      rw [List.map_append]; rfl
    | cons q qs =>
      obtain ⟨z, hz⟩ : ∃ z, (q :: qs).getLast? = some z := ⟨_, List.getLast?_eq_some_getLast (by simp)⟩
      rw [hz]
      show (if r = "place" then lfound r L k line else lfound r L k line ++ [(⟨z.a, k⟩ : Pr)]).map _ = _
      by_cases hp : r = "place"
      · rw [if_pos hp, if_pos ⟨hp, rfl⟩, List.append_nil]
      · rw [if_neg hp, if_neg (fun w => hp w.1), List.map_append]; rfl
theorem ply_rcvAll {r : Str} {L : List An} {now : Int} {φ : Nat → β} {out : List (Int × It β)} : ∀ (n : Nat) {line : List Pr} {done : Nat}, L.length - done = n → line ≠ [] → Dist r L line →
    Ply r ((rcvAll r L now line done).1.map fun p => itm L φ p.b) (restOf L φ (rcvAll r L now line done).2) now out → Ply r (line.map fun p => itm L φ p.b) (restOf L φ done) now out
  | 0, line, done, h, hl, hd, hp => by rw [rcvAll_stop (fun z => by omega)] at hp; exact hp
  | n + 1, line, done, h, hl, hd, hp => by
    by_cases hc : done < L.length ∧ timAt L done ≤ now
    · rw [rcvAll_go hc.1 hc.2] at hp
      have := ply_rcvAll n (by omega) (rcv_ne r L line done) (hd.rcv _) hp
      rw [restOf_cons hc.1]
      cases line with
      | nil => exact absurd rfl hl
      | cons p ps =>
        rw [arcv_rcv φ hd] at this
        exact .recv hc.2 this
    · rw [rcvAll_stop hc] at hp; exact hp
theorem Run.ply {r : Str} {L : List An} {line : List Pr} {done : Nat} {free : Int} {gs : List Bg} (φ : Nat → β) (h : Run r L line done free gs) (hd : Dist r L line) : Ply r (line.map fun p => itm L φ p.b) (restOf L φ done) free (gs.map fun g => (g.a, itm L φ g.c)) := by
  induction h with
  | stop z => rw [restOf_end z]; exact .stop
  | @step line done free p ps d gs hz e _ ih =>
    have hdd := rcvAll_dist (now := nowOf L line done free) (done := done) hd
    rw [e] at hdd
    have hnx := rcvAll_next (r := r) (L := L) (a := nowOf L line done free) (line := line) (done := done) _ rfl
    rw [e] at hnx
    have hb : Ply r ((p :: ps).map fun p => itm L φ p.b) (restOf L φ d) (nowOf L line done free) ((nowOf L line done free, itm L φ p.b) :: gs.map fun g => (g.a, itm L φ g.c)) := by
      refine .beg (fun a x t eq => ?_) (ih hdd.tail)
      by_cases hdl : d < L.length
      · rw [restOf_cons hdl] at eq
        cases eq
        exact Int.not_le.mp fun q => hnx ⟨hdl, q⟩
      · rw [restOf_end hdl] at eq
        cases eq
    rw [List.map_cons]
    show Ply r _ _ _ ((nowOf L line done free, itm L φ p.b) :: _)
    by_cases hln : line = []
    · subst hln
      have hdl : done < L.length := Classical.byContradiction fun q => hz ⟨rfl, q⟩
      have en : nowOf L [] done free = max free (timAt L done) := by unfold nowOf; rw [if_neg (by simp)]
      rw [en] at hb e ⊢
      rw [rcvAll_go hdl (by omega)] at e
      have e1 : rcv r L [] done = [⟨done, done⟩] := by unfold rcv; rfl
      rw [e1] at e
      rw [restOf_cons hdl]
      refine .wake ?_
      have := ply_rcvAll (r := r) (φ := φ) (now := max free (timAt L done)) (line := [⟨done, done⟩]) (done := done + 1) (out := _) _ rfl (by simp) (.inr (by simp)) (by rw [e]; exact hb)
      exact this
    · have en : nowOf L line done free = free := by unfold nowOf; rw [if_pos hln]
      rw [en] at hb e ⊢
      exact ply_rcvAll _ rfl hln hd (by rw [e]; exact hb)
/-- all begins from free on -/
def LenOk (line : List (It β)) (rest : List (Int × It β)) : Prop := (∀ p ∈ line, 0 ≤ p.len) ∧ ∀ q ∈ rest, 0 ≤ q.2.len
theorem arcv_mem {r : Str} {line : List (It β)} {x y : It β} (h : y ∈ arcv r line x) : y = x ∨ y ∈ line := by
  unfold arcv at h
  rcases List.mem_append.mp h with h | h
  · obtain ⟨z, hz, hy⟩ := List.mem_flatMap.mp h
    unfold itH at hy
    split at hy
    · rw [List.mem_singleton] at hy; subst hy; exact .inr hz
    · split at hy
      · rw [List.mem_singleton] at hy; exact .inl hy
      · cases hy
  · unfold itT at h
    split at h
    · cases h
    · rw [List.mem_singleton] at h; exact .inl h
theorem LenOk.recv {r : Str} {line : List (It β)} {a : Int} {x : It β} {rest : List (Int × It β)} (h : LenOk line ((a, x) :: rest)) : LenOk (arcv r line x) rest := ⟨fun p hp => by
  rcases arcv_mem hp with rfl | hp
  · exact h.2 _ List.mem_cons_self
  · exact h.1 p hp, fun q hq => h.2 q (List.mem_cons_of_mem _ hq)⟩
theorem LenOk.tail {p : It β} {ps : List (It β)} {rest : List (Int × It β)} (h : LenOk (p :: ps) rest) : LenOk ps rest := ⟨fun q hq => h.1 q (List.mem_cons_of_mem _ hq), h.2⟩
theorem arcv_nil {r : Str} {x : It β} : arcv r [] x = [x] := by
  unfold arcv itT
  rw [if_neg (by rintro ⟨_, z⟩; cases z)]
  rfl
theorem Ply.from {r : Str} {line : List (It β)} {rest : List (Int × It β)} {free : Int} {out : List (Int × It β)} (h : Ply r line rest free out) (hl : LenOk line rest) : ∀ q ∈ out, free ≤ q.1 := by
  induction h with
  | stop => exact fun q hq => by cases hq
  | @wake a x rest free out _ ih =>
    intro q hq
    have := ih (by have := hl.recv (r := r); rw [arcv_nil] at this; exact this) q hq
    omega
  | recv ha _ ih => exact ih hl.recv
  | @beg p ps rest free out hn _ ih =>
    intro q hq
    rcases List.mem_cons.mp hq with rfl | hq
    · exact Int.le_refl _
    · have := ih hl.tail q hq
      have := hl.1 p List.mem_cons_self
      omega
end
end DL
namespace DL
open PySem PySem.Spec PyProof.Rows L2
/-! ### one more announcement, of a topic of its own -/
/-- bounds enough to be spoken to the end -/
structure PLog (L : List An) : Prop where
  len : L.length ≤ 400
  tim : ∀ a ∈ L, 0 ≤ a.a ∧ a.a ≤ 10000
  ln : ∀ a ∈ L, 1 ≤ a.c ∧ a.c ≤ 99
  ord : L.Pairwise fun x y => x.a ≤ y.a
theorem VLog.p {L : List An} (h : VLog L) : PLog L := ⟨Nat.le_trans h.len (by decide), fun a ha => ⟨(h.ann a ha).1, (h.ann a ha).2.1⟩, fun a ha => ⟨(h.ann a ha).2.2.2.1, (h.ann a ha).2.2.2.2⟩, h.ord⟩
theorem run_spokenP {r : Str} {L : List An} (h : PLog L) : Run r L [] 0 0 (spoken r L) := by
  obtain ⟨gs, g1, g2⟩ := run_play (r := r) (L := L) (lb := 1000000) (by decide) (fun k hk => by rw [timAt_get hk]; exact (h.tim _ (List.getElem_mem hk)).2) (fun k hk => by rw [lnAt_get hk]; exact (h.ln _ (List.getElem_mem hk)).2)
    (L.length + 1) [] 0 [] 0 0 (fun _ z => by cases z) (Nat.zero_le _) (by decide) (by have := h.len; unfold muP; simp; omega) (by unfold muP; simp)
  have e : spoken r L = gs := by
    unfold spoken played playR
    rw [g1]; rfl
  rw [e]; exact g2
section
variable {β : Type}
theorem Ply.inv_recv {r : Str} {line : List (It β)} {a : Int} {x : It β} {rest : List (Int × It β)} {free : Int} {out : List (Int × It β)} (h : Ply r line ((a, x) :: rest) free out) (hl : line ≠ []) (ha : a ≤ free) : Ply r (arcv r line x) rest free out := by
  cases h with
  | wake _ => exact absurd rfl hl
  | recv _ h => exact h
  | beg hn _ => have := hn a x rest rfl; omega
theorem Ply.inv_wake {r : Str} {a : Int} {x : It β} {rest : List (Int × It β)} {free : Int} {out : List (Int × It β)} (h : Ply r [] ((a, x) :: rest) free out) : Ply r [x] rest (max free a) out := by
  cases h with
  | wake h => exact h
theorem Ply.inv_beg {r : Str} {p : It β} {ps : List (It β)} {rest : List (Int × It β)} {free : Int} {out : List (Int × It β)} (h : Ply r (p :: ps) rest free out) (hn : ∀ a x t, rest = (a, x) :: t → free < a) : ∃ out', out = (free, p) :: out' ∧ Ply r ps rest (free + p.len) out' := by
  cases h with
  | recv ha _ => have := hn _ _ _ rfl; omega
  | beg _ h => exact ⟨_, rfl, h⟩
end
abbrev IB := It Bool
def nw : IB := ⟨"", 1, true⟩
def Old (y : IB) : Prop := y.top ≠ "" ∧ y.pay = false
def isN (q : Int × IB) : Bool := q.2.pay
theorem itH_nw {r : Str} {x : IB} (hx : Old x) : itH r x nw = [nw] := by
  unfold itH
  rw [if_pos (.inr (fun z => hx.1 z.symm))]
theorem itH_old {r : Str} {x y : IB} (hx : Old x) (hy : Old y) : ∀ z ∈ itH r x y, Old z := by
  unfold itH
  split
  · intro z hz; rw [List.mem_singleton] at hz; subst hz; exact hy
  · split
    · intro z hz; rw [List.mem_singleton] at hz; subst hz; exact hx
    · intro z hz; cases hz
theorem flat_old {r : Str} {x : IB} {u : List IB} (hx : Old x) (hu : ∀ y ∈ u, Old y) : ∀ y ∈ u.flatMap (itH r x), Old y := fun y hy => by
  obtain ⟨z, hz, h⟩ := List.mem_flatMap.mp hy
  exact itH_old hx (hu z hz) y h
theorem itT_old {r : Str} {x : IB} {b : Bool} (hx : Old x) : ∀ y ∈ itT r x b, Old y := by
  unfold itT
  split
  · intro z hz; cases hz
  · intro z hz; rw [List.mem_singleton] at hz; subst hz; exact hx
theorem arcv_old {r : Str} {x : IB} {u : List IB} (hx : Old x) (hu : ∀ y ∈ u, Old y) : ∀ y ∈ arcv r u x, Old y := fun y hy => by
  rcases arcv_mem hy with rfl | h
  · exact hx
  · exact hu y h
theorem any_nw {x : IB} {u v : List IB} (hx : Old x) : (u ++ nw :: v).any (fun y => decide (y.top = x.top)) = (u ++ v).any fun y => decide (y.top = x.top) := by
  rw [List.any_append, List.any_append, List.any_cons]
  have : decide (nw.top = x.top) = false := decide_eq_false fun z => hx.1 z.symm
  rw [this, Bool.false_or]
theorem arcv_ins {r : Str} {x : IB} {u v : List IB} (hx : Old x) : arcv r (u ++ nw :: v) x = u.flatMap (itH r x) ++ nw :: (v.flatMap (itH r x) ++ itT r x ((u ++ v).any fun y => decide (y.top = x.top))) := by
  unfold arcv
  rw [any_nw hx, List.flatMap_append, List.flatMap_cons, itH_nw hx, List.append_assoc]
  rfl
theorem arcv_app {r : Str} {x : IB} {u v : List IB} : arcv r (u ++ v) x = u.flatMap (itH r x) ++ (v.flatMap (itH r x) ++ itT r x ((u ++ v).any fun y => decide (y.top = x.top))) := by
  unfold arcv
  rw [List.flatMap_append, List.append_assoc]
theorem arcv_nw {r : Str} {u : List IB} (hu : ∀ y ∈ u, Old y) : arcv r u nw = u ++ [nw] := by
  have e1 : u.flatMap (itH r nw) = u := by
    induction u with
    | nil => rfl
    | cons y u ih =>
      rw [List.flatMap_cons, ih fun z hz => hu z (List.mem_cons_of_mem _ hz)]
      unfold itH
      rw [if_pos (.inr (hu y List.mem_cons_self).1)]
      rfl
  have e2 : (u.any fun y => decide (y.top = nw.top)) = false := by
    rw [List.any_eq_false]
    intro y hy z
    exact (hu y hy).1 (of_decide_eq_true z)
  unfold arcv
  rw [e1, e2]
  unfold itT
  rw [if_neg (by rintro ⟨_, z⟩; cases z)]
theorem find_old {a : Int} {p : IB} {out : List (Int × IB)} (hp : Old p) : ((a, p) :: out).find? isN = out.find? isN := List.find?_cons_of_neg (by show ¬ p.pay = true; rw [hp.2]; decide)
theorem Ply.headN {r : Str} {line v : List IB} {rest : List (Int × IB)} {free : Int} {out : List (Int × IB)} (h : Ply r line rest free out) (hl : line = nw :: v) (ho : ∀ q ∈ rest, Old q.2) : out.find? isN = some (free, nw) := by
  induction h generalizing v with
  | stop => cases hl
  | wake _ _ => cases hl
  | @recv p ps a x rest free out ha _ ih =>
    have e := arcv_ins (r := r) (u := []) (v := v) (ho (a, x) List.mem_cons_self)
    rw [List.nil_append, ← hl] at e
    exact ih e fun q hq => ho q (List.mem_cons_of_mem _ hq)
  | beg hn _ _ =>
    cases hl
    exact List.find?_cons_of_pos rfl
theorem find_ge {r : Str} {line : List IB} {rest : List (Int × IB)} {free : Int} {out : List (Int × IB)} {b : Int × IB} (h : Ply r line rest free out) (hl : LenOk line rest) (hb : out.find? isN = some b) : free ≤ b.1 := h.from hl b (List.mem_of_find?_eq_some hb)
theorem Ply.mono3 {r : Str} {lineX u w v : List IB} {rest : List (Int × IB)} {free : Int} {outX outY : List (Int × IB)} (h : Ply r lineX rest free outX) (hX : lineX = u ++ nw :: (w ++ v)) (h' : Ply r (u ++ (w ++ nw :: v)) rest free outY)
    (hu : ∀ y ∈ u, Old y) (hw : ∀ y ∈ w, Old y) (hv : ∀ y ∈ v, Old y) (ho : ∀ q ∈ rest, Old q.2) (hL : LenOk (u ++ (w ++ nw :: v)) rest) {b b' : Int × IB} (hb : outX.find? isN = some b) (hb' : outY.find? isN = some b') : b.1 ≤ b'.1 := by
  induction h generalizing u w v outY with
  | stop => cases u <;> cases hX
  | wake _ _ => cases u <;> cases hX
  | @recv p ps a x rest free outX ha _ ih =>
    have hx := ho (a, x) List.mem_cons_self
    have e := arcv_ins (r := r) (u := u) (v := w ++ v) hx
    rw [← hX, List.flatMap_append, List.append_assoc] at e
    have e' := arcv_ins (r := r) (u := u ++ w) (v := v) hx
    rw [List.append_assoc, List.flatMap_append, List.append_assoc, List.append_assoc] at e'
    have r1 := h'.inv_recv (by cases u <;> cases w <;> simp) ha
    have r2 : LenOk (arcv r (u ++ (w ++ nw :: v)) x) rest := hL.recv
    rw [e'] at r1 r2
    refine ih e r1 (flat_old hx hu) (flat_old hx hw) (fun y hy => ?_) (fun q hq => ho q (List.mem_cons_of_mem _ hq)) r2 hb hb'
    rcases List.mem_append.mp hy with hy | hy
    · exact flat_old hx hv y hy
    · exact itT_old hx y hy
  | @beg p ps rest free outX hn _ ih =>
    cases u with
    | nil =>
      cases hX
      rw [List.find?_cons_of_pos (show isN (free, nw) = true from rfl)] at hb
      cases hb
      exact find_ge h' hL hb'
    | cons p' u =>
      injection hX with h1 h2
      subst h1
      obtain ⟨out', e1, h3⟩ := Ply.inv_beg (p := p) (ps := u ++ (w ++ nw :: v)) h' hn
      subst e1
      have hp := hu p List.mem_cons_self
      rw [find_old hp] at hb hb'
      exact ih h2 h3 (fun y hy => hu y (List.mem_cons_of_mem _ hy)) hw hv ho hL.tail hb hb'
theorem Ply.mono2 {r : Str} {lineX u v : List IB} {restX B C : List (Int × IB)} {t' free : Int} {outX outY : List (Int × IB)} (h : Ply r lineX restX free outX) (hX : lineX = u ++ nw :: v) (hR : restX = B ++ C) (h' : Ply r (u ++ v) (B ++ (t', nw) :: C) free outY)
    (hu : ∀ y ∈ u, Old y) (hv : ∀ y ∈ v, Old y) (ho : ∀ q ∈ restX, Old q.2) (hC : ∀ q ∈ C, t' ≤ q.1) (hL : LenOk (u ++ v) (B ++ (t', nw) :: C)) {b b' : Int × IB} (hb : outX.find? isN = some b) (hb' : outY.find? isN = some b') : b.1 ≤ b'.1 := by
  induction h generalizing u v B outY with
  | stop => cases u <;> cases hX
  | wake _ _ => cases u <;> cases hX
  | @recv p ps a x rest free outX ha hP ih =>
    have hx := ho (a, x) List.mem_cons_self
    cases u with
    | nil =>
      have := (Ply.recv ha hP).headN hX ho
      rw [this] at hb
      cases hb
      exact find_ge h' hL hb'
    | cons p' u =>
      cases B with
      | nil =>
        have ht : t' ≤ free := by
          rw [List.nil_append] at hR
          have := hC (a, x) (by rw [← hR]; exact List.mem_cons_self)
          exact Int.le_trans this ha
        have hold : ∀ y ∈ p' :: u ++ v, Old y := fun y hy => by
          rcases List.mem_append.mp hy with hy | hy
          · exact hu y hy
          · exact hv y hy
        have r1 := h'.inv_recv (by simp) ht
        have r2 : LenOk (arcv r (p' :: u ++ v) nw) C := hL.recv
        rw [arcv_nw hold, List.append_assoc] at r1 r2
        rw [List.nil_append] at hR
        refine Ply.mono3 (Ply.recv ha hP) (u := p' :: u) (w := v) (v := []) (by rw [hX, List.append_nil]) (by rw [hR]; exact r1) hu hv (fun y hy => by cases hy) ho (by rw [hR]; exact r2) hb hb'
      | cons q B =>
        injection hR with h1 h2
        subst h1
        have e := arcv_ins (r := r) (u := p' :: u) (v := v) hx
        rw [← hX] at e
        have e' := arcv_app (r := r) (x := x) (u := p' :: u) (v := v)
        have r1 := h'.inv_recv (by simp) ha
        have r2 : LenOk (arcv r (p' :: u ++ v) x) (B ++ (t', nw) :: C) := hL.recv
        rw [e'] at r1 r2
        refine ih e h2 r1 (flat_old hx hu) (fun y hy => ?_) (fun q hq => ho q (List.mem_cons_of_mem _ hq)) r2 hb hb'
        rcases List.mem_append.mp hy with hy | hy
        · exact flat_old hx hv y hy
        · exact itT_old hx y hy
  | @beg p ps rest free outX hn hP ih =>
    cases u with
    | nil =>
      have := (Ply.beg hn hP).headN hX ho
      rw [this] at hb
      cases hb
      exact find_ge h' hL hb'
    | cons p' u =>
      by_cases hB : B = [] ∧ t' ≤ free
      · obtain ⟨rfl, ht⟩ := hB
        have hold : ∀ y ∈ p' :: u ++ v, Old y := fun y hy => by
          rcases List.mem_append.mp hy with hy | hy
          · exact hu y hy
          · exact hv y hy
        have r1 := h'.inv_recv (by simp) ht
        have r2 : LenOk (arcv r (p' :: u ++ v) nw) C := hL.recv
        rw [arcv_nw hold, List.append_assoc] at r1 r2
        rw [List.nil_append] at hR
        refine Ply.mono3 (Ply.beg hn hP) (u := p' :: u) (w := v) (v := []) (by rw [hX, List.append_nil]) (by rw [hR]; exact r1) hu hv (fun y hy => by cases hy) ho (by rw [hR]; exact r2) hb hb'
      · injection hX with h1 h2
        subst h1
        have hn' : ∀ a x t, B ++ (t', nw) :: C = (a, x) :: t → free < a := fun a x t e => by
          cases B with
          | nil =>
            injection e with e1 _
            cases e1
            exact Int.not_le.mp fun z => hB ⟨rfl, z⟩
          | cons q B =>
            injection e with e1 _
            subst e1
            exact hn a x (B ++ C) (by rw [hR]; rfl)
        obtain ⟨out', e1, h3⟩ := Ply.inv_beg (p := p) (ps := u ++ v) h' hn'
        subst e1
        have hp := hu p List.mem_cons_self
        rw [find_old hp] at hb hb'
        exact ih h2 hR h3 (fun y hy => hu y (List.mem_cons_of_mem _ hy)) hv ho hL.tail hb hb'
/-- begun when it has come -/
theorem Ply.after {r : Str} {line : List IB} {rest A Q : List (Int × IB)} {t free : Int} {out : List (Int × IB)} (h : Ply r line rest free out) (hR : rest = A ++ (t, nw) :: Q) (hl : ∀ y ∈ line, Old y) (hA : ∀ q ∈ A, Old q.2) (hL : LenOk line rest) {b : Int × IB} (hb : out.find? isN = some b) : t ≤ b.1 := by
  induction h generalizing A with
  | stop => cases A <;> cases hR
  | @wake a x rest free out hP ih =>
    cases A with
    | nil =>
      injection hR with h1 h2
      cases h1
      have r2 := hL.recv (r := r)
      rw [arcv_nil] at r2
      have := find_ge hP r2 hb
      omega
    | cons q A =>
      injection hR with h1 h2
      subst h1
      have r2 := hL.recv (r := r)
      rw [arcv_nil] at r2
      exact ih h2 (fun y hy => by rw [List.mem_singleton] at hy; subst hy; exact hA _ List.mem_cons_self) (fun q hq => hA q (List.mem_cons_of_mem _ hq)) r2 hb
  | @recv p ps a x rest free out ha hP ih =>
    cases A with
    | nil =>
      injection hR with h1 h2
      cases h1
      have := find_ge hP hL.recv hb
      omega
    | cons q A =>
      injection hR with h1 h2
      subst h1
      exact ih h2 (arcv_old (hA _ List.mem_cons_self) hl) (fun q hq => hA q (List.mem_cons_of_mem _ hq)) hL.recv hb
  | @beg p ps rest free out hn hP ih =>
    rw [find_old (hl p List.mem_cons_self)] at hb
    exact ih hR (fun y hy => hl y (List.mem_cons_of_mem _ hy)) hA hL.tail hb
theorem Ply.mono1 {r : Str} {line : List IB} {restX A B C : List (Int × IB)} {t t' free : Int} {outX outY : List (Int × IB)} (h : Ply r line restX free outX) (hR : restX = A ++ (t, nw) :: (B ++ C)) (h' : Ply r line (A ++ (B ++ (t', nw) :: C)) free outY) (hl : ∀ y ∈ line, Old y)
    (hA : ∀ q ∈ A, Old q.2) (hBo : ∀ q ∈ B, Old q.2) (hCo : ∀ q ∈ C, Old q.2) (hB : ∀ q ∈ B, t ≤ q.1) (htt : t ≤ t') (hC : ∀ q ∈ C, t' ≤ q.1) (hL : LenOk line (A ++ (B ++ (t', nw) :: C))) {b b' : Int × IB} (hb : outX.find? isN = some b) (hb' : outY.find? isN = some b') : b.1 ≤ b'.1 := by
  have hBC : ∀ q ∈ B ++ C, Old q.2 := fun q hq => (List.mem_append.mp hq).elim (hBo q) (hCo q)
  induction h generalizing A outY with
  | stop => cases A <;> cases hR
  | @wake a x rest free outX hP ih =>
    cases A with
    | nil =>
      injection hR with h1 h2
      cases h1
      subst h2
      have := hP.headN rfl hBC
      rw [this] at hb
      cases hb
      have h1 := find_ge h' hL hb'
      have h2 := h'.after (A := B) (t := t') (Q := C) rfl (fun y hy => by cases hy) hBo hL hb'
      show max free t ≤ _
      omega
    | cons q A =>
      injection hR with h1 h2
      subst h1
      have r2 := hL.recv (r := r)
      rw [arcv_nil] at r2
      exact ih h2 h'.inv_wake (fun y hy => by rw [List.mem_singleton] at hy; subst hy; exact hA _ List.mem_cons_self) (fun q hq => hA q (List.mem_cons_of_mem _ hq)) r2 hb hb'
  | @recv p ps a x rest free outX ha hP ih =>
    cases A with
    | nil =>
      injection hR with h1 h2
      cases h1
      subst h2
      rw [arcv_nw hl] at hP
      exact hP.mono2 (u := p :: ps) (v := []) (B := B) (C := C) rfl rfl (by rw [List.append_nil]; exact h') hl (fun y hy => by cases hy) hBC hC (by rw [List.append_nil]; exact hL) hb hb'
    | cons q A =>
      injection hR with h1 h2
      subst h1
      exact ih h2 (h'.inv_recv (by simp) ha) (arcv_old (hA _ List.mem_cons_self) hl) (fun q hq => hA q (List.mem_cons_of_mem _ hq)) hL.recv hb hb'
  | @beg p ps rest free outX hn hP ih =>
    have hn' : ∀ a x s, A ++ (B ++ (t', nw) :: C) = (a, x) :: s → free < a := fun a x s e => by
      cases A with
      | nil =>
        have ht := hn t nw (B ++ C) hR
        cases B with
        | nil =>
          injection e with e1 _
          cases e1
          omega
        | cons q B =>
          injection e with e1 _
          subst e1
          have := hB (a, x) List.mem_cons_self
          exact Int.lt_of_lt_of_le ht this
      | cons q A =>
        injection e with e1 _
        subst e1
        exact hn a x (A ++ (t, nw) :: (B ++ C)) (by rw [hR]; rfl)
    obtain ⟨out', e1, h3⟩ := Ply.inv_beg h' hn'
    subst e1
    rw [find_old (hl p List.mem_cons_self)] at hb hb'
    exact ih hR h3 (fun y hy => hl y (List.mem_cons_of_mem _ hy)) hA hL.tail hb hb'
/-! by the rule none -/
def sumL (u : List IB) : Int := (u.map fun y => y.len).sum
def endQ (e : Int) (A : List (Int × IB)) : Int := A.foldl (fun e q => max e q.1 + q.2.len) e
theorem arcv_none {line : List IB} {x : IB} : arcv "none" line x = line ++ [x] := by
  have e : line.flatMap (itH "none" x) = line := by
    induction line with
    | nil => rfl
    | cons y l ih =>
      rw [List.flatMap_cons, ih]
      unfold itH
      rw [if_pos (.inl rfl)]
      rfl
  unfold arcv itT
  rw [e, if_neg (by rintro ⟨z, _⟩; exact absurd z (by decide))]
theorem sumL_nonneg {u : List IB} (h : ∀ p ∈ u, 0 ≤ p.len) : 0 ≤ sumL u := by
  induction u with
  | nil => exact Int.le_refl _
  | cons y u ih =>
    have h1 := h y List.mem_cons_self
    have h2 := ih fun z hz => h z (List.mem_cons_of_mem _ hz)
    show 0 ≤ y.len + sumL u
    omega
theorem sumL_snoc (u : List IB) (x : IB) : sumL (u ++ [x]) = sumL u + x.len := by
  unfold sumL
  rw [List.map_append, List.sum_append]
  simp
theorem Ply.fifoN {line u v : List IB} {rest : List (Int × IB)} {free : Int} {out : List (Int × IB)} (h : Ply "none" line rest free out) (hX : line = u ++ nw :: v) (hu : ∀ y ∈ u, Old y) : out.find? isN = some (free + sumL u, nw) := by
  generalize hr : ("none" : Str) = r at h
  induction h generalizing u v with
  | stop => cases u <;> cases hX
  | wake _ _ => cases u <;> cases hX
  | @recv p ps a x rest free out ha _ ih =>
    subst hr
    refine ih (u := u) (v := v ++ [x]) ?_ hu
    rw [arcv_none, hX, List.append_assoc]; rfl
  | @beg p ps rest free out hn _ ih =>
    cases u with
    | nil =>
      cases hX
      rw [List.find?_cons_of_pos (show isN (free, nw) = true from rfl)]
      show _ = some (free + 0, nw)
      rw [Int.add_zero]
    | cons p' u =>
      injection hX with h1 h2
      subst h1
      rw [find_old (hu p List.mem_cons_self), ih h2 (fun y hy => hu y (List.mem_cons_of_mem _ hy))]
      show some (free + p.len + sumL u, nw) = some (free + (p.len + sumL u), nw)
      rw [Int.add_assoc]
theorem Ply.none_at {line : List IB} {rest A Q : List (Int × IB)} {t free : Int} {out : List (Int × IB)} (h : Ply "none" line rest free out) (hR : rest = A ++ (t, nw) :: Q) (hl : ∀ y ∈ line, Old y) (hA : ∀ q ∈ A, Old q.2) (hL : LenOk line rest) :
    out.find? isN = some (max t (endQ (free + sumL line) A), nw) := by
  generalize hr : ("none" : Str) = r at h
  induction h generalizing A with
  | stop => cases A <;> cases hR
  | @wake a x rest free out hP ih =>
    subst hr
    cases A with
    | nil =>
      injection hR with h1 h2
      cases h1
      rw [hP.fifoN (u := []) (v := []) rfl (fun y hy => by cases hy)]
      show some (max free t + 0, nw) = some (max t (free + 0), nw)
      rw [Int.add_zero, Int.add_zero, Int.max_comm]
    | cons q A =>
      injection hR with h1 h2
      subst h1
      have r2 := hL.recv (r := "none")
      rw [arcv_nil] at r2
      rw [ih h2 (fun y hy => by rw [List.mem_singleton] at hy; subst hy; exact hA _ List.mem_cons_self) (fun q hq => hA q (List.mem_cons_of_mem _ hq)) r2]
      show some (max t (endQ (max free a + (x.len + 0)) A), nw) = some (max t (endQ (max (free + 0) a + x.len) A), nw)
      rw [Int.add_zero, Int.add_zero]
  | @recv p ps a x rest free out ha hP ih =>
    subst hr
    have hs : 0 ≤ sumL (p :: ps) := sumL_nonneg hL.1
    cases A with
    | nil =>
      injection hR with h1 h2
      cases h1
      rw [arcv_none] at hP
      rw [hP.fifoN (u := p :: ps) (v := []) rfl hl]
      show _ = some (max t (free + sumL (p :: ps)), nw)
      rw [Int.max_eq_right (by omega)]
    | cons q A =>
      injection hR with h1 h2
      subst h1
      rw [ih h2 (arcv_old (hA _ List.mem_cons_self) hl) (fun q hq => hA q (List.mem_cons_of_mem _ hq)) hL.recv, arcv_none, sumL_snoc]
      show _ = some (max t (endQ (max (free + sumL (p :: ps)) a + x.len) A), nw)
      rw [show max (free + sumL (p :: ps)) a = free + sumL (p :: ps) by omega, Int.add_assoc]
  | @beg p ps rest free out hn hP ih =>
    rw [find_old (hl p List.mem_cons_self), ih hR (fun y hy => hl y (List.mem_cons_of_mem _ hy)) hA hL.tail]
    show some (max t (endQ (free + p.len + sumL ps) A), nw) = some (max t (endQ (free + (p.len + sumL ps)) A), nw)
    rw [Int.add_assoc]
end DL
namespace DL
open PySem PySem.Spec PyProof.Rows L2
/-! ### begin_if -/
def bef (L : List An) (t : Int) : List An := L.filter fun x => decide (x.a ≤ t)
def ins (L : List An) (t : Int) : List An := bef L t ++ ⟨t, "", 1⟩ :: L.drop (bef L t).length
def beginIf (r : Str) (L : List An) (t : Int) : Int := match (spoken r (ins L t)).find? fun g => decide (g.c = (bef L t).length) with
  | some g => g.a
  | none => 0
theorem bef_split {t : Int} : ∀ {L : List An}, L.Pairwise (fun x y => x.a ≤ y.a) → L = bef L t ++ L.drop (bef L t).length ∧ ∀ x ∈ L.drop (bef L t).length, t < x.a
  | [], _ => ⟨rfl, fun x hx => by cases hx⟩
  | y :: L, h => by
    rw [List.pairwise_cons] at h
    by_cases hy : y.a ≤ t
    · obtain ⟨h1, h2⟩ := bef_split (t := t) h.2
      have e : bef (y :: L) t = y :: bef L t := by unfold bef; rw [List.filter_cons, if_pos (decide_eq_true hy)]
      rw [e]
      exact ⟨by rw [List.length_cons, List.drop_succ_cons, List.cons_append, ← h1], h2⟩
    · have e : bef (y :: L) t = [] := by
        unfold bef
        refine List.filter_eq_nil_iff.mpr fun x hx => ?_
        rcases List.mem_cons.mp hx with rfl | hx
        · simpa using hy
        · have := h.1 x hx
          simp; omega
      rw [e]
      refine ⟨rfl, fun x hx => ?_⟩
      rcases List.mem_cons.mp hx with rfl | hx
      · omega
      · have := h.1 x hx
        omega
def old (x : An) : Int × IB := (x.a, ⟨x.b, x.c, false⟩)
theorem range'_shift {γ : Type} (f : Nat → γ) : ∀ (n d : Nat), (List.range' (d + 1) n).map f = (List.range' d n).map fun k => f (k + 1)
  | 0, _ => rfl
  | n + 1, d => by rw [List.range'_succ, List.range'_succ, List.map_cons, List.map_cons, range'_shift f n (d + 1)]
theorem restOf_tail {β : Type} {x : An} {L : List An} {φ : Nat → β} : restOf (x :: L) φ 0 = (x.a, ⟨x.b, x.c, φ 0⟩) :: restOf L (fun k => φ (k + 1)) 0 := by
  rw [restOf_cons (by simp)]
  congr 1
  unfold restOf
  rw [List.length_cons, Nat.zero_add, Nat.add_sub_cancel, Nat.sub_zero, range'_shift]
  rfl
theorem restOf_old : ∀ L : List An, restOf L (fun _ => false) 0 = L.map old
  | [] => rfl
  | x :: L => by rw [restOf_tail, restOf_old L]; rfl
theorem restOf_ins {n0 : An} {C : List An} : ∀ A : List An, restOf (A ++ n0 :: C) (fun k => decide (k = A.length)) 0 = A.map old ++ (n0.a, ⟨n0.b, n0.c, true⟩) :: C.map old
  | [] => by
    show restOf (n0 :: C) _ 0 = _
    rw [restOf_tail]
    show _ :: restOf C (fun k => decide (k + 1 = 0)) 0 = _
    rw [show (fun k : Nat => decide (k + 1 = 0)) = fun _ => false from funext fun k => decide_eq_false (by omega), restOf_old]
    rfl
  | x :: A => by
    have ih := restOf_ins (n0 := n0) (C := C) A
    show restOf (x :: (A ++ n0 :: C)) _ 0 = _
    rw [restOf_tail]
    rw [show (fun k : Nat => decide (k + 1 = (x :: A).length)) = fun k => decide (k = A.length) from funext fun k => by rw [List.length_cons]; simp, ih]
    rw [show decide (0 = (x :: A).length) = false from decide_eq_false (by rw [List.length_cons]; omega)]
    rfl
theorem ins_plog {L : List An} {t : Int} (h : VLog L) (h0 : 0 ≤ t) (h1 : t ≤ 10000) : PLog (ins L t) := by
  obtain ⟨e, hC⟩ := bef_split (t := t) h.ord
  have hsub : ∀ x ∈ bef L t, x ∈ L ∧ x.a ≤ t := fun x hx => by
    have := List.mem_filter.mp hx
    exact ⟨this.1, of_decide_eq_true this.2⟩
  have hmem : ∀ x ∈ ins L t, x ∈ L ∨ x = ⟨t, "", 1⟩ := fun x hx => by
    rcases List.mem_append.mp hx with hx | hx
    · exact .inl (hsub x hx).1
    · rcases List.mem_cons.mp hx with hx | hx
      · exact .inr hx
      · exact .inl (List.mem_of_mem_drop hx)
  refine ⟨?_, fun x hx => ?_, fun x hx => ?_, ?_⟩
  · have hl := congrArg List.length e
    have := h.len
    unfold ins
    rw [List.length_append] at hl ⊢
    rw [List.length_cons]
    omega
  · rcases hmem x hx with hx | rfl
    · exact ⟨(h.ann x hx).1, (h.ann x hx).2.1⟩
    · exact ⟨h0, h1⟩
  · rcases hmem x hx with hx | rfl
    · exact ⟨(h.ann x hx).2.2.2.1, (h.ann x hx).2.2.2.2⟩
    · exact ⟨show (1 : Int) ≤ 1 by decide, show (1 : Int) ≤ 99 by decide⟩
  · have ho := h.ord
    rw [e, List.pairwise_append] at ho
    unfold ins
    refine List.pairwise_append.mpr ⟨ho.1, List.pairwise_cons.mpr ⟨fun x hx => Int.le_of_lt (hC x hx), ho.2.1⟩, fun x hx y hy => ?_⟩
    rcases List.mem_cons.mp hy with rfl | hy
    · exact (hsub x hx).2
    · exact ho.2.2 x hx y hy
theorem topic_ne {z : Str} (h : topicS z = true) : z ≠ "" := by
  rintro rfl
  exact absurd h (by decide +kernel)
theorem old_ok {L : List An} (h : VLog L) : ∀ q ∈ L.map old, Old q.2 := fun q hq => by
  obtain ⟨x, hx, rfl⟩ := List.mem_map.mp hq
  exact ⟨topic_ne (h.ann x hx).2.2.1, rfl⟩
theorem bef_sub (L : List An) (t : Int) : (bef L t).Sublist L := List.filter_sublist
theorem begin_find {r : Str} {L : List An} {t : Int} (h : VLog L) (h0 : 0 ≤ t) (h1 : t ≤ 10000) : ∃ g, (spoken r (ins L t)).find? (fun g => decide (g.c = (bef L t).length)) = some g ∧ g.a = beginIf r L t ∧
    ∃ out p, Ply r [] ((bef L t).map old ++ (t, nw) :: (L.drop (bef L t).length).map old) 0 out ∧ out.find? isN = some (beginIf r L t, p) := by
  have hP := ins_plog h h0 h1
  have hlt : (bef L t).length < (ins L t).length := by unfold ins; rw [List.length_append, List.length_cons]; omega
  have e0 : topAt (ins L t) (bef L t).length = "" := by
    unfold topAt ins
    rw [List.getElem?_append_right (Nat.le_refl _), Nat.sub_self]
    rfl
  have hlast : ∀ i, (bef L t).length < i → i < (ins L t).length → topAt (ins L t) i ≠ topAt (ins L t) (bef L t).length := by
    intro i hi hl
    rw [e0, topAt_get hl]
    have e : (ins L t)[i]? = (L.drop (bef L t).length)[i - (bef L t).length - 1]? := by
      unfold ins
      rw [List.getElem?_append_right (by omega), show i - (bef L t).length = (i - (bef L t).length - 1) + 1 by omega, List.getElem?_cons_succ]
      rfl
    rw [List.getElem?_eq_getElem hl] at e
    exact topic_ne (h.ann _ (List.mem_of_mem_drop (List.mem_of_getElem? e.symm))).2.2.1
  obtain ⟨g0, hg0, eg0⟩ := (run_spokenP (r := r) hP).heard hlt hlast (.inl (Nat.zero_le _))
  have hsome : (spoken r (ins L t)).find? (fun g => decide (g.c = (bef L t).length)) ≠ none := fun z => by
    have := List.find?_eq_none.mp z g0 hg0
    simp [eg0] at this
  obtain ⟨g, hg⟩ := Option.ne_none_iff_exists'.mp hsome
  have eb : g.a = beginIf r L t := by unfold beginIf; rw [hg]
  refine ⟨g, hg, eb, (spoken r (ins L t)).map fun g => (g.a, itm (ins L t) (fun k => decide (k = (bef L t).length)) g.c), itm (ins L t) (fun k => decide (k = (bef L t).length)) g.c, ?_, ?_⟩
  · have := (run_spokenP (r := r) hP).ply (fun k => decide (k = (bef L t).length)) (.inr .nil)
    have e : restOf (ins L t) (fun k => decide (k = (bef L t).length)) 0 = (bef L t).map old ++ (t, nw) :: (L.drop (bef L t).length).map old := restOf_ins (bef L t)
    rw [e] at this
    exact this
  · rw [List.find?_map]
    have : (isN ∘ fun g : Bg => (g.a, itm (ins L t) (fun k => decide (k = (bef L t).length)) g.c)) = fun g => decide (g.c = (bef L t).length) := rfl
    rw [this, hg]
    show some (g.a, _) = _
    rw [eb]
theorem lenOk_old {L M : List An} {t : Int} (h : VLog L) (h' : VLog M) : LenOk [] (L.map old ++ (t, nw) :: M.map old) := ⟨fun p hp => (by cases hp), fun q hq => by
  rcases List.mem_append.mp hq with hq | hq
  · obtain ⟨x, hx, rfl⟩ := List.mem_map.mp hq
    have := (h.ann x hx).2.2.2.1
    show 0 ≤ x.c
    omega
  · rcases List.mem_cons.mp hq with rfl | hq
    · exact (by decide : (0 : Int) ≤ 1)
    · obtain ⟨x, hx, rfl⟩ := List.mem_map.mp hq
      have := (h'.ann x hx).2.2.2.1
      show 0 ≤ x.c
      omega⟩
theorem begin_after {r : Str} {L : List An} {t : Int} (h : VLog L) (h0 : 0 ≤ t) (h1 : t ≤ 10000) : t ≤ beginIf r L t := by
  obtain ⟨g, _, _, out, p, hP, hf⟩ := begin_find (r := r) h h0 h1
  exact hP.after rfl (fun y hy => by cases hy) (old_ok (h.sub (bef_sub L t))) (lenOk_old (h.sub (bef_sub L t)) (h.sub (List.drop_sublist _ _))) hf
theorem begin_mono {r : Str} {L : List An} {t t' : Int} (h : VLog L) (h0 : 0 ≤ t) (htt : t ≤ t') (h1 : t' ≤ 10000) : beginIf r L t ≤ beginIf r L t' := by
  obtain ⟨g, _, _, out, p, hP, hf⟩ := begin_find (r := r) h h0 (Int.le_trans htt h1)
  obtain ⟨g', _, _, out', p', hP', hf'⟩ := begin_find (r := r) h (Int.le_trans h0 htt) h1
  obtain ⟨e, hC⟩ := bef_split (t := t) h.ord
  generalize hD : L.drop (bef L t).length = D at e hC hP
  have hDs : D.Sublist L := by rw [← hD]; exact List.drop_sublist _ _
  have hDv := h.sub hDs
  obtain ⟨e2, hC2⟩ := bef_split (t := t') hDv.ord
  have eb : bef L t' = bef L t ++ bef D t' := by
    conv => lhs; rw [e]
    show List.filter _ (_ ++ _) = _
    rw [List.filter_append]
    congr 1
    refine List.filter_eq_self.mpr fun x hx => ?_
    have := of_decide_eq_true (List.mem_filter.mp hx).2
    simp; omega
  have ed : L.drop (bef L t').length = D.drop (bef D t').length := by
    rw [eb, List.length_append]
    generalize bef D t' = B
    generalize bef L t = A at e
    subst e
    rw [List.drop_append, List.drop_of_length_le (by omega), List.nil_append, Nat.add_sub_cancel_left]
  rw [ed, eb, List.map_append, List.append_assoc] at hP'
  generalize hBd : bef D t' = B at *
  generalize hCd : D.drop B.length = C at *
  rw [e2, List.map_append] at hP
  have hBv : VLog B := by rw [← hBd]; exact hDv.sub (bef_sub D t')
  have hCv : VLog C := by rw [← hCd]; exact hDv.sub (List.drop_sublist _ _)
  have hAv := h.sub (bef_sub L t)
  refine hP.mono1 (A := (bef L t).map old) (B := B.map old) (C := C.map old) (t := t) (t' := t') rfl hP' (fun y hy => by cases hy) (old_ok hAv) (old_ok hBv) (old_ok hCv) (fun q hq => ?_) htt (fun q hq => ?_) ?_ hf hf'
  · obtain ⟨x, hx, rfl⟩ := List.mem_map.mp hq
    exact Int.le_of_lt (hC x (by rw [e2]; exact List.mem_append_left _ hx))
  · obtain ⟨x, hx, rfl⟩ := List.mem_map.mp hq
    exact Int.le_of_lt (hC2 x hx)
  · refine ⟨fun p hp => (by cases hp), fun q hq => ?_⟩
    rcases List.mem_append.mp hq with hq | hq
    · obtain ⟨x, hx, rfl⟩ := List.mem_map.mp hq
      have := (hAv.ann x hx).2.2.2.1
      show 0 ≤ x.c
      omega
    · exact (lenOk_old hBv hCv).2 q hq
def lawEnd (L : List An) : Int := L.foldl (fun e x => max e x.a + x.c) 0
theorem begin_none {L : List An} {t : Int} (h : VLog L) (h0 : 0 ≤ t) (h1 : t ≤ 10000) : beginIf "none" L t = max t (lawEnd (bef L t)) := by
  obtain ⟨g, _, _, out, p, hP, hf⟩ := begin_find (r := "none") h h0 h1
  have := hP.none_at rfl (fun y hy => by cases hy) (old_ok (h.sub (bef_sub L t))) (lenOk_old (h.sub (bef_sub L t)) (h.sub (List.drop_sublist _ _)))
  rw [hf] at this
  have e := congrArg Prod.fst (Option.some.inj this)
  show (beginIf "none" L t, p).1 = _
  rw [e]
  show max t (endQ (0 + 0) ((bef L t).map old)) = _
  unfold endQ lawEnd
  rw [List.foldl_map]
  rfl
theorem begin_none_bef {L : List An} {t : Int} (h : VLog L) (h0 : 0 ≤ t) (h1 : t ≤ 10000) : beginIf "none" (bef L t) t = beginIf "none" L t := by
  rw [begin_none h h0 h1, begin_none (h.sub (bef_sub L t)) h0 h1]
  have : bef (bef L t) t = bef L t := by
    show List.filter _ (List.filter _ _) = _
    rw [List.filter_filter]
    unfold bef
    simp
  rw [this]
end DL
namespace DL
open PySem PySem.Spec PyProof.Rows L2
/-! ### leaving out, by the rule end -/
section
variable {β : Type}
theorem Ply.uniq {r : Str} {line : List (It β)} {rest : List (Int × It β)} {free : Int} {o o' : List (Int × It β)} (h : Ply r line rest free o) (h' : Ply r line rest free o') : o = o' := by
  induction h generalizing o' with
  | stop => cases h'; rfl
  | wake _ ih => exact ih h'.inv_wake
  | recv ha _ ih => exact ih (h'.inv_recv (by simp) ha)
  | beg hn _ ih =>
    obtain ⟨o2, e, h2⟩ := h'.inv_beg hn
    rw [e, ih h2]
theorem Ply.mem_out {r : Str} {line : List (It β)} {rest : List (Int × It β)} {free : Int} {out : List (Int × It β)} (h : Ply r line rest free out) : ∀ q ∈ out, q.2 ∈ line ∨ q.2 ∈ rest.map Prod.snd := by
  induction h with
  | stop => exact fun q hq => by cases hq
  | @wake a x rest free out _ ih =>
    intro q hq
    rcases ih q hq with z | z
    · rw [List.mem_singleton] at z; rw [z]; exact .inr List.mem_cons_self
    · exact .inr (List.mem_cons_of_mem _ z)
  | @recv p ps a x rest free out ha _ ih =>
    intro q hq
    rcases ih q hq with z | z
    · rcases arcv_mem z with z | z
      · rw [z]; exact .inr List.mem_cons_self
      · exact .inl z
    · exact .inr (List.mem_cons_of_mem _ z)
  | @beg p ps rest free out hn _ ih =>
    intro q hq
    rcases List.mem_cons.mp hq with rfl | hq
    · exact .inl List.mem_cons_self
    · exact (ih q hq).imp (List.mem_cons_of_mem _) id
/-- the times of what comes are in order -/
def TimesUp (rest : List (Int × It β)) : Prop := rest.Pairwise fun p q => p.1 ≤ q.1
theorem head_gt {rest : List (Int × It β)} {free : Int} (h : TimesUp rest) (hn : ∀ a x t, rest = (a, x) :: t → free < a) {f : Int × It β → Bool} : ∀ a x t, rest.filter f = (a, x) :: t → free < a := by
  intro a x t e
  cases rest with
  | nil => cases e
  | cons q s =>
    have h1 := hn q.1 q.2 s rfl
    have hm : (a, x) ∈ q :: s := (List.mem_filter.mp (by rw [e]; exact List.mem_cons_self : (a, x) ∈ (q :: s).filter f)).1
    rcases List.mem_cons.mp hm with z | z
    · rw [← z] at h1; exact h1
    · have := (List.pairwise_cons.mp h).1 _ z
      exact Int.lt_of_lt_of_le h1 this
theorem Ply.later {r : Str} {rest : List (Int × It β)} {free a : Int} {out : List (Int × It β)} (h : Ply r [] rest (max free a) out) (hr : ∀ q ∈ rest, a ≤ q.1) : Ply r [] rest free out := by
  cases h with
  | stop => exact .stop
  | @wake b x rest _ _ h =>
    have hb : a ≤ b := hr (b, x) List.mem_cons_self
    rw [show max (max free a) b = max free b by omega] at h
    exact .wake h
theorem arcv_end {line : List (It β)} {x : It β} : arcv "end" line x = line.filter (fun y => decide (y.top ≠ x.top)) ++ [x] := by
  have e : line.flatMap (itH "end" x) = line.filter fun y => decide (y.top ≠ x.top) := by
    induction line with
    | nil => rfl
    | cons y l ih =>
      rw [List.flatMap_cons, ih, List.filter_cons]
      unfold itH
      by_cases hy : y.top = x.top
      · rw [if_neg (by rintro (z | z); exact absurd z (by decide); exact z hy), if_neg (by decide)]
        rw [if_neg (by simpa using hy)]
        rfl
      · rw [if_pos (.inr hy), if_pos (by simpa using hy)]
        rfl
  unfold arcv itT
  rw [e, if_neg (by rintro ⟨z, _⟩; exact absurd z (by decide))]
theorem inj_nodup {γ δ : Type} {f : γ → δ} : ∀ {l : List γ}, (l.map f).Nodup → ∀ {a b : γ}, a ∈ l → b ∈ l → f a = f b → a = b
  | [], _, _, _, ha, _, _ => by cases ha
  | c :: l, hn, a, b, ha, hb, e => by
    rw [List.map_cons, List.nodup_cons] at hn
    rcases List.mem_cons.mp ha with ea | ha2
    · rcases List.mem_cons.mp hb with eb | hb2
      · rw [ea, eb]
      · exact absurd (List.mem_map.mpr ⟨b, hb2, by rw [← e, ea]⟩) hn.1
    · rcases List.mem_cons.mp hb with eb | hb2
      · exact absurd (List.mem_map.mpr ⟨a, ha2, by rw [e, eb]⟩) hn.1
      · exact inj_nodup hn.2 ha2 hb2 e
/-- without what is never heard it is spoken alike -/
theorem Ply.end_less {line : List (It Nat)} {rest : List (Int × It Nat)} {free : Int} {out : List (Int × It Nat)} (h : Ply "end" line rest free out) (H : It Nat → Bool) (hN : (line.map (fun y => y.pay) ++ rest.map fun q => q.2.pay).Nodup) (hT : TimesUp rest)
    (hH : ∀ y, y ∈ line ∨ y ∈ rest.map Prod.snd → (H y = true ↔ ∃ q ∈ out, q.2.pay = y.pay)) : Ply "end" (line.filter H) (rest.filter fun q => H q.2) free out := by
  generalize hr : ("end" : Str) = r at h
  induction h with
  | stop => subst hr; exact .stop
  | @wake a x rest free out hP ih =>
    subst hr
    have hT2 := (List.pairwise_cons.mp hT)
    have ih := ih (by simpa using hN) hT2.2 (fun y hy => hH y (hy.elim (fun z => by rw [List.mem_singleton] at z; rw [z]; exact .inr List.mem_cons_self) fun z => .inr (List.mem_cons_of_mem _ z)))
    rw [List.filter_nil, List.filter_cons]
    cases hx : H x with
    | true =>
      rw [List.filter_cons, hx, if_pos rfl, List.filter_nil] at ih
      rw [if_pos rfl]
      exact .wake ih
    | false =>
      rw [List.filter_cons, hx, if_neg (by decide), List.filter_nil] at ih
      rw [if_neg (by decide)]
      exact ih.later fun q hq => hT2.1 q (List.mem_filter.mp hq).1
  | @recv p ps a x rest free out ha hP ih =>
    subst hr
    have hT2 := (List.pairwise_cons.mp hT)
    have hN' := hN
    rw [List.nodup_append] at hN'
    obtain ⟨n1, n2, n3⟩ := hN'
    rw [List.map_cons, List.nodup_cons] at n2
    have nx : ∀ y ∈ p :: ps, y.pay ≠ x.pay := fun y hy => n3 y.pay (List.mem_map.mpr ⟨y, hy, rfl⟩) x.pay List.mem_cons_self
    have ih := ih (by
      rw [arcv_end, List.map_append, List.append_assoc, List.nodup_append]
      refine ⟨List.Sublist.nodup (List.filter_sublist.map _) n1, ?_, fun u hu v hv => ?_⟩
      · show (x.pay :: rest.map fun q => q.2.pay).Nodup
        rw [List.nodup_cons]; exact n2
      · obtain ⟨y, hy, rfl⟩ := List.mem_map.mp hu
        exact n3 y.pay (List.mem_map.mpr ⟨y, (List.mem_filter.mp hy).1, rfl⟩) v (by simpa using hv)) hT2.2 (fun y hy => hH y (hy.elim (fun z => (arcv_mem z).elim (fun z => by rw [z]; exact .inr List.mem_cons_self) .inl) fun z => .inr (List.mem_cons_of_mem _ z)))
    rw [arcv_end, List.filter_append, List.filter_filter] at ih
    rw [List.filter_cons (xs := rest) (x := (a, x))]
    cases hx : H x with
    | true =>
      rw [if_pos rfl]
      have e : ((p :: ps).filter fun y => H y && decide (y.top ≠ x.top)) ++ [x].filter H = arcv "end" ((p :: ps).filter H) x := by
        have ex : [x].filter H = [x] := by rw [List.filter_cons, hx]; rfl
        rw [arcv_end, List.filter_filter, ex]
        congr 1
        exact List.filter_congr fun y _ => Bool.and_comm _ _
      rw [e] at ih
      cases hl : (p :: ps).filter H with
      | nil =>
        rw [hl, arcv_nil] at ih
        refine .wake ?_
        rw [show max free a = free by omega]
        exact ih
      | cons y l =>
        rw [hl] at ih
        exact .recv ha ih
    | false =>
      rw [if_neg (by decide)]
      have e : ((p :: ps).filter fun y => H y && decide (y.top ≠ x.top)) ++ [x].filter H = (p :: ps).filter H := by
        rw [List.filter_cons (xs := []), hx, if_neg (by decide), List.filter_nil, List.append_nil]
        refine List.filter_congr fun y hy => ?_
        cases hHy : H y with
        | false => rfl
        | true =>
          show decide (y.top ≠ x.top) = true
          refine decide_eq_true fun et => ?_
          obtain ⟨q, hq, eq⟩ := (hH y (.inl hy)).mp hHy
          rcases hP.mem_out q hq with z | z
          · rw [arcv_end] at z
            rcases List.mem_append.mp z with z | z
            · have hz := List.mem_filter.mp z
              have : q.2 = y := inj_nodup n1 hz.1 hy eq
              rw [this] at hz
              exact (of_decide_eq_true hz.2) et
            · rw [List.mem_singleton] at z
              rw [z] at eq
              exact nx y hy eq.symm
          · obtain ⟨q', hq', eq'⟩ := List.mem_map.mp z
            refine n3 y.pay (List.mem_map.mpr ⟨y, hy, rfl⟩) y.pay (List.mem_cons_of_mem _ (List.mem_map.mpr ⟨q', hq', ?_⟩)) rfl
            rw [eq', eq]
      rw [e] at ih
      exact ih
  | @beg p ps rest free out hn hP ih =>
    subst hr
    have hp : H p = true := (hH p (.inl List.mem_cons_self)).mpr ⟨_, List.mem_cons_self, rfl⟩
    rw [List.filter_cons, hp, if_pos rfl]
    rw [List.map_cons, List.cons_append, List.nodup_cons] at hN
    refine .beg (head_gt hT hn) (ih hN.2 hT fun y hy => ?_)
    have hne : p.pay ≠ y.pay := fun e => hN.1 (by
      rw [e]
      rcases hy with z | z
      · exact List.mem_append_left _ (List.mem_map.mpr ⟨y, z, rfl⟩)
      · obtain ⟨q, hq, e2⟩ := List.mem_map.mp z
        exact List.mem_append_right _ (List.mem_map.mpr ⟨q, hq, by rw [e2]⟩))
    rw [hH y (hy.imp (List.mem_cons_of_mem _) id)]
    refine ⟨fun ⟨q, hq, e⟩ => ?_, fun ⟨q, hq, e⟩ => ⟨q, List.mem_cons_of_mem _ hq, e⟩⟩
    rcases List.mem_cons.mp hq with rfl | hq
    · exact absurd e hne
    · exact ⟨q, hq, e⟩
end
end DL
namespace DL
open PySem PySem.Spec PyProof.Rows L2
/-! ### the rule place, with the first ones -/
abbrev Ent := It Nat × Nat
def arcF (line : List Ent) (x : It Nat) : List Ent := if line.any (fun y => decide (y.1.top = x.top)) = true then line.map (fun y => if y.1.top = x.top then (x, y.2) else y) else line ++ [(x, x.pay)]
inductive PlyF : List Ent → List (Int × It Nat) → Int → List (Int × Ent) → Prop
  | stop {free : Int} : PlyF [] [] free []
  | wake {a : Int} {x : It Nat} {rest : List (Int × It Nat)} {free : Int} {out : List (Int × Ent)} : PlyF [(x, x.pay)] rest (max free a) out → PlyF [] ((a, x) :: rest) free out
  | recv {p : Ent} {ps : List Ent} {a : Int} {x : It Nat} {rest : List (Int × It Nat)} {free : Int} {out : List (Int × Ent)} : a ≤ free → PlyF (arcF (p :: ps) x) rest free out → PlyF (p :: ps) ((a, x) :: rest) free out
  | beg {p : Ent} {ps : List Ent} {rest : List (Int × It Nat)} {free : Int} {out : List (Int × Ent)} : (∀ a x t, rest = (a, x) :: t → free < a) → PlyF ps rest (free + p.1.len) out → PlyF (p :: ps) rest free ((free, p) :: out)
def enOf (L : List An) (p : Pr) : Ent := (itm L id p.b, p.a)
theorem any_mt {L : List An} {k : Nat} : ∀ line : List Pr, (line.map (enOf L)).any (fun y => decide (y.1.top = (itm L id k).top)) = line.any (mt L k)
  | [] => rfl
  | p :: ps => by rw [List.map_cons, List.any_cons, List.any_cons, any_mt ps]; rfl
theorem arcF_rcv {L : List An} {line : List Pr} {k : Nat} (hd : Dist "place" L line) : (rcv "place" L line k).map (enOf L) = arcF (line.map (enOf L)) (itm L id k) := by
  rw [← lrcv_eq hd]
  have hf : lfound "place" L k line = line.map fun p => if mt L k p then (⟨p.a, k⟩ : Pr) else p := by unfold lfound; rw [if_neg (by decide), if_pos rfl]
  unfold arcF
  rw [any_mt]
  unfold lrcv lren
  rw [if_neg (by decide), hf]
  cases hq : line.filter (mt L k) with
  | nil =>
    have hno : ∀ p ∈ line, mt L k p = false := fun p hp => by
      have := List.filter_eq_nil_iff.mp hq p hp
      simpa using this
    have ha : line.any (mt L k) = false := List.any_eq_false.mpr fun p hp => by rw [hno p hp]; decide
    rw [if_neg (by rw [ha]; decide)]
    show ((line.map _) ++ [(⟨k, k⟩ : Pr)]).map _ = _
    have e : (line.map fun p => if mt L k p then (⟨p.a, k⟩ : Pr) else p) = line := by
      conv => rhs; rw [← List.map_id line]
      exact List.map_congr_left fun p hp => by rw [hno p hp]; rfl
    rw [e, List.map_append]
    rfl
  | cons q qs =>
    have ha : line.any (mt L k) = true := by
      rw [List.any_eq_true]
      have := List.mem_filter.mp (by rw [hq]; exact List.mem_cons_self : q ∈ line.filter (mt L k))
      exact ⟨q, this.1, this.2⟩
    rw [if_pos ha]
    obtain ⟨z, hz⟩ : ∃ z, (q :: qs).getLast? = some z := ⟨_, List.getLast?_eq_some_getLast (by simp)⟩
    rw [hz]
    show (if ("place" : Str) = "place" then (line.map fun p => if mt L k p then (⟨p.a, k⟩ : Pr) else p) else (line.map fun p => if mt L k p then (⟨p.a, k⟩ : Pr) else p) ++ [(⟨z.a, k⟩ : Pr)]).map _ = _
    rw [if_pos rfl, List.map_map, List.map_map]
    refine List.map_congr_left fun p _ => ?_
    show enOf L (if mt L k p then (⟨p.a, k⟩ : Pr) else p) = if topAt L p.b = topAt L k then _ else _
    by_cases hm : topAt L p.b = topAt L k
    · have em : mt L k p = true := decide_eq_true hm
      rw [if_pos hm, em]; rfl
    · have em : mt L k p = false := decide_eq_false hm
      rw [if_neg hm, em]; rfl
theorem plyF_rcvAll {L : List An} {now : Int} {out : List (Int × Ent)} : ∀ (n : Nat) {line : List Pr} {done : Nat}, L.length - done = n → line ≠ [] → Dist "place" L line →
    PlyF ((rcvAll "place" L now line done).1.map (enOf L)) (restOf L id (rcvAll "place" L now line done).2) now out → PlyF (line.map (enOf L)) (restOf L id done) now out
  | 0, line, done, h, hl, hd, hp => by rw [rcvAll_stop (fun z => by omega)] at hp; exact hp
  | n + 1, line, done, h, hl, hd, hp => by
    by_cases hc : done < L.length ∧ timAt L done ≤ now
    · rw [rcvAll_go hc.1 hc.2] at hp
      have := plyF_rcvAll n (by omega) (rcv_ne "place" L line done) (hd.rcv _) hp
      rw [restOf_cons hc.1]
      cases line with
      | nil => exact absurd rfl hl
      | cons p ps =>
        rw [arcF_rcv hd] at this
        exact .recv hc.2 this
    · rw [rcvAll_stop hc] at hp; exact hp
theorem Run.plyF {L : List An} {line : List Pr} {done : Nat} {free : Int} {gs : List Bg} (h : Run "place" L line done free gs) (hd : Dist "place" L line) : PlyF (line.map (enOf L)) (restOf L id done) free (gs.map fun g => (g.a, (itm L id g.c, g.b))) := by
  generalize hr : ("place" : Str) = r at h
  induction h with
  | stop z => rw [restOf_end z]; exact .stop
  | @step line done free p ps d gs hz e _ ih =>
    subst hr
    have hdd := rcvAll_dist (now := nowOf L line done free) (done := done) hd
    rw [e] at hdd
    have hnx := rcvAll_next (r := "place") (L := L) (a := nowOf L line done free) (line := line) (done := done) _ rfl
    rw [e] at hnx
    have hb : PlyF ((p :: ps).map (enOf L)) (restOf L id d) (nowOf L line done free) ((nowOf L line done free, (itm L id p.b, p.a)) :: gs.map fun g => (g.a, (itm L id g.c, g.b))) := by
      refine .beg (fun a x t eq => ?_) (ih hdd.tail)
      by_cases hdl : d < L.length
      · rw [restOf_cons hdl] at eq
        cases eq
        exact Int.not_le.mp fun q => hnx ⟨hdl, q⟩
      · rw [restOf_end hdl] at eq
        cases eq
    rw [List.map_cons]
    show PlyF _ _ _ ((nowOf L line done free, (itm L id p.b, p.a)) :: _)
    by_cases hln : line = []
    · subst hln
      have hdl : done < L.length := Classical.byContradiction fun q => hz ⟨rfl, q⟩
      have en : nowOf L [] done free = max free (timAt L done) := by unfold nowOf; rw [if_neg (by simp)]
      rw [en] at hb e ⊢
      rw [rcvAll_go hdl (by omega)] at e
      have e1 : rcv "place" L [] done = [⟨done, done⟩] := by unfold rcv; rfl
      rw [e1] at e
      rw [restOf_cons hdl]
      refine .wake ?_
      exact plyF_rcvAll (now := max free (timAt L done)) (line := [⟨done, done⟩]) (done := done + 1) (out := _) _ rfl (by simp) (.inr (by simp)) (by rw [e]; exact hb)
    · have en : nowOf L line done free = free := by unfold nowOf; rw [if_pos hln]
      rw [en] at hb e ⊢
      exact plyF_rcvAll _ rfl hln hd (by rw [e]; exact hb)
theorem PlyF.firsts {line : List Ent} {rest : List (Int × It Nat)} {free : Int} {out : List (Int × Ent)} (h : PlyF line rest free out) : ∀ y ∈ line, ∃ q ∈ out, q.2.2 = y.2 := by
  induction h with
  | stop => exact fun y hy => by cases hy
  | wake _ _ => exact fun y hy => by cases hy
  | @recv p ps a x rest free out ha _ ih =>
    intro y hy
    unfold arcF at ih
    split at ih
    · have := ih (if y.1.top = x.top then (x, y.2) else y) (List.mem_map.mpr ⟨y, hy, rfl⟩)
      obtain ⟨q, hq, e⟩ := this
      refine ⟨q, hq, ?_⟩
      rw [e]; split <;> rfl
    · exact ih y (List.mem_append_left _ hy)
  | @beg p ps rest free out hn _ ih =>
    intro y hy
    rcases List.mem_cons.mp hy with rfl | hy
    · exact ⟨_, List.mem_cons_self, rfl⟩
    · obtain ⟨q, hq, e⟩ := ih y hy
      exact ⟨q, List.mem_cons_of_mem _ hq, e⟩
section
variable {β : Type}
theorem arcv_place {line : List (It β)} {x : It β} : arcv "place" line x = if line.any (fun y => decide (y.top = x.top)) = true then line.map (fun y => if y.top = x.top then x else y) else line ++ [x] := by
  have e : line.flatMap (itH "place" x) = line.map fun y => if y.top = x.top then x else y := by
    induction line with
    | nil => rfl
    | cons y l ih =>
      rw [List.flatMap_cons, ih, List.map_cons]
      unfold itH
      by_cases hy : y.top = x.top
      · rw [if_neg (by rintro (z | z); exact absurd z (by decide); exact z hy), if_pos rfl, if_pos hy]; rfl
      · rw [if_pos (.inr hy), if_neg hy]; rfl
  unfold arcv itT
  rw [e]
  cases ha : line.any fun y => decide (y.top = x.top) with
  | true => rw [if_pos ⟨rfl, rfl⟩, if_pos rfl, List.append_nil]
  | false =>
    rw [if_neg (by rintro ⟨_, z⟩; cases z), if_neg (by decide)]
    congr 1
    conv => rhs; rw [← List.map_id line]
    refine List.map_congr_left fun y hy => ?_
    have := List.any_eq_false.mp ha y hy
    rw [if_neg (fun z => this (decide_eq_true z))]; rfl
end
/-- without what is neither first nor last for a begin -/
theorem PlyF.less {line : List Ent} {rest : List (Int × It Nat)} {free : Int} {out : List (Int × Ent)} (h : PlyF line rest free out) (keep : Nat → Bool) {W : List (Ent × It Nat)} (hW : line = W.map Prod.fst) (hR : ∀ w ∈ W, w.2.top = w.1.1.top ∧ (keep w.1.1.pay = true → w.2 = w.1.1)) (hT : TimesUp rest)
    (hk : ∀ q ∈ out, keep q.2.1.pay = true ∧ keep q.2.2 = true) : Ply "place" (W.map Prod.snd) (rest.filter fun q => keep q.2.pay) free (out.map fun q => (q.1, q.2.1)) := by
  induction h generalizing W with
  | stop =>
    cases W with
    | nil => exact .stop
    | cons w W => cases hW
  | @wake a x rest free out hP ih =>
    cases W with
    | cons w W => cases hW
    | nil =>
      obtain ⟨q, hq, e⟩ := hP.firsts _ List.mem_cons_self
      have hx : keep x.pay = true := by have := (hk q hq).2; rw [e] at this; exact this
      have := ih (W := [((x, x.pay), x)]) rfl (fun w hw => by rw [List.mem_singleton] at hw; subst hw; exact ⟨rfl, fun _ => rfl⟩) (List.pairwise_cons.mp hT).2 hk
      rw [List.filter_cons, if_pos hx]
      exact .wake this
  | @recv p ps a x rest free out ha hP ih =>
    have hT2 := (List.pairwise_cons.mp hT).2
    have hW0 : W ≠ [] := by rintro rfl; cases hW
    have any_eq : (W.map Prod.snd).any (fun y => decide (y.top = x.top)) = (p :: ps).any fun y => decide (y.1.top = x.top) := by
      rw [hW, List.any_map, List.any_map]
      have : ∀ w ∈ W, ((fun y : It Nat => decide (y.top = x.top)) ∘ Prod.snd) w = ((fun y : Ent => decide (y.1.top = x.top)) ∘ Prod.fst) w := fun w hw => by
        show decide (w.2.top = x.top) = decide (w.1.1.top = x.top)
        rw [(hR w hw).1]
      induction W with
      | nil => rfl
      | cons w W ihW =>
        clear ih hP ihW hW hW0
        rw [Bool.eq_iff_iff, List.any_eq_true, List.any_eq_true]
        exact ⟨fun ⟨z, hz, e⟩ => ⟨z, hz, (this z hz).symm.trans e⟩, fun ⟨z, hz, e⟩ => ⟨z, hz, (this z hz).trans e⟩⟩
    have cons_snd : ∀ {l : List (Ent × It Nat)}, l ≠ [] → ∃ y ys, l.map Prod.snd = y :: ys := fun {l} hl => by
      cases l with
      | nil => exact absurd rfl hl
      | cons w l => exact ⟨_, _, rfl⟩
    obtain ⟨y0, ys0, hy0⟩ := cons_snd hW0
    unfold arcF at hP ih
    cases hany : (p :: ps).any fun y => decide (y.1.top = x.top) with
    | true =>
      rw [if_pos hany] at hP ih
      cases hx : keep x.pay with
      | true =>
        have := ih (W := W.map fun w => if w.1.1.top = x.top then ((x, w.1.2), x) else w) (by
          rw [hW, List.map_map, List.map_map]
          refine List.map_congr_left fun w _ => ?_
          show (if w.1.1.top = x.top then _ else _) = (if w.1.1.top = x.top then _ else _ : Ent × It Nat).1
          split <;> rfl) (fun w hw => by
          obtain ⟨w', hw', rfl⟩ := List.mem_map.mp hw
          split
          · exact ⟨rfl, fun _ => rfl⟩
          · exact hR w' hw') hT2 hk
        rw [List.filter_cons, if_pos hx]
        rw [hy0]
        refine .recv ha ?_
        rw [← hy0, arcv_place, if_pos (any_eq.trans hany)]
        have e : (W.map fun w => if w.1.1.top = x.top then ((x, w.1.2), x) else w).map Prod.snd = (W.map Prod.snd).map fun y => if y.top = x.top then x else y := by
          rw [List.map_map, List.map_map]
          refine List.map_congr_left fun w hw => ?_
          show (if w.1.1.top = x.top then _ else _ : Ent × It Nat).2 = if w.2.top = x.top then x else w.2
          rw [(hR w hw).1]
          split <;> rfl
        rw [← e]
        exact this
      | false =>
        have := ih (W := W.map fun w => if w.1.1.top = x.top then ((x, w.1.2), w.2) else w) (by
          rw [hW, List.map_map, List.map_map]
          refine List.map_congr_left fun w _ => ?_
          show (if w.1.1.top = x.top then _ else _) = (if w.1.1.top = x.top then _ else _ : Ent × It Nat).1
          split <;> rfl) (fun w hw => by
          obtain ⟨w', hw', rfl⟩ := List.mem_map.mp hw
          split
          · rename_i ht
            exact ⟨(hR w' hw').1.trans ht, fun z => by rw [hx] at z; cases z⟩
          · exact hR w' hw') hT2 hk
        rw [List.filter_cons, if_neg (by rw [hx]; decide)]
        have e : (W.map fun w => if w.1.1.top = x.top then ((x, w.1.2), w.2) else w).map Prod.snd = W.map Prod.snd := by
          rw [List.map_map]
          refine List.map_congr_left fun w hw => ?_
          show (if w.1.1.top = x.top then _ else _ : Ent × It Nat).2 = w.2
          split <;> rfl
        rw [e] at this
        exact this
    | false =>
      rw [if_neg (by rw [hany]; decide)] at hP ih
      obtain ⟨q, hq, e⟩ := hP.firsts (x, x.pay) (List.mem_append_right _ List.mem_cons_self)
      have hx : keep x.pay = true := by have := (hk q hq).2; rw [e] at this; exact this
      have := ih (W := W ++ [((x, x.pay), x)]) (by rw [hW, List.map_append]; rfl) (fun w hw => by
        rcases List.mem_append.mp hw with hw | hw
        · exact hR w hw
        · rw [List.mem_singleton] at hw; subst hw; exact ⟨rfl, fun _ => rfl⟩) hT2 hk
      rw [List.filter_cons, if_pos hx, hy0]
      refine .recv ha ?_
      rw [← hy0, arcv_place, if_neg (by rw [any_eq, hany]; decide)]
      rw [List.map_append] at this
      exact this
  | @beg p ps rest free out hn hP ih =>
    cases W with
    | nil => cases hW
    | cons w W =>
      injection hW with h1 h2
      have hp := (hR w List.mem_cons_self).2 (by rw [← h1]; exact (hk _ List.mem_cons_self).1)
      rw [← h1] at hp
      have := ih h2 (fun w hw => hR w (List.mem_cons_of_mem _ hw)) hT fun q hq => hk q (List.mem_cons_of_mem _ hq)
      rw [List.map_cons, List.map_cons, hp]
      exact .beg (head_gt hT hn) this
/-- with other lengths of what is not spoken -/
theorem PlyF.relen {line : List Ent} {rest : List (Int × It Nat)} {free : Int} {out : List (Int × Ent)} (h : PlyF line rest free out) (lf : Nat → Int) (hk : ∀ q ∈ out, lf q.2.1.pay = q.2.1.len) :
    Ply "place" (line.map fun y => (⟨y.1.top, lf y.1.pay, y.1.pay⟩ : It Nat)) (rest.map fun q => (q.1, (⟨q.2.top, lf q.2.pay, q.2.pay⟩ : It Nat))) free (out.map fun q => (q.1, q.2.1)) := by
  induction h with
  | stop => exact .stop
  | wake _ ih => exact .wake (ih hk)
  | @recv p ps a x rest free out ha hP ih =>
    have ih := ih hk
    refine .recv ha ?_
    have e : (arcF (p :: ps) x).map (fun y => (⟨y.1.top, lf y.1.pay, y.1.pay⟩ : It Nat)) = arcv "place" ((p :: ps).map fun y => (⟨y.1.top, lf y.1.pay, y.1.pay⟩ : It Nat)) ⟨x.top, lf x.pay, x.pay⟩ := by
      rw [arcv_place, List.any_map]
      unfold arcF
      have ea : (p :: ps).any ((fun y : It Nat => decide (y.top = (⟨x.top, lf x.pay, x.pay⟩ : It Nat).top)) ∘ fun y : Ent => (⟨y.1.top, lf y.1.pay, y.1.pay⟩ : It Nat)) = (p :: ps).any fun y => decide (y.1.top = x.top) := rfl
      rw [ea]
      split
      · rw [List.map_map, List.map_map]
        refine List.map_congr_left fun y _ => ?_
        show (⟨(if y.1.top = x.top then _ else _ : Ent).1.top, _, _⟩ : It Nat) = if y.1.top = x.top then _ else _
        by_cases hy : y.1.top = x.top
        · simp only [Function.comp, if_pos hy]
        · simp only [Function.comp, if_neg hy]
      · rw [List.map_append]; rfl
    show Ply "place" (arcv "place" ((p :: ps).map fun y => (⟨y.1.top, lf y.1.pay, y.1.pay⟩ : It Nat)) ⟨x.top, lf x.pay, x.pay⟩) _ _ _
    rw [← e]
    exact ih
  | @beg p ps rest free out hn hP ih =>
    have h1 := hk _ List.mem_cons_self
    have ih := ih fun q hq => hk q (List.mem_cons_of_mem _ hq)
    have e : (⟨p.1.top, lf p.1.pay, p.1.pay⟩ : It Nat) = p.1 := by
      have h1 : lf p.1.pay = p.1.len := h1
      rw [h1]
    rw [List.map_cons, List.map_cons, e]
    refine .beg (fun a x t eq => ?_) ih
    cases rest with
    | nil => cases eq
    | cons q s =>
      injection eq with e1 _
      have := hn q.1 q.2 s rfl
      have h3 : q.1 = a := congrArg Prod.fst e1
      rw [← h3]
      exact this
end DL
namespace DL
open PySem PySem.Spec PyProof.Rows L2
open Enc (enc)
/-! ### first and last ones -/
theorem arcF_mem {line : List Ent} {x : It Nat} {y : Ent} (h : y ∈ arcF line x) : (y ∈ line ∧ y.1.top ≠ x.top) ∨ (∃ z ∈ line, z.1.top = x.top ∧ y = (x, z.2)) ∨ (y = (x, x.pay) ∧ ∀ z ∈ line, z.1.top ≠ x.top) := by
  unfold arcF at h
  split at h
  · obtain ⟨z, hz, e⟩ := List.mem_map.mp h
    split at e
    · rename_i ht; exact .inr (.inl ⟨z, hz, ht, e.symm⟩)
    · rename_i ht; subst e; exact .inl ⟨hz, ht⟩
  · rename_i ha
    have hno : ∀ z ∈ line, z.1.top ≠ x.top := fun z hz e => ha (List.any_eq_true.mpr ⟨z, hz, decide_eq_true e⟩)
    rcases List.mem_append.mp h with h | h
    · exact .inl ⟨h, hno y h⟩
    · rw [List.mem_singleton] at h; exact .inr (.inr ⟨h, hno⟩)
theorem PlyF.mem_out {line : List Ent} {rest : List (Int × It Nat)} {free : Int} {out : List (Int × Ent)} (h : PlyF line rest free out) : ∀ q ∈ out, ((∃ y ∈ line, y.1.pay = q.2.1.pay) ∨ ∃ x ∈ rest, x.2.pay = q.2.1.pay) ∧ ((∃ y ∈ line, y.2 = q.2.2) ∨ ∃ x ∈ rest, x.2.pay = q.2.2) := by
  induction h with
  | stop => exact fun q hq => by cases hq
  | @wake a x rest free out _ ih =>
    intro q hq
    obtain ⟨h1, h2⟩ := ih q hq
    refine ⟨?_, ?_⟩
    · rcases h1 with ⟨y, hy, e⟩ | ⟨z, hz, e⟩
      · rw [List.mem_singleton] at hy; subst hy; exact .inr ⟨(a, x), List.mem_cons_self, e⟩
      · exact .inr ⟨z, List.mem_cons_of_mem _ hz, e⟩
    · rcases h2 with ⟨y, hy, e⟩ | ⟨z, hz, e⟩
      · rw [List.mem_singleton] at hy; subst hy; exact .inr ⟨(a, x), List.mem_cons_self, e⟩
      · exact .inr ⟨z, List.mem_cons_of_mem _ hz, e⟩
  | @recv p ps a x rest free out ha _ ih =>
    intro q hq
    obtain ⟨h1, h2⟩ := ih q hq
    refine ⟨?_, ?_⟩
    · rcases h1 with ⟨y, hy, e⟩ | ⟨z, hz, e⟩
      · rcases arcF_mem hy with ⟨hy, _⟩ | ⟨z, hz, _, rfl⟩ | ⟨rfl, _⟩
        · exact .inl ⟨y, hy, e⟩
        · exact .inr ⟨(a, x), List.mem_cons_self, e⟩
        · exact .inr ⟨(a, x), List.mem_cons_self, e⟩
      · exact .inr ⟨z, List.mem_cons_of_mem _ hz, e⟩
    · rcases h2 with ⟨y, hy, e⟩ | ⟨z, hz, e⟩
      · rcases arcF_mem hy with ⟨hy, _⟩ | ⟨z, hz, _, rfl⟩ | ⟨rfl, _⟩
        · exact .inl ⟨y, hy, e⟩
        · exact .inl ⟨z, hz, e⟩
        · exact .inr ⟨(a, x), List.mem_cons_self, e⟩
      · exact .inr ⟨z, List.mem_cons_of_mem _ hz, e⟩
  | @beg p ps rest free out hn _ ih =>
    intro q hq
    rcases List.mem_cons.mp hq with rfl | hq
    · exact ⟨.inl ⟨p, List.mem_cons_self, rfl⟩, .inl ⟨p, List.mem_cons_self, rfl⟩⟩
    · obtain ⟨h1, h2⟩ := ih q hq
      exact ⟨h1.imp (fun ⟨y, hy, e⟩ => ⟨y, List.mem_cons_of_mem _ hy, e⟩) id, h2.imp (fun ⟨y, hy, e⟩ => ⟨y, List.mem_cons_of_mem _ hy, e⟩) id⟩
structure FInv (line : List Ent) (rest : List (Int × It Nat)) : Prop where
  i1 : ∀ y ∈ line, ∀ z ∈ line, y.1.pay = z.2 → y = z
  i3 : ∀ x ∈ rest, ∀ y ∈ line, x.2.pay ≠ y.1.pay ∧ x.2.pay ≠ y.2
  i4 : (line.map fun y => y.1.top).Nodup
  i5 : (rest.map fun x => x.2.pay).Nodup
theorem FInv.recv {line : List Ent} {a : Int} {x : It Nat} {rest : List (Int × It Nat)} (h : FInv line ((a, x) :: rest)) : FInv (arcF line x) rest := by
  have h5 := h.i5
  rw [List.map_cons, List.nodup_cons] at h5
  have hx := h.i3 (a, x) List.mem_cons_self
  refine ⟨fun y hy z hz e => ?_, fun w hw y hy => ?_, ?_, h5.2⟩
  · rcases arcF_mem hy with ⟨hy, hyt⟩ | ⟨y', hy', hyt, rfl⟩ | ⟨rfl, hno⟩
    · rcases arcF_mem hz with ⟨hz, hzt⟩ | ⟨z', hz', hzt, rfl⟩ | ⟨rfl, hno⟩
      · exact h.i1 y hy z hz e
      · exact absurd (h.i1 y hy z' hz' e) (fun q => hyt (by rw [q]; exact hzt))
      · exact absurd e.symm (hx y hy).1
    · rcases arcF_mem hz with ⟨hz, hzt⟩ | ⟨z', hz', hzt, rfl⟩ | ⟨rfl, hno⟩
      · exact absurd e (hx z hz).2
      · exact absurd e (hx z' hz').2
      · exact absurd hyt (hno y' hy')
    · rcases arcF_mem hz with ⟨hz, hzt⟩ | ⟨z', hz', hzt, rfl⟩ | ⟨rfl, hno⟩
      · exact absurd e (hx z hz).2
      · exact absurd e (hx z' hz').2
      · rfl
  · have hne : w.2.pay ≠ x.pay := fun e => h5.1 (List.mem_map.mpr ⟨w, hw, e⟩)
    rcases arcF_mem hy with ⟨hy, _⟩ | ⟨z, hz, _, rfl⟩ | ⟨rfl, _⟩
    · exact h.i3 w (List.mem_cons_of_mem _ hw) y hy
    · exact ⟨hne, (h.i3 w (List.mem_cons_of_mem _ hw) z hz).2⟩
    · exact ⟨hne, hne⟩
  · unfold arcF
    split
    · rw [List.map_map]
      have e : (line.map ((fun y : Ent => y.1.top) ∘ fun y => if y.1.top = x.top then (x, y.2) else y)) = line.map fun y => y.1.top := by
        refine List.map_congr_left fun y _ => ?_
        show (if y.1.top = x.top then (x, y.2) else y : Ent).1.top = _
        split
        · rename_i ht; exact ht.symm
        · rfl
      rw [e]; exact h.i4
    · rename_i ha
      rw [List.map_append, List.nodup_append]
      refine ⟨h.i4, by simp, fun u hu v hv => ?_⟩
      obtain ⟨z, hz, rfl⟩ := List.mem_map.mp hu
      rw [List.map_cons, List.map_nil, List.mem_singleton] at hv
      subst hv
      exact fun e => ha (List.any_eq_true.mpr ⟨z, hz, decide_eq_true e⟩)
theorem FInv.one {a : Int} {x : It Nat} {rest : List (Int × It Nat)} (h : FInv [] ((a, x) :: rest)) : FInv [(x, x.pay)] rest := by
  have := h.recv
  exact this
theorem FInv.tail {p : Ent} {ps : List Ent} {rest : List (Int × It Nat)} (h : FInv (p :: ps) rest) : FInv ps rest ∧ p ∉ ps := by
  have h4 := h.i4
  rw [List.map_cons, List.nodup_cons] at h4
  exact ⟨⟨fun y hy z hz => h.i1 y (List.mem_cons_of_mem _ hy) z (List.mem_cons_of_mem _ hz), fun x hx y hy => h.i3 x hx y (List.mem_cons_of_mem _ hy), h4.2, h.i5⟩, fun z => h4.1 (List.mem_map.mpr ⟨p, z, rfl⟩)⟩
/-- what is begun as the last one is the first one of its own begin alone -/
theorem PlyF.cur_first {line : List Ent} {rest : List (Int × It Nat)} {free : Int} {out : List (Int × Ent)} (h : PlyF line rest free out) (hI : FInv line rest) : ∀ q ∈ out, ∀ q' ∈ out, q.2.1.pay = q'.2.2 → q'.2.1.pay = q'.2.2 := by
  induction h with
  | stop => exact fun q hq => by cases hq
  | wake _ ih => exact ih hI.one
  | recv ha _ ih => exact ih hI.recv
  | @beg p ps rest free out hn hP ih =>
    obtain ⟨hI2, hps⟩ := hI.tail
    intro q hq q' hq' e
    rcases List.mem_cons.mp hq with rfl | hq
    · rcases List.mem_cons.mp hq' with rfl | hq'
      · exact e
      · exfalso
        rcases (hP.mem_out q' hq').2 with ⟨y, hy, e2⟩ | ⟨x, hx, e2⟩
        · have := hI.i1 p List.mem_cons_self y (List.mem_cons_of_mem _ hy) (e.trans e2.symm)
          exact hps (by rw [this]; exact hy)
        · exact (hI.i3 x hx p List.mem_cons_self).1 (e2.trans e.symm)
    · rcases List.mem_cons.mp hq' with rfl | hq'
      · exfalso
        rcases (hP.mem_out q hq).1 with ⟨y, hy, e2⟩ | ⟨x, hx, e2⟩
        · have := hI.i1 y (List.mem_cons_of_mem _ hy) p List.mem_cons_self (e2.trans e)
          exact hps (by rw [← this]; exact hy)
        · exact (hI.i3 x hx p List.mem_cons_self).2 (e2.trans e)
      · exact ih hI2 q hq q' hq' e
/-! ### logs -/
def tri {β : Type} (q : Int × It β) : An := ⟨q.1, q.2.top, q.2.len⟩
theorem tri_spoken {β : Type} {r : Str} {L : List An} (φ : Nat → β) : ((spoken r L).map fun g => (g.a, itm L φ g.c)).map tri = triplesOf r L := by
  unfold triplesOf
  rw [List.map_map]; rfl
theorem ply_spoken {β : Type} {r : Str} {L : List An} (h : PLog L) (φ : Nat → β) : Ply r [] (restOf L φ 0) 0 ((spoken r L).map fun g => (g.a, itm L φ g.c)) := (run_spokenP (r := r) h).ply φ (.inr .nil)
theorem tri_of {β : Type} {r : Str} {L : List An} (h : PLog L) {φ : Nat → β} {out : List (Int × It β)} (hp : Ply r [] (restOf L φ 0) 0 out) : out.map tri = triplesOf r L := by
  rw [hp.uniq (ply_spoken h φ), tri_spoken]
def atL (L : List An) (k : Nat) : An := ⟨timAt L k, topAt L k, lnAt L k⟩
theorem atL_get {L : List An} {k : Nat} (h : k < L.length) : atL L k = L[k] := by
  unfold atL
  rw [timAt_get h, topAt_get h, lnAt_get h]
theorem atL_all (L : List An) : L = (List.range L.length).map (atL L) := by
  refine List.ext_getElem? fun i => ?_
  rw [List.getElem?_map]
  by_cases hi : i < L.length
  · rw [List.getElem?_range hi, List.getElem?_eq_getElem hi, Option.map_some, atL_get hi]
  · rw [List.getElem?_eq_none (by omega), List.getElem?_eq_none (by rw [List.length_range]; omega)]; rfl
def keepIf (L : List An) (p : Nat → Bool) : List An := ((List.range L.length).filter p).map (atL L)
theorem keepIf_sub (L : List An) (p : Nat → Bool) : (keepIf L p).Sublist L := by
  conv => rhs; rw [atL_all L]
  exact List.filter_sublist.map _
theorem restOf_at {L : List An} : ∀ ks : List Nat, restOf (ks.map (atL L)) (fun i => ks[i]?.getD 0) 0 = ks.map fun k => (timAt L k, itm L id k)
  | [] => rfl
  | k :: ks => by
    have ih := restOf_at (L := L) ks
    rw [List.map_cons, restOf_tail, List.map_cons, ← ih]
    rfl
theorem restOf_range {β : Type} {L : List An} {φ : Nat → β} : restOf L φ 0 = (List.range L.length).map fun k => (timAt L k, itm L φ k) := by
  unfold restOf
  rw [Nat.sub_zero, List.range_eq_range']
theorem restOf_keep {L : List An} {p : Nat → Bool} : (restOf L id 0).filter (fun q => p q.2.pay) = restOf (keepIf L p) (fun i => ((List.range L.length).filter p)[i]?.getD 0) 0 := by
  unfold keepIf
  rw [restOf_at, restOf_range, List.filter_map]
  rfl
theorem times_up {β : Type} {L : List An} {φ : Nat → β} (h : VLog L) : TimesUp (restOf L φ 0) := by
  unfold TimesUp
  rw [restOf_range, List.pairwise_map]
  refine List.Pairwise.imp_of_mem (fun {a b} ha hb hab => ?_) List.pairwise_lt_range
  exact h.s.tim (Nat.le_of_lt hab) (List.mem_range.mp hb)
theorem pays {L : List An} : (restOf L id 0).map (fun q => q.2.pay) = List.range L.length := by
  rw [restOf_range, List.map_map]
  conv => rhs; rw [← List.map_id (List.range L.length)]
  rfl
theorem alike_end {L : List An} (h : VLog L) : triplesOf "end" (keepIf L fun k => !decide (k ∈ unheardOf "end" L)) = triplesOf "end" L := by
  have e : keepIf L (fun k => !decide (k ∈ unheardOf "end" L)) = keepIf L fun k => decide (k ∈ (spoken "end" L).map fun g => g.c) := by
    unfold keepIf
    congr 1
    refine List.filter_congr fun k hk => ?_
    have : decide (k ∈ unheardOf "end" L) = !decide (k ∈ (spoken "end" L).map fun g => g.c) := by
      unfold unheardOf
      by_cases hs : k ∈ (spoken "end" L).map fun g => g.c
      · rw [decide_eq_true hs, decide_eq_false (fun z => by
          have := (List.mem_filter.mp z).2
          rw [decide_eq_true hs] at this
          cases this)]
        rfl
      · rw [decide_eq_false hs, decide_eq_true (List.mem_filter.mpr ⟨hk, by rw [decide_eq_false hs]; rfl⟩)]
        rfl
    rw [this, Bool.not_not]
  rw [e]
  have hp := (ply_spoken (r := "end") h.p id).end_less (fun y => decide (y.pay ∈ (spoken "end" L).map fun g => g.c)) (by rw [List.map_nil, List.nil_append, pays]; exact List.nodup_range) (times_up h) (fun y _ => by
    rw [decide_eq_true_eq, List.mem_map]
    constructor
    · rintro ⟨g, hg, e⟩
      exact ⟨_, List.mem_map.mpr ⟨g, hg, rfl⟩, e⟩
    · rintro ⟨q, hq, e⟩
      obtain ⟨g, hg, rfl⟩ := List.mem_map.mp hq
      exact ⟨g, hg, e⟩)
  rw [List.filter_nil, restOf_keep (p := fun k => decide (k ∈ (spoken "end" L).map fun g => g.c))] at hp
  rw [← tri_of (h.sub (keepIf_sub L _)).p hp, tri_spoken]
theorem plyF_spoken {L : List An} (h : VLog L) : PlyF [] (restOf L id 0) 0 ((spoken "place" L).map fun g => (g.a, (itm L id g.c, g.b))) := (run_spoken (r := "place") h).plyF (.inr .nil)
def endsOf (L : List An) : List Nat := ((spoken "place" L).map fun g => g.c) ++ (spoken "place" L).map fun g => g.b
def betweenOf (L : List An) : List Nat := (List.range L.length).filter fun k => !decide (k ∈ endsOf L)
def firstsOf (L : List An) : List Nat := ((spoken "place" L).filter fun g => !decide (g.b = g.c)).map fun g => g.b
theorem alike_place {L : List An} (h : VLog L) (left : List Nat) (hl : ∀ k ∈ left, k ∈ betweenOf L) : triplesOf "place" (keepIf L fun k => !decide (k ∈ left)) = triplesOf "place" L := by
  have hno : ∀ k ∈ endsOf L, (!decide (k ∈ left)) = true := fun k hk => by
    rw [Bool.not_eq_true', decide_eq_false_iff_not]
    intro z
    have := (List.mem_filter.mp (hl k z)).2
    simp [hk] at this
  have hp := (plyF_spoken h).less (fun k => !decide (k ∈ left)) (W := []) rfl (fun w hw => by cases hw) (times_up h) (fun q hq => by
    obtain ⟨g, hg, rfl⟩ := List.mem_map.mp hq
    exact ⟨hno g.c (List.mem_append_left _ (List.mem_map.mpr ⟨g, hg, rfl⟩)), hno g.b (List.mem_append_right _ (List.mem_map.mpr ⟨g, hg, rfl⟩))⟩)
  rw [List.map_nil, restOf_keep (p := fun k => !decide (k ∈ left)), List.map_map] at hp
  rw [← tri_of (h.sub (keepIf_sub L _)).p hp]
  exact tri_spoken id
theorem alike_len {L M : List An} (h : VLog L) (hM : VLog M) (hlen : M.length = L.length) (hat : ∀ k, k < L.length → timAt M k = timAt L k ∧ topAt M k = topAt L k ∧ (k ∉ firstsOf L → lnAt M k = lnAt L k)) : triplesOf "place" M = triplesOf "place" L := by
  have hI : FInv [] (restOf L id 0) := ⟨(fun y hy => by cases hy), (fun x hx y hy => by cases hy), List.nodup_nil, by rw [pays]; exact List.nodup_range⟩
  have hP := plyF_spoken h
  have hcf := hP.cur_first hI
  have hnf : ∀ g ∈ spoken "place" L, g.c ∉ firstsOf L := fun g hg z => by
    obtain ⟨g', hg', e⟩ := List.mem_map.mp z
    have h1 := List.mem_filter.mp hg'
    have := hcf _ (List.mem_map.mpr ⟨g, hg, rfl⟩) _ (List.mem_map.mpr ⟨g', h1.1, rfl⟩) e.symm
    have h2 := h1.2
    rw [Bool.not_eq_true', decide_eq_false_iff_not] at h2
    exact h2 this.symm
  have hfit := (played_fits (r := "place") (L := L) (lb := 1000000) (lt := 1000000)).1
  have hp := hP.relen (fun k => lnAt M k) (fun q hq => by
    obtain ⟨g, hg, rfl⟩ := List.mem_map.mp hq
    exact (hat g.c (hfit g hg).2).2.2 (hnf g hg))
  have e : (restOf L id 0).map (fun q => (q.1, (⟨q.2.top, lnAt M q.2.pay, q.2.pay⟩ : It Nat))) = restOf M id 0 := by
    rw [restOf_range, restOf_range, List.map_map, hlen]
    refine List.map_congr_left fun k hk => ?_
    obtain ⟨a1, a2, _⟩ := hat k (List.mem_range.mp hk)
    show (timAt L k, (⟨topAt L k, lnAt M k, k⟩ : It Nat)) = (timAt M k, ⟨topAt M k, lnAt M k, k⟩)
    rw [a1, a2]
  rw [List.map_nil, e, List.map_map] at hp
  rw [← tri_of hM.p hp]
  exact tri_spoken id
end DL
namespace DL
open PySem PySem.Spec PyProof.Rows L2
/-! ### the rule place, with all that came for each begin -/
abbrev EnR := It Nat × List Nat
def arcR (line : List EnR) (x : It Nat) : List EnR := if line.any (fun y => decide (y.1.top = x.top)) = true then line.map (fun y => if y.1.top = x.top then (x, y.2 ++ [x.pay]) else y) else line ++ [(x, [x.pay])]
inductive PlyR : List EnR → List (Int × It Nat) → Int → List (Int × EnR) → Prop
  | stop {free : Int} : PlyR [] [] free []
  | wake {a : Int} {x : It Nat} {rest : List (Int × It Nat)} {free : Int} {out : List (Int × EnR)} : PlyR [(x, [x.pay])] rest (max free a) out → PlyR [] ((a, x) :: rest) free out
  | recv {p : EnR} {ps : List EnR} {a : Int} {x : It Nat} {rest : List (Int × It Nat)} {free : Int} {out : List (Int × EnR)} : a ≤ free → PlyR (arcR (p :: ps) x) rest free out → PlyR (p :: ps) ((a, x) :: rest) free out
  | beg {p : EnR} {ps : List EnR} {rest : List (Int × It Nat)} {free : Int} {out : List (Int × EnR)} : (∀ a x t, rest = (a, x) :: t → free < a) → PlyR ps rest (free + p.1.len) out → PlyR (p :: ps) rest free ((free, p) :: out)
theorem arcR_fst (W : List EnR) (x : It Nat) : (arcR W x).map Prod.fst = arcv "place" (W.map Prod.fst) x := by
  rw [arcv_place, List.any_map]
  unfold arcR
  have e : (fun y : It Nat => decide (y.top = x.top)) ∘ (Prod.fst : EnR → It Nat) = fun y : EnR => decide (y.1.top = x.top) := rfl
  rw [e]
  split
  · rw [List.map_map, List.map_map]
    refine List.map_congr_left fun y _ => ?_
    show (if y.1.top = x.top then _ else _ : EnR).1 = if y.1.top = x.top then x else y.1
    split <;> rfl
  · rw [List.map_append]
    rfl
theorem Ply.runs {line : List (It Nat)} {rest : List (Int × It Nat)} {free : Int} {out : List (Int × It Nat)} (h : Ply "place" line rest free out) : ∀ W : List EnR, W.map Prod.fst = line → ∃ o : List (Int × EnR), PlyR W rest free o ∧ o.map (fun q => (q.1, q.2.1)) = out := by
  induction h with
  | stop =>
    intro W hW
    cases W with
    | nil => exact ⟨[], .stop, rfl⟩
    | cons w W => cases hW
  | @wake a x rest free out _ ih =>
    intro W hW
    cases W with
    | nil =>
      obtain ⟨o, h1, h2⟩ := ih [(x, [x.pay])] rfl
      exact ⟨o, .wake h1, h2⟩
    | cons w W => cases hW
  | @recv p ps a x rest free out ha _ ih =>
    intro W hW
    cases W with
    | nil => cases hW
    | cons w W =>
      obtain ⟨o, h1, h2⟩ := ih (arcR (w :: W) x) (by rw [arcR_fst, hW])
      exact ⟨o, .recv ha h1, h2⟩
  | @beg p ps rest free out hn _ ih =>
    intro W hW
    cases W with
    | nil => cases hW
    | cons w W =>
      injection hW with e1 e2
      obtain ⟨o, h1, h2⟩ := ih W e2
      refine ⟨(free, w) :: o, .beg hn (by rw [e1]; exact h1), ?_⟩
      rw [List.map_cons, h2, e1]
theorem arcR_mem {line : List EnR} {x : It Nat} {y : EnR} (h : y ∈ arcR line x) : (y ∈ line ∧ y.1.top ≠ x.top) ∨ (∃ z ∈ line, z.1.top = x.top ∧ y = (x, z.2 ++ [x.pay])) ∨ (y = (x, [x.pay]) ∧ ∀ z ∈ line, z.1.top ≠ x.top) := by
  unfold arcR at h
  split at h
  · obtain ⟨z, hz, e⟩ := List.mem_map.mp h
    split at e
    · rename_i ht; exact .inr (.inl ⟨z, hz, ht, e.symm⟩)
    · rename_i ht; subst e; exact .inl ⟨hz, ht⟩
  · rename_i ha
    have hno : ∀ z ∈ line, z.1.top ≠ x.top := fun z hz e => ha (List.any_eq_true.mpr ⟨z, hz, decide_eq_true e⟩)
    rcases List.mem_append.mp h with h | h
    · exact .inl ⟨h, hno y h⟩
    · rw [List.mem_singleton] at h; exact .inr (.inr ⟨h, hno⟩)
structure RInv (L : List An) (line : List EnR) (rest : List (Int × It Nat)) : Prop where
  it : ∀ y ∈ line, y.1 = itm L id y.1.pay
  top : ∀ y ∈ line, ∀ k ∈ y.2, topAt L k = y.1.top
  last : ∀ y ∈ line, y.2.getLast? = some y.1.pay
  dis : (line.map fun y => y.1.top).Nodup
  ri : ∀ q ∈ rest, q.2 = itm L id q.2.pay
  inc : (rest.map fun q => q.2.pay).Pairwise (· < ·)
  lt : ∀ y ∈ line, ∀ k ∈ y.2, ∀ q ∈ rest, k < q.2.pay
  up : TimesUp rest
theorem RInv.tops {L : List An} {a : Int} {x : It Nat} {line : List EnR} {rest : List (Int × It Nat)} (h : RInv L line ((a, x) :: rest)) : topAt L x.pay = x.top := by
  have := h.ri (a, x) List.mem_cons_self
  have := congrArg It.top this
  exact this.symm
theorem RInv.recv {L : List An} {line : List EnR} {a : Int} {x : It Nat} {rest : List (Int × It Nat)} (h : RInv L line ((a, x) :: rest)) : RInv L (arcR line x) rest := by
  have hx := h.ri (a, x) List.mem_cons_self
  have hi := h.inc
  rw [List.map_cons, List.pairwise_cons] at hi
  have hxr : ∀ q ∈ rest, x.pay < q.2.pay := fun q hq => hi.1 _ (List.mem_map.mpr ⟨q, hq, rfl⟩)
  refine ⟨fun y hy => ?_, fun y hy k hk => ?_, fun y hy => ?_, ?_, fun q hq => h.ri q (List.mem_cons_of_mem _ hq), hi.2, fun y hy k hk q hq => ?_, (List.pairwise_cons.mp h.up).2⟩
  · rcases arcR_mem hy with ⟨hy, _⟩ | ⟨z, hz, hzt, rfl⟩ | ⟨rfl, _⟩
    · exact h.it y hy
    · exact hx
    · exact hx
  · rcases arcR_mem hy with ⟨hy, _⟩ | ⟨z, hz, hzt, rfl⟩ | ⟨rfl, _⟩
    · exact h.top y hy k hk
    · rcases List.mem_append.mp hk with hk | hk
      · exact (h.top z hz k hk).trans hzt
      · rw [List.mem_singleton] at hk
        subst hk
        exact h.tops
    · rw [List.mem_singleton] at hk
      subst hk
      exact h.tops
  · rcases arcR_mem hy with ⟨hy, _⟩ | ⟨z, hz, hzt, rfl⟩ | ⟨rfl, _⟩
    · exact h.last y hy
    · exact List.getLast?_concat
    · rfl
  · unfold arcR
    split
    · rw [List.map_map]
      have e : (line.map ((fun y : EnR => y.1.top) ∘ fun y => if y.1.top = x.top then (x, y.2 ++ [x.pay]) else y)) = line.map fun y => y.1.top := by
        refine List.map_congr_left fun y _ => ?_
        show (if y.1.top = x.top then (x, y.2 ++ [x.pay]) else y : EnR).1.top = _
        split
        · rename_i ht; exact ht.symm
        · rfl
      rw [e]; exact h.dis
    · rename_i ha
      rw [List.map_append, List.nodup_append]
      refine ⟨h.dis, by simp, fun u hu v hv => ?_⟩
      obtain ⟨z, hz, rfl⟩ := List.mem_map.mp hu
      rw [List.map_cons, List.map_nil, List.mem_singleton] at hv
      subst hv
      exact fun e => ha (List.any_eq_true.mpr ⟨z, hz, decide_eq_true e⟩)
  · rcases arcR_mem hy with ⟨hy, _⟩ | ⟨z, hz, hzt, rfl⟩ | ⟨rfl, _⟩
    · exact h.lt y hy k hk q (List.mem_cons_of_mem _ hq)
    · rcases List.mem_append.mp hk with hk | hk
      · exact h.lt z hz k hk q (List.mem_cons_of_mem _ hq)
      · rw [List.mem_singleton] at hk
        subst hk
        exact hxr q hq
    · rw [List.mem_singleton] at hk
      subst hk
      exact hxr q hq
theorem RInv.one {L : List An} {a : Int} {x : It Nat} {rest : List (Int × It Nat)} (h : RInv L [] ((a, x) :: rest)) : RInv L [(x, [x.pay])] rest := h.recv
theorem RInv.tail {L : List An} {p : EnR} {ps : List EnR} {rest : List (Int × It Nat)} (h : RInv L (p :: ps) rest) : RInv L ps rest :=
  ⟨fun y hy => h.it y (List.mem_cons_of_mem _ hy), fun y hy => h.top y (List.mem_cons_of_mem _ hy), fun y hy => h.last y (List.mem_cons_of_mem _ hy), by
    have := h.dis
    rw [List.map_cons, List.nodup_cons] at this
    exact this.2, h.ri, h.inc, fun y hy => h.lt y (List.mem_cons_of_mem _ hy), h.up⟩
/-- what waits is begun in its order, with more that comes -/
theorem arcR_get {line : List EnR} {x : It Nat} {i : Nat} {y : EnR} (h : line[i]? = some y) : (arcR line x)[i]? = some (if y.1.top = x.top then (x, y.2 ++ [x.pay]) else y) := by
  unfold arcR
  split
  · rw [List.getElem?_map, h]
    rfl
  · rename_i ha
    have hm := List.mem_of_getElem? h
    have hne : ¬ y.1.top = x.top := fun e => ha (List.any_eq_true.mpr ⟨y, hm, decide_eq_true e⟩)
    rw [if_neg hne, List.getElem?_append_left (List.getElem?_eq_some_iff.mp h).1]
    exact h
theorem PlyR.begun {line : List EnR} {rest : List (Int × It Nat)} {free : Int} {out : List (Int × EnR)} (h : PlyR line rest free out) : ∀ (i : Nat) (y : EnR), line[i]? = some y → ∃ q s, out[i]? = some q ∧ q.2.2 = y.2 ++ s ∧ ∀ k ∈ s, ∃ z ∈ rest, z.2.pay = k := by
  induction h with
  | stop => intro i y e; cases e
  | wake _ _ => intro i y e; cases e
  | @recv p ps a x rest free out ha _ ih =>
    intro i y e
    obtain ⟨q, s, h1, h2, h3⟩ := ih i _ (arcR_get (x := x) e)
    by_cases ht : y.1.top = x.top
    · rw [if_pos ht] at h2
      refine ⟨q, x.pay :: s, h1, by rw [h2, List.append_assoc]; rfl, fun k hk => ?_⟩
      rcases List.mem_cons.mp hk with rfl | hk
      · exact ⟨(a, x), List.mem_cons_self, rfl⟩
      · obtain ⟨z, hz, e⟩ := h3 k hk
        exact ⟨z, List.mem_cons_of_mem _ hz, e⟩
    · rw [if_neg ht] at h2
      exact ⟨q, s, h1, h2, fun k hk => by
        obtain ⟨z, hz, e⟩ := h3 k hk
        exact ⟨z, List.mem_cons_of_mem _ hz, e⟩⟩
  | @beg p ps rest free out hn _ ih =>
    intro i y e
    cases i with
    | zero =>
      cases e
      exact ⟨_, [], rfl, by simp, fun k hk => by cases hk⟩
    | succ i => exact ih i y e
/-- the next begin: now, and all that comes for it has come by then -/
theorem PlyR.head {line : List EnR} {rest : List (Int × It Nat)} {free : Int} {out : List (Int × EnR)} (h : PlyR line rest free out) : ∀ p ps, line = p :: ps → ∃ q o, out = q :: o ∧ q.1 = free ∧ ∀ k ∈ q.2.2, k ∈ p.2 ∨ ∃ z ∈ rest, z.2.pay = k ∧ z.1 ≤ free := by
  induction h with
  | stop => intro p ps e; cases e
  | wake _ _ => intro p ps e; cases e
  | @recv p0 ps0 a x rest free out ha _ ih =>
    intro p ps e
    cases e
    obtain ⟨r, rs, er⟩ : ∃ r rs, arcR (p0 :: ps0) x = r :: rs := by
      have := arcR_get (line := p0 :: ps0) (x := x) (i := 0) rfl
      cases h : arcR (p0 :: ps0) x with
      | nil => rw [h] at this; cases this
      | cons r rs => exact ⟨r, rs, rfl⟩
    obtain ⟨q, o, h1, h2, h3⟩ := ih r rs er
    refine ⟨q, o, h1, h2, fun k hk => ?_⟩
    have e0 := arcR_get (line := p0 :: ps0) (x := x) (i := 0) rfl
    rw [er] at e0
    have e0 : r = if p0.1.top = x.top then (x, p0.2 ++ [x.pay]) else p0 := Option.some.inj e0
    rcases h3 k hk with hk | ⟨z, hz, e1, e2⟩
    · rw [e0] at hk
      split at hk
      · rcases List.mem_append.mp hk with hk | hk
        · exact .inl hk
        · rw [List.mem_singleton] at hk
          exact .inr ⟨(a, x), List.mem_cons_self, hk.symm, ha⟩
      · exact .inl hk
    · exact .inr ⟨z, List.mem_cons_of_mem _ hz, e1, e2⟩
  | @beg p0 ps0 rest free out hn _ ih =>
    intro p ps e
    cases e
    exact ⟨_, _, rfl, rfl, fun k hk => .inl hk⟩
end DL
namespace DL
open PySem PySem.Spec PyProof.Rows L2
/-! ### a part that keeps, of all that came for each begin, some, is spoken alike -/
theorem fm_congr {α β : Type} {f g : α → Option β} : ∀ {l : List α}, (∀ a ∈ l, f a = g a) → l.filterMap f = l.filterMap g
  | [], _ => rfl
  | a :: l, h => by
    rw [List.filterMap_cons, List.filterMap_cons, h a List.mem_cons_self, fm_congr fun b hb => h b (List.mem_cons_of_mem _ hb)]
def ofK (L : List An) (keep : Nat → Bool) (y : EnR) : Option (It Nat) := ((y.2.filter keep).getLast?).map (itm L id)
def lineK (L : List An) (keep : Nat → Bool) (line : List EnR) : List (It Nat) := line.filterMap (ofK L keep)
section
variable {L : List An} {keep : Nat → Bool}
theorem ofK_none {y : EnR} : ofK L keep y = none ↔ ∀ k ∈ y.2, keep k = false := by
  unfold ofK
  rw [Option.map_eq_none_iff, List.getLast?_eq_none_iff, List.filter_eq_nil_iff]
  exact ⟨fun h k hk => by have := h k hk; simpa using this, fun h k hk => by rw [h k hk]; decide⟩
theorem ofK_some {y : EnR} {z : It Nat} (h : ofK L keep y = some z) : ∃ k ∈ y.2, keep k = true ∧ z = itm L id k ∧ (y.2.filter keep).getLast? = some k := by
  unfold ofK at h
  obtain ⟨k, e, rfl⟩ := Option.map_eq_some_iff.mp h
  have := List.mem_filter.mp (List.mem_of_getLast? e)
  exact ⟨k, this.1, this.2, rfl, e⟩
theorem ofK_new {x : It Nat} {R : List Nat} (hk : keep x.pay = true) (hx : x = itm L id x.pay) : ofK L keep (x, R ++ [x.pay]) = some x := by
  unfold ofK
  rw [List.filter_append, List.filter_cons, if_pos hk, List.filter_nil, List.getLast?_concat, Option.map_some, ← hx]
theorem ofK_skip {x : It Nat} {y : EnR} (hk : keep x.pay = false) : ofK L keep (x, y.2 ++ [x.pay]) = ofK L keep y := by
  unfold ofK
  rw [List.filter_append, List.filter_cons, if_neg (by rw [hk]; decide), List.filter_nil, List.append_nil]
theorem ofK_one {x : It Nat} (hk : keep x.pay = false) : ofK L keep (x, [x.pay]) = none := by
  rw [ofK_none]
  intro k hk'
  rw [List.mem_singleton] at hk'
  rw [hk', hk]
theorem lineK_skip {x : It Nat} (hk : keep x.pay = false) (line : List EnR) : lineK L keep (arcR line x) = lineK L keep line := by
  unfold lineK arcR
  split
  · rw [List.filterMap_map]
    refine fm_congr fun y _ => ?_
    show ofK L keep (if y.1.top = x.top then (x, y.2 ++ [x.pay]) else y) = _
    split
    · exact ofK_skip hk
    · rfl
  · rw [List.filterMap_append, List.filterMap_cons, ofK_one hk]
    simp
theorem lineK_top {line : List EnR} {rest : List (Int × It Nat)} (I : RInv L line rest) {z : It Nat} (h : z ∈ lineK L keep line) : ∃ y ∈ line, ofK L keep y = some z ∧ z.top = y.1.top := by
  obtain ⟨y, hy, e⟩ := List.mem_filterMap.mp h
  obtain ⟨k, hk, _, ez, _⟩ := ofK_some e
  exact ⟨y, hy, e, by rw [ez]; exact I.top y hy k hk⟩
/-- the head of what is kept is not later than any that is kept -/
theorem head_le {rest : List (Int × It Nat)} (hT : TimesUp rest) {a : Int} {x : It Nat} {t : List (Int × It Nat)} (h : rest.filter (fun q => keep q.2.pay) = (a, x) :: t) {z : Int × It Nat} (hz : z ∈ rest) (hk : keep z.2.pay = true) : a ≤ z.1 := by
  have hm : z ∈ rest.filter fun q => keep q.2.pay := List.mem_filter.mpr ⟨hz, hk⟩
  have hs : TimesUp (rest.filter fun q => keep q.2.pay) := hT.sublist List.filter_sublist
  rw [h] at hm hs
  rcases List.mem_cons.mp hm with e | hm
  · rw [e]; exact Int.le_refl _
  · exact (List.pairwise_cons.mp hs).1 z hm
theorem PlyR.keepS {line : List EnR} {rest : List (Int × It Nat)} {free : Int} {out : List (Int × EnR)} (h : PlyR line rest free out) (I : RInv L line rest) (g1 : ∀ q ∈ out, ∃ k ∈ q.2.2, keep k = true)
    (g2 : ∀ q ∈ out, ∀ k, (q.2.2.filter keep).getLast? = some k → lnAt L k = q.2.1.len) (g3 : ∀ (i i' : Nat) (q q' : Int × EnR), i < i' → out[i]? = some q → out[i']? = some q' → ∀ k' ∈ q'.2.2, keep k' = true → ∃ k ∈ q.2.2, keep k = true ∧ k < k') :
    ∀ f, (lineK L keep line ≠ [] ∨ line = [] → f = free) → (line ≠ [] → lineK L keep line = [] → ∀ a x t, rest.filter (fun q => keep q.2.pay) = (a, x) :: t → max f a = free) →
      Ply "place" (lineK L keep line) (rest.filter fun q => keep q.2.pay) f (out.map fun q => (q.1, (ofK L keep q.2).getD q.2.1)) := by
  induction h with
  | stop => exact fun f _ _ => .stop
  | @wake a x rest free out hP ih =>
    intro f c1 _
    have ef := c1 (.inr rfl)
    subst ef
    have hx := I.ri (a, x) List.mem_cons_self
    have hup := (List.pairwise_cons.mp I.up).1
    cases hk : keep x.pay with
    | true =>
      have e1 : lineK L keep [(x, [x.pay])] = [x] := by
        have := ofK_new (R := []) hk hx
        unfold lineK
        rw [List.filterMap_cons]
        rw [List.nil_append] at this
        rw [this]
        rfl
      have := ih I.one g1 g2 g3 (max f a) (fun _ => rfl) (fun _ z => by rw [e1] at z; cases z)
      rw [e1] at this
      rw [List.filter_cons, if_pos hk]
      exact .wake this
    | false =>
      have e1 : lineK L keep [(x, [x.pay])] = [] := by
        unfold lineK
        rw [List.filterMap_cons, ofK_one hk]
        rfl
      have := ih I.one g1 g2 g3 f (fun z => by
        rcases z with z | z
        · exact absurd e1 z
        · cases z) (fun _ _ a' x' t e => by
        obtain ⟨q, o, h1, h2, h3⟩ := hP.head _ _ rfl
        obtain ⟨k, hk1, hk2⟩ := g1 q (by rw [h1]; exact List.mem_cons_self)
        rcases h3 k hk1 with z | ⟨z, hz, e2, e3⟩
        · rw [List.mem_singleton] at z
          rw [z, hk] at hk2
          cases hk2
        · have h4 := head_le (List.pairwise_cons.mp I.up).2 e hz (by rw [e2]; exact hk2)
          have h5 : a ≤ a' := hup (a', x') (List.mem_filter.mp (by rw [e]; exact List.mem_cons_self : (a', x') ∈ rest.filter fun q => keep q.2.pay)).1
          omega)
      rw [e1] at this
      rw [List.filter_cons, if_neg (by rw [hk]; decide)]
      exact this
  | @recv p ps a x rest free out ha hP ih =>
    intro f c1 c2
    have hx := I.ri (a, x) List.mem_cons_self
    have hne1 : arcR (p :: ps) x ≠ [] := fun z => by
      have := arcR_get (line := p :: ps) (x := x) (i := 0) rfl
      rw [z] at this
      cases this
    cases hk : keep x.pay with
    | false =>
      have e1 := lineK_skip (L := L) hk (p :: ps)
      have := ih I.recv g1 g2 g3 f (fun z => by
        rcases z with z | z
        · rw [e1] at z; exact c1 (.inl z)
        · exact absurd z hne1) (fun _ z a' x' t e => by
        rw [e1] at z
        exact c2 (by simp) z a' x' t (by rw [List.filter_cons, if_neg (by rw [hk]; decide)]; exact e))
      rw [e1] at this
      rw [List.filter_cons, if_neg (by rw [hk]; decide)]
      exact this
    | true =>
      rw [List.filter_cons, if_pos hk] at c2 ⊢
      -- what is new comes last
      have last : lineK L keep (arcR (p :: ps) x) = lineK L keep (p :: ps) ++ [x] → (∀ z ∈ lineK L keep (p :: ps), z.top ≠ x.top) → Ply "place" (lineK L keep (p :: ps)) ((a, x) :: rest.filter fun q => keep q.2.pay) f (out.map fun q => (q.1, (ofK L keep q.2).getD q.2.1)) := fun e1 e2 => by
        have go := ih I.recv g1 g2 g3 free (fun _ => rfl) (fun _ z => by rw [e1] at z; simp at z)
        rw [e1] at go
        cases hl : lineK L keep (p :: ps) with
        | nil =>
          have := c2 (by simp) hl a x _ rfl
          rw [hl, List.nil_append] at go
          refine .wake ?_
          rw [this]
          exact go
        | cons z zs =>
          have ef := c1 (.inl (by rw [hl]; simp))
          subst ef
          refine .recv ha ?_
          rw [← hl, arcv_place, if_neg]
          · exact go
          · intro z
            obtain ⟨w, hw, e⟩ := List.any_eq_true.mp z
            exact e2 w hw (of_decide_eq_true e)
      cases hany : (p :: ps).any fun y => decide (y.1.top = x.top) with
      | false =>
        have e0 : arcR (p :: ps) x = (p :: ps) ++ [(x, [x.pay])] := by
          unfold arcR
          rw [if_neg (by rw [hany]; decide)]
        refine last ?_ fun z hz e => ?_
        · rw [e0]
          have := ofK_new (R := []) hk hx
          rw [List.nil_append] at this
          unfold lineK
          rw [List.filterMap_append]
          congr 1
          rw [List.filterMap_cons, this]
          rfl
        · obtain ⟨y, hy, _, et⟩ := lineK_top I hz
          have := List.any_eq_false.mp hany y hy
          exact this (decide_eq_true (et.symm.trans e))
      | true =>
        obtain ⟨y, hy, ety⟩ := List.any_eq_true.mp hany
        have ety := of_decide_eq_true ety
        have e0 : arcR (p :: ps) x = (p :: ps).map fun y => if y.1.top = x.top then (x, y.2 ++ [x.pay]) else y := by
          unfold arcR
          rw [if_pos hany]
        cases hs : ofK L keep y with
        | some w =>
          have hmem : w ∈ lineK L keep (p :: ps) := List.mem_filterMap.mpr ⟨y, hy, hs⟩
          have hne : lineK L keep (p :: ps) ≠ [] := fun z => by rw [z] at hmem; cases hmem
          have ef := c1 (.inl hne)
          subst ef
          -- only y has the topic
          have uniq : ∀ y' ∈ p :: ps, y'.1.top = x.top → y' = y := fun y' hy' e' => by
            have nd := I.dis
            rw [List.Nodup, List.pairwise_map] at nd
            refine Classical.byContradiction fun ne => ?_
            obtain ⟨i, hi, e1⟩ := List.mem_iff_getElem.mp hy'
            obtain ⟨j, hj, e2⟩ := List.mem_iff_getElem.mp hy
            rcases Nat.lt_trichotomy i j with z | z | z
            · exact List.pairwise_iff_getElem.mp nd i j hi hj z (by rw [e1, e2, e', ety])
            · subst z; exact ne (e1.symm.trans e2)
            · exact List.pairwise_iff_getElem.mp nd j i hj hi z (by rw [e1, e2, e', ety])
          have e1 : lineK L keep (arcR (p :: ps) x) = (lineK L keep (p :: ps)).map fun z => if z.top = x.top then x else z := by
            rw [e0]
            unfold lineK
            rw [List.filterMap_map, List.map_filterMap]
            refine fm_congr fun y' hy' => ?_
            show ofK L keep (if y'.1.top = x.top then (x, y'.2 ++ [x.pay]) else y') = (ofK L keep y').map _
            split
            · rename_i et
              have := uniq y' hy' et
              subst this
              rw [ofK_new hk hx, hs, Option.map_some]
              obtain ⟨k, hk1, _, ew, _⟩ := ofK_some hs
              have : w.top = x.top := by rw [ew]; exact (I.top _ hy' k hk1).trans et
              rw [if_pos this]
            · rename_i et
              cases h2 : ofK L keep y' with
              | none => rfl
              | some v =>
                obtain ⟨k, hk1, _, ev, _⟩ := ofK_some h2
                have : ¬ v.top = x.top := fun z => et (by rw [← z, ev]; exact (I.top _ hy' k hk1).symm)
                rw [Option.map_some, if_neg this]
          have go := ih I.recv g1 g2 g3 f (fun _ => rfl) (fun _ z => by
            rw [e1] at z
            exact absurd (List.map_eq_nil_iff.mp z) hne)
          rw [e1] at go
          cases hl : lineK L keep (p :: ps) with
          | nil => exact absurd hl hne
          | cons z zs =>
            refine .recv ha ?_
            rw [← hl, arcv_place, if_pos]
            · exact go
            · obtain ⟨k, hk1, _, ew, _⟩ := ofK_some hs
              exact List.any_eq_true.mpr ⟨w, hmem, decide_eq_true (by rw [ew]; exact (I.top _ hy k hk1).trans ety)⟩
        | none =>
          obtain ⟨A, B, eAB⟩ := List.append_of_mem hy
          have nd := I.dis
          rw [eAB, List.map_append, List.map_cons] at nd
          have nA : ∀ y' ∈ A, ¬ y'.1.top = x.top := fun y' hy' e => (List.nodup_append.mp nd).2.2 _ (List.mem_map.mpr ⟨y', hy', rfl⟩) _ List.mem_cons_self (e.trans ety.symm)
          have nB : ∀ y' ∈ B, ¬ y'.1.top = x.top := fun y' hy' e => (List.nodup_cons.mp (List.nodup_append.mp nd).2.1).1 (List.mem_map.mpr ⟨y', hy', e.trans ety.symm⟩)
          have nk := ofK_none.mp hs
          have hB : ∀ y' ∈ B, ofK L keep y' = none := fun y' hy' => by
            refine ofK_none.mpr fun k' hk' => ?_
            cases hkk : keep k' with
            | false => rfl
            | true =>
              exfalso
              obtain ⟨j, hj, ej⟩ := List.mem_iff_getElem.mp hy'
              have i1 : (p :: ps)[A.length]? = some y := by rw [eAB, List.getElem?_append_right (Nat.le_refl _), Nat.sub_self]; rfl
              have i2 : (p :: ps)[A.length + 1 + j]? = some y' := by
                rw [eAB, List.getElem?_append_right (by omega), show A.length + 1 + j - A.length = j + 1 by omega, List.getElem?_cons_succ, List.getElem?_eq_getElem hj, ej]
              have hP0 := PlyR.recv ha hP
              obtain ⟨q, s, h1, h2, h3⟩ := hP0.begun _ _ i1
              obtain ⟨q', s', h1', h2', _⟩ := hP0.begun _ _ i2
              obtain ⟨k, hkq, hkk2, hlt⟩ := g3 _ _ q q' (by omega) h1 h1' k' (by rw [h2']; exact List.mem_append_left _ hk') hkk
              rw [h2] at hkq
              rcases List.mem_append.mp hkq with hkq | hkq
              · rw [nk k hkq] at hkk2; cases hkk2
              · obtain ⟨z, hz, ez⟩ := h3 k hkq
                have := I.lt y' (by rw [eAB]; exact List.mem_append_right _ (List.mem_cons_of_mem _ hy')) k' hk' z hz
                omega
          have fB : B.filterMap (ofK L keep) = [] := List.filterMap_eq_nil_iff.mpr hB
          have mapId : ∀ l : List EnR, (∀ y' ∈ l, ¬ y'.1.top = x.top) → (l.map fun y => if y.1.top = x.top then (x, y.2 ++ [x.pay]) else y) = l := fun l hl => by
            conv => rhs; rw [← List.map_id l]
            exact List.map_congr_left fun y' hy' => if_neg (hl y' hy')
          refine last ?_ fun z hz e => ?_
          · rw [e0, eAB]
            unfold lineK
            rw [List.map_append, List.map_cons, mapId A nA, mapId B nB, if_pos ety, List.filterMap_append, List.filterMap_append, List.filterMap_cons, List.filterMap_cons, ofK_new hk hx, hs, fB]
            simp
          · obtain ⟨y', hy', eo, et⟩ := lineK_top I hz
            rw [eAB] at hy'
            have et := et.symm.trans e
            rcases List.mem_append.mp hy' with hy' | hy'
            · exact nA y' hy' et
            · rcases List.mem_cons.mp hy' with rfl | hy'
              · rw [hs] at eo; cases eo
              · exact nB y' hy' et
  | @beg p ps rest free out hn hP ih =>
    intro f c1 _
    obtain ⟨k0, hk0, hkk0⟩ := g1 _ List.mem_cons_self
    obtain ⟨z, hz⟩ : ∃ z, ofK L keep p = some z := by
      cases e : ofK L keep p with
      | none => rw [ofK_none.mp e k0 hk0] at hkk0; cases hkk0
      | some z => exact ⟨z, rfl⟩
    have el : lineK L keep (p :: ps) = z :: lineK L keep ps := by
      unfold lineK
      rw [List.filterMap_cons, hz]
    have ef := c1 (.inl (by rw [el]; simp))
    subst ef
    obtain ⟨k, hk1, _, ez, hl⟩ := ofK_some hz
    have elen : z.len = p.1.len := by
      rw [ez]
      exact g2 _ List.mem_cons_self k hl
    have go := ih I.tail (fun q hq => g1 q (List.mem_cons_of_mem _ hq)) (fun q hq => g2 q (List.mem_cons_of_mem _ hq)) (fun i i' q q' h h1 h2 => g3 (i + 1) (i' + 1) q q' (by omega) h1 h2) (f + p.1.len) (fun _ => rfl) (fun hps hlk a x t e => by
      obtain ⟨r, rs, er⟩ : ∃ r rs, ps = r :: rs := by
        cases ps with
        | nil => exact absurd rfl hps
        | cons r rs => exact ⟨r, rs, rfl⟩
      obtain ⟨q, o, h1, h2, h3⟩ := hP.head r rs er
      obtain ⟨k', hk', hkk'⟩ := g1 q (List.mem_cons_of_mem _ (by rw [h1]; exact List.mem_cons_self))
      rcases h3 k' hk' with w | ⟨w, hw, e2, e3⟩
      · exfalso
        have : ofK L keep r = none := by
          rw [er] at hlk
          unfold lineK at hlk
          exact List.filterMap_eq_nil_iff.mp hlk r List.mem_cons_self
        rw [ofK_none.mp this k' w] at hkk'
        cases hkk'
      · have h4 := head_le I.up e hw (by rw [e2]; exact hkk')
        omega)
    rw [el, List.map_cons]
    show Ply "place" _ _ f ((f, (ofK L keep p).getD p.1) :: _)
    rw [hz]
    refine .beg (head_gt I.up hn) ?_
    rw [elen]
    exact go
end
end DL
namespace DL
open PySem PySem.Spec PyProof.Rows L2
/-! ### what came for each begin -/
/-- where what came for a begin stood -/
theorem PlyR.src {line : List EnR} {rest : List (Int × It Nat)} {free : Int} {out : List (Int × EnR)} (h : PlyR line rest free out) : ∀ (j : Nat) (q : Int × EnR), out[j]? = some q → ∀ k ∈ q.2.2, (∃ y, line[j]? = some y ∧ k ∈ y.2) ∨ ∃ z ∈ rest, z.2.pay = k := by
  induction h with
  | stop => intro j q e; cases e
  | @wake a x rest free out _ ih =>
    intro j q e k hk
    rcases ih j q e k hk with ⟨y, hy, hky⟩ | ⟨z, hz, ez⟩
    · cases j with
      | zero =>
        cases hy
        rw [List.mem_singleton] at hky
        exact .inr ⟨(a, x), List.mem_cons_self, hky.symm⟩
      | succ j => cases hy
    · exact .inr ⟨z, List.mem_cons_of_mem _ hz, ez⟩
  | @recv p ps a x rest free out ha _ ih =>
    intro j q e k hk
    rcases ih j q e k hk with ⟨y, hy, hky⟩ | ⟨z, hz, ez⟩
    · cases hl : (p :: ps)[j]? with
      | some y0 =>
        have := arcR_get (x := x) hl
        rw [this] at hy
        have hy := Option.some.inj hy
        rw [← hy] at hky
        split at hky
        · rcases List.mem_append.mp hky with hky | hky
          · exact .inl ⟨y0, rfl, hky⟩
          · rw [List.mem_singleton] at hky
            exact .inr ⟨(a, x), List.mem_cons_self, hky.symm⟩
        · exact .inl ⟨y0, rfl, hky⟩
      | none =>
        right
        refine ⟨(a, x), List.mem_cons_self, ?_⟩
        have hlen := List.getElem?_eq_none_iff.mp hl
        unfold arcR at hy
        split at hy
        · rw [List.getElem?_map, hl] at hy
          cases hy
        · rw [List.getElem?_append_right hlen] at hy
          have hm := List.mem_of_getElem? hy
          rw [List.mem_singleton] at hm
          rw [hm] at hky
          exact (List.mem_singleton.mp hky).symm
    · exact .inr ⟨z, List.mem_cons_of_mem _ hz, ez⟩
  | @beg p ps rest free out hn _ ih =>
    intro j q e k hk
    cases j with
    | zero =>
      cases e
      exact .inl ⟨p, rfl, hk⟩
    | succ j => exact ih j q e k hk
/-- times as in the log, lengths not below 0 -/
structure TInv (L : List An) (line : List EnR) (rest : List (Int × It Nat)) (free : Int) : Prop where
  tm : ∀ q ∈ rest, q.1 = timAt L q.2.pay
  le : ∀ y ∈ line, ∀ k ∈ y.2, timAt L k ≤ free
  l1 : ∀ y ∈ line, 0 ≤ y.1.len
  l2 : ∀ q ∈ rest, 0 ≤ q.2.len
theorem TInv.recv {L : List An} {line : List EnR} {a : Int} {x : It Nat} {rest : List (Int × It Nat)} {free : Int} (h : TInv L line ((a, x) :: rest) free) (ha : a ≤ free) : TInv L (arcR line x) rest free := by
  have hx := h.tm (a, x) List.mem_cons_self
  have hx2 := h.l2 (a, x) List.mem_cons_self
  have hx : a = timAt L x.pay := hx
  refine ⟨fun q hq => h.tm q (List.mem_cons_of_mem _ hq), fun y hy k hk => ?_, fun y hy => ?_, fun q hq => h.l2 q (List.mem_cons_of_mem _ hq)⟩
  · rcases arcR_mem hy with ⟨hy, _⟩ | ⟨z, hz, hzt, rfl⟩ | ⟨rfl, _⟩
    · exact h.le y hy k hk
    · rcases List.mem_append.mp hk with hk | hk
      · exact h.le z hz k hk
      · rw [List.mem_singleton] at hk
        rw [hk, ← hx]
        exact ha
    · rw [List.mem_singleton] at hk
      rw [hk, ← hx]
      exact ha
  · rcases arcR_mem hy with ⟨hy, _⟩ | ⟨z, hz, hzt, rfl⟩ | ⟨rfl, _⟩
    · exact h.l1 y hy
    · exact hx2
    · exact hx2
theorem PlyR.upTo {L : List An} {line : List EnR} {rest : List (Int × It Nat)} {free : Int} {out : List (Int × EnR)} (h : PlyR line rest free out) (T : TInv L line rest free) : ∀ q ∈ out, ∀ k ∈ q.2.2, timAt L k ≤ q.1 := by
  induction h with
  | stop => exact fun q hq => by cases hq
  | @wake a x rest free out _ ih =>
    refine ih ⟨fun q hq => T.tm q (List.mem_cons_of_mem _ hq), fun y hy k hk => ?_, fun y hy => ?_, fun q hq => T.l2 q (List.mem_cons_of_mem _ hq)⟩
    · rw [List.mem_singleton] at hy
      subst hy
      rw [List.mem_singleton] at hk
      have : a = timAt L x.pay := T.tm (a, x) List.mem_cons_self
      rw [hk, ← this]
      omega
    · rw [List.mem_singleton] at hy
      subst hy
      exact T.l2 (a, x) List.mem_cons_self
  | recv ha _ ih => exact ih (T.recv ha)
  | @beg p ps rest free out hn _ ih =>
    have hp := T.l1 p List.mem_cons_self
    intro q hq
    rcases List.mem_cons.mp hq with rfl | hq
    · exact fun k hk => T.le p List.mem_cons_self k hk
    · exact ih ⟨T.tm, fun y hy k hk => by have := T.le y (List.mem_cons_of_mem _ hy) k hk; omega, fun y hy => T.l1 y (List.mem_cons_of_mem _ hy), T.l2⟩ q hq
theorem rest_gt {rest : List (Int × It Nat)} {free : Int} (hT : TimesUp rest) (hn : ∀ a x t, rest = (a, x) :: t → free < a) : ∀ z ∈ rest, free < z.1 := by
  cases rest with
  | nil => exact fun z hz => by cases hz
  | cons r t =>
    have h1 := hn r.1 r.2 t rfl
    intro z hz
    rcases List.mem_cons.mp hz with rfl | hz
    · exact h1
    · have := (List.pairwise_cons.mp hT).1 z hz
      omega
/-- what is in the runs -/
structure RunsOk (L : List An) (out : List (Int × EnR)) : Prop where
  top : ∀ q ∈ out, ∀ k ∈ q.2.2, topAt L k = q.2.1.top
  last : ∀ q ∈ out, q.2.2.getLast? = some q.2.1.pay
  it : ∀ q ∈ out, q.2.1 = itm L id q.2.1.pay
  after : ∀ (i j : Nat) (q q' : Int × EnR), i < j → out[i]? = some q → out[j]? = some q' → q.2.1.top = q'.2.1.top → ∀ k ∈ q'.2.2, q.1 < timAt L k
  ord : ∀ (i j : Nat) (q q' : Int × EnR), i < j → out[i]? = some q → out[j]? = some q' → ∀ k' ∈ q'.2.2, ∃ k ∈ q.2.2, k < k'
def LP (line : List EnR) : Prop := ∀ (i j : Nat) (y y' : EnR), i < j → line[i]? = some y → line[j]? = some y' → ∀ k' ∈ y'.2, ∃ k ∈ y.2, k < k'
theorem some_of_last {R : List Nat} {k : Nat} (h : R.getLast? = some k) : k ∈ R := List.mem_of_getLast? h
theorem LP.recv {L : List An} {line : List EnR} {a : Int} {x : It Nat} {rest : List (Int × It Nat)} (h : LP line) (I : RInv L line ((a, x) :: rest)) : LP (arcR line x) := by
  intro i j y y' hij e1 e2 k' hk'
  have hj : j < (arcR line x).length := (List.getElem?_eq_some_iff.mp e2).1
  have hll : (arcR line x).length ≤ line.length + 1 := by
    unfold arcR
    split
    · rw [List.length_map]; omega
    · rw [List.length_append]; exact Nat.le_refl _
  obtain ⟨y0, h0⟩ : ∃ y0, line[i]? = some y0 := ⟨_, List.getElem?_eq_getElem (by omega)⟩
  have e1' := arcR_get (x := x) h0
  rw [e1] at e1'
  have ey := Option.some.inj e1'
  have sub : ∀ k ∈ y0.2, k ∈ y.2 := fun k hk => by
    rw [ey]
    split
    · exact List.mem_append_left _ hk
    · exact hk
  have hm0 := List.mem_of_getElem? h0
  have fresh : k' = x.pay → ∃ k ∈ y.2, k < k' := fun e => by
    have := some_of_last (I.last y0 hm0)
    exact ⟨_, sub _ this, by rw [e]; exact I.lt y0 hm0 _ this (a, x) List.mem_cons_self⟩
  have hm := List.mem_of_getElem? e2
  cases h1 : line[j]? with
  | some y1 =>
    have e2' := arcR_get (x := x) h1
    rw [e2] at e2'
    have ey' := Option.some.inj e2'
    rw [ey'] at hk'
    have old : k' ∈ y1.2 → ∃ k ∈ y.2, k < k' := fun hk => by
      obtain ⟨k, hk1, hk2⟩ := h i j y0 y1 hij h0 h1 k' hk
      exact ⟨k, sub k hk1, hk2⟩
    split at hk'
    · rcases List.mem_append.mp hk' with hk' | hk'
      · exact old hk'
      · exact fresh (List.mem_singleton.mp hk')
    · exact old hk'
  | none =>
    have hlen := List.getElem?_eq_none_iff.mp h1
    unfold arcR at e2
    split at e2
    · rw [List.getElem?_map, h1] at e2
      cases e2
    · rw [List.getElem?_append_right hlen] at e2
      have hm := List.mem_of_getElem? e2
      rw [List.mem_singleton] at hm
      rw [hm] at hk'
      exact fresh (List.mem_singleton.mp hk')
theorem PlyR.ok {L : List An} {line : List EnR} {rest : List (Int × It Nat)} {free : Int} {out : List (Int × EnR)} (h : PlyR line rest free out) (I : RInv L line rest) (hT : ∀ q ∈ rest, q.1 = timAt L q.2.pay) (hl : LP line) : RunsOk L out := by
  induction h with
  | stop => exact ⟨fun q hq => (by cases hq), fun q hq => (by cases hq), fun q hq => (by cases hq), fun i j q q' _ e => (by cases e), fun i j q q' _ e => (by cases e)⟩
  | wake _ ih =>
    refine ih I.one (fun q hq => hT q (List.mem_cons_of_mem _ hq)) fun i j y y' hij e1 e2 => ?_
    have := (List.getElem?_eq_some_iff.mp e2).1
    simp at this
    omega
  | recv ha _ ih => exact ih I.recv (fun q hq => hT q (List.mem_cons_of_mem _ hq)) (hl.recv I)
  | @beg p ps rest free out hn hP ih =>
    have ok := ih I.tail hT fun i j y y' hij e1 e2 => hl (i + 1) (j + 1) y y' (by omega) e1 e2
    have nd := I.dis
    rw [List.map_cons, List.nodup_cons] at nd
    have hgt := rest_gt I.up hn
    refine ⟨fun q hq => ?_, fun q hq => ?_, fun q hq => ?_, fun i j q q' hij e1 e2 et k hk => ?_, fun i j q q' hij e1 e2 k' hk' => ?_⟩
    · rcases List.mem_cons.mp hq with rfl | hq
      · exact fun k hk => I.top p List.mem_cons_self k hk
      · exact ok.top q hq
    · rcases List.mem_cons.mp hq with rfl | hq
      · exact I.last p List.mem_cons_self
      · exact ok.last q hq
    · rcases List.mem_cons.mp hq with rfl | hq
      · exact I.it p List.mem_cons_self
      · exact ok.it q hq
    · cases j with
      | zero => omega
      | succ j =>
        cases i with
        | succ i => exact ok.after i j q q' (by omega) e1 e2 et k hk
        | zero =>
          cases e1
          have hq' := List.mem_of_getElem? (show out[j]? = some q' from e2)
          rcases hP.src j q' e2 k hk with ⟨y, hy, hky⟩ | ⟨z, hz, ez⟩
          · exfalso
            have hy := List.mem_of_getElem? hy
            have h1 := I.top y (List.mem_cons_of_mem _ hy) k hky
            have h2 := ok.top q' hq' k hk
            exact nd.1 (List.mem_map.mpr ⟨y, hy, by rw [← h1, h2]; exact et.symm⟩)
          · have := hgt z hz
            rw [hT z hz, ez] at this
            exact this
    · cases j with
      | zero => omega
      | succ j =>
        cases i with
        | succ i => exact ok.ord i j q q' (by omega) e1 e2 k' hk'
        | zero =>
          cases e1
          rcases hP.src j q' e2 k' hk' with ⟨y, hy, hky⟩ | ⟨z, hz, ez⟩
          · exact hl 0 (j + 1) p y (by omega) rfl hy k' hky
          · have := some_of_last (I.last p List.mem_cons_self)
            exact ⟨_, this, by rw [← ez]; exact I.lt p List.mem_cons_self _ this z hz⟩
/-- all that comes comes for one begin -/
theorem arcR_flat {L : List An} {line : List EnR} {a : Int} {x : It Nat} {rest : List (Int × It Nat)} (I : RInv L line ((a, x) :: rest)) : ((arcR line x).flatMap fun y => y.2).Perm ((line.flatMap fun y => y.2) ++ [x.pay]) := by
  unfold arcR
  cases hany : line.any fun y => decide (y.1.top = x.top) with
  | false =>
    rw [if_neg (by decide), List.flatMap_append]
    simp
  | true =>
    rw [if_pos rfl]
    obtain ⟨y, hy, ety⟩ := List.any_eq_true.mp hany
    have ety := of_decide_eq_true ety
    obtain ⟨A, B, eAB⟩ := List.append_of_mem hy
    have nd := I.dis
    rw [eAB, List.map_append, List.map_cons] at nd
    have nA : ∀ y' ∈ A, ¬ y'.1.top = x.top := fun y' hy' e => (List.nodup_append.mp nd).2.2 _ (List.mem_map.mpr ⟨y', hy', rfl⟩) _ List.mem_cons_self (e.trans ety.symm)
    have nB : ∀ y' ∈ B, ¬ y'.1.top = x.top := fun y' hy' e => (List.nodup_cons.mp (List.nodup_append.mp nd).2.1).1 (List.mem_map.mpr ⟨y', hy', e.trans ety.symm⟩)
    have mapId : ∀ l : List EnR, (∀ y' ∈ l, ¬ y'.1.top = x.top) → (l.map fun y => if y.1.top = x.top then (x, y.2 ++ [x.pay]) else y) = l := fun l hl => by
      conv => rhs; rw [← List.map_id l]
      exact List.map_congr_left fun y' hy' => if_neg (hl y' hy')
    rw [eAB, List.map_append, List.map_cons, mapId A nA, mapId B nB, if_pos ety]
    simp only [List.flatMap_append, List.flatMap_cons, List.append_assoc]
    refine List.Perm.append_left _ (List.Perm.append_left _ ?_)
    exact List.perm_append_comm
theorem PlyR.flat {L : List An} {line : List EnR} {rest : List (Int × It Nat)} {free : Int} {out : List (Int × EnR)} (h : PlyR line rest free out) (I : RInv L line rest) : (out.flatMap fun q => q.2.2).Perm ((line.flatMap fun y => y.2) ++ rest.map fun q => q.2.pay) := by
  induction h with
  | stop => exact .refl _
  | @wake a x rest free out _ ih => exact ih I.one
  | @recv p ps a x rest free out ha _ ih =>
    refine (ih I.recv).trans ?_
    refine ((arcR_flat I).append_right _).trans ?_
    rw [List.append_assoc]
    exact .refl _
  | @beg p ps rest free out hn _ ih =>
    rw [List.flatMap_cons, List.flatMap_cons, List.append_assoc]
    exact (ih I.tail).append_left _
end DL
namespace DL
open PySem PySem.Spec PyProof.Rows L2
/-! ### choosing a first one for each begin -/
theorem PlyR.inc {L : List An} {line : List EnR} {rest : List (Int × It Nat)} {free : Int} {out : List (Int × EnR)} (h : PlyR line rest free out) (I : RInv L line rest) (hl : ∀ y ∈ line, y.2.Pairwise (· < ·)) : ∀ q ∈ out, q.2.2.Pairwise (· < ·) := by
  induction h with
  | stop => exact fun q hq => by cases hq
  | @wake a x rest free out _ ih =>
    refine ih I.one fun y hy => ?_
    rw [List.mem_singleton] at hy
    subst hy
    exact List.pairwise_singleton _ _
  | @recv p ps a x rest free out ha _ ih =>
    refine ih I.recv fun y hy => ?_
    rcases arcR_mem hy with ⟨hy, _⟩ | ⟨z, hz, hzt, rfl⟩ | ⟨rfl, _⟩
    · exact hl y hy
    · refine List.pairwise_append.mpr ⟨hl z hz, List.pairwise_singleton _ _, fun k hk k' hk' => ?_⟩
      rw [List.mem_singleton] at hk'
      subst hk'
      exact I.lt z hz k hk (a, x) List.mem_cons_self
    · exact List.pairwise_singleton _ _
  | @beg p ps rest free out hn _ ih =>
    intro q hq
    rcases List.mem_cons.mp hq with rfl | hq
    · exact hl p List.mem_cons_self
    · exact ih I.tail (fun y hy => hl y (List.mem_cons_of_mem _ hy)) q hq
theorem le_last {R : List Nat} {c : Nat} (h : R.Pairwise (· < ·)) (hc : R.getLast? = some c) : ∀ k ∈ R, k ≤ c := by
  obtain ⟨R', rfl⟩ := List.getLast?_eq_some_iff.mp hc
  intro k hk
  rcases List.mem_append.mp hk with hk | hk
  · exact Nat.le_of_lt ((List.pairwise_append.mp h).2.2 k hk c List.mem_cons_self)
  · exact Nat.le_of_eq (List.mem_singleton.mp hk)
/-- the runs of a log -/
structure Came (L : List An) (keep : Nat → Bool) (o : List (Int × EnR)) : Prop where
  ply : PlyR [] ((restOf L id 0).filter fun q => keep q.2.pay) 0 o
  ok : RunsOk L o
  inc : ∀ q ∈ o, q.2.2.Pairwise (· < ·)
  upTo : ∀ q ∈ o, ∀ k ∈ q.2.2, timAt L k ≤ q.1
  flat : (o.flatMap fun q => q.2.2).Perm ((List.range L.length).filter keep)
theorem rinv_of {L : List An} (hV : VLog L) (keep : Nat → Bool) : RInv L [] ((restOf L id 0).filter fun q => keep q.2.pay) := by
  refine ⟨(fun y hy => by cases hy), (fun y hy => by cases hy), (fun y hy => by cases hy), List.nodup_nil, fun q hq => ?_, ?_, (fun y hy => by cases hy), (times_up hV).sublist List.filter_sublist⟩
  · have hq := (List.mem_filter.mp hq).1
    rw [restOf_range] at hq
    obtain ⟨k, _, rfl⟩ := List.mem_map.mp hq
    rfl
  · have h : ((restOf L id 0).map fun q => q.2.pay).Pairwise (· < ·) := by rw [pays]; exact List.pairwise_lt_range
    exact h.sublist (List.filter_sublist.map _)
theorem tinv_of {L : List An} (hV : VLog L) (keep : Nat → Bool) (line : List EnR) (hl : line = []) : TInv L line ((restOf L id 0).filter fun q => keep q.2.pay) 0 := by
  subst hl
  refine ⟨fun q hq => ?_, (fun y hy => by cases hy), (fun y hy => by cases hy), fun q hq => ?_⟩
  · have hq := (List.mem_filter.mp hq).1
    rw [restOf_range] at hq
    obtain ⟨k, _, rfl⟩ := List.mem_map.mp hq
    rfl
  · have hq := (List.mem_filter.mp hq).1
    rw [restOf_range] at hq
    obtain ⟨k, hk, rfl⟩ := List.mem_map.mp hq
    have := hV.ln1 k (List.mem_range.mp hk)
    show 0 ≤ lnAt L k
    omega
theorem came_of {L : List An} (hV : VLog L) {keep : Nat → Bool} {o : List (Int × EnR)} (h : PlyR [] ((restOf L id 0).filter fun q => keep q.2.pay) 0 o) : Came L keep o := by
  have I := rinv_of hV keep
  have T := tinv_of hV keep [] rfl
  refine ⟨h, h.ok I T.tm fun i j y y' _ e => (by cases e), h.inc I (fun y hy => by cases hy), h.upTo T, ?_⟩
  have := h.flat I
  rw [List.flatMap_nil, List.nil_append] at this
  have e : (((restOf L id 0).filter fun q => keep q.2.pay).map fun q => q.2.pay) = (List.range L.length).filter keep := by
    rw [restOf_range, List.filter_map, List.map_map]
    conv => rhs; rw [← List.map_id ((List.range L.length).filter keep)]
    rfl
  rw [e] at this
  exact this
/-- the part's runs, as the part is spoken -/
theorem came_part {L : List An} (hV : VLog L) (keep : Nat → Bool) : ∃ o, Came L keep o ∧ (o.map fun q => (⟨q.1, q.2.1.top, q.2.1.len⟩ : An)) = triplesOf "place" (keepIf L keep) := by
  have hp := ply_spoken (r := "place") (hV.sub (keepIf_sub L keep)).p (fun i => ((List.range L.length).filter keep)[i]?.getD 0)
  rw [← restOf_keep (p := keep)] at hp
  obtain ⟨o, h1, h2⟩ := hp.runs [] rfl
  refine ⟨o, came_of hV h1, ?_⟩
  rw [← tri_spoken (fun i => ((List.range L.length).filter keep)[i]?.getD 0), ← h2, List.map_map]
  rfl
def every : Nat → Bool := fun _ => true
theorem keepIf_all (L : List An) : keepIf L every = L := by
  unfold keepIf
  rw [show (List.range L.length).filter every = List.range L.length from List.filter_eq_self.mpr fun _ _ => rfl]
  exact (atL_all L).symm
theorem rest_all (L : List An) : ((restOf L id 0).filter fun q => every q.2.pay) = restOf L id 0 := List.filter_eq_self.mpr fun _ _ => rfl
theorem Came.disj {L : List An} {keep : Nat → Bool} {o : List (Int × EnR)} (h : Came L keep o) {i j : Nat} {q q' : Int × EnR} (e1 : o[i]? = some q) (e2 : o[j]? = some q') {k : Nat} (h1 : k ∈ q.2.2) (h2 : k ∈ q'.2.2) : i = j := by
  have m1 := List.mem_of_getElem? e1
  have m2 := List.mem_of_getElem? e2
  have et : q.2.1.top = q'.2.1.top := (h.ok.top q m1 k h1).symm.trans (h.ok.top q' m2 k h2)
  rcases Nat.lt_trichotomy i j with z | z | z
  · have := h.ok.after i j q q' z e1 e2 et k h2
    have := h.upTo q m1 k h1
    omega
  · exact z
  · have := h.ok.after j i q' q z e2 e1 et.symm k h1
    have := h.upTo q' m2 k h2
    omega
def lastOf (R : List Nat) : Nat := R.getLast?.getD 0
def keptOf (L : List An) (R : List Nat) (f : Nat) : List Nat := if lnAt L f = lnAt L (lastOf R) then [f] else [f, lastOf R]
structure Chain (Rs : List (List Nat)) (fs : List Nat) : Prop where
  len : fs.length = Rs.length
  mem : ∀ (i : Nat) (R : List Nat) (f : Nat), Rs[i]? = some R → fs[i]? = some f → f ∈ R
  inc : fs.Pairwise (· < ·)
def flatK (L : List An) (Rs : List (List Nat)) (fs : List Nat) : List Nat := (Rs.zip fs).flatMap fun p => keptOf L p.1 p.2
def runsOf (o : List (Int × EnR)) : List (List Nat) := o.map fun q => q.2.2
theorem kept_sub {L : List An} {R : List Nat} {f c : Nat} (hf : f ∈ R) (hc : R.getLast? = some c) : ∀ k ∈ keptOf L R f, k ∈ R := by
  have e : lastOf R = c := by unfold lastOf; rw [hc]; rfl
  intro k hk
  unfold keptOf at hk
  split at hk
  · rw [List.mem_singleton] at hk; rw [hk]; exact hf
  · rcases List.mem_cons.mp hk with rfl | hk
    · exact hf
    · rw [List.mem_singleton.mp hk, e]; exact some_of_last hc
theorem flat_mem {L : List An} {Rs : List (List Nat)} {fs : List Nat} {k : Nat} : k ∈ flatK L Rs fs ↔ ∃ (i : Nat) (R : List Nat) (f : Nat), Rs[i]? = some R ∧ fs[i]? = some f ∧ k ∈ keptOf L R f := by
  unfold flatK
  rw [List.mem_flatMap]
  constructor
  · rintro ⟨p, hp, hk⟩
    obtain ⟨i, hi⟩ := List.mem_iff_getElem?.mp hp
    have := List.getElem?_zip_eq_some.mp hi
    exact ⟨i, p.1, p.2, this.1, this.2, hk⟩
  · rintro ⟨i, R, f, h1, h2, hk⟩
    exact ⟨(R, f), List.mem_of_getElem? (List.getElem?_zip_eq_some (z := (R, f)) |>.mpr ⟨h1, h2⟩), hk⟩
/-- a chain's announcements are spoken as all are -/
theorem chain_alike {L : List An} (hV : VLog L) {o : List (Int × EnR)} (hC : Came L every o) (ho : (o.map fun q => (⟨q.1, q.2.1.top, q.2.1.len⟩ : An)) = triplesOf "place" L) {fs : List Nat} (hc : Chain (runsOf o) fs) :
    triplesOf "place" (keepIf L fun k => decide (k ∈ flatK L (runsOf o) fs)) = triplesOf "place" L := by
  have at1 : ∀ (i : Nat) (q : Int × EnR), o[i]? = some q → ∃ f c, fs[i]? = some f ∧ f ∈ q.2.2 ∧ q.2.2.getLast? = some c ∧ c = q.2.1.pay ∧ (∀ k ∈ q.2.2, k ∈ flatK L (runsOf o) fs ↔ k ∈ keptOf L q.2.2 f) := fun i q e => by
    have hi : i < fs.length := by
      rw [hc.len]
      unfold runsOf
      rw [List.length_map]
      exact (List.getElem?_eq_some_iff.mp e).1
    have er : (runsOf o)[i]? = some q.2.2 := by unfold runsOf; rw [List.getElem?_map, e]; rfl
    have ef : fs[i]? = some fs[i] := List.getElem?_eq_getElem hi
    have hm := List.mem_of_getElem? e
    have hl := hC.ok.last q hm
    refine ⟨fs[i], _, ef, hc.mem i _ _ er ef, hl, rfl, fun k hk => ⟨fun h => ?_, fun h => flat_mem.mpr ⟨i, _, _, er, ef, h⟩⟩⟩
    obtain ⟨j, R, f, h1, h2, h3⟩ := flat_mem.mp h
    unfold runsOf at h1
    rw [List.getElem?_map] at h1
    obtain ⟨q', e', rfl⟩ := Option.map_eq_some_iff.mp h1
    have hm' := List.mem_of_getElem? e'
    have h4 := kept_sub (hc.mem j _ _ (by unfold runsOf; rw [List.getElem?_map, e']; rfl) h2) (hC.ok.last q' hm') k h3
    have := hC.disj e e' hk h4
    subst this
    rw [e] at e'
    cases e'
    rw [ef] at h2
    cases h2
    exact h3
  have h0 : PlyR [] (restOf L id 0) 0 o := by
    have := hC.ply
    rw [rest_all] at this
    exact this
  have I : RInv L [] (restOf L id 0) := by
    have := rinv_of hV every
    rw [rest_all] at this
    exact this
  have g2 : ∀ q ∈ o, ∀ k, (q.2.2.filter fun k => decide (k ∈ flatK L (runsOf o) fs)).getLast? = some k → lnAt L k = q.2.1.len := fun q hq k hk => by
    obtain ⟨i, hi⟩ := List.mem_iff_getElem?.mp hq
    obtain ⟨f, c, h1, h2, h3, h4, h5⟩ := at1 i q hi
    have eit := hC.ok.it q hq
    have elen : q.2.1.len = lnAt L c := by rw [h4]; exact congrArg It.len eit
    have el : lastOf q.2.2 = c := by unfold lastOf; rw [h3]; rfl
    have hk0 := List.mem_filter.mp (List.mem_of_getLast? hk)
    have hk1 := (h5 k hk0.1).mp (of_decide_eq_true hk0.2)
    rw [elen]
    unfold keptOf at hk1
    split at hk1
    · rename_i z
      rw [List.mem_singleton.mp hk1, z, el]
    · rename_i z
      have hkc : c ∈ flatK L (runsOf o) fs := (h5 c (some_of_last h3)).mpr (by
        unfold keptOf
        rw [if_neg z, el]
        exact List.mem_cons_of_mem _ List.mem_cons_self)
      obtain ⟨R', eR⟩ := List.getLast?_eq_some_iff.mp h3
      rw [eR, List.filter_append, List.filter_cons, if_pos (decide_eq_true hkc), List.filter_nil, List.getLast?_concat] at hk
      cases hk
      rfl
  have hp := h0.keepS I (keep := fun k => decide (k ∈ flatK L (runsOf o) fs)) (fun q hq => by
    obtain ⟨i, hi⟩ := List.mem_iff_getElem?.mp hq
    obtain ⟨f, c, h1, h2, h3, h4, h5⟩ := at1 i q hi
    refine ⟨f, h2, decide_eq_true ((h5 f h2).mpr ?_)⟩
    unfold keptOf
    split <;> exact List.mem_cons_self) g2 (fun i j q q' hij e1 e2 k' hk' hkk => by
    obtain ⟨f, c, h1, h2, h3, h4, h5⟩ := at1 i q e1
    obtain ⟨f', c', h1', h2', h3', h4', h5'⟩ := at1 j q' e2
    have hff : f < f' := by
      obtain ⟨hi, e3⟩ := List.getElem?_eq_some_iff.mp h1
      obtain ⟨hj, e4⟩ := List.getElem?_eq_some_iff.mp h1'
      rw [← e3, ← e4]
      exact List.pairwise_iff_getElem.mp hc.inc i j hi hj hij
    refine ⟨f, h2, decide_eq_true ((h5 f h2).mpr ?_), ?_⟩
    · unfold keptOf
      split <;> exact List.mem_cons_self
    · have hk1 := (h5' k' hk').mp (of_decide_eq_true hkk)
      have el : lastOf q'.2.2 = c' := by unfold lastOf; rw [h3']; rfl
      unfold keptOf at hk1
      split at hk1
      · rw [List.mem_singleton.mp hk1]; exact hff
      · rcases List.mem_cons.mp hk1 with rfl | hk1
        · exact hff
        · rw [List.mem_singleton.mp hk1, el]
          have := le_last (hC.inc q' (List.mem_of_getElem? e2)) h3' f' h2'
          omega) 0 (fun _ => rfl) (fun z => absurd rfl z)
  rw [show lineK L (fun k => decide (k ∈ flatK L (runsOf o) fs)) [] = [] from rfl, restOf_keep (p := fun k => decide (k ∈ flatK L (runsOf o) fs))] at hp
  rw [← tri_of (hV.sub (keepIf_sub L _)).p hp, ← ho, List.map_map]
  refine List.map_congr_left fun q hq => ?_
  obtain ⟨i, hi⟩ := List.mem_iff_getElem?.mp hq
  obtain ⟨f, c, h1, h2, h3, h4, h5⟩ := at1 i q hi
  cases hs : ofK L (fun k => decide (k ∈ flatK L (runsOf o) fs)) q.2 with
  | none =>
    exfalso
    have := ofK_none.mp hs f h2
    rw [decide_eq_false_iff_not] at this
    refine this ((h5 f h2).mpr ?_)
    unfold keptOf
    split <;> exact List.mem_cons_self
  | some z =>
    obtain ⟨k, hk1, hk2, ez, hl⟩ := ofK_some hs
    show (⟨q.1, ((ofK L (fun k => decide (k ∈ flatK L (runsOf o) fs)) q.2).getD q.2.1).top, ((ofK L (fun k => decide (k ∈ flatK L (runsOf o) fs)) q.2).getD q.2.1).len⟩ : An) = _
    rw [hs]
    show (⟨q.1, z.top, z.len⟩ : An) = ⟨q.1, q.2.1.top, q.2.1.len⟩
    rw [ez]
    show (⟨q.1, topAt L k, lnAt L k⟩ : An) = _
    rw [hC.ok.top q hq k hk1, g2 q hq k hl]
end DL
namespace DL
open PySem PySem.Spec PyProof.Rows L2
/-! ### no part that is spoken alike is smaller than the smallest chain -/
theorem flat_le {L : List An} : ∀ {Rs Ss : List (List Nat)} {fs : List Nat}, (∀ (i : Nat) (R : List Nat) (f : Nat), Rs[i]? = some R → fs[i]? = some f → ∃ S, Ss[i]? = some S ∧ (keptOf L R f).length ≤ S.length) → (flatK L Rs fs).length ≤ (Ss.flatMap fun S => S).length
  | [], _, _, _ => Nat.zero_le _
  | _ :: _, _, [], _ => Nat.zero_le _
  | R :: Rs, [], f :: fs, h => by
    obtain ⟨S, e, _⟩ := h 0 R f rfl rfl
    cases e
  | R :: Rs, S :: Ss, f :: fs, h => by
    obtain ⟨S', e, h0⟩ := h 0 R f rfl rfl
    cases e
    have := flat_le (L := L) (Rs := Rs) (Ss := Ss) (fs := fs) fun i R f e1 e2 => h (i + 1) R f e1 e2
    show (keptOf L R f ++ flatK L Rs fs).length ≤ (S ++ Ss.flatMap fun S => S).length
    rw [List.length_append, List.length_append]
    omega
theorem head_mem {R : List Nat} {c : Nat} (h : R.getLast? = some c) : R.headD 0 ∈ R := by
  cases R with
  | nil => cases h
  | cons a R => exact List.mem_cons_self
theorem head_min {R : List Nat} (h : R.Pairwise (· < ·)) : ∀ k ∈ R, R.headD 0 ≤ k := by
  cases R with
  | nil => exact fun k hk => by cases hk
  | cons a R =>
    intro k hk
    rcases List.mem_cons.mp hk with rfl | hk
    · exact Nat.le_refl _
    · exact Nat.le_of_lt ((List.pairwise_cons.mp h).1 k hk)
theorem heads_chain {L : List An} {keep : Nat → Bool} {o : List (Int × EnR)} (h : Came L keep o) : ((runsOf o).map fun R => R.headD 0).Pairwise (· < ·) := by
  rw [List.pairwise_iff_getElem]
  intro i j hi hj hij
  have hi' : i < o.length := by simpa [runsOf] using hi
  have hj' : j < o.length := by simpa [runsOf] using hj
  have e1 : o[i]? = some o[i] := List.getElem?_eq_getElem hi'
  have e2 : o[j]? = some o[j] := List.getElem?_eq_getElem hj'
  have m2 := List.getElem_mem hj'
  have hm := head_mem (h.ok.last _ m2)
  obtain ⟨k, hk, hlt⟩ := h.ok.ord i j _ _ hij e1 e2 _ hm
  have := head_min (h.inc _ (List.getElem_mem hi')) k hk
  have a1 : ((runsOf o).map fun R => R.headD 0)[i] = o[i].2.2.headD 0 := by simp [runsOf]
  have a2 : ((runsOf o).map fun R => R.headD 0)[j] = o[j].2.2.headD 0 := by simp [runsOf]
  rw [a1, a2]
  omega
def triQ (q : Int × EnR) : An := ⟨q.1, q.2.1.top, q.2.1.len⟩
theorem chain_below {L : List An} (hV : VLog L) {o : List (Int × EnR)} (hC : Came L every o) (ho : o.map triQ = triplesOf "place" L) {keep : Nat → Bool} (hk : triplesOf "place" (keepIf L keep) = triplesOf "place" L) :
    ∃ fs, Chain (runsOf o) fs ∧ (flatK L (runsOf o) fs).length ≤ ((List.range L.length).filter keep).length := by
  obtain ⟨o', hC', ho'⟩ := came_part hV keep
  have ho' : o'.map triQ = triplesOf "place" (keepIf L keep) := ho'
  have e0 : o'.map triQ = o.map triQ := ho'.trans (hk.trans ho.symm)
  have elen : o'.length = o.length := by
    have := congrArg List.length e0
    rwa [List.length_map, List.length_map] at this
  have pair : ∀ (i : Nat) (q : Int × EnR), o[i]? = some q → ∃ q', o'[i]? = some q' ∧ q'.1 = q.1 ∧ q'.2.1.top = q.2.1.top ∧ q'.2.1.len = q.2.1.len := fun i q e => by
    have hi := (List.getElem?_eq_some_iff.mp e).1
    have e' : o'[i]? = some (o'[i]'(by omega)) := List.getElem?_eq_getElem (by omega)
    have := congrArg (fun l => l[i]?) e0
    simp only [List.getElem?_map, e, e', Option.map_some, Option.some.injEq] at this
    exact ⟨_, e', congrArg T3.a this, congrArg T3.b this, congrArg T3.c this⟩
  have sub : ∀ (i : Nat) (q q' : Int × EnR), o[i]? = some q → o'[i]? = some q' → ∀ k ∈ q'.2.2, k ∈ q.2.2 := fun i q q' e e' k hk' => by
    have m' := List.mem_of_getElem? e'
    have hkn : k ∈ (List.range L.length).filter every := by
      have : k ∈ o'.flatMap fun q => q.2.2 := List.mem_flatMap.mpr ⟨q', m', hk'⟩
      have := (List.mem_filter.mp (hC'.flat.mem_iff.mp this)).1
      exact List.mem_filter.mpr ⟨this, rfl⟩
    obtain ⟨q2, m2, hk2⟩ := List.mem_flatMap.mp (hC.flat.mem_iff.mpr hkn)
    obtain ⟨i2, e2⟩ := List.mem_iff_getElem?.mp m2
    obtain ⟨q0, a1, a2, a3, _⟩ := pair i q e
    rw [e'] at a1
    cases a1
    obtain ⟨q2', b1, b2, b3, _⟩ := pair i2 q2 e2
    have t1 := hC'.ok.top q' m' k hk'
    have t2 := hC.ok.top q2 m2 k hk2
    rcases Nat.lt_trichotomy i2 i with z | z | z
    · have h1 := hC'.ok.after i2 i q2' q' z b1 e' (by rw [b3, ← t2, t1]) k hk'
      have h2 := hC.upTo q2 m2 k hk2
      omega
    · subst z
      rw [e] at e2
      cases e2
      exact hk2
    · have h1 := hC.ok.after i i2 q q2 z e e2 (by rw [← a3, ← t1, t2]) k hk2
      have h2 := hC'.upTo q' m' k hk'
      omega
  refine ⟨(runsOf o').map fun R => R.headD 0, ⟨by simp [runsOf, elen], fun i R f e1 e2 => ?_, heads_chain hC'⟩, ?_⟩
  · unfold runsOf at e1 e2
    rw [List.getElem?_map] at e1
    obtain ⟨q, e, rfl⟩ := Option.map_eq_some_iff.mp e1
    obtain ⟨q', e', _, _, _⟩ := pair i q e
    rw [List.getElem?_map, List.getElem?_map, e'] at e2
    cases e2
    exact sub i q q' e e' _ (head_mem (hC'.ok.last q' (List.mem_of_getElem? e')))
  · have h := flat_le (L := L) (Rs := runsOf o) (Ss := runsOf o') (fs := (runsOf o').map fun R => R.headD 0) fun i R f e1 e2 => by
      unfold runsOf at e1 e2
      rw [List.getElem?_map] at e1
      obtain ⟨q, e, rfl⟩ := Option.map_eq_some_iff.mp e1
      obtain ⟨q', e', a2, a3, a4⟩ := pair i q e
      rw [List.getElem?_map, List.getElem?_map, e'] at e2
      cases e2
      have m' := List.mem_of_getElem? e'
      have m := List.mem_of_getElem? e
      have l' := hC'.ok.last q' m'
      have l := hC.ok.last q m
      refine ⟨q'.2.2, by unfold runsOf; rw [List.getElem?_map, e']; rfl, ?_⟩
      have el : lnAt L (lastOf q.2.2) = q.2.1.len := by
        unfold lastOf
        rw [l]
        exact (congrArg It.len (hC.ok.it q m)).symm
      have el' : q'.2.1.len = lnAt L q'.2.1.pay := congrArg It.len (hC'.ok.it q' m')
      show (keptOf L q.2.2 (q'.2.2.headD 0)).length ≤ q'.2.2.length
      unfold keptOf
      split
      · have := List.length_pos_of_mem (some_of_last l')
        exact this
      · rename_i z
        show 2 ≤ q'.2.2.length
        refine Nat.le_of_not_lt fun hlt => z ?_
        cases hR : q'.2.2 with
        | nil => rw [hR] at l'; cases l'
        | cons r rs =>
          cases rs with
          | cons _ _ => rw [hR] at hlt; simp at hlt; omega
          | nil =>
            rw [hR] at l'
            cases l'
            rw [el, ← a4, el']
            rfl
    have e3 : ((runsOf o').flatMap fun S => S) = o'.flatMap fun q => q.2.2 := by
      unfold runsOf
      rw [List.flatMap_map]
    rw [e3, hC'.flat.length_eq] at h
    exact h
/-! ### the smallest chains, begin by begin -/
def lastI (fs : List Nat) : Int := match fs.getLast? with
  | none => -1
  | some f => (f : Int)
structure Best (L : List An) (Rs : List (List Nat)) (best : List (Int × List Nat)) : Prop where
  a : ∀ p ∈ best, ∃ fs, Chain Rs fs ∧ lastI fs = p.1 ∧ p.2 = flatK L Rs fs
  b : ∀ fs, Chain Rs fs → ∃ t, (lastI fs, t) ∈ best ∧ t.length ≤ (flatK L Rs fs).length
theorem lastI_snoc (fs : List Nat) (f : Nat) : lastI (fs ++ [f]) = (f : Int) := by
  unfold lastI
  rw [List.getLast?_concat]
theorem chain_snoc {Rs : List (List Nat)} {R : List Nat} {fs : List Nat} {f : Nat} (h : Chain Rs fs) (hf : f ∈ R) (hl : lastI fs < (f : Int)) : Chain (Rs ++ [R]) (fs ++ [f]) := by
  refine ⟨by rw [List.length_append, List.length_append, h.len]; rfl, fun i R' f' e1 e2 => ?_, ?_⟩
  · rcases Nat.lt_trichotomy i Rs.length with z | z | z
    · rw [List.getElem?_append_left z] at e1
      rw [List.getElem?_append_left (by rw [h.len]; exact z)] at e2
      exact h.mem i R' f' e1 e2
    · subst z
      rw [List.getElem?_append_right (Nat.le_refl _), Nat.sub_self] at e1
      rw [List.getElem?_append_right (by rw [h.len]; exact Nat.le_refl _), h.len, Nat.sub_self] at e2
      cases e1
      cases e2
      exact hf
    · rw [List.getElem?_eq_none (by rw [List.length_append]; simp; omega)] at e1
      cases e1
  · refine List.pairwise_append.mpr ⟨h.inc, List.pairwise_singleton _ _, fun a ha b hb => ?_⟩
    rw [List.mem_singleton] at hb
    subst hb
    have hne : fs ≠ [] := fun z => by rw [z] at ha; cases ha
    obtain ⟨c, hc⟩ : ∃ c, fs.getLast? = some c := ⟨_, List.getLast?_eq_some_getLast hne⟩
    have := le_last h.inc hc a ha
    unfold lastI at hl
    rw [hc] at hl
    have hl : (c : Int) < b := hl
    omega
theorem chain_unsnoc {Rs : List (List Nat)} {R : List Nat} {gs : List Nat} (h : Chain (Rs ++ [R]) gs) : ∃ fs f, gs = fs ++ [f] ∧ Chain Rs fs ∧ f ∈ R ∧ lastI fs < (f : Int) := by
  have hlen := h.len
  rw [List.length_append] at hlen
  have hne : gs ≠ [] := fun z => by rw [z] at hlen; simp at hlen
  refine ⟨gs.dropLast, gs.getLast hne, (List.dropLast_concat_getLast hne).symm, ?_, ?_, ?_⟩
  all_goals
    have e := (List.dropLast_concat_getLast hne).symm
    generalize gs.dropLast = fs at e
    generalize gs.getLast hne = f at e
    subst e
    rw [List.length_append] at hlen
    have hl : fs.length = Rs.length := by simpa using hlen
  · refine ⟨hl, fun i R' f' e1 e2 => ?_, (List.pairwise_append.mp h.inc).1⟩
    have hi := (List.getElem?_eq_some_iff.mp e1).1
    exact h.mem i R' f' (by rw [List.getElem?_append_left hi]; exact e1) (by rw [List.getElem?_append_left (by omega)]; exact e2)
  · exact h.mem Rs.length R f (by rw [List.getElem?_append_right (Nat.le_refl _), Nat.sub_self]; rfl) (by rw [List.getElem?_append_right (by omega), hl, Nat.sub_self]; rfl)
  · unfold lastI
    cases hc : fs.getLast? with
    | none => show (-1 : Int) < f; omega
    | some c =>
      have := (List.pairwise_append.mp h.inc).2.2 c (List.mem_of_getLast? hc) f List.mem_cons_self
      show (c : Int) < f
      omega
theorem flat_snoc {L : List An} {Rs : List (List Nat)} {R : List Nat} {fs : List Nat} {f : Nat} (h : fs.length = Rs.length) : flatK L (Rs ++ [R]) (fs ++ [f]) = flatK L Rs fs ++ keptOf L R f := by
  unfold flatK
  rw [List.zip_append h.symm, List.flatMap_append]
  simp
theorem best0 (L : List An) : Best L [] [(-1, [])] := by
  refine ⟨fun p hp => ?_, fun fs h => ?_⟩
  · rw [List.mem_singleton] at hp
    subst hp
    exact ⟨[], ⟨rfl, (fun i R f e => by cases e), .nil⟩, rfl, rfl⟩
  · have : fs = [] := List.length_eq_zero_iff.mp h.len
    subst this
    exact ⟨[], List.mem_cons_self, Nat.le_refl _⟩
theorem Best.step {L : List An} {Rs : List (List Nat)} {R : List Nat} {best later : List (Int × List Nat)} (h : Best L Rs best) (h1 : ∀ p ∈ later, ∃ f ∈ R, p.1 = (f : Int) ∧ ∃ b ∈ best, b.1 < (f : Int) ∧ p.2 = b.2 ++ keptOf L R f)
    (h2 : ∀ f ∈ R, ∀ b ∈ best, b.1 < (f : Int) → ∃ t, ((f : Int), t) ∈ later ∧ t.length ≤ b.2.length + (keptOf L R f).length) : Best L (Rs ++ [R]) later := by
  refine ⟨fun p hp => ?_, fun gs hg => ?_⟩
  · obtain ⟨f, hf, e1, b, hb, hlt, e2⟩ := h1 p hp
    obtain ⟨fs, c1, c2, c3⟩ := h.a b hb
    exact ⟨fs ++ [f], chain_snoc c1 hf (by rw [c2]; exact hlt), by rw [lastI_snoc, e1], by rw [flat_snoc c1.len, e2, c3]⟩
  · obtain ⟨fs, f, rfl, c1, hf, hlt⟩ := chain_unsnoc hg
    obtain ⟨t, ht, hle⟩ := h.b fs c1
    obtain ⟨t', ht', hle'⟩ := h2 f hf _ ht hlt
    refine ⟨t', by rw [lastI_snoc]; exact ht', ?_⟩
    rw [flat_snoc c1.len, List.length_append]
    have : t'.length ≤ t.length + (keptOf L R f).length := hle'
    omega
end DL
namespace DL
open PySem PySem.Spec PyProof.Rows L2
/-! ### the shortest part of a log -/
theorem PlyF.runs {line : List Ent} {rest : List (Int × It Nat)} {free : Int} {out : List (Int × Ent)} (h : PlyF line rest free out) : ∀ W : List EnR, W.map (fun y => ((y.1, y.2.headD 0) : Ent)) = line → (∀ y ∈ W, y.2 ≠ []) →
    ∃ o : List (Int × EnR), PlyR W rest free o ∧ o.map (fun q => ((q.1, (q.2.1, q.2.2.headD 0)) : Int × Ent)) = out := by
  induction h with
  | stop =>
    intro W hW _
    cases W with
    | nil => exact ⟨[], .stop, rfl⟩
    | cons w W => cases hW
  | @wake a x rest free out _ ih =>
    intro W hW _
    cases W with
    | nil =>
      obtain ⟨o, h1, h2⟩ := ih [(x, [x.pay])] rfl (fun y hy => by rw [List.mem_singleton] at hy; subst hy; simp)
      exact ⟨o, .wake h1, h2⟩
    | cons w W => cases hW
  | @recv p ps a x rest free out ha _ ih =>
    intro W hW hne
    cases W with
    | nil => cases hW
    | cons w W =>
      have e : (arcR (w :: W) x).map (fun y => ((y.1, y.2.headD 0) : Ent)) = arcF (p :: ps) x := by
        rw [← hW]
        unfold arcR arcF
        rw [List.any_map]
        have ea : (fun y : Ent => decide (y.1.top = x.top)) ∘ (fun y : EnR => ((y.1, y.2.headD 0) : Ent)) = fun y : EnR => decide (y.1.top = x.top) := rfl
        rw [ea]
        split
        · rw [List.map_map, List.map_map]
          refine List.map_congr_left fun y hy => ?_
          have := hne y hy
          show ((fun y : EnR => ((y.1, y.2.headD 0) : Ent)) (if y.1.top = x.top then (x, y.2 ++ [x.pay]) else y)) = if y.1.top = x.top then (x, y.2.headD 0) else (y.1, y.2.headD 0)
          split
          · cases hy2 : y.2 with
            | nil => exact absurd hy2 this
            | cons r rs => rfl
          · rfl
        · rw [List.map_append]
          rfl
      obtain ⟨o, h1, h2⟩ := ih (arcR (w :: W) x) e (fun y hy => by
        rcases arcR_mem hy with ⟨hy, _⟩ | ⟨z, hz, _, rfl⟩ | ⟨rfl, _⟩
        · exact hne y hy
        · simp
        · simp)
      exact ⟨o, .recv ha h1, h2⟩
  | @beg p ps rest free out hn _ ih =>
    intro W hW hne
    cases W with
    | nil => cases hW
    | cons w W =>
      injection hW with e1 e2
      obtain ⟨o, h1, h2⟩ := ih W e2 (fun y hy => hne y (List.mem_cons_of_mem _ hy))
      have e3 : w.1 = p.1 := congrArg Prod.fst e1
      refine ⟨(free, w) :: o, .beg hn (by rw [e3]; exact h1), ?_⟩
      rw [List.map_cons, h2]
      exact congrArg (· :: out) (congrArg (Prod.mk free) e1)
theorem came_full {L : List An} (hV : VLog L) : ∃ o, Came L every o ∧ o.map (fun q => ((q.1, (q.2.1, q.2.2.headD 0)) : Int × Ent)) = (spoken "place" L).map fun g => (g.a, (itm L id g.c, g.b)) := by
  obtain ⟨o, h1, h2⟩ := (plyF_spoken hV).runs [] rfl (fun y hy => by cases hy)
  exact ⟨o, came_of hV (by rw [rest_all]; exact h1), h2⟩
/-- index of the first one that may come for the next begin of a topic -/
def lowOf (L : List An) (pre : List Bg) (t : Str) : Nat := match (pre.filter fun g => decide (topAt L g.c = t)).getLast? with
  | none => 0
  | some g => g.c + 1
def rowOf (L : List An) (pre : List Bg) (g : Bg) : List Nat := (List.range' (lowOf L pre (topAt L g.c)) (g.c + 1 - lowOf L pre (topAt L g.c))).filter fun k => decide (topAt L k = topAt L g.c)
def cameOf (L : List An) : List (List Nat) := (List.range (spoken "place" L).length).map fun i => rowOf L ((spoken "place" L).take i) ((spoken "place" L).getD i ⟨0, 0, 0⟩)
theorem inc_uniq : ∀ {xs ys : List Nat}, xs.Pairwise (· < ·) → ys.Pairwise (· < ·) → (∀ x, x ∈ xs ↔ x ∈ ys) → xs = ys
  | [], [], _, _, _ => rfl
  | [], y :: ys, _, _, h => absurd ((h y).mpr List.mem_cons_self) List.not_mem_nil
  | x :: xs, [], _, _, h => absurd ((h x).mp List.mem_cons_self) List.not_mem_nil
  | x :: xs, y :: ys, h1, h2, h => by
    obtain ⟨a1, a2⟩ := List.pairwise_cons.mp h1
    obtain ⟨b1, b2⟩ := List.pairwise_cons.mp h2
    have e : x = y := by
      rcases List.mem_cons.mp ((h x).mp List.mem_cons_self) with z | z
      · exact z
      · rcases List.mem_cons.mp ((h y).mpr List.mem_cons_self) with z' | z'
        · exact z'.symm
        · have := a1 y z'
          have := b1 x z
          omega
    subst e
    rw [inc_uniq a2 b2 fun z => ?_]
    constructor
    · intro hz
      rcases List.mem_cons.mp ((h z).mp (List.mem_cons_of_mem _ hz)) with e | e
      · have := a1 z hz; omega
      · exact e
    · intro hz
      rcases List.mem_cons.mp ((h z).mpr (List.mem_cons_of_mem _ hz)) with e | e
      · have := b1 z hz; omega
      · exact e
theorem came_rows {L : List An} (hV : VLog L) {o : List (Int × EnR)} (hC : Came L every o) (ho : o.map (fun q => ((q.1, (q.2.1, q.2.2.headD 0)) : Int × Ent)) = (spoken "place" L).map fun g => (g.a, (itm L id g.c, g.b))) : cameOf L = runsOf o := by
  have hlen : o.length = (spoken "place" L).length := by
    have := congrArg List.length ho
    rwa [List.length_map, List.length_map] at this
  have pair : ∀ (i : Nat) (q : Int × EnR), o[i]? = some q → ∃ g, (spoken "place" L)[i]? = some g ∧ q.1 = g.a ∧ q.2.1.pay = g.c := fun i q e => by
    have hi := (List.getElem?_eq_some_iff.mp e).1
    have e' : (spoken "place" L)[i]? = some ((spoken "place" L)[i]'(by omega)) := List.getElem?_eq_getElem (by omega)
    have := congrArg (fun l => l[i]?) ho
    simp only [List.getElem?_map, e, e', Option.map_some, Option.some.injEq] at this
    exact ⟨_, e', congrArg Prod.fst this, congrArg (fun z : Int × Ent => z.2.1.pay) this⟩
  have tlt : ∀ a b : Nat, a < L.length → timAt L a < timAt L b → a < b := fun a b ha h => by
    refine Nat.lt_of_not_le fun z => ?_
    have := hV.s.tim z ha
    omega
  have inR : ∀ k, k < L.length → ∃ (j : Nat) (q : Int × EnR), o[j]? = some q ∧ k ∈ q.2.2 := fun k hk => by
    obtain ⟨q, hq, hkq⟩ := List.mem_flatMap.mp (hC.flat.mem_iff.mpr (List.mem_filter.mpr ⟨List.mem_range.mpr hk, rfl⟩ : k ∈ (List.range L.length).filter every))
    obtain ⟨j, hj⟩ := List.mem_iff_getElem?.mp hq
    exact ⟨j, q, hj, hkq⟩
  have lt_n : ∀ q ∈ o, ∀ k ∈ q.2.2, k < L.length := fun q hq k hk => by
    have := hC.flat.mem_iff.mp (List.mem_flatMap.mpr ⟨q, hq, hk⟩)
    exact List.mem_range.mp (List.mem_filter.mp this).1
  refine List.ext_getElem? fun i => ?_
  unfold cameOf runsOf
  rw [List.getElem?_map, List.getElem?_map]
  cases e : o[i]? with
  | none =>
    rw [List.getElem?_eq_none (by rw [List.length_range, ← hlen]; exact List.getElem?_eq_none_iff.mp e)]
    rfl
  | some q =>
    have hi := (List.getElem?_eq_some_iff.mp e).1
    rw [List.getElem?_range (by omega)]
    obtain ⟨g, eg, e1, e2⟩ := pair i q e
    have hq := List.mem_of_getElem? e
    have hl := hC.ok.last q hq
    have hcq := some_of_last hl
    rw [e2] at hl hcq
    have htop := hC.ok.top q hq g.c hcq
    have egd : (spoken "place" L).getD i ⟨0, 0, 0⟩ = g := by rw [List.getD_eq_getElem?_getD, eg]; rfl
    show some (rowOf L ((spoken "place" L).take i) ((spoken "place" L).getD i ⟨0, 0, 0⟩)) = some q.2.2
    rw [egd]
    refine congrArg some (inc_uniq ?_ (hC.inc q hq) fun k => ?_)
    · unfold rowOf
      exact (List.pairwise_lt_range' (s := _) (n := _)).sublist List.filter_sublist
    · -- what the low is
      have low : (lowOf L ((spoken "place" L).take i) (topAt L g.c) = 0 ∧ ∀ (j : Nat) (q' : Int × EnR), j < i → o[j]? = some q' → q'.2.1.top ≠ q.2.1.top) ∨
          ∃ (j : Nat) (q' : Int × EnR), j < i ∧ o[j]? = some q' ∧ q'.2.1.top = q.2.1.top ∧ lowOf L ((spoken "place" L).take i) (topAt L g.c) = q'.2.1.pay + 1 ∧ ∀ (j' : Nat) (q2 : Int × EnR), j < j' → j' < i → o[j']? = some q2 → q2.2.1.top ≠ q.2.1.top := by
        have topc : ∀ (j : Nat) (q' : Int × EnR) (g' : Bg), o[j]? = some q' → (spoken "place" L)[j]? = some g' → topAt L g'.c = q'.2.1.top := fun j q' g' h1 h2 => by
          obtain ⟨g2, h3, _, h4⟩ := pair j q' h1
          rw [h2] at h3
          cases h3
          have hm := List.mem_of_getElem? h1
          rw [← h4]
          exact hC.ok.top q' hm _ (some_of_last (hC.ok.last q' hm))
        unfold lowOf
        have key : ∀ n, n ≤ i → ((((spoken "place" L).take n).filter fun g' => decide (topAt L g'.c = topAt L g.c)).getLast? = none ∧ ∀ (j : Nat) (q' : Int × EnR), j < n → o[j]? = some q' → q'.2.1.top ≠ q.2.1.top) ∨
            ∃ (j : Nat) (q' : Int × EnR) (g' : Bg), j < n ∧ o[j]? = some q' ∧ q'.2.1.top = q.2.1.top ∧ (((spoken "place" L).take n).filter fun g' => decide (topAt L g'.c = topAt L g.c)).getLast? = some g' ∧ g'.c = q'.2.1.pay ∧ ∀ (j' : Nat) (q2 : Int × EnR), j < j' → j' < n → o[j']? = some q2 → q2.2.1.top ≠ q.2.1.top := by
          intro n
          induction n with
          | zero => exact fun _ => .inl ⟨rfl, fun j q' h => absurd h (Nat.not_lt_zero _)⟩
          | succ n ih =>
            intro hn
            have hn' : n < (spoken "place" L).length := by omega
            have es : (spoken "place" L)[n]? = some (spoken "place" L)[n] := List.getElem?_eq_getElem hn'
            have eo : o[n]? = some (o[n]'(by omega)) := List.getElem?_eq_getElem (by omega)
            have et := topc n _ _ eo es
            rw [List.take_add_one, es, List.filter_append]
            show ((_ ++ List.filter _ [(spoken "place" L)[n]]).getLast? = none ∧ _) ∨ _
            by_cases z : topAt L (spoken "place" L)[n].c = topAt L g.c
            · right
              obtain ⟨g2, h3, _, h4⟩ := pair n _ eo
              rw [es] at h3
              cases h3
              refine ⟨n, _, (spoken "place" L)[n], Nat.lt_succ_self n, eo, by rw [← et, z, htop], ?_, h4.symm, fun j' q2 h1 h2 => by omega⟩
              show (_ ++ List.filter _ [(spoken "place" L)[n]]).getLast? = _
              rw [List.filter_cons, if_pos (decide_eq_true z), List.filter_nil, List.getLast?_concat]
            · have nz : (o[n]'(by omega)).2.1.top ≠ q.2.1.top := fun w => z (by rw [et, w, htop])
              have ef : List.filter (fun g' => decide (topAt L g'.c = topAt L g.c)) [(spoken "place" L)[n]] = [] := by
                rw [List.filter_cons, if_neg (by simpa using z), List.filter_nil]
              rw [ef, List.append_nil]
              rcases ih (by omega) with ⟨h1, h2⟩ | ⟨j, q', g', h1, h2, h3, h4, h5, h6⟩
              · left
                refine ⟨h1, fun j q' hj hq' => ?_⟩
                rcases Nat.eq_or_lt_of_le (Nat.le_of_lt_succ hj) with w | w
                · subst w
                  rw [eo] at hq'
                  cases hq'
                  exact nz
                · exact h2 j q' w hq'
              · right
                refine ⟨j, q', g', by omega, h2, h3, ?_, h5, fun j' q2 hj hj' hq2 => ?_⟩
                · show (_ ++ List.filter _ [(spoken "place" L)[n]]).getLast? = _
                  rw [ef, List.append_nil]
                  exact h4
                · rcases Nat.eq_or_lt_of_le (Nat.le_of_lt_succ hj') with w | w
                  · subst w
                    rw [eo] at hq2
                    cases hq2
                    exact nz
                  · exact h6 j' q2 hj w hq2
        rcases key i (Nat.le_refl _) with ⟨h1, h2⟩ | ⟨j, q', g', h1, h2, h3, h4, h5, h6⟩
        · exact .inl ⟨by rw [h1], h2⟩
        · exact .inr ⟨j, q', h1, h2, h3, by rw [h4, ← h5], h6⟩
      unfold rowOf
      rw [List.mem_filter, List.mem_range'_1, decide_eq_true_eq]
      constructor
      · rintro ⟨⟨k1, k2⟩, k3⟩
        have kc : k ≤ g.c := by omega
        have kn : k < L.length := Nat.lt_of_le_of_lt kc (lt_n q hq _ hcq)
        obtain ⟨j, q', ej, hkq⟩ := inR k kn
        have hq' := List.mem_of_getElem? ej
        have t' := hC.ok.top q' hq' k hkq
        have tt : q'.2.1.top = q.2.1.top := by rw [← t', k3, htop]
        rcases Nat.lt_trichotomy j i with z | z | z
        · exfalso
          rcases low with ⟨_, h2⟩ | ⟨j0, q0, h1, h2, h3, h4, h5⟩
          · exact h2 j q' z ej tt
          · have hq0 := List.mem_of_getElem? h2
            have c0 := some_of_last (hC.ok.last q0 hq0)
            rcases Nat.lt_trichotomy j j0 with w | w | w
            · have a1 := hC.ok.after j j0 q' q0 w ej h2 (by rw [tt, h3]) _ c0
              have a2 := hC.upTo q' hq' k hkq
              have := tlt k _ kn (by omega : timAt L k < timAt L q0.2.1.pay)
              omega
            · subst w
              rw [ej] at h2
              cases h2
              have := le_last (hC.inc q' hq') (hC.ok.last q' hq') k hkq
              omega
            · exact h5 j q' w z ej tt
        · subst z
          rw [e] at ej
          cases ej
          exact hkq
        · exfalso
          have a1 := hC.ok.after i j q q' z e ej tt.symm k hkq
          have a2 := hC.upTo q hq _ hcq
          have := tlt g.c k (lt_n q hq _ hcq) (by omega)
          omega
      · intro hk
        have kc := le_last (hC.inc q hq) hl k hk
        refine ⟨⟨?_, ?_⟩, by rw [hC.ok.top q hq k hk, htop]⟩
        · rcases low with ⟨h1, _⟩ | ⟨j0, q0, h1, h2, h3, h4, _⟩
          · rw [h1]; exact Nat.zero_le _
          · rw [h4]
            have hq0 := List.mem_of_getElem? h2
            have c0 := some_of_last (hC.ok.last q0 hq0)
            have a1 := hC.ok.after j0 i q0 q h1 h2 e h3 k hk
            have a2 := hC.upTo q0 hq0 _ c0
            exact tlt _ k (lt_n q0 hq0 _ c0) (by omega)
        · have : lowOf L ((spoken "place" L).take i) (topAt L g.c) ≤ k := by
            rcases low with ⟨h1, _⟩ | ⟨j0, q0, h1, h2, h3, h4, _⟩
            · rw [h1]; exact Nat.zero_le _
            · rw [h4]
              have hq0 := List.mem_of_getElem? h2
              have c0 := some_of_last (hC.ok.last q0 hq0)
              have a1 := hC.ok.after j0 i q0 q h1 h2 e h3 k hk
              have a2 := hC.upTo q0 hq0 _ c0
              exact tlt _ k (lt_n q0 hq0 _ c0) (by omega)
          omega
end DL
namespace DL
open PySem PySem.Spec PyProof.Rows L2
theorem playF_line {r : Str} {L : List An} {lb : Int} : ∀ (f : Nat) (line : List Pr) (done : Nat) (found : List Bg) (free : Int), Fits L line → done ≤ L.length → line.length ≤ done → Fits L (playF r L lb f line done found free).2.1 ∧ (playF r L lb f line done found free).2.2 ≤ L.length ∧ (playF r L lb f line done found free).2.1.length ≤ (playF r L lb f line done found free).2.2
  | 0, line, done, found, free, hf, hd, hl => ⟨hf, hd, hl⟩
  | f + 1, line, done, found, free, hf, hd, hl => by
    show Fits L (if _ then _ else _ : PlR).2.1 ∧ (if _ then _ else _ : PlR).2.2 ≤ _ ∧ (if _ then _ else _ : PlR).2.1.length ≤ (if _ then _ else _ : PlR).2.2
    by_cases hc : line = [] ∧ ¬ done < L.length
    · rw [if_pos hc]; exact ⟨hf, hd, hl⟩
    · rw [if_neg hc]
      by_cases hb : lb < nowOf L line done free
      · rw [if_pos hb]; exact ⟨hf, hd, hl⟩
      · rw [if_neg hb]
        obtain ⟨p, ps, d, e, rk⟩ := rcvAll_cons (r := r) (free := free) hc hf hd
        rw [e]
        have := rk.len
        rw [List.length_cons] at this
        exact playF_line f ps d _ _ (fun q hq => rk.fits q (List.mem_cons_of_mem _ hq)) rk.top (by omega)
theorem line_fits {r : Str} {L : List An} {lb lt : Int} : (∀ p ∈ (played r L lb lt).2, p.b < L.length) ∧ (played r L lb lt).2.length ≤ L.length := by
  obtain ⟨h1, h2, h3⟩ := playF_line (r := r) (L := L) (lb := lb) (L.length + 1) [] 0 [] 0 (fun _ h => by cases h) (Nat.zero_le _) (Nat.le_refl _)
  have rk := rcvAll_rk (r := r) (now := lt) h1 h2
  refine ⟨fun p hp => (rk.fits p hp).2, ?_⟩
  have a := rk.len
  have b := rk.top
  show (rcvAll r L lt _ _).1.length ≤ _
  unfold playR
  omega
/-- what line_at tells -/
def lineOf (r : Str) (L : List An) (t : Int) : List (T2 Str Nat) := (played r L t t).2.map fun p => ⟨topAt L p.b, p.b⟩
def waitsOf (r : Str) (L : List An) : List (T2 Int Int) := (spoken r L).map fun g => ⟨g.a - timAt L g.b, g.a - timAt L g.c⟩
end DL
/-! waits, line_at -/
namespace DL
open PySem PySem.Spec PyProof.Rows L2
open Enc (enc)
local macro_rules | `(tactic| walk_at "dl") => `(tactic| first
  | (with_reducible_and_instances refine sw_seq ?_)
  | (with_reducible_and_instances refine sw_ret ?_)
  | (with_reducible_and_instances refine sw_retN ?_)
  | (with_reducible_and_instances refine sw_set ?_)
  | (with_reducible_and_instances refine sw_par ?_)
  | (with_reducible_and_instances refine sw_drop ?_)
  | (with_reducible_and_instances refine sw_next ?_)
  | (with_reducible_and_instances refine sw_break ?_)
  | (with_reducible_and_instances refine sw_if ?_)
  | (with_reducible_and_instances refine sw_asg ?_)
  | ((with_reducible_and_instances refine' ew_var ?hh ?kk); (case hh => rfl))
  | (with_reducible_and_instances refine ew_int ?_)
  | (with_reducible_and_instances refine ew_str ?_)
  | (with_reducible_and_instances refine ew_bl ?_)
  | (with_reducible_and_instances refine ew_non ?_)
  | (with_reducible_and_instances refine ew_raw (v := .ty _) ?_)
  | (with_reducible_and_instances refine ew_op ?_)
  | (with_reducible_and_instances refine ew_un ?_)
  | (with_reducible_and_instances refine ew_chain ?_)
  | (with_reducible_and_instances refine ew_andV ?_)
  | (with_reducible_and_instances refine ew_orV ?_)
  | (with_reducible_and_instances refine ew_notV ?_)
  | (with_reducible_and_instances refine ew_if ?_)
  | (with_reducible_and_instances refine ew_tup ?_)
  | (with_reducible_and_instances refine ew_cb ?_)
  | (with_reducible_and_instances refine ew_slA ?_)
  | (with_reducible_and_instances refine .inl ⟨_, rfl, ?_⟩)
  | (with_reducible_and_instances refine .inr ⟨_, .same _, ?_⟩)
  | (with_reducible_and_instances refine aw_cons ?_)
  | (with_reducible_and_instances refine aw_nil ?_)
  | (with_reducible_and_instances refine tw_test ?_)
  | (with_reducible_and_instances refine tw_B ?_)
  | (with_reducible_and_instances refine tw_and ?_)
  | (with_reducible_and_instances refine tw_or ?_)
  | (with_reducible_and_instances refine tw_not ?_)
  | (with_reducible_and_instances refine tw_yes ?_)
  | (with_reducible_and_instances refine pw_none ?_)
  | (with_reducible_and_instances refine pw_some ?_)
  | (with_reducible_and_instances refine rw_le ?_)
  | (with_reducible_and_instances refine rw_lt ?_)
  | (with_reducible_and_instances refine rw_gt ?_)
  | (with_reducible_and_instances refine rw_ge ?_)
  | (with_reducible_and_instances refine rw_sub ?_)
  | (with_reducible_and_instances refine uw_neg ?_)
  | (with_reducible_and_instances refine rwp_int ?_)
  | ((with_reducible_and_instances refine gw_name ?hj ?_); (case hj => first | exact trivial | decide))
  | (with_reducible_and_instances refine gsw_cons ?_)
  | (with_reducible_and_instances refine gsw_nil ?_)
  | (with_reducible_and_instances refine gw_tup rfl ?_)
  | (with_reducible_and_instances refine cw_max2 ?_)
  | (with_reducible_and_instances refine cw_min2 ?_)
  | (with_reducible_and_instances refine cw_lenT ?_)
  | (with_reducible_and_instances refine cw_lenR ?_)
  | (with_reducible_and_instances refine cw_lenL (.same _) ?_)
  | (with_reducible_and_instances refine cw_intB ?_)
  | (with_reducible_and_instances refine ⟨_, rfl, ?_⟩)
  | (with_reducible_and_instances refine ⟨_, _, rfl, ?_⟩)
  | (refine ⟨Nat.le_trans (by simp) (Nat.le_of_lt (small1000 (n := 1000) (by decide))), ?_⟩))
local macro_rules | `(tactic| walk_at "dx") => `(tactic| first
  | (with_reducible_and_instances refine sw_seq ?_)
  | (with_reducible_and_instances refine sw_ret ?_)
  | (with_reducible_and_instances refine sw_retN ?_)
  | (with_reducible_and_instances refine sw_set ?_)
  | (with_reducible_and_instances refine sw_par ?_)
  | (with_reducible_and_instances refine sw_drop ?_)
  | (with_reducible_and_instances refine sw_next ?_)
  | (with_reducible_and_instances refine sw_break ?_)
  | (with_reducible_and_instances refine sw_asg ?_)
  | ((with_reducible_and_instances refine' ew_var ?hh ?kk); (case hh => rfl))
  | (with_reducible_and_instances refine ew_int ?_)
  | (with_reducible_and_instances refine ew_str ?_)
  | (with_reducible_and_instances refine ew_bl ?_)
  | (with_reducible_and_instances refine ew_non ?_)
  | (with_reducible_and_instances refine ew_raw (v := .ty _) ?_)
  | (with_reducible_and_instances refine ew_op ?_)
  | (with_reducible_and_instances refine ew_un ?_)
  | (with_reducible_and_instances refine ew_chain ?_)
  | (with_reducible_and_instances refine ew_andV ?_)
  | (with_reducible_and_instances refine ew_orV ?_)
  | (with_reducible_and_instances refine ew_notV ?_)
  | (with_reducible_and_instances refine ew_if ?_)
  | (with_reducible_and_instances refine ew_tup ?_)
  | (with_reducible_and_instances refine ew_cb ?_)
  | (with_reducible_and_instances refine ew_slA ?_)
  | (with_reducible_and_instances refine .inl ⟨_, rfl, ?_⟩)
  | (with_reducible_and_instances refine .inr ⟨_, .same _, ?_⟩)
  | (with_reducible_and_instances refine aw_cons ?_)
  | (with_reducible_and_instances refine aw_nil ?_)
  | (with_reducible_and_instances refine tw_test ?_)
  | (with_reducible_and_instances refine tw_B ?_)
  | (with_reducible_and_instances refine tw_and ?_)
  | (with_reducible_and_instances refine tw_or ?_)
  | (with_reducible_and_instances refine tw_not ?_)
  | (with_reducible_and_instances refine tw_yes ?_)
  | (with_reducible_and_instances refine pw_none ?_)
  | (with_reducible_and_instances refine pw_some ?_)
  | (with_reducible_and_instances refine rw_le ?_)
  | (with_reducible_and_instances refine rw_lt ?_)
  | (with_reducible_and_instances refine rw_gt ?_)
  | (with_reducible_and_instances refine rw_ge ?_)
  | (with_reducible_and_instances refine rw_sub ?_)
  | (with_reducible_and_instances refine uw_neg ?_)
  | (with_reducible_and_instances refine rwp_int ?_)
  | ((with_reducible_and_instances refine gw_name ?hj ?_); (case hj => first | exact trivial | decide))
  | (with_reducible_and_instances refine gsw_cons ?_)
  | (with_reducible_and_instances refine gsw_nil ?_)
  | (with_reducible_and_instances refine gw_tup rfl ?_)
  | (with_reducible_and_instances refine cw_max2 ?_)
  | (with_reducible_and_instances refine cw_min2 ?_)
  | (with_reducible_and_instances refine cw_lenT ?_)
  | (with_reducible_and_instances refine cw_lenR ?_)
  | (with_reducible_and_instances refine cw_lenL (.same _) ?_)
  | (with_reducible_and_instances refine cw_intB ?_)
  | (with_reducible_and_instances refine ⟨_, rfl, ?_⟩)
  | (with_reducible_and_instances refine ⟨_, _, rfl, ?_⟩)
  | (refine ⟨Nat.le_trans (by simp) (Nat.le_of_lt (small1000 (n := 1000) (by decide))), ?_⟩))
local macro_rules | `(tactic| walk_at "dn") => `(tactic| first
  | (with_reducible_and_instances refine sw_ret ?_)
  | (with_reducible_and_instances refine sw_retN ?_)
  | (with_reducible_and_instances refine sw_set ?_)
  | (with_reducible_and_instances refine sw_par ?_)
  | (with_reducible_and_instances refine sw_drop ?_)
  | (with_reducible_and_instances refine sw_next ?_)
  | (with_reducible_and_instances refine sw_break ?_)
  | (with_reducible_and_instances refine sw_asg ?_)
  | ((with_reducible_and_instances refine' ew_var ?hh ?kk); (case hh => rfl))
  | (with_reducible_and_instances refine ew_int ?_)
  | (with_reducible_and_instances refine ew_str ?_)
  | (with_reducible_and_instances refine ew_bl ?_)
  | (with_reducible_and_instances refine ew_non ?_)
  | (with_reducible_and_instances refine ew_raw (v := .ty _) ?_)
  | (with_reducible_and_instances refine ew_op ?_)
  | (with_reducible_and_instances refine ew_un ?_)
  | (with_reducible_and_instances refine ew_chain ?_)
  | (with_reducible_and_instances refine ew_andV ?_)
  | (with_reducible_and_instances refine ew_orV ?_)
  | (with_reducible_and_instances refine ew_notV ?_)
  | (with_reducible_and_instances refine ew_if ?_)
  | (with_reducible_and_instances refine ew_tup ?_)
  | (with_reducible_and_instances refine ew_cb ?_)
  | (with_reducible_and_instances refine ew_slA ?_)
  | (with_reducible_and_instances refine .inl ⟨_, rfl, ?_⟩)
  | (with_reducible_and_instances refine .inr ⟨_, .same _, ?_⟩)
  | (with_reducible_and_instances refine aw_cons ?_)
  | (with_reducible_and_instances refine aw_nil ?_)
  | (with_reducible_and_instances refine tw_test ?_)
  | (with_reducible_and_instances refine tw_B ?_)
  | (with_reducible_and_instances refine tw_and ?_)
  | (with_reducible_and_instances refine tw_or ?_)
  | (with_reducible_and_instances refine tw_not ?_)
  | (with_reducible_and_instances refine tw_yes ?_)
  | (with_reducible_and_instances refine pw_none ?_)
  | (with_reducible_and_instances refine pw_some ?_)
  | (with_reducible_and_instances refine rw_le ?_)
  | (with_reducible_and_instances refine rw_lt ?_)
  | (with_reducible_and_instances refine rw_gt ?_)
  | (with_reducible_and_instances refine rw_ge ?_)
  | (with_reducible_and_instances refine rw_sub ?_)
  | (with_reducible_and_instances refine uw_neg ?_)
  | (with_reducible_and_instances refine rwp_int ?_)
  | ((with_reducible_and_instances refine gw_name ?hj ?_); (case hj => first | exact trivial | decide))
  | (with_reducible_and_instances refine gsw_cons ?_)
  | (with_reducible_and_instances refine gsw_nil ?_)
  | (with_reducible_and_instances refine gw_tup rfl ?_)
  | (with_reducible_and_instances refine cw_max2 ?_)
  | (with_reducible_and_instances refine cw_min2 ?_)
  | (with_reducible_and_instances refine cw_lenT ?_)
  | (with_reducible_and_instances refine cw_lenR ?_)
  | (with_reducible_and_instances refine cw_lenL (.same _) ?_)
  | (with_reducible_and_instances refine cw_intB ?_)
  | (with_reducible_and_instances refine ⟨_, rfl, ?_⟩)
  | (with_reducible_and_instances refine ⟨_, _, rfl, ?_⟩)
  | (refine ⟨Nat.le_trans (by simp) (Nat.le_of_lt (small1000 (n := 1000) (by decide))), ?_⟩))
def S_waits : SpT := fun ds Oc Post => ∃ (L : List An) (r : Str), ds = [encU L, .str r] ∧ VLog L ∧ rule3 r ∧ ∀ p, Post (.raw (.ref p)) ((p, .lst ((waitsOf r L).map enc)) :: Oc)
def S_line_at : SpT := fun ds Oc Post => ∃ (L : List An) (t : Int) (r : Str), ds = [encU L, .int t, .str r] ∧ VLog L ∧ 0 ≤ t ∧ t ≤ 20000 ∧ rule3 r ∧ ∀ p, Post (.raw (.ref p)) ((p, .lst ((lineOf r L t).map enc)) :: Oc)
section
variable {P : Program} {w : World} {K : PySem.W.Frag} {mg : Str → Option Value} {base : Heap} {A : Ad}
theorem ok_waits (T : Txt K mg A) : FnOk P w K mg base CX0 5 A.a_waits A.d_waits ["log", "rule"] (SpD K S_waits) := by
  refine fn_ok T.F_waits sc_waits (fun ds Oc Post h => by obtain ⟨_, _, rfl, _⟩ := h; rfl) (fun cdv AA outer s H E hr => ?_)
  refine ⟨_, (pss_cons (ps_expr (pe_call (ok_require_log T) (hr.mono (by decide)) (by rfl) T.g_require_log T.F_require_log.kp (b_require_log T) .nil pass0 (pa_cons (pv 0) pa_nil)))
  (pss_cons (ps_expr (pe_call (ok_require_rule T) (hr.mono (by decide)) (by rfl) T.g_require_rule T.F_require_rule.kp (b_require_rule T) .nil pass0 (pa_cons (pv 1) pa_nil)))
  (pss_cons (ps_set (i := 2) sc_waits.nd rfl (.inl rfl) (pe_ix (ixK (K := K)) (pe_call (ok_played T) (hr.mono (by decide)) (by rfl) T.g_played T.F_played.kp (b_played T) .nil pass0 (pa_cons (pv 0) (pa_cons (pv 1) (pa_cons (pe_glob (v := .int 1000000) rfl T.g_FAR ⟨_, rfl⟩) (pa_cons (pe_glob (v := .int 1000000) rfl T.g_FAR ⟨_, rfl⟩) pa_nil))))) pe_int (fun _ _ => rfl)))
  (pss_one (ps_ret (pe_lc (own := [("begin", 3), ("first", 4), ("index", 5)]) rfl sc_waits.nd (seqK (K := K) (pv 2)) (blkOk_by (N := ["log", "rule", "rows", "begin", "first", "index"]) (sc := defScope s_waits) (by decide +kernel)) (fun _ _ _ _ _ => (tupK (K := K) (pg_tup (n := 3) rfl (pgs_cons (pg_name (i := 3) sc_waits.nd rfl (.inl rfl)) (pgs_cons (pg_name (i := 4) sc_waits.nd rfl (.inl rfl)) (pgs_cons (pg_name (i := 5) sc_waits.nd rfl (.inl rfl)) pgs_nil)))))) (fun _ _ _ _ _ => pts_nil) (fun _ _ _ _ _ => (pe_tup (pa_cons (pe_op op_sub (pv 3) (pe_ix (ixK (K := K)) (pe_ix (ixK (K := K)) (pv 0) (pv 4) (fun _ _ => rfl)) pe_int (fun _ _ => rfl))) (pa_cons (pe_op op_sub (pv 3) (pe_ix (ixK (K := K)) (pe_ix (ixK (K := K)) (pv 0) (pv 5) (fun _ _ => rfl)) pe_int (fun _ _ => rfl))) pa_nil)))))))))), fun ds Oc Post h => ?_⟩
  obtain ⟨L, r, rfl, hL, hr3, hp⟩ := h
  repeat walk_at "dl"
  refine ew_call0 ?_
  repeat walk_at "dl"
  refine ⟨_, 5, rfl, hL.gd, hL.isLog, ?_⟩
  repeat walk_at "dl"
  refine ew_call0 ?_
  repeat walk_at "dl"
  refine ⟨_, rfl, hr3, ?_⟩
  repeat walk_at "dl"
  refine ew_call0 ?_
  repeat walk_at "dl"
  refine ⟨L, r, _, _, rfl, Nat.le_trans hL.len (by decide), ?_⟩
  repeat walk_at "dl"
  refine rw_ixT_ atI_0 ?_
  repeat walk_at "dl"
  obtain ⟨hfit, hlen⟩ := played_fits (r := r) (L := L) (lb := 1000000) (lt := 1000000)
  have := hL.len
  refine ew_lcMO (α := Bg) (iws_lst ?_)
  repeat walk_at "dl"
  refine ⟨enc, spoken r L, fun g => enc (⟨g.a - timAt L g.b, g.a - timAt L g.c⟩ : T2 Int Int), rfl, (fun p e => by cases e), (show (played r L 1000000 1000000).1.length ≤ _ by omega), fun g hg => ?_, fun p => ?_⟩
  · obtain ⟨g1, g2⟩ := hfit g hg
    repeat walk_at "dl"
    refine rw_ixT_ (atI_map g1) ?_
    repeat walk_at "dl"
    refine rw_ixT_ atI_0 ?_
    repeat walk_at "dl"
    refine rw_ixT_ (atI_map g2) ?_
    repeat walk_at "dl"
    refine rw_ixT_ atI_0 ?_
    repeat walk_at "dl"
    refine ⟨rfl, ?_⟩
    show _ = Dt.tup [.int (g.a - timAt L g.b), .int (g.a - timAt L g.c)]
    rw [timAt_get g1, timAt_get g2]
  · have e : (waitsOf r L).map enc = (spoken r L).map fun g => enc (⟨g.a - timAt L g.b, g.a - timAt L g.c⟩ : T2 Int Int) := by unfold waitsOf; rw [List.map_map]; rfl
    have := hp p
    rw [e] at this
    exact this
theorem ok_line_at (T : Txt K mg A) : FnOk P w K mg base CX0 5 A.a_line_at A.d_line_at ["log", "time", "rule"] (SpD K S_line_at) := by
  refine fn_ok T.F_line_at sc_line_at (fun ds Oc Post h => by obtain ⟨_, _, _, rfl, _⟩ := h; rfl) (fun cdv AA outer s H E hr => ?_)
  refine ⟨_, (pss_cons (ps_expr (pe_call (ok_require_log T) (hr.mono (by decide)) (by rfl) T.g_require_log T.F_require_log.kp (b_require_log T) .nil pass0 (pa_cons (pv 0) pa_nil)))
  (pss_cons (ps_if (pt_not (pt_val (pe_call (ok_is_integer T) (hr.mono (by decide)) (by rfl) T.g_is_integer T.F_is_integer.kp (b_is_integer T) .nil pass0 (pa_cons (pv 1) (pa_cons pe_int (pa_cons (pe_op (timesK (K := K)) pe_int (pe_glob (v := .int 10000) rfl T.g_MAX_TIME ⟨_, rfl⟩)) pa_nil)))))) (pss_one ps_never) pss_nil)
  (pss_cons (ps_expr (pe_call (ok_require_rule T) (hr.mono (by decide)) (by rfl) T.g_require_rule T.F_require_rule.kp (b_require_rule T) .nil pass0 (pa_cons (pv 2) pa_nil)))
  (pss_one (ps_ret (pe_lc (own := [("first", 3), ("index", 4)]) rfl sc_line_at.nd (seqK (K := K) (pe_ix (ixK (K := K)) (pe_call (ok_played T) (hr.mono (by decide)) (by rfl) T.g_played T.F_played.kp (b_played T) .nil pass0 (pa_cons (pv 0) (pa_cons (pv 2) (pa_cons (pv 1) (pa_cons (pv 1) pa_nil))))) pe_int (fun _ _ => rfl))) (blkOk_by (N := ["log", "time", "rule", "first", "index"]) (sc := defScope s_line_at) (by decide +kernel)) (fun _ _ _ _ _ => (tupK (K := K) (pg_tup (n := 2) rfl (pgs_cons (pg_name (i := 3) sc_line_at.nd rfl (.inl rfl)) (pgs_cons (pg_name (i := 4) sc_line_at.nd rfl (.inl rfl)) pgs_nil))))) (fun _ _ _ _ _ => pts_nil) (fun _ _ _ _ _ => (pe_tup (pa_cons (pe_ix (ixK (K := K)) (pe_ix (ixK (K := K)) (pv 0) (pv 4) (fun _ _ => rfl)) pe_int (fun _ _ => rfl)) (pa_cons (pv 4) pa_nil)))))))))), fun ds Oc Post h => ?_⟩
  obtain ⟨L, t, r, rfl, hL, t0, t1, hr3, hp⟩ := h
  repeat walk_at "dl"
  refine ew_call0 ?_
  repeat walk_at "dl"
  refine ⟨_, 5, rfl, hL.gd, hL.isLog, ?_⟩
  repeat walk_at "dl"
  refine ew_call0 ?_
  repeat walk_at "dl"
  refine rwt_int (.inr (by decide)) ?_
  repeat walk_at "dl"
  refine ⟨.int t, 0, 20000, rfl, rfl, ?_⟩
  repeat walk_at "dl"
  refine if_f (by simp [isInt, t0, t1]) ?_
  repeat walk_at "dl"
  refine ew_call0 ?_
  repeat walk_at "dl"
  refine ⟨_, rfl, hr3, ?_⟩
  repeat walk_at "dl"
  obtain ⟨hfit, hlen⟩ := line_fits (r := r) (L := L) (lb := t) (lt := t)
  have := hL.len
  refine ew_lcMO (α := Pr) (iws_lst ?_)
  repeat walk_at "dl"
  refine ew_call0 ?_
  repeat walk_at "dl"
  refine ⟨L, r, _, _, rfl, Nat.le_trans hL.len (by decide), ?_⟩
  repeat walk_at "dl"
  refine rw_ixT_ atI_1 ?_
  repeat walk_at "dl"
  refine ⟨enc, (played r L t t).2, fun p => enc (⟨topAt L p.b, p.b⟩ : T2 Str Nat), rfl, (fun p e => by cases e), by omega, fun p hp => ?_, fun p => ?_⟩
  · have g2 := hfit p hp
    repeat walk_at "dl"
    refine rw_ixT_ (atI_map g2) ?_
    repeat walk_at "dl"
    refine rw_ixT_ atI_1 ?_
    repeat walk_at "dl"
    refine ⟨rfl, ?_⟩
    show _ = Dt.tup [.str (topAt L p.b), .int (p.b : Int)]
    rw [topAt_get g2]
    rfl
  · have e : (lineOf r L t).map enc = (played r L t t).2.map fun p => enc (⟨topAt L p.b, p.b⟩ : T2 Str Nat) := by unfold lineOf; rw [List.map_map]; rfl
    have := hp p
    rw [e] at this
    exact this
end
end DL
/-! what came for a begin, told by the seconds; how long the first one waits -/
namespace DL
open PySem PySem.Spec PyProof.Rows L2
abbrev plc (L : List An) : List Bg := spoken "place" L
/-- the last begin of a topic so far -/
def lastG (L : List An) (pre : List Bg) (t : Str) : Int := match (pre.filter fun g => decide (topAt L g.c = t)).getLast? with
  | none => -1
  | some g => g.a
theorem lastG_step {L : List An} {pre : List Bg} {g : Bg} {t : Str} : lastG L (pre ++ [g]) t = if t = topAt L g.c then g.a else lastG L pre t := by
  unfold lastG
  rw [List.filter_append]
  by_cases e : t = topAt L g.c
  · rw [if_pos e, List.filter_cons, if_pos (decide_eq_true e.symm), List.filter_nil, List.getLast?_concat]
  · rw [if_neg e, List.filter_cons, if_neg (by simpa using fun z : topAt L g.c = t => e z.symm), List.filter_nil, List.append_nil]
theorem lastG_or {L : List An} {pre : List Bg} {t : Str} : lastG L pre t = -1 ∨ ∃ g ∈ pre, topAt L g.c = t ∧ lastG L pre t = g.a := by
  unfold lastG
  cases e : (pre.filter fun g => decide (topAt L g.c = t)).getLast? with
  | none => exact .inl rfl
  | some g =>
    have := List.mem_filter.mp (List.mem_of_getLast? e)
    exact .inr ⟨g, this.1, of_decide_eq_true this.2, rfl⟩
theorem lastG_ge {L : List An} {pre : List Bg} {t : Str} (hp : pre.Pairwise fun g g' => g.a < g'.a) {g : Bg} (hg : g ∈ pre) (ht : topAt L g.c = t) : g.a ≤ lastG L pre t := by
  have hm : g ∈ pre.filter fun g => decide (topAt L g.c = t) := List.mem_filter.mpr ⟨hg, decide_eq_true ht⟩
  have hq := hp.filter (fun g => decide (topAt L g.c = t))
  unfold lastG
  generalize (pre.filter fun g => decide (topAt L g.c = t)) = xs at hm hq
  cases e : xs.getLast? with
  | none => rw [List.getLast?_eq_none_iff] at e; subst e; cases hm
  | some z =>
    obtain ⟨ys, rfl⟩ := List.getLast?_eq_some_iff.mp e
    rcases List.mem_append.mp hm with h | h
    · exact Int.le_of_lt ((List.pairwise_append.mp hq).2.2 g h z List.mem_cons_self)
    · rw [List.mem_singleton.mp h]; exact Int.le_refl _
def cameT (L : List An) (pre : List Bg) (g : Bg) : List Nat := (List.range L.length).filter fun k => decide (topAt L k = topAt L g.c) && (decide (lastG L pre (topAt L g.c) < timAt L k) && decide (timAt L k ≤ g.a))
theorem plc_up {L : List An} (hV : VLog L) : (plc L).Pairwise fun g g' => g.a < g'.a := by
  obtain ⟨_, h2⟩ := (run_spoken (r := "place") hV).order hV.ln1 (fits_nil L) (Nat.zero_le _)
  refine h2.imp_of_mem fun {g g'} hg _ h => ?_
  have := hV.ln1 _ ((played_fits (r := "place") (L := L) (lb := 1000000) (lt := 1000000)).1 g hg).2
  omega
theorem take_mem {α : Type} {xs : List α} {i : Nat} {x : α} (h : x ∈ xs.take i) : ∃ j, j < i ∧ xs[j]? = some x := by
  obtain ⟨j, hj⟩ := List.mem_iff_getElem?.mp h
  rw [List.getElem?_take] at hj
  split at hj
  · exact ⟨j, ‹_›, hj⟩
  · cases hj
theorem mem_take {α : Type} {xs : List α} {i j : Nat} {x : α} (h : xs[j]? = some x) (hj : j < i) : x ∈ xs.take i := by
  refine List.mem_iff_getElem?.mpr ⟨j, ?_⟩
  rw [List.getElem?_take, if_pos hj, h]
/-- the begins by the rule place, with what came for them -/
structure Plc (L : List An) (Rs : List (List Nat)) : Prop where
  len : Rs.length = (plc L).length
  came : ∀ (i : Nat) (g : Bg) (R : List Nat), (plc L)[i]? = some g → Rs[i]? = some R → cameT L ((plc L).take i) g = R ∧ R.headD 0 = g.b ∧ R.getLast? = some g.c
  after : ∀ (i j : Nat) (g g' : Bg), i < j → (plc L)[i]? = some g → (plc L)[j]? = some g' → topAt L g.c = topAt L g'.c → g.a < timAt L g'.b
  heads : ((plc L).map fun g => g.b).Pairwise (· < ·)
theorem plc_came {L : List An} (hV : VLog L) : ∃ Rs, Plc L Rs := by
  obtain ⟨o, hC, ho⟩ := came_full hV
  have hlen : o.length = (plc L).length := by
    have := congrArg List.length ho
    rwa [List.length_map, List.length_map] at this
  have pair : ∀ (i : Nat) (q : Int × EnR) (g : Bg), o[i]? = some q → (plc L)[i]? = some g → q.1 = g.a ∧ q.2.1 = itm L id g.c ∧ q.2.2.headD 0 = g.b := fun i q g e e' => by
    have := congrArg (fun l => l[i]?) ho
    simp only [List.getElem?_map, e, Option.map_some] at this
    rw [show (spoken "place" L)[i]? = some g from e', Option.map_some, Option.some.injEq] at this
    exact ⟨congrArg Prod.fst this, congrArg (fun z : Int × Ent => z.2.1) this, congrArg (fun z : Int × Ent => z.2.2) this⟩
  have some_g : ∀ (i : Nat) (q : Int × EnR), o[i]? = some q → ∃ g, (plc L)[i]? = some g := fun i q e => by
    have hi := (List.getElem?_eq_some_iff.mp e).1
    exact ⟨_, List.getElem?_eq_getElem (by omega)⟩
  have some_o : ∀ (i : Nat) (g : Bg), (plc L)[i]? = some g → ∃ q, o[i]? = some q := fun i g e => by
    have hi := (List.getElem?_eq_some_iff.mp e).1
    exact ⟨_, List.getElem?_eq_getElem (by omega)⟩
  have hup := plc_up hV
  refine ⟨runsOf o, by unfold runsOf; rw [List.length_map, hlen], fun i g R e1 e2 => ?_, fun i j g g' hij e1 e2 ht => ?_, ?_⟩
  · obtain ⟨q, eq⟩ := some_o i g e1
    obtain ⟨p1, p2, p3⟩ := pair i q g eq e1
    have eR : R = q.2.2 := by
      unfold runsOf at e2
      rw [List.getElem?_map, eq] at e2
      cases e2; rfl
    subst eR
    have hqm := List.mem_of_getElem? eq
    have htop : q.2.1.top = topAt L g.c := by rw [p2]; rfl
    refine ⟨inc_uniq (List.pairwise_lt_range.filter _) (hC.inc q hqm) fun k => ?_, p3, by rw [hC.ok.last q hqm, p2]; rfl⟩
    unfold cameT
    rw [List.mem_filter, List.mem_range, Bool.and_eq_true, Bool.and_eq_true, decide_eq_true_eq, decide_eq_true_eq, decide_eq_true_eq]
    have hpre : ((plc L).take i).Pairwise fun g g' => g.a < g'.a := hup.sublist (List.take_sublist _ _)
    constructor
    · rintro ⟨hk, h1, h2, h3⟩
      obtain ⟨q', hq', hkq⟩ := List.mem_flatMap.mp (hC.flat.mem_iff.mpr (List.mem_filter.mpr ⟨List.mem_range.mpr hk, rfl⟩))
      obtain ⟨j, ej⟩ := List.mem_iff_getElem?.mp hq'
      obtain ⟨g', eg'⟩ := some_g j q' ej
      obtain ⟨r1, r2, _⟩ := pair j q' g' ej eg'
      have htop' : q'.2.1.top = topAt L g'.c := by rw [r2]; rfl
      have hkt := hC.ok.top q' hq' k hkq
      rcases Nat.lt_trichotomy j i with h | h | h
      · have := hC.upTo q' hq' k hkq
        have h5 := lastG_ge (L := L) (t := topAt L g.c) hpre (mem_take eg' h) (by rw [← htop', ← hkt, h1])
        omega
      · subst h
        rw [eq] at ej
        cases ej
        exact hkq
      · have := hC.ok.after i j q q' h eq ej (by rw [htop, ← h1, hkt]) k hkq
        omega
    · intro hk
      have hkl : k < L.length := List.mem_range.mp (List.mem_filter.mp (hC.flat.mem_iff.mp (List.mem_flatMap.mpr ⟨q, hqm, hk⟩))).1
      have hkt := hC.ok.top q hqm k hk
      have h3 := hC.upTo q hqm k hk
      refine ⟨hkl, by rw [hkt, htop], ?_, by omega⟩
      rcases lastG_or (L := L) (pre := (plc L).take i) (t := topAt L g.c) with h | ⟨g', hg', ht', h⟩
      · rw [h, timAt_get hkl]
        have := (hV.ann _ (List.getElem_mem hkl)).1
        omega
      · obtain ⟨j, hj, ej⟩ := take_mem hg'
        obtain ⟨q', eq'⟩ := some_o j g' ej
        obtain ⟨r1, r2, _⟩ := pair j q' g' eq' ej
        have := hC.ok.after j i q' q hj eq' eq (by rw [r2, htop, ← ht']; rfl) k hk
        rw [h]
        omega
  · obtain ⟨q, eq⟩ := some_o i g e1
    obtain ⟨q', eq'⟩ := some_o j g' e2
    obtain ⟨p1, p2, p3⟩ := pair i q g eq e1
    obtain ⟨r1, r2, r3⟩ := pair j q' g' eq' e2
    have hm := head_mem (hC.ok.last q' (List.mem_of_getElem? eq'))
    have := hC.ok.after i j q q' hij eq eq' (by rw [p2, r2]; exact ht) _ hm
    rw [r3] at this
    omega
  · have h := heads_chain hC
    have e : ((runsOf o).map fun R => R.headD 0) = (plc L).map fun g => g.b := by
      have := congrArg (List.map fun z : Int × Ent => z.2.2) ho
      rw [List.map_map, List.map_map] at this
      unfold runsOf
      rw [List.map_map]
      exact this
    rwa [e] at h
/-! ### the wait of a first one -/
theorem rcvAll_tim {r : Str} {L : List An} {now : Int} : ∀ (n : Nat) {line : List Pr} {done : Nat}, L.length - done = n → ∀ k, done ≤ k → k < (rcvAll r L now line done).2 → timAt L k ≤ now
  | 0, line, done, hn, k, h1, h2 => by
    rw [rcvAll_stop (fun z => by omega)] at h2
    exact absurd h2 (by show ¬ k < done; omega)
  | n + 1, line, done, hn, k, h1, h2 => by
    by_cases hc : done < L.length ∧ timAt L done ≤ now
    · rcases Nat.eq_or_lt_of_le h1 with e | e
      · subst e; exact hc.2
      · rw [rcvAll_go hc.1 hc.2] at h2
        exact rcvAll_tim n (by omega) k e h2
    · rw [rcvAll_stop hc] at h2
      exact absurd h2 (by show ¬ k < done; omega)
theorem rcv_firsts {L : List An} {line : List Pr} {k : Nat} : (∀ p ∈ line, ∃ p' ∈ rcv "place" L line k, p'.a = p.a) ∧ ∀ p' ∈ rcv "place" L line k, p'.a = k ∨ ∃ p ∈ line, p.a = p'.a := by
  unfold rcv
  split
  · refine ⟨fun p hp => ⟨p, List.mem_append_left _ hp, rfl⟩, fun p' hp => ?_⟩
    rcases List.mem_append.mp hp with h | h
    · exact .inr ⟨p', h, rfl⟩
    · rw [List.mem_singleton.mp h]; exact .inl rfl
  · rename_i p0 ps hq
    have hm : p0 ∈ line := (List.mem_filter.mp (by rw [hq]; exact List.mem_cons_self)).1
    rw [if_neg (by decide), if_pos rfl]
    refine ⟨fun p hp => ⟨if p = p0 then ⟨p0.a, k⟩ else p, List.mem_map.mpr ⟨p, hp, rfl⟩, ?_⟩, fun p' hp => ?_⟩
    · split
      · rename_i e; rw [e]
      · rfl
    · obtain ⟨p, hq', rfl⟩ := List.mem_map.mp hp
      split
      · exact .inr ⟨p0, hm, rfl⟩
      · exact .inr ⟨p, hq', rfl⟩
theorem rcvAll_firsts {L : List An} {now : Int} : ∀ (n : Nat) {line : List Pr} {done : Nat}, L.length - done = n → (∀ p ∈ line, ∃ p' ∈ (rcvAll "place" L now line done).1, p'.a = p.a) ∧ ∀ p' ∈ (rcvAll "place" L now line done).1, done ≤ p'.a ∨ ∃ p ∈ line, p.a = p'.a
  | 0, line, done, hn => by
    rw [rcvAll_stop (fun z => by omega)]
    exact ⟨fun p hp => ⟨p, hp, rfl⟩, fun p hp => .inr ⟨p, hp, rfl⟩⟩
  | n + 1, line, done, hn => by
    by_cases hc : done < L.length ∧ timAt L done ≤ now
    · rw [rcvAll_go hc.1 hc.2]
      obtain ⟨h1, h2⟩ := rcvAll_firsts (L := L) (now := now) n (line := rcv "place" L line done) (done := done + 1) (by omega)
      obtain ⟨f1, f2⟩ := rcv_firsts (L := L) (line := line) (k := done)
      refine ⟨fun p hp => ?_, fun p' hp => ?_⟩
      · obtain ⟨q, hq, e⟩ := f1 p hp
        obtain ⟨q', hq', e'⟩ := h1 q hq
        exact ⟨q', hq', by rw [e', e]⟩
      · rcases h2 p' hp with h | ⟨q, hq, e⟩
        · exact .inl (by omega)
        · rcases f2 q hq with h | ⟨p, hp', e2⟩
          · exact .inl (by omega)
          · exact .inr ⟨p, hp', by rw [e2, e]⟩
    · rw [rcvAll_stop hc]
      exact ⟨fun p hp => ⟨p, hp, rfl⟩, fun p hp => .inr ⟨p, hp, rfl⟩⟩
/-- whose first one was received stands in the line -/
theorem Run.first {L : List An} {line : List Pr} {done : Nat} {free : Int} {gs : List Bg} (h : Run "place" L line done free gs) (hd : done ≤ L.length) (hf : Fits L line) : ∀ g ∈ gs, done ≤ g.b ∨ ∃ p ∈ line, p.a = g.b := by
  generalize hr : ("place" : Str) = r at h
  induction h with
  | stop z => exact fun g hg => by cases hg
  | @step line done free p ps d gs hz e _ ih =>
    subst hr
    have rk := Run.rk hf hd e
    obtain ⟨f1, f2⟩ := rcvAll_firsts (L := L) (now := nowOf L line done free) (L.length - done) (line := line) (done := done) rfl
    rw [e] at f1 f2
    intro g hg
    rcases List.mem_cons.mp hg with rfl | hg
    · exact f2 p List.mem_cons_self
    · rcases ih rk.top rk.fits.tail g hg with h | ⟨q, hq, eq⟩
      · exact .inl (Nat.le_trans rk.le h)
      · rcases f2 q (List.mem_cons_of_mem _ hq) with h | ⟨q', hq', e'⟩
        · exact .inl (by omega)
        · exact .inr ⟨q', hq', by rw [e', eq]⟩
def lnsOf (L : List An) (pre : List Bg) : Int := (pre.map fun g => lnAt L g.c).sum
/-- who waits is begun behind those ahead, at once -/
theorem Run.busy {L : List An} : ∀ (pre : List Bg) {line : List Pr} {done : Nat} {free : Int} {g : Bg} {suf : List Bg}, Run "place" L line done free (pre ++ g :: suf) → ((pre ++ g :: suf).map fun g => g.b).Pairwise (· < ·) → (∃ p ∈ line, p.a = g.b) → g.a = free + lnsOf L pre
  | [], line, done, free, g, suf, h, _, ⟨q, hq, eq⟩ => by
    cases h with
    | @step _ _ _ p ps d _ hz e h =>
      show nowOf L line done free = free + 0
      unfold nowOf
      rw [if_pos (fun z => by rw [z] at hq; cases hq), Int.add_zero]
  | r0 :: pre, line, done, free, g, suf, h, hi, ⟨q, hq, eq⟩ => by
    cases h with
    | @step _ _ _ p ps d _ hz e h =>
      have en : nowOf L line done free = free := by
        unfold nowOf
        rw [if_pos (fun z => by rw [z] at hq; cases hq)]
      obtain ⟨f1, _⟩ := rcvAll_firsts (L := L) (now := nowOf L line done free) (L.length - done) (line := line) (done := done) rfl
      rw [e] at f1
      obtain ⟨q', hq', eq'⟩ := f1 q hq
      rw [List.cons_append, List.map_cons, List.pairwise_cons] at hi
      have hlt : p.a < g.b := hi.1 g.b (List.mem_map.mpr ⟨g, List.mem_append_right _ List.mem_cons_self, rfl⟩)
      have hin : ∃ p' ∈ ps, p'.a = g.b := by
        rcases List.mem_cons.mp hq' with z | z
        · rw [z] at eq'; omega
        · exact ⟨q', z, by rw [eq', eq]⟩
      have := Run.busy pre h hi.2 hin
      rw [this, en]
      show free + lnAt L p.b + lnsOf L pre = free + (lnAt L p.b + lnsOf L pre)
      omega
def restS (L : List An) (gs : List Bg) (T : Int) : Int := ((gs.filter fun g => decide (g.a < T) && decide (T < g.a + lnAt L g.c)).map fun g => g.a + lnAt L g.c - T).sum
def lenS (L : List An) (gs : List Bg) (T : Int) : Int := lnsOf L (gs.filter fun g => decide (T ≤ g.a))
theorem restS_cons {L : List An} {g : Bg} {gs : List Bg} {T : Int} : restS L (g :: gs) T = (if g.a < T ∧ T < g.a + lnAt L g.c then g.a + lnAt L g.c - T else 0) + restS L gs T := by
  unfold restS
  rw [List.filter_cons]
  by_cases h : g.a < T ∧ T < g.a + lnAt L g.c
  · rw [if_pos h, if_pos (by rw [decide_eq_true h.1, decide_eq_true h.2]; rfl), List.map_cons, List.sum_cons]
  · rw [if_neg h, if_neg (fun z => h (by rw [Bool.and_eq_true, decide_eq_true_eq, decide_eq_true_eq] at z; exact z)), Int.zero_add]
theorem restS_pos {L : List An} {T : Int} : ∀ gs : List Bg, 0 ≤ restS L gs T
  | [] => Int.le_refl 0
  | g :: gs => by
    rw [restS_cons]
    have := restS_pos (L := L) (T := T) gs
    split
    · rename_i h; omega
    · omega
theorem restS_append {L : List An} {T : Int} {b : List Bg} : ∀ a : List Bg, restS L a T ≤ restS L (a ++ b) T
  | [] => restS_pos b
  | g :: a => by
    rw [List.cons_append, restS_cons, restS_cons]
    have := restS_append (L := L) (T := T) (b := b) a
    omega
theorem lenS_cons {L : List An} {g : Bg} {gs : List Bg} {T : Int} : lenS L (g :: gs) T = (if T ≤ g.a then lnAt L g.c else 0) + lenS L gs T := by
  unfold lenS lnsOf
  rw [List.filter_cons]
  by_cases h : T ≤ g.a
  · rw [if_pos h, if_pos (decide_eq_true h), List.map_cons, List.sum_cons]
  · rw [if_neg h, if_neg (fun z => h (of_decide_eq_true z)), Int.zero_add]
theorem lenS_all {L : List An} {T : Int} : ∀ {gs : List Bg}, (∀ g ∈ gs, T ≤ g.a) → lenS L gs T = lnsOf L gs
  | [], _ => rfl
  | g :: gs, h => by
    rw [lenS_cons, if_pos (h g List.mem_cons_self), lenS_all fun x hx => h x (List.mem_cons_of_mem _ hx)]; rfl
theorem Run.wait {L : List An} (hs : SLog L) : ∀ (pre : List Bg) {line : List Pr} {done : Nat} {free : Int} {g : Bg} {suf : List Bg}, Run "place" L line done free (pre ++ g :: suf) → ((pre ++ g :: suf).map fun g => g.b).Pairwise (· < ·) → Fits L line → done ≤ L.length → done ≤ g.b → g.b < L.length →
    g.a - timAt L g.b ≤ max (free - timAt L g.b) 0 + (restS L pre (timAt L g.b) + lenS L pre (timAt L g.b))
  | [], line, done, free, g, suf, h, _, _, _, hdb, hb => by
    cases h with
    | @step _ _ _ p ps d _ hz e h =>
      have ht := hs.tim hdb hb
      have ht : timAt L done ≤ timAt L p.a := ht
      show nowOf L line done free - timAt L p.a ≤ max (free - timAt L p.a) 0 + (0 + 0)
      unfold nowOf
      split <;> omega
  | r0 :: pre, line, done, free, g, suf, h, hi, hf, hd, hdb, hb => by
    cases h with
    | @step _ _ _ p ps d _ hz e h =>
      have rk := Run.rk hf hd e
      have ht := hs.tim hdb hb
      have hnow : nowOf L line done free - timAt L g.b ≤ max (free - timAt L g.b) 0 := by
        unfold nowOf
        split <;> omega
      have hpb := rk.fits p List.mem_cons_self
      have hln := hs.ln hpb.2
      rw [List.cons_append, List.map_cons, List.pairwise_cons] at hi
      have hgm : g ∈ pre ++ g :: suf := List.mem_append_right _ List.mem_cons_self
      rw [restS_cons, lenS_cons]
      show _ ≤ _ + ((if nowOf L line done free < timAt L g.b ∧ timAt L g.b < nowOf L line done free + lnAt L p.b then nowOf L line done free + lnAt L p.b - timAt L g.b else 0) + restS L pre (timAt L g.b) + ((if timAt L g.b ≤ nowOf L line done free then lnAt L p.b else 0) + lenS L pre (timAt L g.b)))
      rcases Nat.lt_or_ge g.b d with hlt | hge
      · have hT : timAt L g.b ≤ nowOf L line done free := by
          refine rcvAll_tim (r := "place") (line := line) (L.length - done) rfl g.b hdb ?_
          rw [e]; exact hlt
        have hin : ∃ p' ∈ ps, p'.a = g.b := by
          rcases Run.first h rk.top rk.fits.tail g hgm with z | z
          · omega
          · exact z
        have hbz := Run.busy pre h hi.2 hin
        have hord := (Run.order h (fun k hk => hs.ln hk) rk.fits.tail rk.top).1
        have hall : ∀ x ∈ pre, timAt L g.b ≤ x.a := fun x hx => by
          have := hord x (List.mem_append_left _ hx)
          omega
        rw [lenS_all hall, if_pos hT, if_neg (fun z => by omega)]
        have := restS_pos (L := L) (T := timAt L g.b) pre
        omega
      · have hT : nowOf L line done free < timAt L g.b := by
          have hdl : d < L.length := by omega
          have := rcvAll_next (r := "place") (L := L) (a := nowOf L line done free) (L.length - done) (line := line) (done := done) rfl
          rw [e] at this
          have h2 : ¬ timAt L d ≤ nowOf L line done free := fun z => this ⟨hdl, z⟩
          have := hs.tim hge hb
          omega
        have ih := Run.wait hs pre h hi.2 rk.fits.tail rk.top hge hb
        rw [if_neg (by omega : ¬ timAt L g.b ≤ nowOf L line done free)]
        split <;> omega
theorem perm_sum {xs ys : List Int} (h : xs.Perm ys) : xs.sum = ys.sum := by
  induction h with
  | nil => rfl
  | cons x _ ih => rw [List.sum_cons, List.sum_cons, ih]
  | swap x y l => rw [List.sum_cons, List.sum_cons, List.sum_cons, List.sum_cons]; omega
  | trans _ _ h1 h2 => rw [h1, h2]
/-- sums over topics -/
theorem sum_topics {f : Str → Int} (hf : ∀ u, 0 ≤ f u) : ∀ (zs ys : List Str), zs.Nodup → (∀ z ∈ zs, z ∈ ys) → (zs.map f).sum ≤ (ys.map f).sum
  | [], ys, _, _ => by
    induction ys with
    | nil => exact Int.le_refl _
    | cons y ys ih =>
      have := hf y
      rw [List.map_cons, List.sum_cons]
      have ih := ih (fun z hz => by cases hz)
      simp only [List.map_nil, List.sum_nil] at ih ⊢
      omega
  | z :: zs, ys, hn, hs => by
    have hz := hs z List.mem_cons_self
    have hp := List.perm_cons_erase hz
    have hn' := List.nodup_cons.mp hn
    have := sum_topics hf zs (ys.erase z) hn'.2 fun x hx => by
      refine (List.mem_erase_of_ne (fun e => hn'.1 (by rw [← e]; exact hx))).mpr (hs x (List.mem_cons_of_mem _ hx))
    have e := perm_sum (hp.map f)
    rw [e, List.map_cons, List.map_cons, List.sum_cons, List.sum_cons]
    omega
def longOf (L : List An) (u : Str) : Int := ((L.filter fun x => decide (x.b = u)).map fun x => x.c).foldl max 0
theorem foldl_max : ∀ (xs : List Int) (a : Int), a ≤ xs.foldl max a ∧ (∀ x ∈ xs, x ≤ xs.foldl max a) ∧ (xs.foldl max a = a ∨ xs.foldl max a ∈ xs)
  | [], a => ⟨Int.le_refl _, (fun x hx => by cases hx), .inl rfl⟩
  | y :: xs, a => by
    obtain ⟨h1, h2, h3⟩ := foldl_max xs (max a y)
    show a ≤ xs.foldl max (max a y) ∧ (∀ x ∈ y :: xs, x ≤ xs.foldl max (max a y)) ∧ (xs.foldl max (max a y) = a ∨ xs.foldl max (max a y) ∈ y :: xs)
    refine ⟨by omega, fun x hx => ?_, ?_⟩
    · rcases List.mem_cons.mp hx with rfl | hx
      · omega
      · exact h2 x hx
    · rcases h3 with h | h
      · rw [h]
        rcases Int.le_total a y with z | z
        · exact .inr (by rw [Int.max_eq_right z]; exact List.mem_cons_self)
        · exact .inl (Int.max_eq_left z)
      · exact .inr (List.mem_cons_of_mem _ h)
theorem long_pos (L : List An) (u : Str) : 0 ≤ longOf L u := (foldl_max _ 0).1
theorem long_ge {L : List An} {k : Nat} (hk : k < L.length) : lnAt L k ≤ longOf L (topAt L k) := by
  refine (foldl_max _ 0).2.1 _ ?_
  rw [lnAt_get hk, topAt_get hk]
  exact List.mem_map.mpr ⟨L[k], List.mem_filter.mpr ⟨List.getElem_mem hk, decide_eq_true rfl⟩, rfl⟩
/-- the wait is not longer than the rest of the one that is spoken and one of each other topic -/
theorem wait_bound {L : List An} (hV : VLog L) {i : Nat} {g : Bg} (hg : (plc L)[i]? = some g) (ys : List Str) (hy : ∀ k, k < L.length → topAt L k ≠ topAt L g.c → topAt L k ∈ ys) : g.a - timAt L g.b ≤ restS L (plc L) (timAt L g.b) + (ys.map (longOf L)).sum := by
  obtain ⟨Rs, hP⟩ := plc_came hV
  have hfit := (played_fits (r := "place") (L := L) (lb := 1000000) (lt := 1000000)).1
  have hfit : ∀ g ∈ plc L, g.b < L.length ∧ g.c < L.length := hfit
  have hi : i < (plc L).length := (List.getElem?_eq_some_iff.mp hg).1
  have hgb := (hfit g (List.mem_of_getElem? hg)).1
  have esplit : plc L = (plc L).take i ++ g :: (plc L).drop (i + 1) := by
    have e : (plc L)[i] = g := (List.getElem?_eq_some_iff.mp hg).2
    rw [← e, ← List.drop_eq_getElem_cons hi, List.take_append_drop]
  have hrun : Run "place" L [] 0 0 ((plc L).take i ++ g :: (plc L).drop (i + 1)) := by rw [← esplit]; exact run_spoken hV
  have hw := Run.wait hV.s ((plc L).take i) hrun (by rw [← esplit]; exact hP.heads) (fits_nil L) (Nat.zero_le _) (Nat.zero_le _) hgb
  have hT : 0 ≤ timAt L g.b := by rw [timAt_get hgb]; exact (hV.ann _ (List.getElem_mem hgb)).1
  have h1 : restS L ((plc L).take i) (timAt L g.b) ≤ restS L (plc L) (timAt L g.b) := by
    conv => rhs; rw [← List.take_append_drop i (plc L)]
    exact restS_append _
  have h2 : lenS L ((plc L).take i) (timAt L g.b) ≤ (ys.map (longOf L)).sum := by
    have hinc : ∀ (x y : Nat) (p q : Bg), x < y → (plc L)[x]? = some p → (plc L)[y]? = some q → p.b < q.b := fun x y p q hxy e1 e2 => by
      have hx := (List.getElem?_eq_some_iff.mp e1)
      have hy := (List.getElem?_eq_some_iff.mp e2)
      have := List.pairwise_iff_getElem.mp hP.heads x y (by rw [List.length_map]; exact hx.1) (by rw [List.length_map]; exact hy.1) hxy
      rw [List.getElem_map, List.getElem_map, hx.2, hy.2] at this
      exact this
    have key : ∀ xs : List Bg, xs.Sublist ((plc L).take i) → (∀ p ∈ xs, timAt L g.b ≤ p.a) → ((xs.map fun p => topAt L p.c).Nodup) → lnsOf L xs ≤ (ys.map (longOf L)).sum := fun xs hsub hge hnd => by
      have hin : ∀ p ∈ xs, ∃ j, j < i ∧ (plc L)[j]? = some p := fun p hp => take_mem (hsub.subset hp)
      refine Int.le_trans ?_ (sum_topics (long_pos L) (xs.map fun p => topAt L p.c) ys hnd fun z hz => ?_)
      · rw [List.map_map]
        unfold lnsOf
        have : ∀ zs : List Bg, (∀ p ∈ zs, p ∈ plc L) → (zs.map fun p => lnAt L p.c).sum ≤ (zs.map (longOf L ∘ fun p => topAt L p.c)).sum := fun zs => by
          induction zs with
          | nil => intro _; exact Int.le_refl _
          | cons q zs ih =>
            intro hz
            have := ih fun p hp => hz p (List.mem_cons_of_mem _ hp)
            have := long_ge (hfit q (hz q List.mem_cons_self)).2
            rw [List.map_cons, List.map_cons, List.sum_cons, List.sum_cons]
            show lnAt L q.c + _ ≤ longOf L (topAt L q.c) + _
            omega
        exact this xs fun p hp => by obtain ⟨j, _, e⟩ := hin p hp; exact List.mem_of_getElem? e
      · obtain ⟨p, hp, rfl⟩ := List.mem_map.mp hz
        obtain ⟨j, hj, e⟩ := hin p hp
        refine hy _ (hfit p (List.mem_of_getElem? e)).2 fun et => ?_
        have := hP.after j i p g hj e hg et
        have := hge p hp
        omega
    refine key _ List.filter_sublist (fun p hp => of_decide_eq_true (List.mem_filter.mp hp).2) ?_
    rw [List.Nodup, List.pairwise_map]
    have hpi : ((plc L).take i).Pairwise fun p q => timAt L g.b ≤ p.a → topAt L p.c ≠ topAt L q.c := by
      rw [List.pairwise_iff_getElem]
      intro x y hx hy hxy hge et
      rw [List.length_take] at hx hy
      rw [List.getElem_take] at hge et
      rw [List.getElem_take] at et
      have e1 : (plc L)[x]? = some (plc L)[x] := List.getElem?_eq_getElem (by omega)
      have e2 : (plc L)[y]? = some (plc L)[y] := List.getElem?_eq_getElem (by omega)
      have h3 := hP.after x y _ _ hxy e1 e2 et
      have h4 := hinc y i _ g (by omega) e2 hg
      have := hV.s.tim (Nat.le_of_lt h4) hgb
      omega
    exact (hpi.filter _).imp_of_mem fun {p q} hp _ h => h (of_decide_eq_true (List.mem_filter.mp hp).2)
  rw [Int.max_eq_right (by omega : 0 - timAt L g.b ≤ 0)] at hw
  omega
/-! ### the line -/
theorem Dist.playF {r : Str} {L : List An} {lb : Int} : ∀ (f : Nat) (line : List Pr) (done : Nat) (found : List Bg) (free : Int), Dist r L line → Dist r L (playF r L lb f line done found free).2.1
  | 0, _, _, _, _, h => h
  | f + 1, line, done, found, free, h => by
    show Dist r L (if _ then _ else _ : PlR).2.1
    split
    · exact h
    · split
      · exact h
      · have hd := rcvAll_dist (r := r) (L := L) (now := nowOf L line done free) (done := done) h
        split
        · exact .inr List.nodup_nil
        · rename_i p ps d e
          rw [e] at hd
          exact Dist.playF f ps d _ _ hd.tail
end DL
/-! _law_firsts, _law_bound_right -/
namespace DL
open PySem PySem.Spec PyProof.Rows L2
open Enc (enc)
local macro_rules | `(tactic| walk_at "dl") => `(tactic| first
  | (with_reducible_and_instances refine sw_seq ?_)
  | (with_reducible_and_instances refine sw_ret ?_)
  | (with_reducible_and_instances refine sw_retN ?_)
  | (with_reducible_and_instances refine sw_set ?_)
  | (with_reducible_and_instances refine sw_par ?_)
  | (with_reducible_and_instances refine sw_drop ?_)
  | (with_reducible_and_instances refine sw_next ?_)
  | (with_reducible_and_instances refine sw_break ?_)
  | (with_reducible_and_instances refine sw_if ?_)
  | (with_reducible_and_instances refine sw_asg ?_)
  | ((with_reducible_and_instances refine' ew_var ?hh ?kk); (case hh => rfl))
  | (with_reducible_and_instances refine ew_int ?_)
  | (with_reducible_and_instances refine ew_str ?_)
  | (with_reducible_and_instances refine ew_bl ?_)
  | (with_reducible_and_instances refine ew_non ?_)
  | (with_reducible_and_instances refine ew_raw (v := .ty _) ?_)
  | (with_reducible_and_instances refine ew_op ?_)
  | (with_reducible_and_instances refine ew_un ?_)
  | (with_reducible_and_instances refine ew_chain ?_)
  | (with_reducible_and_instances refine ew_andV ?_)
  | (with_reducible_and_instances refine ew_orV ?_)
  | (with_reducible_and_instances refine ew_notV ?_)
  | (with_reducible_and_instances refine ew_if ?_)
  | (with_reducible_and_instances refine ew_tup ?_)
  | (with_reducible_and_instances refine ew_cb ?_)
  | (with_reducible_and_instances refine ew_slA ?_)
  | (with_reducible_and_instances refine .inl ⟨_, rfl, ?_⟩)
  | (with_reducible_and_instances refine .inr ⟨_, .same _, ?_⟩)
  | (with_reducible_and_instances refine aw_cons ?_)
  | (with_reducible_and_instances refine aw_nil ?_)
  | (with_reducible_and_instances refine tw_test ?_)
  | (with_reducible_and_instances refine tw_B ?_)
  | (with_reducible_and_instances refine tw_and ?_)
  | (with_reducible_and_instances refine tw_or ?_)
  | (with_reducible_and_instances refine tw_not ?_)
  | (with_reducible_and_instances refine tw_yes ?_)
  | (with_reducible_and_instances refine pw_none ?_)
  | (with_reducible_and_instances refine pw_some ?_)
  | (with_reducible_and_instances refine rw_le ?_)
  | (with_reducible_and_instances refine rw_lt ?_)
  | (with_reducible_and_instances refine rw_gt ?_)
  | (with_reducible_and_instances refine rw_ge ?_)
  | (with_reducible_and_instances refine rw_sub ?_)
  | (with_reducible_and_instances refine uw_neg ?_)
  | (with_reducible_and_instances refine rwp_int ?_)
  | ((with_reducible_and_instances refine gw_name ?hj ?_); (case hj => first | exact trivial | decide))
  | (with_reducible_and_instances refine gsw_cons ?_)
  | (with_reducible_and_instances refine gsw_nil ?_)
  | (with_reducible_and_instances refine gw_tup rfl ?_)
  | (with_reducible_and_instances refine cw_max2 ?_)
  | (with_reducible_and_instances refine cw_min2 ?_)
  | (with_reducible_and_instances refine cw_lenT ?_)
  | (with_reducible_and_instances refine cw_lenR ?_)
  | (with_reducible_and_instances refine cw_lenL (.same _) ?_)
  | (with_reducible_and_instances refine cw_intB ?_)
  | (with_reducible_and_instances refine ⟨_, rfl, ?_⟩)
  | (with_reducible_and_instances refine ⟨_, _, rfl, ?_⟩)
  | (refine ⟨Nat.le_trans (by simp) (Nat.le_of_lt (small1000 (n := 1000) (by decide))), ?_⟩))
local macro_rules | `(tactic| walk_at "dx") => `(tactic| first
  | (with_reducible_and_instances refine sw_seq ?_)
  | (with_reducible_and_instances refine sw_ret ?_)
  | (with_reducible_and_instances refine sw_retN ?_)
  | (with_reducible_and_instances refine sw_set ?_)
  | (with_reducible_and_instances refine sw_par ?_)
  | (with_reducible_and_instances refine sw_drop ?_)
  | (with_reducible_and_instances refine sw_next ?_)
  | (with_reducible_and_instances refine sw_break ?_)
  | (with_reducible_and_instances refine sw_asg ?_)
  | ((with_reducible_and_instances refine' ew_var ?hh ?kk); (case hh => rfl))
  | (with_reducible_and_instances refine ew_int ?_)
  | (with_reducible_and_instances refine ew_str ?_)
  | (with_reducible_and_instances refine ew_bl ?_)
  | (with_reducible_and_instances refine ew_non ?_)
  | (with_reducible_and_instances refine ew_raw (v := .ty _) ?_)
  | (with_reducible_and_instances refine ew_op ?_)
  | (with_reducible_and_instances refine ew_un ?_)
  | (with_reducible_and_instances refine ew_chain ?_)
  | (with_reducible_and_instances refine ew_andV ?_)
  | (with_reducible_and_instances refine ew_orV ?_)
  | (with_reducible_and_instances refine ew_notV ?_)
  | (with_reducible_and_instances refine ew_if ?_)
  | (with_reducible_and_instances refine ew_tup ?_)
  | (with_reducible_and_instances refine ew_cb ?_)
  | (with_reducible_and_instances refine ew_slA ?_)
  | (with_reducible_and_instances refine .inl ⟨_, rfl, ?_⟩)
  | (with_reducible_and_instances refine .inr ⟨_, .same _, ?_⟩)
  | (with_reducible_and_instances refine aw_cons ?_)
  | (with_reducible_and_instances refine aw_nil ?_)
  | (with_reducible_and_instances refine tw_test ?_)
  | (with_reducible_and_instances refine tw_B ?_)
  | (with_reducible_and_instances refine tw_and ?_)
  | (with_reducible_and_instances refine tw_or ?_)
  | (with_reducible_and_instances refine tw_not ?_)
  | (with_reducible_and_instances refine tw_yes ?_)
  | (with_reducible_and_instances refine pw_none ?_)
  | (with_reducible_and_instances refine pw_some ?_)
  | (with_reducible_and_instances refine rw_le ?_)
  | (with_reducible_and_instances refine rw_lt ?_)
  | (with_reducible_and_instances refine rw_gt ?_)
  | (with_reducible_and_instances refine rw_ge ?_)
  | (with_reducible_and_instances refine rw_sub ?_)
  | (with_reducible_and_instances refine uw_neg ?_)
  | (with_reducible_and_instances refine rwp_int ?_)
  | ((with_reducible_and_instances refine gw_name ?hj ?_); (case hj => first | exact trivial | decide))
  | (with_reducible_and_instances refine gsw_cons ?_)
  | (with_reducible_and_instances refine gsw_nil ?_)
  | (with_reducible_and_instances refine gw_tup rfl ?_)
  | (with_reducible_and_instances refine cw_max2 ?_)
  | (with_reducible_and_instances refine cw_min2 ?_)
  | (with_reducible_and_instances refine cw_lenT ?_)
  | (with_reducible_and_instances refine cw_lenR ?_)
  | (with_reducible_and_instances refine cw_lenL (.same _) ?_)
  | (with_reducible_and_instances refine cw_intB ?_)
  | (with_reducible_and_instances refine ⟨_, rfl, ?_⟩)
  | (with_reducible_and_instances refine ⟨_, _, rfl, ?_⟩)
  | (refine ⟨Nat.le_trans (by simp) (Nat.le_of_lt (small1000 (n := 1000) (by decide))), ?_⟩))
local macro_rules | `(tactic| walk_at "dn") => `(tactic| first
  | (with_reducible_and_instances refine sw_ret ?_)
  | (with_reducible_and_instances refine sw_retN ?_)
  | (with_reducible_and_instances refine sw_set ?_)
  | (with_reducible_and_instances refine sw_par ?_)
  | (with_reducible_and_instances refine sw_drop ?_)
  | (with_reducible_and_instances refine sw_next ?_)
  | (with_reducible_and_instances refine sw_break ?_)
  | (with_reducible_and_instances refine sw_asg ?_)
  | ((with_reducible_and_instances refine' ew_var ?hh ?kk); (case hh => rfl))
  | (with_reducible_and_instances refine ew_int ?_)
  | (with_reducible_and_instances refine ew_str ?_)
  | (with_reducible_and_instances refine ew_bl ?_)
  | (with_reducible_and_instances refine ew_non ?_)
  | (with_reducible_and_instances refine ew_raw (v := .ty _) ?_)
  | (with_reducible_and_instances refine ew_op ?_)
  | (with_reducible_and_instances refine ew_un ?_)
  | (with_reducible_and_instances refine ew_chain ?_)
  | (with_reducible_and_instances refine ew_andV ?_)
  | (with_reducible_and_instances refine ew_orV ?_)
  | (with_reducible_and_instances refine ew_notV ?_)
  | (with_reducible_and_instances refine ew_if ?_)
  | (with_reducible_and_instances refine ew_tup ?_)
  | (with_reducible_and_instances refine ew_cb ?_)
  | (with_reducible_and_instances refine ew_slA ?_)
  | (with_reducible_and_instances refine .inl ⟨_, rfl, ?_⟩)
  | (with_reducible_and_instances refine .inr ⟨_, .same _, ?_⟩)
  | (with_reducible_and_instances refine aw_cons ?_)
  | (with_reducible_and_instances refine aw_nil ?_)
  | (with_reducible_and_instances refine tw_test ?_)
  | (with_reducible_and_instances refine tw_B ?_)
  | (with_reducible_and_instances refine tw_and ?_)
  | (with_reducible_and_instances refine tw_or ?_)
  | (with_reducible_and_instances refine tw_not ?_)
  | (with_reducible_and_instances refine tw_yes ?_)
  | (with_reducible_and_instances refine pw_none ?_)
  | (with_reducible_and_instances refine pw_some ?_)
  | (with_reducible_and_instances refine rw_le ?_)
  | (with_reducible_and_instances refine rw_lt ?_)
  | (with_reducible_and_instances refine rw_gt ?_)
  | (with_reducible_and_instances refine rw_ge ?_)
  | (with_reducible_and_instances refine rw_sub ?_)
  | (with_reducible_and_instances refine uw_neg ?_)
  | (with_reducible_and_instances refine rwp_int ?_)
  | ((with_reducible_and_instances refine gw_name ?hj ?_); (case hj => first | exact trivial | decide))
  | (with_reducible_and_instances refine gsw_cons ?_)
  | (with_reducible_and_instances refine gsw_nil ?_)
  | (with_reducible_and_instances refine gw_tup rfl ?_)
  | (with_reducible_and_instances refine cw_max2 ?_)
  | (with_reducible_and_instances refine cw_min2 ?_)
  | (with_reducible_and_instances refine cw_lenT ?_)
  | (with_reducible_and_instances refine cw_lenR ?_)
  | (with_reducible_and_instances refine cw_lenL (.same _) ?_)
  | (with_reducible_and_instances refine cw_intB ?_)
  | (with_reducible_and_instances refine ⟨_, rfl, ?_⟩)
  | (with_reducible_and_instances refine ⟨_, _, rfl, ?_⟩)
  | (refine ⟨Nat.le_trans (by simp) (Nat.le_of_lt (small1000 (n := 1000) (by decide))), ?_⟩))
theorem enum_at {L : List An} : List.zipWith (fun d e => Dt.tup [d, e]) (rngD 0 (L.map (enc : An → Dt)).length) (L.map enc) = (List.range L.length).map fun k => .tup [.int (k : Int), enc (atL L k)] := by
  rw [enum_map]
  refine List.map_congr_left fun k hk => ?_
  have hk := List.mem_range.mp hk
  rw [List.getElem?_eq_getElem hk, atL_get hk]
def rowG (L : List An) (g : Bg) : Row := ⟨g.a, topAt L g.c, lnAt L g.c, g.c⟩
def frsts (L : List An) : List (T2 Nat Nat) := (plc L).map fun g => ⟨g.b, g.c⟩
def S__law_firsts : SpT := fun ds Oc Post => ∃ L : List An, ds = [encU L, encL (speechOf "place" L)] ∧ VLog L ∧ ∀ p : Addr, Post (.raw (.ref p)) ((p, .lst ((frsts L).map enc)) :: Oc)
def S__law_bound_right : SpT := fun ds Oc Post => ∃ L : List An, ds = [encU L, encL (speechOf "place" L), encL (frsts L)] ∧ VLog L ∧ Post (.bl true) Oc
theorem rows_plc (L : List An) : (speechOf "place" L).map (enc : Row → Dt) = (plc L).map fun g => enc (rowG L g) := by
  unfold speechOf
  rw [List.map_map]; rfl
theorem frsts_plc (L : List An) : (frsts L).map (enc : T2 Nat Nat → Dt) = (plc L).map fun g => enc (⟨g.b, g.c⟩ : T2 Nat Nat) := by
  unfold frsts
  rw [List.map_map]; rfl
theorem atI_headN {R : List Nat} {c : Nat} (h : R.getLast? = some c) : atI (R.map (enc : Nat → Dt)) 0 = some (.int ((R.headD 0 : Nat) : Int)) := by
  cases R with
  | nil => cases h
  | cons a R => exact atI_0
theorem atI_lastC {R : List Nat} {c : Nat} (h : R.getLast? = some c) : atI (R.map (enc : Nat → Dt)) (-1) = some (.int (c : Int)) := by
  obtain ⟨ys, rfl⟩ := List.getLast?_eq_some_iff.mp h
  rw [List.map_append]
  exact atI_last _ _
section
variable {P : Program} {w : World} {K : PySem.W.Frag} {mg : Str → Option Value} {base : Heap} {A : Ad}
theorem ok__law_firsts (T : Txt K mg A) : FnOk P w K mg base CX0 1 A.a__law_firsts A.d__law_firsts ["log", "rows"] (SpD K S__law_firsts) := by
  refine fn_ok T.F__law_firsts sc__law_firsts (fun ds Oc Post h => by obtain ⟨_, rfl, _⟩ := h; rfl) (fun cdv AA outer s H E hr => ?_)
  refine ⟨_, (pss_cons (ps_asg (pe_tup (pa_cons (pe_lst pa_nil) (pa_cons pe_dnewK pa_nil))) (tupK (K := K) (pg_tup (n := 2) rfl (pgs_cons (pg_name (i := 2) sc__law_firsts.nd rfl (.inl rfl)) (pgs_cons (pg_name (i := 3) sc__law_firsts.nd rfl (.inr rfl)) pgs_nil)))))
  (pss_cons (ps_for PassesOwn.never rfl (seqK (K := K) (pv 1)) (tupK (K := K) (pg_tup (n := 4) rfl (pgs_cons (pg_name (i := 4) sc__law_firsts.nd rfl (.inr rfl)) (pgs_cons (pg_name (i := 5) sc__law_firsts.nd rfl (.inr rfl)) (pgs_cons (pg_name (i := 6) sc__law_firsts.nd rfl (.inl rfl)) (pgs_cons (pg_name (i := 7) sc__law_firsts.nd rfl (.inl rfl)) pgs_nil)))))) (pss_cons (ps_setLc (i := 8) (own := [("k", 9), ("one", 10)]) rfl sc__law_firsts.nd rfl rfl (sw_true rfl rfl rfl (by decide +kernel)) (enumK (K := K) (pi_enumG (by rfl) T.enumerate (pa_cons (pv 0) pa_nil))) (blkOk_by (N := ["log", "rows", "found", "begun", "begin", "topic", "length", "at", "came", "k", "one"]) (sc := defScope s__law_firsts) (by decide +kernel)) (fun _ _ _ _ _ => (tupK (K := K) (pg_tup (n := 2) rfl (pgs_cons (pg_name (i := 9) sc__law_firsts.nd rfl (.inl rfl)) (pgs_cons (pg_name (i := 10) sc__law_firsts.nd rfl (.inl rfl)) pgs_nil))))) (fun _ _ _ _ _ => (pts_one (PW.pt (pw_and (pt_cmpR (eqK (K := K) hr.units) (pe_ix (ixK (K := K)) (pv 10) pe_int (fun _ _ => rfl)) (pv 5) (nomark _)) (pw_and1 (pt_chain op_lt op_le (pe_dget2 (hu_of hr) (pv 3) (pv 5) (pe_un un_neg pe_int) ⟨rfl, rfl, rfl, rfl⟩) (pe_ix (ixK (K := K)) (pv 10) pe_int (fun _ _ => rfl)) (pv 4))))))) (fun _ _ _ _ _ => (pv 9)))
    (pss_cons (ps_expr (bmK (K := K) (pe_bm PySem.F.plainAttrs_list PySem.F.slot_list_append PySem.F.type_list_append mt_append (pv 2) (pa_cons (pe_tup (pa_cons (pe_ix (ixK (K := K)) (pv 8) pe_int (fun _ _ => rfl)) (pa_cons (pe_ix (ixK (K := K)) (pv 8) (pe_un un_neg pe_int) (fun _ _ => rfl)) pa_nil))) pa_nil))))
    (pss_one (ps_asg (pv 4) (pg_sub (pv 3) (pv 5) (set_dict (hu_of hr))))))))
  (pss_one (ps_ret (pv 2))))), fun ds Oc Post h => ?_⟩
  obtain ⟨L, rfl, hV, hp⟩ := h
  have hlen := hV.len
  obtain ⟨Rs, hP⟩ := plc_came hV
  obtain ⟨hfit, hsl⟩ := played_fits (r := "place") (L := L) (lb := 1000000) (lt := 1000000)
  have hfit : ∀ g ∈ plc L, g.b < L.length ∧ g.c < L.length := hfit
  have hsl : (plc L).length ≤ L.length := hsl
  repeat walk_at "dl"
  refine ew_lstO ?_
  repeat walk_at "dl"
  intro pf
  repeat walk_at "dl"
  refine ew_dnew fun pd => ?_
  repeat walk_at "dl"
  refine sw_for (iws_lst ?_)
  repeat walk_at "dl"
  rw [rows_plc]
  refine ⟨fun j Γ O => ∃ (kvs : KD) (x4 x5 x6 x7 x8 x9 x10 : Option Dt), Γ = [some (encU L), some (encL (speechOf "place" L)), some (.raw (.ref pf)), some (.raw (.ref pd)), x4, x5, x6, x7, x8, x9, x10] ∧ O = (pd, .dk kvs) :: (pf, .lst (((frsts L).take j).map enc)) :: Oc ∧ kvs.length ≤ j ∧
    ∀ t, (getK kvs (.inr t)).getD (.int (-1)) = .int (lastG L ((plc L).take j) t), ⟨[], none, none, none, none, none, none, none, rfl, rfl, Nat.zero_le _, fun t => rfl⟩, (fun p e => by cases e), ?_, ?_⟩
  · rintro j d Γ O hd ⟨kvs, x4, x5, x6, x7, x8, x9, x10, rfl, rfl, hkl, hkv⟩
    have hj : j < (plc L).length := by
      have := (List.getElem?_eq_some_iff.mp hd).1
      rwa [List.length_map] at this
    have eg : (plc L)[j]? = some (plc L)[j] := List.getElem?_eq_getElem hj
    obtain ⟨R, eR⟩ : ∃ R, Rs[j]? = some R := ⟨_, List.getElem?_eq_getElem (by rw [hP.len]; exact hj)⟩
    obtain ⟨hc, hc1, hc2⟩ := hP.came j _ R eg eR
    have etk : (plc L).take (j + 1) = (plc L).take j ++ [(plc L)[j]] := by rw [List.take_add_one, eg]; rfl
    have etf : (frsts L).take (j + 1) = (frsts L).take j ++ [⟨(plc L)[j].b, (plc L)[j].c⟩] := by
      unfold frsts
      rw [← List.map_take, ← List.map_take, etk, List.map_append]; rfl
    obtain ⟨hgb, hgc⟩ := hfit _ (List.getElem_mem hj)
    rw [List.getElem?_map, eg] at hd
    have hfl : ((frsts L).take j).length ≤ 40 := by
      rw [List.length_take]
      omega
    generalize (plc L)[j] = g at *
    cases hd
    show GW K _ _ (Dt.tup [.int g.a, .str (topAt L g.c), .int (lnAt L g.c), .int (g.c : Int)]) _ _ _
    repeat walk_at "dl"
    refine ew_lcP (α := Nat) (iw_enumT ?_)
    repeat walk_at "dl"
    rw [enum_at]
    refine ⟨fun k => .tup [.int (k : Int), enc (atL L k)], List.range L.length, fun k => decide (topAt L k = topAt L g.c) && (decide (lastG L ((plc L).take j) (topAt L g.c) < timAt L k) && decide (timAt L k ≤ g.a)), enc, rfl, (fun p e => by cases e), by rw [List.length_range]; omega, fun k hk => ?_, ?_⟩
    · repeat walk_at "dl"
      refine rw_ixT_ atI_1 ?_
      repeat walk_at "dl"
      refine rw_eqE (topAt L k) (topAt L g.c) (.same _) (.same _) ?_
      repeat walk_at "dl"
      refine ⟨fun z => ?_, fun z => ?_⟩
      · repeat walk_at "dl"
        refine ew_dget2 ?_
        repeat walk_at "dl"
        refine ⟨⟨kvs, List.mem_cons_self⟩, ?_⟩
        repeat walk_at "dl"
        refine ⟨topAt L g.c, kvs, rfl, List.mem_cons_self, ?_⟩
        rw [hkv]
        repeat walk_at "dl"
        refine rw_ixT_ atI_0 ?_
        repeat walk_at "dl"
        refine ⟨fun z1 => ?_, fun z1 => ?_⟩
        · have z1' : decide (lastG L ((plc L).take j) (topAt L g.c) < timAt L k) = true := z1
          repeat walk_at "dl"
          refine ⟨fun z2 => ?_, fun z2 => ⟨rfl, ?_⟩⟩
          · repeat walk_at "dl"
            refine ⟨rfl, ?_, rfl⟩
            show (decide _ && (decide _ && decide _)) = _
            rw [z, z1']
            exact z2
          · show (decide _ && (decide _ && decide _)) = _
            rw [z, z1']
            exact z2
        · have z1' : decide (lastG L ((plc L).take j) (topAt L g.c) < timAt L k) = false := z1
          repeat walk_at "dl"
          refine ⟨fun z2 => (by cases z2), fun _ => ⟨rfl, ?_⟩⟩
          show (decide _ && (decide _ && decide _)) = _
          rw [z, z1']; rfl
      · refine ⟨fun z2 => (by cases z2), fun _ => ⟨rfl, ?_⟩⟩
        show (decide _ && (decide _ && decide _)) = _
        rw [z]; rfl
    have hc : (List.range L.length).filter (fun k => decide (topAt L k = topAt L g.c) && (decide (lastG L ((plc L).take j) (topAt L g.c) < timAt L k) && decide (timAt L k ≤ g.a))) = R := hc
    rw [hc]
    repeat walk_at "dl"
    refine ew_append (p := pf) (ds := ((frsts L).take j).map enc) (O2 := (pd, .dk kvs) :: Oc) ?_
    repeat walk_at "dl"
    refine ⟨rfl, ⟨_, List.mem_cons_of_mem _ List.mem_cons_self⟩, ?_⟩
    repeat walk_at "dl"
    refine rw_ixL (.same _) (atI_headN hc2) ?_
    rw [hc1]
    repeat walk_at "dl"
    refine rw_ixL (.same _) (atI_lastC hc2) ?_
    repeat walk_at "dl"
    refine ⟨.swap _ _ _, by rw [List.length_map]; exact Nat.lt_of_le_of_lt hfl (by decide), ?_⟩
    repeat walk_at "dl"
    refine gw_setD (p := pd) (kvs := kvs) (s := topAt L g.c) (O2 := (pf, .lst (((frsts L).take j).map enc ++ [.tup [.int (g.b : Int), .int (g.c : Int)]])) :: Oc) (Nat.lt_of_le_of_lt (m := 40) (by omega) (by decide)) ?_
    repeat walk_at "dl"
    refine ⟨rfl, ?_⟩
    repeat walk_at "dl"
    refine ⟨rfl, .swap _ _ _, ?_⟩
    repeat walk_at "dl"
    refine ⟨putKD kvs (.inr (topAt L g.c)) (.int g.a), _, _, _, _, _, _, _, rfl, by rw [etf, List.map_append]; rfl, ?_, fun t => ?_⟩
    · have := put_len kvs (.inr (topAt L g.c)) (.int g.a)
      omega
    · rw [etk, lastG_step, getK_put]
      by_cases e : t = topAt L g.c
      · rw [if_pos (by rw [e]), if_pos e]; rfl
      · rw [if_neg (fun z => e (Sum.inr.inj z)), if_neg e]
        exact hkv t
  · rintro Γ O ⟨kvs, x4, x5, x6, x7, x8, x9, x10, rfl, rfl, hkl, hkv⟩
    have e : (frsts L).take ((plc L).map fun g => enc (rowG L g)).length = frsts L := by
      rw [List.length_map]
      exact List.take_of_length_le (by unfold frsts; rw [List.length_map]; exact Nat.le_refl _)
    rw [e]
    exact sw_ret (ew_drop (ew_var rfl ⟨pd, .dk kvs, _, .refl _, hp pf⟩))
theorem ok__law_bound_right (T : Txt K mg A) : FnOk P w K mg base CX0 1 A.a__law_bound_right A.d__law_bound_right ["log", "rows", "firsts"] (SpD K S__law_bound_right) := by
  refine fn_ok T.F__law_bound_right sc__law_bound_right (fun ds Oc Post h => by obtain ⟨_, rfl, _⟩ := h; rfl) (fun cdv AA outer s H E hr => ?_)
  refine ⟨_, (pss_cons (ps_for PassesOwn.never rfl (zipK (K := K) (pi_zipG (by rfl) T.zip (pa_cons (pv 1) (pa_cons (pv 2) pa_nil)))) (tupK (K := K) (pg_tup (n := 2) rfl (pgs_cons (pg_name (i := 3) sc__law_bound_right.nd rfl (.inr rfl)) (pgs_cons (tupK (K := K) (pg_tup (n := 2) rfl (pgs_cons (pg_name (i := 4) sc__law_bound_right.nd rfl (.inl rfl)) (pgs_cons (pg_name (i := 5) sc__law_bound_right.nd rfl (.inl rfl)) pgs_nil)))) pgs_nil)))) (pss_cons (ps_set (i := 6) sc__law_bound_right.nd rfl (.inr rfl) (pe_ix (ixK (K := K)) (pe_ix (ixK (K := K)) (pv 0) (pv 4) (fun _ _ => rfl)) pe_int (fun _ _ => rfl)))
    (pss_cons (ps_setLc (i := 7) (own := [("one", 10)]) rfl sc__law_bound_right.nd rfl rfl (sw_true rfl rfl rfl (by decide +kernel)) (seqK (K := K) (pv 1)) (blkOk_by (N := ["log", "rows", "firsts", "row", "first", "last", "came", "rest", "others", "longest", "one", "topic"]) (sc := defScope s__law_bound_right) (by decide +kernel)) (fun _ _ _ _ _ => (pg_name (i := 10) sc__law_bound_right.nd rfl (.inl rfl))) (fun _ _ _ _ _ => (pts_one (pt_chain op_lt op_lt (pe_ix (ixK (K := K)) (pv 10) pe_int (fun _ _ => rfl)) (pv 6) (pe_op (plusK (K := K)) (pe_ix (ixK (K := K)) (pv 10) pe_int (fun _ _ => rfl)) (pe_ix (ixK (K := K)) (pv 10) pe_int (fun _ _ => rfl)))))) (fun _ _ _ _ _ => (pe_op op_sub (pe_op (plusK (K := K)) (pe_ix (ixK (K := K)) (pv 10) pe_int (fun _ _ => rfl)) (pe_ix (ixK (K := K)) (pv 10) pe_int (fun _ _ => rfl))) (pv 6))))
    (pss_cons (ps_setLc (i := 8) (own := [("one", 10)]) rfl sc__law_bound_right.nd rfl rfl (sw_true rfl rfl rfl (by decide +kernel)) (seqK (K := K) (pv 0)) (blkOk_by (N := ["log", "rows", "firsts", "row", "first", "last", "came", "rest", "others", "longest", "one", "topic"]) (sc := defScope s__law_bound_right) (by decide +kernel)) (fun _ _ _ _ _ => (pg_name (i := 10) sc__law_bound_right.nd rfl (.inl rfl))) (fun _ _ _ _ _ => (pts_one (pt_cmpR (neK (K := K) hr.units) (pe_ix (ixK (K := K)) (pv 10) pe_int (fun _ _ => rfl)) (pe_ix (ixK (K := K)) (pv 3) pe_int (fun _ _ => rfl)) (nomark _)))) (fun _ _ _ _ _ => (pe_ix (ixK (K := K)) (pv 10) pe_int (fun _ _ => rfl))))
    (pss_cons (ps_setLc (i := 9) (own := [("topic", 11)]) rfl sc__law_bound_right.nd rfl rfl (sw_true rfl rfl rfl (by decide +kernel)) (seqK (K := K) (ssK (K := K) (pe_ss rfl (by rfl) T.sorted (by rfl) T.set (pv 8)))) (blkOk_by (N := ["log", "rows", "firsts", "row", "first", "last", "came", "rest", "others", "longest", "one", "topic"]) (sc := defScope s__law_bound_right) (by decide +kernel)) (fun _ _ _ _ _ => (pg_name (i := 11) sc__law_bound_right.nd rfl (.inr rfl))) (fun _ _ _ _ _ => pts_nil) (fun _ _ _ _ _ => (pe_callB (maxK (K := K)) (by rfl) T.max (by decide +kernel) (pa_cons (pe_lc (own := [("one", 10)]) rfl sc__law_bound_right.nd (seqK (K := K) (pv 0)) (blkOk_by (N := ["log", "rows", "firsts", "row", "first", "last", "came", "rest", "others", "longest", "one", "topic"]) (sc := { kind := .function, names := [(".0", .local), ("topic", .cell), ("max", .globalImplicit), ("log", .cell)], isGenerator := false, isCoroutine := false }) (by decide +kernel)) (fun _ _ _ _ _ => (pg_name (i := 10) sc__law_bound_right.nd rfl (.inl rfl))) (fun _ _ _ _ _ => (pts_one (pt_cmpR (eqK (K := K) hr.units) (pe_ix (ixK (K := K)) (pv 10) pe_int (fun _ _ => rfl)) (pv 11) (nomark _)))) (fun _ _ _ _ _ => (pe_ix (ixK (K := K)) (pv 10) pe_int (fun _ _ => rfl)))) pa_nil))))
    (pss_one (ps_if (pt_cmpR op_gt (pe_op op_sub (pe_ix (ixK (K := K)) (pv 3) pe_int (fun _ _ => rfl)) (pv 6)) (pe_op (plusK (K := K)) (pe_callB (sumK (K := K)) (by rfl) T.sum (by decide +kernel) (pa_cons (pv 7) pa_nil)) (pe_callB (sumK (K := K)) (by rfl) T.sum (by decide +kernel) (pa_cons (pv 9) pa_nil))) (nomark _)) (pss_one (ps_ret pe_bl)) pss_nil)))))))
  (pss_one (ps_ret pe_bl))), fun ds Oc Post h => ?_⟩
  obtain ⟨L, rfl, hV, hp⟩ := h
  have hlen := hV.len
  obtain ⟨hfit, hsl⟩ := played_fits (r := "place") (L := L) (lb := 1000000) (lt := 1000000)
  have hfit : ∀ g ∈ plc L, g.b < L.length ∧ g.c < L.length := hfit
  have hsl : (plc L).length ≤ L.length := hsl
  have hsp : (speechOf "place" L).length ≤ 40 := by
    unfold speechOf
    rw [List.length_map]
    exact Nat.le_trans hsl hlen
  repeat walk_at "dl"
  refine sw_for (iw_zipL ?_)
  repeat walk_at "dl"
  rw [rows_plc, frsts_plc, List.zipWith_map, List.zipWith_self]
  refine ⟨fun j Γ O => ∃ (x3 x4 x5 x6 x7 x8 x9 x10 x11 : Option Dt), Γ = [some (encU L), some (encL (speechOf "place" L)), some (encL (frsts L)), x3, x4, x5, x6, x7, x8, x9, x10, x11] ∧ O = Oc, ⟨none, none, none, none, none, none, none, none, none, rfl, rfl⟩, (fun p e => by cases e), ?_, ?_⟩
  · rintro j d Γ O hd ⟨x3, x4, x5, x6, x7, x8, x9, x10, x11, rfl, rfl⟩
    have hj : j < (plc L).length := by
      have := (List.getElem?_eq_some_iff.mp hd).1
      rwa [List.length_map] at this
    have eg : (plc L)[j]? = some (plc L)[j] := List.getElem?_eq_getElem hj
    obtain ⟨hgb, hgc⟩ := hfit _ (List.getElem_mem hj)
    have hbnd := wait_bound hV eg
    rw [List.getElem?_map, eg] at hd
    generalize (plc L)[j] = g at *
    cases hd
    show GW K _ _ (Dt.tup [.tup [.int g.a, .str (topAt L g.c), .int (lnAt L g.c), .int (g.c : Int)], .tup [.int (g.b : Int), .int (g.c : Int)]]) _ _ _
    repeat walk_at "dl"
    refine rw_ixT_ (atI_map hgb) ?_
    repeat walk_at "dl"
    refine rw_ixT_ atI_0 ?_
    rw [← timAt_get hgb]
    repeat walk_at "dl"
    refine ew_lcP (α := Bg) (iws_lst ?_)
    repeat walk_at "dl"
    rw [rows_plc]
    refine ⟨fun g => enc (rowG L g), plc L, fun x => decide (x.a < timAt L g.b) && decide (timAt L g.b < x.a + lnAt L x.c), fun x => .int (x.a + lnAt L x.c - timAt L g.b), rfl, (fun p e => by cases e), by omega, fun x hx => ?_, ?_⟩
    · show GW K _ _ (Dt.tup [.int x.a, .str (topAt L x.c), .int (lnAt L x.c), .int (x.c : Int)]) _ _ _
      repeat walk_at "dl"
      refine rw_ixT_ atI_0 ?_
      repeat walk_at "dl"
      refine ⟨fun z => ?_, fun z => ?_⟩
      · repeat walk_at "dl"
        refine rw_ixT_ atI_0 ?_
        repeat walk_at "dl"
        refine rw_ixT_ atI_2 ?_
        repeat walk_at "dl"
        refine ⟨fun z2 => ?_, fun z2 => ⟨rfl, ?_⟩⟩
        · repeat walk_at "dl"
          refine rw_ixT_ atI_0 ?_
          repeat walk_at "dl"
          refine rw_ixT_ atI_2 ?_
          repeat walk_at "dl"
          refine ⟨rfl, ?_, rfl⟩
          show (decide _ && decide _) = _
          rw [z, z2]; rfl
        · show (decide _ && decide _) = _
          rw [z, z2]; rfl
      · repeat walk_at "dl"
        refine ⟨fun z2 => (by cases z2), fun _ => ⟨rfl, ?_⟩⟩
        show (decide _ && decide _) = _
        rw [z]; rfl
    repeat walk_at "dl"
    refine ew_lcP (α := An) (iws_tup ?_)
    repeat walk_at "dl"
    refine ⟨enc, L, fun x => !decide (x.b = topAt L g.c), fun x => .str x.b, rfl, (fun p e => by cases e), by omega, fun x hx => ?_, ?_⟩
    · repeat walk_at "dl"
      refine rw_ixT_ atI_1 ?_
      repeat walk_at "dl"
      refine rw_ixT_ atI_1 ?_
      refine rw_neE x.b (topAt L g.c) (.same _) (.same _) ?_
      repeat walk_at "dl"
      refine ⟨fun z => ?_, fun z => ⟨rfl, z⟩⟩
      repeat walk_at "dl"
      refine rw_ixT_ atI_1 ?_
      exact ⟨rfl, z, rfl⟩
    have eo : ((L.filter fun x => !decide (x.b = topAt L g.c)).map fun x => Dt.str x.b) = ((L.filter fun x => !decide (x.b = topAt L g.c)).map fun x => x.b).map .str := by rw [List.map_map]; rfl
    rw [eo]
    have hol : ((L.filter fun x => !decide (x.b = topAt L g.c)).map fun x => x.b).length < 64 := by
      rw [List.length_map]
      have := List.length_filter_le (fun x => !decide (x.b = topAt L g.c)) L
      omega
    repeat walk_at "dl"
    refine ew_lcM (α := Str) (iws_lst (ew_ss ?_))
    repeat walk_at "dl"
    refine ⟨_, .same _, hol, fun ys hys => ?_⟩
    refine ⟨_, rfl, Dt.str, ys, fun u => .int (longOf L u), rfl, (fun p e => by cases e), by have := hys.len; omega, fun u hu => ?_, ?_⟩
    · have hu := (hys.2 u).mp hu
      obtain ⟨x0, hx0, ex0⟩ := List.mem_map.mp hu
      have hx0 := (List.mem_filter.mp hx0).1
      repeat walk_at "dl"
      refine ew_lcP (α := An) (iws_tup ?_)
      repeat walk_at "dl"
      refine ⟨enc, L, fun x => decide (x.b = u), fun x => .int x.c, rfl, (fun p e => by cases e), by omega, fun x hx => ?_, ?_⟩
      · repeat walk_at "dl"
        refine rw_ixT_ atI_1 ?_
        repeat walk_at "dl"
        refine rw_eqE x.b u (.same _) (.same _) ?_
        repeat walk_at "dl"
        refine ⟨fun z => ?_, fun z => ⟨rfl, z⟩⟩
        repeat walk_at "dl"
        refine rw_ixT_ atI_2 ?_
        exact ⟨rfl, z, rfl⟩
      repeat walk_at "dl"
      have hin : x0.c ∈ (L.filter fun x => decide (x.b = u)).map fun x => x.c := List.mem_map.mpr ⟨x0, List.mem_filter.mpr ⟨hx0, decide_eq_true ex0⟩, rfl⟩
      refine cw_maxL (bs := (L.filter fun x => decide (x.b = u)).map fun x => x.c) (.same _) (by rw [List.map_map]; rfl) (List.length_pos_of_mem hin) fun m hm hall => ?_
      refine ⟨rfl, ?_⟩
      obtain ⟨f1, f2, f3⟩ := foldl_max ((L.filter fun x => decide (x.b = u)).map fun x => x.c) 0
      have h1 := f2 m hm
      have h2 : longOf L u ≤ m := by
        rcases f3 with z | z
        · have := hall _ hin
          have := (hV.ann x0 hx0).2.2.2.1
          unfold longOf
          omega
        · exact hall _ z
      show Dt.int m = .int (longOf L u)
      have : m = longOf L u := Int.le_antisymm h1 h2
      rw [this]
    repeat walk_at "dl"
    refine rw_ixT_ atI_0 ?_
    repeat walk_at "dl"
    refine cw_sum (bs := ((plc L).filter fun x => decide (x.a < timAt L g.b) && decide (timAt L g.b < x.a + lnAt L x.c)).map fun x => x.a + lnAt L x.c - timAt L g.b) (.same _) (by rw [List.map_map]; rfl) ?_
    repeat walk_at "dl"
    refine cw_sum (bs := ys.map (longOf L)) (.same _) (by rw [List.map_map]; rfl) ?_
    repeat walk_at "dl"
    have hb := hbnd ys fun k hk hne => (hys.2 _).mpr (List.mem_map.mpr ⟨L[k], List.mem_filter.mpr ⟨List.getElem_mem hk, by rw [topAt_get hk] at hne; rw [decide_eq_false hne]; rfl⟩, (topAt_get hk).symm⟩)
    have hb : g.a - timAt L g.b ≤ (((plc L).filter fun x => decide (x.a < timAt L g.b) && decide (timAt L g.b < x.a + lnAt L x.c)).map fun x => x.a + lnAt L x.c - timAt L g.b).sum + (ys.map (longOf L)).sum := hb
    refine if_f (decide_eq_false (by omega)) ?_
    exact sw_next ⟨_, _, _, _, _, _, _, _, _, rfl, rfl⟩
  · rintro Γ O ⟨x3, x4, x5, x6, x7, x8, x9, x10, x11, rfl, rfl⟩
    repeat walk_at "dl"
    exact hp
end
end DL
namespace DL
open PySem PySem.Spec PyProof.Rows L2
open Enc (enc)
local macro_rules | `(tactic| walk_at "dl") => `(tactic| first
  | (with_reducible_and_instances refine sw_seq ?_)
  | (with_reducible_and_instances refine sw_ret ?_)
  | (with_reducible_and_instances refine sw_retN ?_)
  | (with_reducible_and_instances refine sw_set ?_)
  | (with_reducible_and_instances refine sw_par ?_)
  | (with_reducible_and_instances refine sw_drop ?_)
  | (with_reducible_and_instances refine sw_next ?_)
  | (with_reducible_and_instances refine sw_break ?_)
  | (with_reducible_and_instances refine sw_if ?_)
  | (with_reducible_and_instances refine sw_asg ?_)
  | ((with_reducible_and_instances refine' ew_var ?hh ?kk); (case hh => rfl))
  | (with_reducible_and_instances refine ew_int ?_)
  | (with_reducible_and_instances refine ew_str ?_)
  | (with_reducible_and_instances refine ew_bl ?_)
  | (with_reducible_and_instances refine ew_non ?_)
  | (with_reducible_and_instances refine ew_raw (v := .ty _) ?_)
  | (with_reducible_and_instances refine ew_op ?_)
  | (with_reducible_and_instances refine ew_un ?_)
  | (with_reducible_and_instances refine ew_chain ?_)
  | (with_reducible_and_instances refine ew_andV ?_)
  | (with_reducible_and_instances refine ew_orV ?_)
  | (with_reducible_and_instances refine ew_notV ?_)
  | (with_reducible_and_instances refine ew_if ?_)
  | (with_reducible_and_instances refine ew_tup ?_)
  | (with_reducible_and_instances refine ew_cb ?_)
  | (with_reducible_and_instances refine ew_slA ?_)
  | (with_reducible_and_instances refine .inl ⟨_, rfl, ?_⟩)
  | (with_reducible_and_instances refine .inr ⟨_, .same _, ?_⟩)
  | (with_reducible_and_instances refine aw_cons ?_)
  | (with_reducible_and_instances refine aw_nil ?_)
  | (with_reducible_and_instances refine tw_test ?_)
  | (with_reducible_and_instances refine tw_B ?_)
  | (with_reducible_and_instances refine tw_and ?_)
  | (with_reducible_and_instances refine tw_or ?_)
  | (with_reducible_and_instances refine tw_not ?_)
  | (with_reducible_and_instances refine tw_yes ?_)
  | (with_reducible_and_instances refine pw_none ?_)
  | (with_reducible_and_instances refine pw_some ?_)
  | (with_reducible_and_instances refine rw_le ?_)
  | (with_reducible_and_instances refine rw_lt ?_)
  | (with_reducible_and_instances refine rw_gt ?_)
  | (with_reducible_and_instances refine rw_ge ?_)
  | (with_reducible_and_instances refine rw_sub ?_)
  | (with_reducible_and_instances refine uw_neg ?_)
  | (with_reducible_and_instances refine rwp_int ?_)
  | ((with_reducible_and_instances refine gw_name ?hj ?_); (case hj => first | exact trivial | decide))
  | (with_reducible_and_instances refine gsw_cons ?_)
  | (with_reducible_and_instances refine gsw_nil ?_)
  | (with_reducible_and_instances refine gw_tup rfl ?_)
  | (with_reducible_and_instances refine cw_max2 ?_)
  | (with_reducible_and_instances refine cw_min2 ?_)
  | (with_reducible_and_instances refine cw_lenT ?_)
  | (with_reducible_and_instances refine cw_lenR ?_)
  | (with_reducible_and_instances refine cw_lenL (.same _) ?_)
  | (with_reducible_and_instances refine cw_intB ?_)
  | (with_reducible_and_instances refine ⟨_, rfl, ?_⟩)
  | (with_reducible_and_instances refine ⟨_, _, rfl, ?_⟩)
  | (refine ⟨Nat.le_trans (by simp) (Nat.le_of_lt (small1000 (n := 1000) (by decide))), ?_⟩))
local macro_rules | `(tactic| walk_at "dx") => `(tactic| first
  | (with_reducible_and_instances refine sw_seq ?_)
  | (with_reducible_and_instances refine sw_ret ?_)
  | (with_reducible_and_instances refine sw_retN ?_)
  | (with_reducible_and_instances refine sw_set ?_)
  | (with_reducible_and_instances refine sw_par ?_)
  | (with_reducible_and_instances refine sw_drop ?_)
  | (with_reducible_and_instances refine sw_next ?_)
  | (with_reducible_and_instances refine sw_break ?_)
  | (with_reducible_and_instances refine sw_asg ?_)
  | ((with_reducible_and_instances refine' ew_var ?hh ?kk); (case hh => rfl))
  | (with_reducible_and_instances refine ew_int ?_)
  | (with_reducible_and_instances refine ew_str ?_)
  | (with_reducible_and_instances refine ew_bl ?_)
  | (with_reducible_and_instances refine ew_non ?_)
  | (with_reducible_and_instances refine ew_raw (v := .ty _) ?_)
  | (with_reducible_and_instances refine ew_op ?_)
  | (with_reducible_and_instances refine ew_un ?_)
  | (with_reducible_and_instances refine ew_chain ?_)
  | (with_reducible_and_instances refine ew_andV ?_)
  | (with_reducible_and_instances refine ew_orV ?_)
  | (with_reducible_and_instances refine ew_notV ?_)
  | (with_reducible_and_instances refine ew_if ?_)
  | (with_reducible_and_instances refine ew_tup ?_)
  | (with_reducible_and_instances refine ew_cb ?_)
  | (with_reducible_and_instances refine ew_slA ?_)
  | (with_reducible_and_instances refine .inl ⟨_, rfl, ?_⟩)
  | (with_reducible_and_instances refine .inr ⟨_, .same _, ?_⟩)
  | (with_reducible_and_instances refine aw_cons ?_)
  | (with_reducible_and_instances refine aw_nil ?_)
  | (with_reducible_and_instances refine tw_test ?_)
  | (with_reducible_and_instances refine tw_B ?_)
  | (with_reducible_and_instances refine tw_and ?_)
  | (with_reducible_and_instances refine tw_or ?_)
  | (with_reducible_and_instances refine tw_not ?_)
  | (with_reducible_and_instances refine tw_yes ?_)
  | (with_reducible_and_instances refine pw_none ?_)
  | (with_reducible_and_instances refine pw_some ?_)
  | (with_reducible_and_instances refine rw_le ?_)
  | (with_reducible_and_instances refine rw_lt ?_)
  | (with_reducible_and_instances refine rw_gt ?_)
  | (with_reducible_and_instances refine rw_ge ?_)
  | (with_reducible_and_instances refine rw_sub ?_)
  | (with_reducible_and_instances refine uw_neg ?_)
  | (with_reducible_and_instances refine rwp_int ?_)
  | ((with_reducible_and_instances refine gw_name ?hj ?_); (case hj => first | exact trivial | decide))
  | (with_reducible_and_instances refine gsw_cons ?_)
  | (with_reducible_and_instances refine gsw_nil ?_)
  | (with_reducible_and_instances refine gw_tup rfl ?_)
  | (with_reducible_and_instances refine cw_max2 ?_)
  | (with_reducible_and_instances refine cw_min2 ?_)
  | (with_reducible_and_instances refine cw_lenT ?_)
  | (with_reducible_and_instances refine cw_lenR ?_)
  | (with_reducible_and_instances refine cw_lenL (.same _) ?_)
  | (with_reducible_and_instances refine cw_intB ?_)
  | (with_reducible_and_instances refine ⟨_, rfl, ?_⟩)
  | (with_reducible_and_instances refine ⟨_, _, rfl, ?_⟩)
  | (refine ⟨Nat.le_trans (by simp) (Nat.le_of_lt (small1000 (n := 1000) (by decide))), ?_⟩))
local macro_rules | `(tactic| walk_at "dn") => `(tactic| first
  | (with_reducible_and_instances refine sw_ret ?_)
  | (with_reducible_and_instances refine sw_retN ?_)
  | (with_reducible_and_instances refine sw_set ?_)
  | (with_reducible_and_instances refine sw_par ?_)
  | (with_reducible_and_instances refine sw_drop ?_)
  | (with_reducible_and_instances refine sw_next ?_)
  | (with_reducible_and_instances refine sw_break ?_)
  | (with_reducible_and_instances refine sw_asg ?_)
  | ((with_reducible_and_instances refine' ew_var ?hh ?kk); (case hh => rfl))
  | (with_reducible_and_instances refine ew_int ?_)
  | (with_reducible_and_instances refine ew_str ?_)
  | (with_reducible_and_instances refine ew_bl ?_)
  | (with_reducible_and_instances refine ew_non ?_)
  | (with_reducible_and_instances refine ew_raw (v := .ty _) ?_)
  | (with_reducible_and_instances refine ew_op ?_)
  | (with_reducible_and_instances refine ew_un ?_)
  | (with_reducible_and_instances refine ew_chain ?_)
  | (with_reducible_and_instances refine ew_andV ?_)
  | (with_reducible_and_instances refine ew_orV ?_)
  | (with_reducible_and_instances refine ew_notV ?_)
  | (with_reducible_and_instances refine ew_if ?_)
  | (with_reducible_and_instances refine ew_tup ?_)
  | (with_reducible_and_instances refine ew_cb ?_)
  | (with_reducible_and_instances refine ew_slA ?_)
  | (with_reducible_and_instances refine .inl ⟨_, rfl, ?_⟩)
  | (with_reducible_and_instances refine .inr ⟨_, .same _, ?_⟩)
  | (with_reducible_and_instances refine aw_cons ?_)
  | (with_reducible_and_instances refine aw_nil ?_)
  | (with_reducible_and_instances refine tw_test ?_)
  | (with_reducible_and_instances refine tw_B ?_)
  | (with_reducible_and_instances refine tw_and ?_)
  | (with_reducible_and_instances refine tw_or ?_)
  | (with_reducible_and_instances refine tw_not ?_)
  | (with_reducible_and_instances refine tw_yes ?_)
  | (with_reducible_and_instances refine pw_none ?_)
  | (with_reducible_and_instances refine pw_some ?_)
  | (with_reducible_and_instances refine rw_le ?_)
  | (with_reducible_and_instances refine rw_lt ?_)
  | (with_reducible_and_instances refine rw_gt ?_)
  | (with_reducible_and_instances refine rw_ge ?_)
  | (with_reducible_and_instances refine rw_sub ?_)
  | (with_reducible_and_instances refine uw_neg ?_)
  | (with_reducible_and_instances refine rwp_int ?_)
  | ((with_reducible_and_instances refine gw_name ?hj ?_); (case hj => first | exact trivial | decide))
  | (with_reducible_and_instances refine gsw_cons ?_)
  | (with_reducible_and_instances refine gsw_nil ?_)
  | (with_reducible_and_instances refine gw_tup rfl ?_)
  | (with_reducible_and_instances refine cw_max2 ?_)
  | (with_reducible_and_instances refine cw_min2 ?_)
  | (with_reducible_and_instances refine cw_lenT ?_)
  | (with_reducible_and_instances refine cw_lenR ?_)
  | (with_reducible_and_instances refine cw_lenL (.same _) ?_)
  | (with_reducible_and_instances refine cw_intB ?_)
  | (with_reducible_and_instances refine ⟨_, rfl, ?_⟩)
  | (with_reducible_and_instances refine ⟨_, _, rfl, ?_⟩)
  | (refine ⟨Nat.le_trans (by simp) (Nat.le_of_lt (small1000 (n := 1000) (by decide))), ?_⟩))
theorem perm_pairwise {ns ns' : List Int} (h1 : ns'.Perm ns) (h2 : ns'.Pairwise (· ≤ ·)) (h3 : ns.Pairwise (· ≤ ·)) : ns' = ns := List.Perm.eq_of_pairwise (fun a b _ _ hab hba => Int.le_antisymm hab hba) h2 h3 h1
def ex11 : List An := [⟨0, "a", 9⟩, ⟨1, "b", 9⟩, ⟨2, "c", 9⟩, ⟨3, "b", 2⟩]
theorem ex11_v : VLog ex11 := ⟨by decide +kernel, by decide +kernel, by decide +kernel⟩
theorem line_dist {r : Str} {L : List An} {t : Int} (h : r = "place" ∨ r = "end") : ((lineOf r L t).map fun p => p.a).Nodup := by
  have hd := rcvAll_dist (r := r) (L := L) (now := t) (done := (playR r L t).2.2) (Dist.playF (r := r) (L := L) (lb := t) (L.length + 1) [] 0 [] 0 (.inr List.nodup_nil))
  have hd : Dist r L (played r L t t).2 := hd
  rcases hd with e | e
  · rcases h with rfl | rfl <;> exact absurd e (by decide)
  · unfold lineOf
    rw [List.map_map]
    exact e
theorem distinct_id {xs : List Str} (h : xs.Nodup) : (TX.distinct xs).length = xs.length :=
  ((List.perm_ext_iff_of_nodup (TX.distinct_nodup xs) h).mpr fun x => TX.distinct_mem).length_eq
theorem last_heard {r : Str} {L : List An} (hV : VLog L) {u : Str} (hu : ∃ x ∈ L, x.b = u) : ∃ k, ((List.range L.length).filter fun k => decide (topAt L k = u)).getLast? = some k ∧ k ∈ (spoken r L).map fun g => g.c := by
  obtain ⟨x, hx, ex⟩ := hu
  obtain ⟨i, hi, ei⟩ := List.getElem_of_mem hx
  have hm : i ∈ (List.range L.length).filter fun k => decide (topAt L k = u) := List.mem_filter.mpr ⟨List.mem_range.mpr hi, decide_eq_true (by rw [topAt_get hi, ei, ex])⟩
  cases e : ((List.range L.length).filter fun k => decide (topAt L k = u)).getLast? with
  | none => rw [List.getLast?_eq_none_iff] at e; rw [e] at hm; cases hm
  | some k =>
    refine ⟨k, rfl, ?_⟩
    have hk := List.mem_filter.mp (List.mem_of_getLast? e)
    have hkl := List.mem_range.mp hk.1
    have hkt := of_decide_eq_true hk.2
    obtain ⟨ys, ey⟩ := List.getLast?_eq_some_iff.mp e
    have hpw : (ys ++ [k]).Pairwise (· < ·) := by rw [← ey]; exact List.pairwise_lt_range.filter _
    obtain ⟨g, hg, eg⟩ := Run.heard (run_spoken (r := r) hV) hkl (fun j hj hjl et => by
      have hjm : j ∈ ys ++ [k] := by rw [← ey]; exact List.mem_filter.mpr ⟨List.mem_range.mpr hjl, decide_eq_true (by rw [et, hkt])⟩
      rcases List.mem_append.mp hjm with h | h
      · have := (List.pairwise_append.mp hpw).2.2 j h k List.mem_cons_self
        omega
      · rw [List.mem_singleton.mp h] at hj
        omega) (.inl (Nat.zero_le _))
    exact List.mem_map.mpr ⟨g, hg, eg⟩
theorem two_get {j : Nat} {d : Dt} (hd : [Dt.str "place", Dt.str "end"][j]? = some d) : ∃ r : Str, (r = "place" ∨ r = "end") ∧ d = .str r :=
  match j, hd with
  | 0, hd => ⟨"place", .inl rfl, by cases hd; rfl⟩
  | 1, hd => ⟨"end", .inr rfl, by cases hd; rfl⟩
  | j + 2, hd => by cases hd
def gv (ns : List Int) (x1 x2 x3 x4 x5 x6 x7 x8 x9 x10 x11 x12 x13 x14 x15 : Option Dt) : Gm := [some (.ro (ns.map .int)), x1, x2, x3, x4, x5, x6, x7, x8, x9, x10, x11, x12, x13, x14, x15]
section
variable {P : Program} {w : World} {K : PySem.W.Frag} {mg : Str → Option Value} {base : Heap} {A : Ad}
set_option maxHeartbeats 1000000 in
theorem ok_law (T : Txt K mg A) : FnOk P w K mg base CX0 6 A.a_law A.d_law ["script"] (SpD K S_law) := by
  refine fn_ok T.F_law sc_law (fun ds Oc Post h => by obtain ⟨_, rfl, _⟩ := h; rfl) (fun cdv AA outer s H E hr => ?_)
  refine ⟨_, (pss_cons (ps_for PassesOwn.never rfl (pi_range1 (by rfl) T.range (pa_cons (pe_callB (call_max2 rfl) (by rfl) T.max (by decide +kernel) (pa_cons pe_int (pa_cons (pe_callB (call_min2 rfl) (by rfl) T.min (by decide +kernel) (pa_cons pe_int (pa_cons (pe_callB (lenK (K := K)) (by rfl) T.len (by decide +kernel) (pa_cons (pv 0) pa_nil)) pa_nil))) pa_nil))) pa_nil)) (pg_name (i := 1) sc_law.nd rfl (.inl rfl)) (pss_cons (ps_set (i := 2) sc_law.nd rfl (.inl rfl) (pe_call (ok__law_source T) (hr.mono (by decide)) (by rfl) T.g__law_source T.F__law_source.kp (b__law_source T) .nil pass0 (pa_cons (pv 0) (pa_cons (pv 1) pa_nil))))
    (pss_cons (ps_set (i := 3) sc_law.nd rfl (.inr rfl) (pe_call (ok__law_log T) (hr.mono (by decide)) (by rfl) T.g__law_log T.F__law_log.kp (b__law_log T) .nil pass0 (pa_cons (pv 2) (pa_cons pe_int pa_nil))))
    (pss_cons (ps_set (i := 4) sc_law.nd rfl (.inl rfl) (pe_callN (ok_speech T) (hr.mono (by decide)) (by rfl) T.g_speech T.F_speech.kp (kb_speech T) pass0 (pa_cons (pv 3) pa_nil) (pk_cons pe_str pk_nil)))
    (pss_cons (ps_set (i := 5) sc_law.nd rfl (.inl rfl) (pe_call (ok__law_firsts T) (hr.mono (by decide)) (by rfl) T.g__law_firsts T.F__law_firsts.kp (b__law_firsts T) .nil pass0 (pa_cons (pv 3) (pa_cons (pv 4) pa_nil))))
    (pss_cons (ps_if (pt_cmpR (neK (K := K) hr.units) (pe_lc (own := [("pair", 12)]) rfl sc_law.nd (seqK (K := K) (pv 5)) (blkOk_by (N := ["script", "k", "source", "log", "rows", "firsts", "due", "by", "time", "topics", "spoken_so", "topic", "pair", "row", "one", "at"]) (sc := defScope s_law) (by decide +kernel)) (fun _ _ _ _ _ => (pg_name (i := 12) sc_law.nd rfl (.inl rfl))) (fun _ _ _ _ _ => pts_nil) (fun _ _ _ _ _ => (pe_ix (ixK (K := K)) (pv 12) pe_int (fun _ _ => rfl)))) (pe_callB (sortedIK (K := K)) (by rfl) T.sorted (by decide +kernel) (pa_cons (pe_lc (own := [("pair", 12)]) rfl sc_law.nd (seqK (K := K) (pv 5)) (blkOk_by (N := ["script", "k", "source", "log", "rows", "firsts", "due", "by", "time", "topics", "spoken_so", "topic", "pair", "row", "one", "at"]) (sc := defScope s_law) (by decide +kernel)) (fun _ _ _ _ _ => (pg_name (i := 12) sc_law.nd rfl (.inl rfl))) (fun _ _ _ _ _ => pts_nil) (fun _ _ _ _ _ => (pe_ix (ixK (K := K)) (pv 12) pe_int (fun _ _ => rfl)))) pa_nil)) (nomark _)) (pss_one (ps_ret pe_bl)) pss_nil)
    (pss_cons (ps_if (PW.pt (pw_or (pt_cmpR (neK (K := K) hr.units) (pe_lc (own := [("row", 13)]) rfl sc_law.nd (seqK (K := K) (pv 4)) (blkOk_by (N := ["script", "k", "source", "log", "rows", "firsts", "due", "by", "time", "topics", "spoken_so", "topic", "pair", "row", "one", "at"]) (sc := defScope s_law) (by decide +kernel)) (fun _ _ _ _ _ => (pg_name (i := 13) sc_law.nd rfl (.inl rfl))) (fun _ _ _ _ _ => pts_nil) (fun _ _ _ _ _ => (pe_ix (ixK (K := K)) (pv 13) pe_int (fun _ _ => rfl)))) (pe_lc (own := [("pair", 12)]) rfl sc_law.nd (seqK (K := K) (pv 5)) (blkOk_by (N := ["script", "k", "source", "log", "rows", "firsts", "due", "by", "time", "topics", "spoken_so", "topic", "pair", "row", "one", "at"]) (sc := defScope s_law) (by decide +kernel)) (fun _ _ _ _ _ => (pg_name (i := 12) sc_law.nd rfl (.inl rfl))) (fun _ _ _ _ _ => pts_nil) (fun _ _ _ _ _ => (pe_ix (ixK (K := K)) (pv 12) pe_int (fun _ _ => rfl)))) (nomark _)) (pw_or1 (pt_not (pt_val (pe_call (ok__law_bound_right T) (hr.mono (by decide)) (by rfl) T.g__law_bound_right T.F__law_bound_right.kp (b__law_bound_right T) .nil pass0 (pa_cons (pv 3) (pa_cons (pv 4) (pa_cons (pv 5) pa_nil))))))))) (pss_one (ps_ret pe_bl)) pss_nil)
    (pss_cons (ps_setLc (i := 6) (own := [("row", 13), ("pair", 12)]) rfl sc_law.nd rfl rfl (sw_true rfl rfl rfl (by decide +kernel)) (zipK (K := K) (pi_zipG (by rfl) T.zip (pa_cons (pv 4) (pa_cons (pv 5) pa_nil)))) (blkOk_by (N := ["script", "k", "source", "log", "rows", "firsts", "due", "by", "time", "topics", "spoken_so", "topic", "pair", "row", "one", "at"]) (sc := defScope s_law) (by decide +kernel)) (fun _ _ _ _ _ => (tupK (K := K) (pg_tup (n := 2) rfl (pgs_cons (pg_name (i := 13) sc_law.nd rfl (.inl rfl)) (pgs_cons (pg_name (i := 12) sc_law.nd rfl (.inl rfl)) pgs_nil))))) (fun _ _ _ _ _ => pts_nil) (fun _ _ _ _ _ => (pe_op op_sub (pe_ix (ixK (K := K)) (pv 13) pe_int (fun _ _ => rfl)) (pe_ix (ixK (K := K)) (pe_ix (ixK (K := K)) (pv 3) (pe_ix (ixK (K := K)) (pv 12) pe_int (fun _ _ => rfl)) (fun _ _ => rfl)) pe_int (fun _ _ => rfl)))))
    (pss_cons (ps_if (pt_cmpR (neK (K := K) hr.units) (pe_lc (own := [("pair", 12)]) rfl sc_law.nd (seqK (K := K) (pe_callN (ok_waits T) (hr.mono (by decide)) (by rfl) T.g_waits T.F_waits.kp (kb_waits T) pass0 (pa_cons (pv 3) pa_nil) (pk_cons pe_str pk_nil))) (blkOk_by (N := ["script", "k", "source", "log", "rows", "firsts", "due", "by", "time", "topics", "spoken_so", "topic", "pair", "row", "one", "at"]) (sc := defScope s_law) (by decide +kernel)) (fun _ _ _ _ _ => (pg_name (i := 12) sc_law.nd rfl (.inl rfl))) (fun _ _ _ _ _ => pts_nil) (fun _ _ _ _ _ => (pe_ix (ixK (K := K)) (pv 12) pe_int (fun _ _ => rfl)))) (pv 6) (nomark _)) (pss_one (ps_ret pe_bl)) pss_nil)
    (pss_one (ps_for PassesOwn.never rfl (seqK (K := K) (pe_lst (pa_cons pe_str (pa_cons pe_str pa_nil)))) (pg_name (i := 7) sc_law.nd rfl (.inl rfl)) (pss_cons (ps_for PassesOwn.never rfl (seqK (K := K) (pe_lc (own := [("one", 14)]) rfl sc_law.nd (seqK (K := K) (pv 3)) (blkOk_by (N := ["script", "k", "source", "log", "rows", "firsts", "due", "by", "time", "topics", "spoken_so", "topic", "pair", "row", "one", "at"]) (sc := defScope s_law) (by decide +kernel)) (fun _ _ _ _ _ => (pg_name (i := 14) sc_law.nd rfl (.inl rfl))) (fun _ _ _ _ _ => pts_nil) (fun _ _ _ _ _ => (pe_ix (ixK (K := K)) (pv 14) pe_int (fun _ _ => rfl))))) (pg_name (i := 8) sc_law.nd rfl (.inl rfl)) (pss_cons (ps_setLc (i := 9) (own := [("topic", 11), ("at", 15)]) rfl sc_law.nd rfl rfl (sw_true rfl rfl rfl (by decide +kernel)) (seqK (K := K) (pe_callN (ok_line_at T) (hr.mono (by decide)) (by rfl) T.g_line_at T.F_line_at.kp (kb_line_at T) pass0 (pa_cons (pv 3) (pa_cons (pv 8) pa_nil)) (pk_cons (pv 7) pk_nil))) (blkOk_by (N := ["script", "k", "source", "log", "rows", "firsts", "due", "by", "time", "topics", "spoken_so", "topic", "pair", "row", "one", "at"]) (sc := defScope s_law) (by decide +kernel)) (fun _ _ _ _ _ => (tupK (K := K) (pg_tup (n := 2) rfl (pgs_cons (pg_name (i := 11) sc_law.nd rfl (.inl rfl)) (pgs_cons (pg_name (i := 15) sc_law.nd rfl (.inl rfl)) pgs_nil))))) (fun _ _ _ _ _ => pts_nil) (fun _ _ _ _ _ => (pv 11)))
        (pss_one (ps_if (pt_cmpR (neK (K := K) hr.units) (pe_callB (lenK (K := K)) (by rfl) T.len (by decide +kernel) (pa_cons (pv 9) pa_nil)) (lsK (K := K) (pe_ls rfl (by rfl) T.len (by rfl) T.set (pv 9))) (nomark _)) (pss_one (ps_ret pe_bl)) pss_nil))))
      (pss_cons (ps_setLc (i := 10) (own := [("row", 13)]) rfl sc_law.nd rfl rfl (sw_true rfl rfl rfl (by decide +kernel)) (seqK (K := K) (pe_callN (ok_speech T) (hr.mono (by decide)) (by rfl) T.g_speech T.F_speech.kp (kb_speech T) pass0 (pa_cons (pv 3) pa_nil) (pk_cons (pv 7) pk_nil))) (blkOk_by (N := ["script", "k", "source", "log", "rows", "firsts", "due", "by", "time", "topics", "spoken_so", "topic", "pair", "row", "one", "at"]) (sc := defScope s_law) (by decide +kernel)) (fun _ _ _ _ _ => (pg_name (i := 13) sc_law.nd rfl (.inl rfl))) (fun _ _ _ _ _ => pts_nil) (fun _ _ _ _ _ => (pe_ix (ixK (K := K)) (pv 13) pe_int (fun _ _ => rfl))))
      (pss_one (ps_for PassesOwn.never rfl (seqK (K := K) (ssK (K := K) (pe_ss rfl (by rfl) T.sorted (by rfl) T.set (pe_lc (own := [("one", 14)]) rfl sc_law.nd (seqK (K := K) (pv 3)) (blkOk_by (N := ["script", "k", "source", "log", "rows", "firsts", "due", "by", "time", "topics", "spoken_so", "topic", "pair", "row", "one", "at"]) (sc := defScope s_law) (by decide +kernel)) (fun _ _ _ _ _ => (pg_name (i := 14) sc_law.nd rfl (.inl rfl))) (fun _ _ _ _ _ => pts_nil) (fun _ _ _ _ _ => (pe_ix (ixK (K := K)) (pv 14) pe_int (fun _ _ => rfl))))))) (pg_name (i := 11) sc_law.nd rfl (.inr rfl)) (pss_one (ps_if (pt_cmpR (notInK (K := K) hr.units) (pe_ix (ixK (K := K)) (pe_lc (own := [("at", 15), ("one", 14)]) rfl sc_law.nd (enumK (K := K) (pi_enumG (by rfl) T.enumerate (pa_cons (pv 3) pa_nil))) (blkOk_by (N := ["script", "k", "source", "log", "rows", "firsts", "due", "by", "time", "topics", "spoken_so", "topic", "pair", "row", "one", "at"]) (sc := defScope s_law) (by decide +kernel)) (fun _ _ _ _ _ => (tupK (K := K) (pg_tup (n := 2) rfl (pgs_cons (pg_name (i := 15) sc_law.nd rfl (.inl rfl)) (pgs_cons (pg_name (i := 14) sc_law.nd rfl (.inl rfl)) pgs_nil))))) (fun _ _ _ _ _ => (pts_one (pt_cmpR (eqK (K := K) hr.units) (pe_ix (ixK (K := K)) (pv 14) pe_int (fun _ _ => rfl)) (pv 11) (nomark _)))) (fun _ _ _ _ _ => (pv 15))) (pe_un un_neg pe_int) (fun _ _ => rfl)) (pv 10) (by rfl)) (pss_one (ps_ret pe_bl)) pss_nil)))))))))))))))))
  (pss_one (ps_ret (pe_cmpR (eqK (K := K) hr.units) (pe_callN (ok_waits T) (hr.mono (by decide)) (by rfl) T.g_waits T.F_waits.kp (kb_waits T) pass0 (pa_cons (pe_tup (pa_cons (pe_tup (pa_cons pe_int (pa_cons pe_str (pa_cons pe_int pa_nil)))) (pa_cons (pe_tup (pa_cons pe_int (pa_cons pe_str (pa_cons pe_int pa_nil)))) (pa_cons (pe_tup (pa_cons pe_int (pa_cons pe_str (pa_cons pe_int pa_nil)))) (pa_cons (pe_tup (pa_cons pe_int (pa_cons pe_str (pa_cons pe_int pa_nil)))) pa_nil))))) pa_nil) (pk_cons pe_str pk_nil)) (pe_lst (pa_cons (pe_tup (pa_cons pe_int (pa_cons pe_int pa_nil))) (pa_cons (pe_tup (pa_cons pe_int (pa_cons pe_int pa_nil))) (pa_cons (pe_tup (pa_cons pe_int (pa_cons pe_int pa_nil))) pa_nil)))) (nomark _))))), fun ds Oc Post h => ?_⟩
  obtain ⟨ns, rfl, rfl, hns, hp⟩ := h
  repeat walk_at "dn"
  refine sw_cut (fun Γ O => ∃ (x1 x2 x3 x4 x5 x6 x7 x8 x9 x10 x11 x12 x13 x14 x15 : Option Dt), Γ = gv ns x1 x2 x3 x4 x5 x6 x7 x8 x9 x10 x11 x12 x13 x14 x15) ?_ ?_
  · refine sw_for (iw_rng1 ?_)
    repeat walk_at "dl"
    rw [List.length_map]
    refine ⟨by omega, by omega, ?_⟩
    refine ⟨fun i Γ O => ∃ (x1 x2 x3 x4 x5 x6 x7 x8 x9 x10 x11 x12 x13 x14 x15 : Option Dt), Γ = gv ns x1 x2 x3 x4 x5 x6 x7 x8 x9 x10 x11 x12 x13 x14 x15, ⟨none, none, none, none, none, none, none, none, none, none, none, none, none, none, none, rfl⟩, (fun p e => by cases e), ?_, fun Γ O h => h⟩
    rintro i d Γ O hd ⟨x1, x2, x3, x4, x5, x6, x7, x8, x9, x10, x11, x12, x13, x14, x15, rfl⟩
    obtain ⟨hi, rfl⟩ := rngD_get hd
    have hi2 : i ≤ 1000 := by omega
    repeat walk_at "dl"
    refine ew_call0 ?_
    repeat walk_at "dl"
    refine ⟨ns, i, by rw [Int.zero_add], hi2, fun p a b c hs => ?_⟩
    repeat walk_at "dl"
    refine ew_call ?_
    repeat walk_at "dl"
    refine ⟨[(p, src a b c)], O, .refl _, p, a, b, c, 40, rfl, rfl, hs, by decide, by decide, fun L a' b' hL hl hs' => ?_⟩
    have hV := hL.v
    have hlen := hV.len
    obtain ⟨hfit, hsl⟩ := played_fits (r := "place") (L := L) (lb := 1000000) (lt := 1000000)
    have hfit : ∀ g ∈ plc L, g.b < L.length ∧ g.c < L.length := hfit
    have hsl : (plc L).length ≤ L.length := hsl
    obtain ⟨Rs, hP⟩ := plc_came hV
    repeat walk_at "dn"
    refine sw_cut (fun Γ O' => Γ = gv ns (some (.int (0 + i))) (some (.raw (.ref p))) (some (encU L)) (some (encL (speechOf "place" L))) x5 x6 x7 x8 x9 x10 x11 x12 x13 x14 x15 ∧ O' = (p, src a' b' c) :: O) ?_ ?_
    · refine sw_set (ew_frz ?_)
      refine ew_callN (fun _ _ => rfl) ?_
      repeat walk_at "dl"
      refine ⟨rfl, rfl, [], _, .refl _, L, "place", rfl, hV, .inr (.inl rfl), fun pa => ⟨pa, _, _, rfl, .refl _, ?_⟩⟩
      exact ⟨rfl, rfl⟩
    rintro Γ O' ⟨rfl, rfl⟩
    refine sw_cut (fun Γ O' => Γ = gv ns (some (.int (0 + i))) (some (.raw (.ref p))) (some (encU L)) (some (encL (speechOf "place" L))) (some (encL (frsts L))) x6 x7 x8 x9 x10 x11 x12 x13 x14 x15 ∧ O' = (p, src a' b' c) :: O) ?_ ?_
    · refine sw_set (ew_frz ?_)
      refine ew_call0 ?_
      repeat walk_at "dl"
      refine ⟨L, rfl, hV, fun pa => ⟨pa, _, _, rfl, .refl _, ?_⟩⟩
      exact ⟨rfl, rfl⟩
    rintro Γ O' ⟨rfl, rfl⟩
    have en : ((plc L).map fun g => Dt.int (g.b : Int)) = ((plc L).map fun g => (g.b : Int)).map .int := by rw [List.map_map]; rfl
    refine sw_chk ?_ ?_
    · repeat walk_at "dl"
      refine ew_lcM (α := Bg) (iws_lst ?_)
      repeat walk_at "dl"
      rw [frsts_plc]
      refine ⟨fun g => enc (⟨g.b, g.c⟩ : T2 Nat Nat), plc L, fun g => .int (g.b : Int), rfl, (fun p e => by cases e), by omega, fun g hg => ?_, ?_⟩
      · show GW K _ _ (Dt.tup [.int (g.b : Int), .int (g.c : Int)]) _ _ _
        repeat walk_at "dl"
        refine rw_ixT_ atI_0 ?_
        exact ⟨rfl, rfl⟩
      repeat walk_at "dl"
      refine ew_lcM (α := Bg) (iws_lst ?_)
      repeat walk_at "dl"
      rw [frsts_plc]
      refine ⟨fun g => enc (⟨g.b, g.c⟩ : T2 Nat Nat), plc L, fun g => .int (g.b : Int), rfl, (fun p e => by cases e), by omega, fun g hg => ?_, ?_⟩
      · show GW K _ _ (Dt.tup [.int (g.b : Int), .int (g.c : Int)]) _ _ _
        repeat walk_at "dl"
        refine rw_ixT_ atI_0 ?_
        exact ⟨rfl, rfl⟩
      rw [en]
      repeat walk_at "dl"
      refine cw_sortI (.same _) rfl fun bs hperm hsort => ?_
      have hup : ((plc L).map fun g => (g.b : Int)).Pairwise (· ≤ ·) := by
        have h := hP.heads
        rw [List.pairwise_map] at h ⊢
        exact h.imp fun z => by omega
      have ebs := perm_pairwise hperm hsort hup
      subst ebs
      refine rw_neE ((plc L).map fun g => (g.b : Int)) ((plc L).map fun g => (g.b : Int)) (.same _) (.same _) ?_
      repeat walk_at "dl"
      refine if_f (by simp) ?_
      exact sw_next ⟨rfl, rfl⟩
    refine sw_chk ?_ ?_
    · repeat walk_at "dl"
      refine ew_lcM (α := Bg) (iws_lst ?_)
      repeat walk_at "dl"
      rw [rows_plc]
      refine ⟨fun g => enc (rowG L g), plc L, fun g => .int (g.c : Int), rfl, (fun p e => by cases e), by omega, fun g hg => ?_, ?_⟩
      · show GW K _ _ (Dt.tup [.int g.a, .str (topAt L g.c), .int (lnAt L g.c), .int (g.c : Int)]) _ _ _
        repeat walk_at "dl"
        refine rw_ixT_ atI_3 ?_
        exact ⟨rfl, rfl⟩
      repeat walk_at "dl"
      refine ew_lcM (α := Bg) (iws_lst ?_)
      repeat walk_at "dl"
      rw [frsts_plc]
      refine ⟨fun g => enc (⟨g.b, g.c⟩ : T2 Nat Nat), plc L, fun g => .int (g.c : Int), rfl, (fun p e => by cases e), by omega, fun g hg => ?_, ?_⟩
      · show GW K _ _ (Dt.tup [.int (g.b : Int), .int (g.c : Int)]) _ _ _
        repeat walk_at "dl"
        refine rw_ixT_ atI_1 ?_
        exact ⟨rfl, rfl⟩
      have ec : ((plc L).map fun g => Dt.int (g.c : Int)) = ((plc L).map fun g => (g.c : Int)).map .int := by rw [List.map_map]; rfl
      rw [ec]
      refine rw_neE ((plc L).map fun g => (g.c : Int)) ((plc L).map fun g => (g.c : Int)) (.same _) (.same _) ?_
      repeat walk_at "dl"
      refine or_f (by simp) ?_
      repeat walk_at "dl"
      refine ew_call0 ?_
      repeat walk_at "dl"
      refine ⟨L, rfl, hV, ?_⟩
      refine ⟨true, rfl, if_f rfl ?_⟩
      exact sw_next ⟨rfl, rfl⟩
    refine sw_cut (fun Γ O' => Γ = gv ns (some (.int (0 + i))) (some (.raw (.ref p))) (some (encU L)) (some (encL (speechOf "place" L))) (some (encL (frsts L))) (some (.lst (((plc L).map fun g => g.a - timAt L g.b).map Dt.int))) x7 x8 x9 x10 x11 x12 x13 x14 x15 ∧ O' = (p, src a' b' c) :: O) ?_ ?_
    · repeat walk_at "dl"
      refine ew_lcM (α := Bg) (iw_zipL ?_)
      repeat walk_at "dl"
      rw [rows_plc, frsts_plc, List.zipWith_map, List.zipWith_self]
      refine ⟨fun g => .tup [enc (rowG L g), enc (⟨g.b, g.c⟩ : T2 Nat Nat)], plc L, fun g => .int (g.a - timAt L g.b), rfl, (fun p e => by cases e), by omega, fun g hg => ?_, ?_⟩
      · have hgb := (hfit g hg).1
        show GW K _ _ (Dt.tup [.tup [.int g.a, .str (topAt L g.c), .int (lnAt L g.c), .int (g.c : Int)], .tup [.int (g.b : Int), .int (g.c : Int)]]) _ _ _
        repeat walk_at "dl"
        refine rw_ixT_ atI_0 ?_
        repeat walk_at "dl"
        refine rw_ixT_ atI_0 ?_
        refine rw_ixT_ (atI_map hgb) ?_
        repeat walk_at "dl"
        refine rw_ixT_ atI_0 ?_
        repeat walk_at "dl"
        refine ⟨rfl, ?_⟩
        show Dt.int _ = Dt.int (g.a - timAt L g.b)
        rw [timAt_get hgb]
      have ed : ((plc L).map fun g => Dt.int (g.a - timAt L g.b)) = ((plc L).map fun g => g.a - timAt L g.b).map .int := by rw [List.map_map]; rfl
      rw [ed]
      exact ⟨rfl, rfl⟩
    rintro Γ O' ⟨rfl, rfl⟩
    refine sw_chk ?_ ?_
    · repeat walk_at "dl"
      refine ew_lcM (α := T2 Int Int) (iws_lst (ew_frz (ew_callN (fun _ _ => rfl) ?_)))
      repeat walk_at "dl"
      refine ⟨rfl, rfl, [], _, .refl _, L, "place", rfl, hV, .inr (.inl rfl), fun pa => ⟨pa, _, _, rfl, .refl _, ?_⟩⟩
      refine ⟨_, rfl, enc, waitsOf "place" L, fun q => .int q.a, rfl, (fun p e => by cases e), by unfold waitsOf; rw [List.length_map]; exact Nat.le_trans (Nat.le_trans hsl hlen) (by decide), fun q hq => ?_, ?_⟩
      · repeat walk_at "dl"
        refine rw_ixT_ atI_0 ?_
        exact ⟨rfl, rfl⟩
      have ew : ((waitsOf "place" L).map fun q => Dt.int q.a) = ((plc L).map fun g => g.a - timAt L g.b).map .int := by
        unfold waitsOf
        rw [List.map_map, List.map_map]; rfl
      rw [ew]
      repeat walk_at "dl"
      refine rw_neE ((plc L).map fun g => g.a - timAt L g.b) ((plc L).map fun g => g.a - timAt L g.b) (.same _) (.same _) ?_
      repeat walk_at "dl"
      refine if_f (by simp) ?_
      exact sw_next ⟨rfl, rfl⟩
    refine sw_for (iws_lst (ew_lst ?_))
    repeat walk_at "dl"
    refine ⟨fun j Γ O' => ∃ (x7 x8 x9 x10 x11 x12 x13 x14 x15 : Option Dt), Γ = gv ns (some (.int (0 + i))) (some (.raw (.ref p))) (some (encU L)) (some (encL (speechOf "place" L))) (some (encL (frsts L))) (some (.lst (((plc L).map fun g => g.a - timAt L g.b).map Dt.int))) x7 x8 x9 x10 x11 x12 x13 x14 x15 ∧ O' = (p, src a' b' c) :: O, ⟨_, _, _, _, _, _, _, _, _, rfl, rfl⟩, (fun p e => by cases e), ?_, ?_⟩
    · rintro j d Γ O' hd ⟨x7, x8, x9, x10, x11, x12, x13, x14, x15, rfl, rfl⟩
      obtain ⟨r, hr, rfl⟩ := two_get hd
      have hr3 : rule3 r := by
        rcases hr with rfl | rfl
        · exact .inr (.inl rfl)
        · exact .inr (.inr rfl)
      have hsr : (spoken r L).length ≤ 40 := Nat.le_trans played_fits.2 hlen
      repeat walk_at "dn"
      refine sw_cut (fun Γ O' => ∃ (x8 x9 x10 x11 x12 x13 x14 x15 : Option Dt), Γ = gv ns (some (.int (0 + i))) (some (.raw (.ref p))) (some (encU L)) (some (encL (speechOf "place" L))) (some (encL (frsts L))) (some (.lst (((plc L).map fun g => g.a - timAt L g.b).map Dt.int))) (some (.str r)) x8 x9 x10 x11 x12 x13 x14 x15 ∧ O' = (p, src a' b' c) :: O) ?_ ?_
      · refine sw_for (iws_lst ?_)
        refine ew_lcM (α := An) (iws_tup ?_)
        repeat walk_at "dl"
        refine ⟨enc, L, fun x => .int x.a, rfl, (fun p e => by cases e), by omega, fun x hx => ?_, ?_⟩
        · repeat walk_at "dl"
          refine rw_ixT_ atI_0 ?_
          exact ⟨rfl, rfl⟩
        refine ⟨_, rfl, ?_⟩
        refine ⟨fun j Γ O' => ∃ (x8 x9 x10 x11 x12 x13 x14 x15 : Option Dt), Γ = gv ns (some (.int (0 + i))) (some (.raw (.ref p))) (some (encU L)) (some (encL (speechOf "place" L))) (some (encL (frsts L))) (some (.lst (((plc L).map fun g => g.a - timAt L g.b).map Dt.int))) (some (.str r)) x8 x9 x10 x11 x12 x13 x14 x15 ∧ O' = (p, src a' b' c) :: O, ⟨_, _, _, _, _, _, _, _, rfl, rfl⟩, (fun p e => by cases e), ?_, fun Γ O h => h⟩
        rintro j d Γ O' hd ⟨x8, x9, x10, x11, x12, x13, x14, x15, rfl, rfl⟩
        obtain ⟨x, hx, rfl⟩ : ∃ x ∈ L, d = .int x.a := by
          rw [List.getElem?_map] at hd
          cases e : L[j]? with
          | none => rw [e] at hd; cases hd
          | some x => rw [e] at hd; cases hd; exact ⟨x, List.mem_of_getElem? e, rfl⟩
        obtain ⟨x1', x2', _⟩ := hV.ann x hx
        have hll : (lineOf r L x.a).length ≤ 40 := by
          unfold lineOf
          rw [List.length_map]
          exact Nat.le_trans line_fits.2 hlen
        repeat walk_at "dl"
        refine ew_lcM (α := T2 Str Nat) (iws_lst (ew_frz (ew_callN (fun _ _ => rfl) ?_)))
        repeat walk_at "dl"
        refine ⟨rfl, rfl, [], _, .refl _, L, x.a, r, rfl, hV, x1', by omega, hr3, fun pa => ⟨pa, _, _, rfl, .refl _, ?_⟩⟩
        refine ⟨_, rfl, enc, lineOf r L x.a, fun q => .str q.a, rfl, (fun p e => by cases e), by omega, fun q hq => ?_, ?_⟩
        · repeat walk_at "dl"
          exact ⟨rfl, rfl⟩
        have et : ((lineOf r L x.a).map fun q => Dt.str q.a) = ((lineOf r L x.a).map fun q => q.a).map .str := by rw [List.map_map]; rfl
        rw [et]
        repeat walk_at "dl"
        refine ew_ls ?_
        repeat walk_at "dl"
        refine ⟨_, .same _, by rw [List.length_map]; omega, ?_⟩
        rw [distinct_id (line_dist hr), List.length_map]
        refine rw_neE (((lineOf r L x.a).map fun q => q.a).length : Int) (((lineOf r L x.a).map fun q => q.a).length : Int) (.same _) (.same _) ?_
        repeat walk_at "dl"
        refine if_f (by simp) ?_
        exact sw_next ⟨_, _, _, _, _, _, _, _, rfl, rfl⟩
      rintro Γ O' ⟨x8, x9, x10, x11, x12, x13, x14, x15, rfl, rfl⟩
      refine sw_cut (fun Γ O' => Γ = gv ns (some (.int (0 + i))) (some (.raw (.ref p))) (some (encU L)) (some (encL (speechOf "place" L))) (some (encL (frsts L))) (some (.lst (((plc L).map fun g => g.a - timAt L g.b).map Dt.int))) (some (.str r)) x8 x9 (some (encL ((spoken r L).map fun g => g.c))) x11 x12 x13 x14 x15 ∧ O' = (p, src a' b' c) :: O) ?_ ?_
      · repeat walk_at "dl"
        refine ew_lcM (α := Row) (iws_lst (ew_frz (ew_callN (fun _ _ => rfl) ?_)))
        repeat walk_at "dl"
        refine ⟨rfl, rfl, [], _, .refl _, L, r, rfl, hV, hr3, fun pa => ⟨pa, _, _, rfl, .refl _, ?_⟩⟩
        refine ⟨_, rfl, enc, speechOf r L, fun g => .int (g.d : Int), rfl, (fun p e => by cases e), by unfold speechOf; rw [List.length_map]; omega, fun g hg => ?_, ?_⟩
        · repeat walk_at "dl"
          refine rw_ixT_ atI_3 ?_
          exact ⟨rfl, rfl⟩
        have es : ((speechOf r L).map fun g => Dt.int (g.d : Int)) = ((spoken r L).map fun g => g.c).map (enc : Nat → Dt) := by
          unfold speechOf
          rw [List.map_map, List.map_map]; rfl
        rw [es]
        exact ⟨rfl, rfl⟩
      rintro Γ O' ⟨rfl, rfl⟩
      refine sw_for (iws_lst (ew_ss ?_))
      repeat walk_at "dl"
      refine ew_lcM (α := An) (iws_tup ?_)
      repeat walk_at "dl"
      refine ⟨enc, L, fun x => .str x.b, rfl, (fun p e => by cases e), by omega, fun x hx => ?_, ?_⟩
      · repeat walk_at "dl"
        refine rw_ixT_ atI_1 ?_
        exact ⟨rfl, rfl⟩
      have et : (L.map fun x => Dt.str x.b) = (L.map fun x => x.b).map .str := by rw [List.map_map]; rfl
      rw [et]
      refine ⟨_, .same _, by rw [List.length_map]; omega, fun ys hys => ⟨_, rfl, ?_⟩⟩
      refine ⟨fun j Γ O' => ∃ (x8 x9 x11 x12 x13 x14 x15 : Option Dt), Γ = gv ns (some (.int (0 + i))) (some (.raw (.ref p))) (some (encU L)) (some (encL (speechOf "place" L))) (some (encL (frsts L))) (some (.lst (((plc L).map fun g => g.a - timAt L g.b).map Dt.int))) (some (.str r)) x8 x9 (some (encL ((spoken r L).map fun g => g.c))) x11 x12 x13 x14 x15 ∧ O' = (p, src a' b' c) :: O, ⟨_, _, _, _, _, _, _, rfl, rfl⟩, (fun p e => by cases e), ?_, ?_⟩
      · rintro j d Γ O' hd ⟨x8, x9, x11, x12, x13, x14, x15, rfl, rfl⟩
        obtain ⟨u, hu, rfl⟩ : ∃ u ∈ ys, d = .str u := by
          rw [List.getElem?_map] at hd
          cases e : ys[j]? with
          | none => rw [e] at hd; cases hd
          | some u => rw [e] at hd; cases hd; exact ⟨u, List.mem_of_getElem? e, rfl⟩
        obtain ⟨x0, hx0, ex0⟩ := List.mem_map.mp ((hys.2 u).mp hu)
        obtain ⟨k, hk1, hk2⟩ := last_heard (r := r) hV ⟨x0, hx0, ex0⟩
        repeat walk_at "dl"
        refine ew_lcP (α := Nat) (iw_enumT ?_)
        repeat walk_at "dl"
        rw [enum_at]
        refine ⟨fun k => .tup [.int (k : Int), enc (atL L k)], List.range L.length, fun k => decide (topAt L k = u), enc, rfl, (fun p e => by cases e), by rw [List.length_range]; omega, fun k hk => ?_, ?_⟩
        · repeat walk_at "dl"
          refine rw_ixT_ atI_1 ?_
          repeat walk_at "dl"
          refine rw_eqE (topAt L k) u (.same _) (.same _) ?_
          repeat walk_at "dl"
          refine ⟨fun z => ?_, fun z => ⟨rfl, z⟩⟩
          repeat walk_at "dl"
          exact ⟨rfl, z, rfl⟩
        repeat walk_at "dl"
        refine rw_ixL (.same _) (atI_lastC hk1) ?_
        repeat walk_at "dl"
        refine rwi_E k ((spoken r L).map fun g => g.c) rfl (.same _) ?_
        repeat walk_at "dl"
        refine if_f (by rw [decide_eq_true hk2]; rfl) ?_
        exact sw_next ⟨_, _, _, _, _, _, _, rfl, rfl⟩
      rintro Γ O' ⟨x8, x9, x11, x12, x13, x14, x15, rfl, rfl⟩
      exact ⟨_, _, _, _, _, _, _, _, _, rfl, rfl⟩
    rintro Γ O' ⟨x7, x8, x9, x10, x11, x12, x13, x14, x15, rfl, rfl⟩
    exact ⟨_, _, _, _, _, _, _, _, _, _, _, _, _, _, _, rfl⟩
  · rintro Γ O ⟨x1, x2, x3, x4, x5, x6, x7, x8, x9, x10, x11, x12, x13, x14, x15, rfl⟩
    repeat walk_at "dl"
    refine ew_callN (fun _ _ => rfl) ?_
    repeat walk_at "dl"
    refine ⟨rfl, rfl, [], O, .refl _, ex11, "place", rfl, ex11_v, .inr (.inl rfl), fun pa => ?_⟩
    repeat (first | walk_at "dl" | refine ew_lst ?_)
    refine rw_eqE (waitsOf "place" ex11) [(⟨0, 0⟩ : T2 Int Int), ⟨8, 6⟩, ⟨9, 9⟩] (.own List.mem_cons_self) (.same _) ?_
    rw [decide_eq_true (by decide +kernel : waitsOf "place" ex11 = _)]
    exact hp _
end
end DL
namespace DL
open PySem PySem.Spec PyProof.Rows L2
theorem all_mk {P : Program} {w : World} {K : PySem.W.Frag} {h : Heap} {mg : Str → Option Value} {fa : Addr} (X : K.In h) (G : h.Ns mainGlobals mg) (hfa : mg "law" = some (.ref fa))
    {od0 an0 : Option Addr} {sl0 : Array (Option Value)} {oc0 kV0 dc0 pm0 cd0 ct0 : Value} {f0 : Addr} {od1 an1 : Option Addr} {sl1 : Array (Option Value)} {oc1 kV1 dc1 pm1 cd1 ct1 : Value} {f1 : Addr} {od2 an2 : Option Addr} {sl2 : Array (Option Value)} {oc2 kV2 dc2 pm2 cd2 ct2 : Value} {f2 : Addr} {od3 an3 : Option Addr} {sl3 : Array (Option Value)} {oc3 kV3 dc3 pm3 cd3 ct3 : Value} {f3 : Addr} {od4 an4 : Option Addr} {sl4 : Array (Option Value)} {oc4 kV4 dc4 pm4 cd4 ct4 : Value} {f4 : Addr} {od5 an5 : Option Addr} {sl5 : Array (Option Value)} {oc5 kV5 dc5 pm5 cd5 ct5 : Value} {f5 : Addr} {od6 an6 : Option Addr} {sl6 : Array (Option Value)} {oc6 kV6 dc6 pm6 cd6 ct6 : Value} {f6 : Addr} {od7 an7 : Option Addr} {sl7 : Array (Option Value)} {oc7 kV7 dc7 pm7 cd7 ct7 : Value} {f7 : Addr} {od8 an8 : Option Addr} {sl8 : Array (Option Value)} {oc8 kV8 dc8 pm8 cd8 ct8 : Value} {f8 : Addr} {od9 an9 : Option Addr} {sl9 : Array (Option Value)} {oc9 kV9 dc9 pm9 cd9 ct9 : Value} {f9 : Addr} {od10 an10 : Option Addr} {sl10 : Array (Option Value)} {oc10 kV10 dc10 pm10 cd10 ct10 : Value} {f10 : Addr} {od11 an11 : Option Addr} {sl11 : Array (Option Value)} {oc11 kV11 dc11 pm11 cd11 ct11 : Value} {f11 : Addr} {od12 an12 : Option Addr} {sl12 : Array (Option Value)} {oc12 kV12 dc12 pm12 cd12 ct12 : Value} {f12 : Addr} {od13 an13 : Option Addr} {sl13 : Array (Option Value)} {oc13 kV13 dc13 pm13 cd13 ct13 : Value} {f13 : Addr} {od14 an14 : Option Addr} {sl14 : Array (Option Value)} {oc14 kV14 dc14 pm14 cd14 ct14 : Value} {f14 : Addr} {od15 an15 : Option Addr} {sl15 : Array (Option Value)} {oc15 kV15 dc15 pm15 cd15 ct15 : Value} {f15 : Addr} {od16 an16 : Option Addr} {sl16 : Array (Option Value)} {oc16 kV16 dc16 pm16 cd16 ct16 : Value} {f16 : Addr} {t0 : Tok} {r1 : Addr} {dd1 : Option Addr} {rn1 : Nat} {rs1 : Array (Option Value)} {u1_0 u1_1 u1_2 : Tok} {t2 : Tok} {t3 : Tok} {t4 : Tok} {t5 : Tok} {t6 : Tok}
    (a0 : PySem.W.nsIn K mainGlobals "is_integer" = some (some (.ref f0))) (l0 : K.lookup f0 = some ⟨oc0, od0, .func (PySem.W.fnOf "is_integer" "is_integer" (defArgs s_is_integer) (defBody s_is_integer) (defScope s_is_integer) .none kV0 dc0 pm0 an0 cd0 ct0), sl0⟩) (c0 : PySem.W.codeIn K cd0 "is_integer" = true) (k0 : PySem.W.keepIn K (.ref f0) = true)
    (a1 : PySem.W.nsIn K mainGlobals "is_topic" = some (some (.ref f1))) (l1 : K.lookup f1 = some ⟨oc1, od1, .func (PySem.W.fnOf "is_topic" "is_topic" (defArgs s_is_topic) (defBody s_is_topic) (defScope s_is_topic) .none kV1 dc1 pm1 an1 cd1 ct1), sl1⟩) (c1 : PySem.W.codeIn K cd1 "is_topic" = true) (k1 : PySem.W.keepIn K (.ref f1) = true)
    (a2 : PySem.W.nsIn K mainGlobals "is_announcement" = some (some (.ref f2))) (l2 : K.lookup f2 = some ⟨oc2, od2, .func (PySem.W.fnOf "is_announcement" "is_announcement" (defArgs s_is_announcement) (defBody s_is_announcement) (defScope s_is_announcement) .none kV2 dc2 pm2 an2 cd2 ct2), sl2⟩) (c2 : PySem.W.codeIn K cd2 "is_announcement" = true) (k2 : PySem.W.keepIn K (.ref f2) = true)
    (a3 : PySem.W.nsIn K mainGlobals "is_log" = some (some (.ref f3))) (l3 : K.lookup f3 = some ⟨oc3, od3, .func (PySem.W.fnOf "is_log" "is_log" (defArgs s_is_log) (defBody s_is_log) (defScope s_is_log) .none kV3 dc3 pm3 an3 cd3 ct3), sl3⟩) (c3 : PySem.W.codeIn K cd3 "is_log" = true) (k3 : PySem.W.keepIn K (.ref f3) = true)
    (a4 : PySem.W.nsIn K mainGlobals "require_log" = some (some (.ref f4))) (l4 : K.lookup f4 = some ⟨oc4, od4, .func (PySem.W.fnOf "require_log" "require_log" (defArgs s_require_log) (defBody s_require_log) (defScope s_require_log) .none kV4 dc4 pm4 an4 cd4 ct4), sl4⟩) (c4 : PySem.W.codeIn K cd4 "require_log" = true) (k4 : PySem.W.keepIn K (.ref f4) = true)
    (a5 : PySem.W.nsIn K mainGlobals "require_rule" = some (some (.ref f5))) (l5 : K.lookup f5 = some ⟨oc5, od5, .func (PySem.W.fnOf "require_rule" "require_rule" (defArgs s_require_rule) (defBody s_require_rule) (defScope s_require_rule) .none kV5 dc5 pm5 an5 cd5 ct5), sl5⟩) (c5 : PySem.W.codeIn K cd5 "require_rule" = true) (k5 : PySem.W.keepIn K (.ref f5) = true)
    (a6 : PySem.W.nsIn K mainGlobals "received" = some (some (.ref f6))) (l6 : K.lookup f6 = some ⟨oc6, od6, .func (PySem.W.fnOf "received" "received" (defArgs s_received) (defBody s_received) (defScope s_received) .none kV6 dc6 pm6 an6 cd6 ct6), sl6⟩) (c6 : PySem.W.codeIn K cd6 "received" = true) (k6 : PySem.W.keepIn K (.ref f6) = true)
    (a7 : PySem.W.nsIn K mainGlobals "played" = some (some (.ref f7))) (l7 : K.lookup f7 = some ⟨oc7, od7, .func (PySem.W.fnOf "played" "played" (defArgs s_played) (defBody s_played) (defScope s_played) .none kV7 dc7 pm7 an7 cd7 ct7), sl7⟩) (c7 : PySem.W.codeIn K cd7 "played" = true) (k7 : PySem.W.keepIn K (.ref f7) = true)
    (a8 : PySem.W.nsIn K mainGlobals "speech" = some (some (.ref f8))) (l8 : K.lookup f8 = some ⟨oc8, od8, .func (PySem.W.fnOf "speech" "speech" (defArgs s_speech) (defBody s_speech) (defScope s_speech) .none kV8 dc8 pm8 an8 cd8 ct8), sl8⟩) (c8 : PySem.W.codeIn K cd8 "speech" = true) (k8 : PySem.W.keepIn K (.ref f8) = true)
    (a9 : PySem.W.nsIn K mainGlobals "waits" = some (some (.ref f9))) (l9 : K.lookup f9 = some ⟨oc9, od9, .func (PySem.W.fnOf "waits" "waits" (defArgs s_waits) (defBody s_waits) (defScope s_waits) .none kV9 dc9 pm9 an9 cd9 ct9), sl9⟩) (c9 : PySem.W.codeIn K cd9 "waits" = true) (k9 : PySem.W.keepIn K (.ref f9) = true)
    (a10 : PySem.W.nsIn K mainGlobals "line_at" = some (some (.ref f10))) (l10 : K.lookup f10 = some ⟨oc10, od10, .func (PySem.W.fnOf "line_at" "line_at" (defArgs s_line_at) (defBody s_line_at) (defScope s_line_at) .none kV10 dc10 pm10 an10 cd10 ct10), sl10⟩) (c10 : PySem.W.codeIn K cd10 "line_at" = true) (k10 : PySem.W.keepIn K (.ref f10) = true)
    (a11 : PySem.W.nsIn K mainGlobals "_law_source" = some (some (.ref f11))) (l11 : K.lookup f11 = some ⟨oc11, od11, .func (PySem.W.fnOf "_law_source" "_law_source" (defArgs s__law_source) (defBody s__law_source) (defScope s__law_source) .none kV11 dc11 pm11 an11 cd11 ct11), sl11⟩) (c11 : PySem.W.codeIn K cd11 "_law_source" = true) (k11 : PySem.W.keepIn K (.ref f11) = true)
    (a12 : PySem.W.nsIn K mainGlobals "_law_pick" = some (some (.ref f12))) (l12 : K.lookup f12 = some ⟨oc12, od12, .func (PySem.W.fnOf "_law_pick" "_law_pick" (defArgs s__law_pick) (defBody s__law_pick) (defScope s__law_pick) .none kV12 dc12 pm12 an12 cd12 ct12), sl12⟩) (c12 : PySem.W.codeIn K cd12 "_law_pick" = true) (k12 : PySem.W.keepIn K (.ref f12) = true)
    (a13 : PySem.W.nsIn K mainGlobals "_law_log" = some (some (.ref f13))) (l13 : K.lookup f13 = some ⟨oc13, od13, .func (PySem.W.fnOf "_law_log" "_law_log" (defArgs s__law_log) (defBody s__law_log) (defScope s__law_log) .none kV13 dc13 pm13 an13 cd13 ct13), sl13⟩) (c13 : PySem.W.codeIn K cd13 "_law_log" = true) (k13 : PySem.W.keepIn K (.ref f13) = true)
    (a14 : PySem.W.nsIn K mainGlobals "_law_firsts" = some (some (.ref f14))) (l14 : K.lookup f14 = some ⟨oc14, od14, .func (PySem.W.fnOf "_law_firsts" "_law_firsts" (defArgs s__law_firsts) (defBody s__law_firsts) (defScope s__law_firsts) .none kV14 dc14 pm14 an14 cd14 ct14), sl14⟩) (c14 : PySem.W.codeIn K cd14 "_law_firsts" = true) (k14 : PySem.W.keepIn K (.ref f14) = true)
    (a15 : PySem.W.nsIn K mainGlobals "_law_bound_right" = some (some (.ref f15))) (l15 : K.lookup f15 = some ⟨oc15, od15, .func (PySem.W.fnOf "_law_bound_right" "_law_bound_right" (defArgs s__law_bound_right) (defBody s__law_bound_right) (defScope s__law_bound_right) .none kV15 dc15 pm15 an15 cd15 ct15), sl15⟩) (c15 : PySem.W.codeIn K cd15 "_law_bound_right" = true) (k15 : PySem.W.keepIn K (.ref f15) = true)
    (a16 : PySem.W.nsIn K mainGlobals "law" = some (some (.ref f16))) (l16 : K.lookup f16 = some ⟨oc16, od16, .func (PySem.W.fnOf "law" "law" (defArgs s_law) (defBody s_law) (defScope s_law) .none kV16 dc16 pm16 an16 cd16 ct16), sl16⟩) (c16 : PySem.W.codeIn K cd16 "law" = true) (k16 : PySem.W.keepIn K (.ref f16) = true)
    (ga0 : PySem.W.nsIn K mainGlobals "LETTERS" = some (some (.str "abcdefghijklmnopqrstuvwxyz" t0)))
    (ga1 : PySem.W.nsIn K mainGlobals "RULES" = some (some (.ref r1))) (gb1 : K.lookup r1 = some ⟨.type "tuple", dd1, .seq #[.str "none" u1_0, .str "place" u1_1, .str "end" u1_2] rn1, rs1⟩)
    (ga2 : PySem.W.nsIn K mainGlobals "MAX_LOG" = some (some (.int 40 t2)))
    (ga3 : PySem.W.nsIn K mainGlobals "MAX_TIME" = some (some (.int 10000 t3)))
    (ga4 : PySem.W.nsIn K mainGlobals "MAX_LENGTH" = some (some (.int 99 t4)))
    (ga5 : PySem.W.nsIn K mainGlobals "MAX_NAME" = some (some (.int 6 t5)))
    (ga6 : PySem.W.nsIn K mainGlobals "FAR" = some (some (.int 1000000 t6)))
    (z0 : PySem.W.nsIn K mainGlobals "len" = some none)
    (z1 : PySem.W.nsIn K mainGlobals "all" = some none)
    (z2 : PySem.W.nsIn K mainGlobals "sum" = some none)
    (z3 : PySem.W.nsIn K mainGlobals "max" = some none)
    (z4 : PySem.W.nsIn K mainGlobals "min" = some none)
    (z5 : PySem.W.nsIn K mainGlobals "isinstance" = some none)
    (z6 : PySem.W.nsIn K mainGlobals "sorted" = some none)
    (z7 : PySem.W.nsIn K mainGlobals "tuple" = some none)
    (z8 : PySem.W.nsIn K mainGlobals "int" = some none)
    (z9 : PySem.W.nsIn K mainGlobals "bool" = some none)
    (z10 : PySem.W.nsIn K mainGlobals "str" = some none)
    (z11 : PySem.W.nsIn K mainGlobals "range" = some none)
    (z12 : PySem.W.nsIn K mainGlobals "zip" = some none)
    (z13 : PySem.W.nsIn K mainGlobals "enumerate" = some none)
    (z14 : PySem.W.nsIn K mainGlobals "set" = some none) :
    ∃ fd : FuncData, (∀ (s : Shared) (v : Value), BindsTo s fd ⟨[v], []⟩ [("script", v)]) ∧ ∀ base : Heap, K.In base → base.Ns mainGlobals mg → FnOk P w K mg base CX0 6 fa fd ["script"] (SpD K S_law) := by
  have e := hfa.symm.trans (PySem.W.mg_of X G a16)
  cases e
  have T : Txt K mg { a_is_integer := f0, d_is_integer := PySem.W.fnOf "is_integer" "is_integer" (defArgs s_is_integer) (defBody s_is_integer) (defScope s_is_integer) .none kV0 dc0 pm0 an0 cd0 ct0, a_is_topic := f1, d_is_topic := PySem.W.fnOf "is_topic" "is_topic" (defArgs s_is_topic) (defBody s_is_topic) (defScope s_is_topic) .none kV1 dc1 pm1 an1 cd1 ct1, a_is_announcement := f2, d_is_announcement := PySem.W.fnOf "is_announcement" "is_announcement" (defArgs s_is_announcement) (defBody s_is_announcement) (defScope s_is_announcement) .none kV2 dc2 pm2 an2 cd2 ct2, a_is_log := f3, d_is_log := PySem.W.fnOf "is_log" "is_log" (defArgs s_is_log) (defBody s_is_log) (defScope s_is_log) .none kV3 dc3 pm3 an3 cd3 ct3, a_require_log := f4, d_require_log := PySem.W.fnOf "require_log" "require_log" (defArgs s_require_log) (defBody s_require_log) (defScope s_require_log) .none kV4 dc4 pm4 an4 cd4 ct4, a_require_rule := f5, d_require_rule := PySem.W.fnOf "require_rule" "require_rule" (defArgs s_require_rule) (defBody s_require_rule) (defScope s_require_rule) .none kV5 dc5 pm5 an5 cd5 ct5, a_received := f6, d_received := PySem.W.fnOf "received" "received" (defArgs s_received) (defBody s_received) (defScope s_received) .none kV6 dc6 pm6 an6 cd6 ct6, a_played := f7, d_played := PySem.W.fnOf "played" "played" (defArgs s_played) (defBody s_played) (defScope s_played) .none kV7 dc7 pm7 an7 cd7 ct7, a_speech := f8, d_speech := PySem.W.fnOf "speech" "speech" (defArgs s_speech) (defBody s_speech) (defScope s_speech) .none kV8 dc8 pm8 an8 cd8 ct8, a_waits := f9, d_waits := PySem.W.fnOf "waits" "waits" (defArgs s_waits) (defBody s_waits) (defScope s_waits) .none kV9 dc9 pm9 an9 cd9 ct9, a_line_at := f10, d_line_at := PySem.W.fnOf "line_at" "line_at" (defArgs s_line_at) (defBody s_line_at) (defScope s_line_at) .none kV10 dc10 pm10 an10 cd10 ct10, a__law_source := f11, d__law_source := PySem.W.fnOf "_law_source" "_law_source" (defArgs s__law_source) (defBody s__law_source) (defScope s__law_source) .none kV11 dc11 pm11 an11 cd11 ct11, a__law_pick := f12, d__law_pick := PySem.W.fnOf "_law_pick" "_law_pick" (defArgs s__law_pick) (defBody s__law_pick) (defScope s__law_pick) .none kV12 dc12 pm12 an12 cd12 ct12, a__law_log := f13, d__law_log := PySem.W.fnOf "_law_log" "_law_log" (defArgs s__law_log) (defBody s__law_log) (defScope s__law_log) .none kV13 dc13 pm13 an13 cd13 ct13, a__law_firsts := f14, d__law_firsts := PySem.W.fnOf "_law_firsts" "_law_firsts" (defArgs s__law_firsts) (defBody s__law_firsts) (defScope s__law_firsts) .none kV14 dc14 pm14 an14 cd14 ct14, a__law_bound_right := f15, d__law_bound_right := PySem.W.fnOf "_law_bound_right" "_law_bound_right" (defArgs s__law_bound_right) (defBody s__law_bound_right) (defScope s__law_bound_right) .none kV15 dc15 pm15 an15 cd15 ct15, a_law := fa, d_law := PySem.W.fnOf "law" "law" (defArgs s_law) (defBody s_law) (defScope s_law) .none kV16 dc16 pm16 an16 cd16 ct16, t_LETTERS := t0, a_RULES := r1, t_MAX_LOG := t2, t_MAX_TIME := t3, t_MAX_LENGTH := t4, t_MAX_NAME := t5, t_FAR := t6 } := { F_is_integer := fun_mk (st := s_is_integer) l0 c0 k0, g_is_integer := PySem.W.mg_of X G a0, F_is_topic := fun_mk (st := s_is_topic) l1 c1 k1, g_is_topic := PySem.W.mg_of X G a1, F_is_announcement := fun_mk (st := s_is_announcement) l2 c2 k2, g_is_announcement := PySem.W.mg_of X G a2, F_is_log := fun_mk (st := s_is_log) l3 c3 k3, g_is_log := PySem.W.mg_of X G a3, F_require_log := fun_mk (st := s_require_log) l4 c4 k4, g_require_log := PySem.W.mg_of X G a4, F_require_rule := fun_mk (st := s_require_rule) l5 c5 k5, g_require_rule := PySem.W.mg_of X G a5, F_received := fun_mk (st := s_received) l6 c6 k6, g_received := PySem.W.mg_of X G a6, F_played := fun_mk (st := s_played) l7 c7 k7, g_played := PySem.W.mg_of X G a7, F_speech := fun_mk (st := s_speech) l8 c8 k8, g_speech := PySem.W.mg_of X G a8, F_waits := fun_mk (st := s_waits) l9 c9 k9, g_waits := PySem.W.mg_of X G a9, F_line_at := fun_mk (st := s_line_at) l10 c10 k10, g_line_at := PySem.W.mg_of X G a10, F__law_source := fun_mk (st := s__law_source) l11 c11 k11, g__law_source := PySem.W.mg_of X G a11, F__law_pick := fun_mk (st := s__law_pick) l12 c12 k12, g__law_pick := PySem.W.mg_of X G a12, F__law_log := fun_mk (st := s__law_log) l13 c13 k13, g__law_log := PySem.W.mg_of X G a13, F__law_firsts := fun_mk (st := s__law_firsts) l14 c14 k14, g__law_firsts := PySem.W.mg_of X G a14, F__law_bound_right := fun_mk (st := s__law_bound_right) l15 c15 k15, g__law_bound_right := PySem.W.mg_of X G a15, F_law := fun_mk (st := s_law) l16 c16 k16, g_law := PySem.W.mg_of X G a16, g_LETTERS := PySem.W.mg_of X G ga0, g_RULES := PySem.W.mg_of X G ga1, c_RULES := fun H => .inr ⟨_, _, _, gb1, rfl, rfl, (show 3 ≤ sizeLine by decide), .cons ⟨_, rfl⟩ (.cons ⟨_, rfl⟩ (.cons ⟨_, rfl⟩ (.nil)))⟩, g_MAX_LOG := PySem.W.mg_of X G ga2, g_MAX_TIME := PySem.W.mg_of X G ga3, g_MAX_LENGTH := PySem.W.mg_of X G ga4, g_MAX_NAME := PySem.W.mg_of X G ga5, g_FAR := PySem.W.mg_of X G ga6, len := PySem.W.mg_none_of X G z0, all := PySem.W.mg_none_of X G z1, sum := PySem.W.mg_none_of X G z2, max := PySem.W.mg_none_of X G z3, min := PySem.W.mg_none_of X G z4, isinstance := PySem.W.mg_none_of X G z5, sorted := PySem.W.mg_none_of X G z6, tuple := PySem.W.mg_none_of X G z7, int := PySem.W.mg_none_of X G z8, bool := PySem.W.mg_none_of X G z9, str := PySem.W.mg_none_of X G z10, range := PySem.W.mg_none_of X G z11, zip := PySem.W.mg_none_of X G z12, enumerate := PySem.W.mg_none_of X G z13, set := PySem.W.mg_none_of X G z14 }
  exact ⟨_, fun s v => .of_eq rfl, fun base _ _ => ok_law T⟩
end DL
open PySem PySem.W PyProof.Rows
set_option maxHeartbeats 0 in
theorem PySem.Challenge.cw_spokenline_k11_whole_order_and_bound_holds : PySem.Challenge.rw_spokenline_k11_whole_order_and_bound.Holds := by
  w_on; o_law; k_head; (case hw => w_witness2)
  k_fill
  refine L2.walk_of (l := PySem.Challenge.rw_spokenline_k11_whole_order_and_bound) (n := 63) (k := 6) (x := "script") (CX := fun _ => L2.CX0) (sp := fun w => DL.SpD _ DL.S_law) rfl (by decide) rfl ⟨rfl, by decide, by decide⟩ (fun w h Y => PySem.W.kIn_of Y) ?F (fun _ H a ns hl _ hS => DL.law_end hl hS) (fun _ _ _ _ _ h => h)
  case F =>
    intro w mg fa h KX G hmg
    refine' DL.all_mk KX G hmg ?a0 ?l0 ?c0 ?k0 ?a1 ?l1 ?c1 ?k1 ?a2 ?l2 ?c2 ?k2 ?a3 ?l3 ?c3 ?k3 ?a4 ?l4 ?c4 ?k4 ?a5 ?l5 ?c5 ?k5 ?a6 ?l6 ?c6 ?k6 ?a7 ?l7 ?c7 ?k7 ?a8 ?l8 ?c8 ?k8 ?a9 ?l9 ?c9 ?k9 ?a10 ?l10 ?c10 ?k10 ?a11 ?l11 ?c11 ?k11 ?a12 ?l12 ?c12 ?k12 ?a13 ?l13 ?c13 ?k13 ?a14 ?l14 ?c14 ?k14 ?a15 ?l15 ?c15 ?k15 ?a16 ?l16 ?c16 ?k16 ?ga0 ?ga1 ?gb1 ?ga2 ?ga3 ?ga4 ?ga5 ?ga6 ?z0 ?z1 ?z2 ?z3 ?z4 ?z5 ?z6 ?z7 ?z8 ?z9 ?z10 ?z11 ?z12 ?z13 ?z14
    (case a0 => k_is); (case l0 => k_is); (case c0 => k_is); (case k0 => k_is); (case a1 => k_is); (case l1 => k_is); (case c1 => k_is); (case k1 => k_is); (case a2 => k_is); (case l2 => k_is); (case c2 => k_is); (case k2 => k_is); (case a3 => k_is); (case l3 => k_is); (case c3 => k_is); (case k3 => k_is); (case a4 => k_is); (case l4 => k_is); (case c4 => k_is); (case k4 => k_is); (case a5 => k_is); (case l5 => k_is); (case c5 => k_is); (case k5 => k_is); (case a6 => k_is); (case l6 => k_is); (case c6 => k_is); (case k6 => k_is); (case a7 => k_is); (case l7 => k_is); (case c7 => k_is); (case k7 => k_is); (case a8 => k_is); (case l8 => k_is); (case c8 => k_is); (case k8 => k_is); (case a9 => k_is); (case l9 => k_is); (case c9 => k_is); (case k9 => k_is); (case a10 => k_is); (case l10 => k_is); (case c10 => k_is); (case k10 => k_is); (case a11 => k_is); (case l11 => k_is); (case c11 => k_is); (case k11 => k_is); (case a12 => k_is); (case l12 => k_is); (case c12 => k_is); (case k12 => k_is); (case a13 => k_is); (case l13 => k_is); (case c13 => k_is); (case k13 => k_is); (case a14 => k_is); (case l14 => k_is); (case c14 => k_is); (case k14 => k_is); (case a15 => k_is); (case l15 => k_is); (case c15 => k_is); (case k15 => k_is); (case a16 => k_is); (case l16 => k_is); (case c16 => k_is); (case k16 => k_is); (case ga0 => k_is); (case ga1 => k_is); (case gb1 => k_is); (case ga2 => k_is); (case ga3 => k_is); (case ga4 => k_is); (case ga5 => k_is); (case ga6 => k_is); (case z0 => k_is); (case z1 => k_is); (case z2 => k_is); (case z3 => k_is); (case z4 => k_is); (case z5 => k_is); (case z6 => k_is); (case z7 => k_is); (case z8 => k_is); (case z9 => k_is); (case z10 => k_is); (case z11 => k_is); (case z12 => k_is); (case z13 => k_is); (case z14 => k_is)
