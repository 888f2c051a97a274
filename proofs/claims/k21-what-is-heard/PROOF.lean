import PyProof.Rows.All
import Wide.All
import OpenK.AllK
import Wide.FinOn
import HandS.ForMost
import HandS.TupAny
import HandS.TupMul
import HandS.Zip
import HandS.IsInst
import HandS.Defaults
import HandS.Walk
import KE.DataEq
import HandS.Style
import HandS.SortInts
import KE.GoesEnum
import HandS.Conv
import HandS.Small
import HandS.Strs
import HandS.More
import HandS.SetFor
import HandS.SetTxt0
import KE.GoesZip
import KE.GoesMore
import KE.KDictZip
import PySem.Challenge.RW_spokenline_k21_whole_what_is_heard
set_option Elab.async false
set_option linter.all false
set_option maxRecDepth 100000
/-! The data layer: what a reading gives, told by plain data. -/
namespace DL
open PySem PySem.Spec PyProof.Rows L2
/-- plain data; raw: a reference as it is (a def, a class, a changing object) -/
inductive Dt where
  | non | bl (b : Bool) | int (i : Int) | str (x : Str) | tup (xs : List Dt) | lst (xs : List Dt) | ro (xs : List Dt) | raw (v : V)
mutual
inductive Den (K : PySem.W.Frag) (H : Hp) : Dt → V → Prop
  | non : Den K H .non .non
  | bl (b : Bool) : Den K H (.bl b) (.bl b)
  | int (i : Int) : Den K H (.int i) (.int i)
  | str (x : Str) : Den K H (.str x) (.str x)
  | tup {a : Addr} {vs : List V} {ds : List Dt} : SqT K H a vs → DenL K H ds vs → Den K H (.tup ds) (.ref a)
  | lst {a : Addr} {vs : List V} {ds : List Dt} : H a = some (.lst vs) → DenL K H ds vs → Den K H (.lst ds) (.ref a)
  | ro {a : Addr} {vs : List V} {ds : List Dt} : SqL K H a vs → DenL K H ds vs → Den K H (.ro ds) (.ref a)
  | raw (v : V) : Den K H (.raw v) v
inductive DenL (K : PySem.W.Frag) (H : Hp) : List Dt → List V → Prop
  | nil : DenL K H [] []
  | cons {d : Dt} {v : V} {ds : List Dt} {vs : List V} : Den K H d v → DenL K H ds vs → DenL K H (d :: ds) (v :: vs)
end
theorem sqT_mono {K : PySem.W.Frag} {H H' : Hp} {a : Addr} {xs : List V} (e : Same H H') (h : SqT K H a xs) : SqT K H' a xs := by
  rcases h with (h | ⟨o, h⟩) | h
  · exact .inl (.inl (e _ _ h))
  · exact .inl (.inr ⟨o, e _ _ h⟩)
  · exact .inr h
section
variable {K : PySem.W.Frag} {H H' : Hp}
mutual
theorem Den.mono (e : Same H H') : ∀ {d : Dt} {v : V}, Den K H d v → Den K H' d v
  | _, _, .non => .non
  | _, _, .bl b => .bl b
  | _, _, .int i => .int i
  | _, _, .str x => .str x
  | _, _, .tup h q => .tup (sqT_mono e h) (DenL.mono e q)
  | _, _, .lst h q => .lst (e _ _ h) (DenL.mono e q)
  | _, _, .ro h q => .ro (e.seq h) (DenL.mono e q)
  | _, _, .raw v => .raw v
theorem DenL.mono (e : Same H H') : ∀ {ds : List Dt} {vs : List V}, DenL K H ds vs → DenL K H' ds vs
  | _, _, .nil => .nil
  | _, _, .cons h q => .cons (Den.mono e h) (DenL.mono e q)
end
theorem DenL.length : ∀ {ds : List Dt} {vs : List V}, DenL K H ds vs → ds.length = vs.length
  | _, _, .nil => rfl
  | _, _, .cons _ q => congrArg (· + 1) (DenL.length q)
theorem DenL.get : ∀ {ds : List Dt} {vs : List V} {i : Nat} {d : Dt}, DenL K H ds vs → ds[i]? = some d → ∃ v, vs[i]? = some v ∧ Den K H d v
  | _, _, _, _, .nil, e => by simp at e
  | _, _, 0, _, .cons h _, e => by simp at e; subst e; exact ⟨_, rfl, h⟩
  | _, _, i + 1, d, .cons _ q, e => by
    obtain ⟨v, h1, h2⟩ := DenL.get (i := i) (d := d) q (by simpa using e)
    exact ⟨v, by simpa using h1, h2⟩
theorem DenL.get' : ∀ {ds : List Dt} {vs : List V} {i : Nat} {v : V}, DenL K H ds vs → vs[i]? = some v → ∃ d, ds[i]? = some d ∧ Den K H d v
  | _, _, _, _, .nil, e => by simp at e
  | _, _, 0, _, .cons h _, e => by simp at e; subst e; exact ⟨_, rfl, h⟩
  | _, _, i + 1, v, .cons _ q, e => by
    obtain ⟨d, h1, h2⟩ := DenL.get' (i := i) (v := v) q (by simpa using e)
    exact ⟨d, by simpa using h1, h2⟩
theorem DenL.append : ∀ {ds es : List Dt} {vs ws : List V}, DenL K H ds vs → DenL K H es ws → DenL K H (ds ++ es) (vs ++ ws)
  | _, _, _, _, .nil, s => s
  | _, _, _, _, .cons r t, s => .cons r (DenL.append t s)
theorem DenL.take : ∀ {ds : List Dt} {vs : List V} (n : Nat), DenL K H ds vs → DenL K H (ds.take n) (vs.take n)
  | _, _, 0, _ => .nil
  | _, _, _ + 1, .nil => .nil
  | _, _, n + 1, .cons r t => .cons r (DenL.take n t)
theorem DenL.drop : ∀ {ds : List Dt} {vs : List V} (n : Nat), DenL K H ds vs → DenL K H (ds.drop n) (vs.drop n)
  | _, _, 0, r => r
  | _, _, _ + 1, .nil => .nil
  | _, _, n + 1, .cons _ t => DenL.drop n t
theorem DenL.set {d : Dt} {v : V} (r : Den K H d v) : ∀ {ds : List Dt} {vs : List V} (i : Nat), DenL K H ds vs → DenL K H (ds.set i d) (vs.set i v)
  | _, _, _, .nil => .nil
  | _, _, 0, .cons _ t => .cons r t
  | _, _, i + 1, .cons q t => .cons q (DenL.set r i t)
theorem DenL.erase : ∀ {ds : List Dt} {vs : List V} (i : Nat), DenL K H ds vs → DenL K H (ds.eraseIdx i) (vs.eraseIdx i)
  | _, _, _, .nil => .nil
  | _, _, 0, .cons _ t => t
  | _, _, i + 1, .cons q t => .cons q (DenL.erase i t)
theorem DenL.mem : ∀ {ds : List Dt} {vs : List V} {d : Dt} {v : V}, DenL K H ds vs → (d, v) ∈ ds.zip vs → Den K H d v
  | _, _, _, _, .nil, h => by simp at h
  | _, _, d, v, .cons r t, h => by
    rw [List.zip_cons_cons] at h
    rcases List.mem_cons.mp h with e | h
    · cases e; exact r
    · exact DenL.mem t h
theorem DenL.of_zip : ∀ {ds : List Dt} {vs : List V}, ds.length = vs.length → (∀ d v, (d, v) ∈ ds.zip vs → Den K H d v) → DenL K H ds vs
  | [], [], _, _ => .nil
  | d :: ds, v :: vs, hl, h => .cons (h d v (by rw [List.zip_cons_cons]; exact List.mem_cons_self)) (DenL.of_zip (by simpa using hl) fun d' v' q => h d' v' (by rw [List.zip_cons_cons]; exact List.mem_cons_of_mem _ q))
  | [], _ :: _, hl, _ => by simp at hl
  | _ :: _, [], hl, _ => by simp at hl
theorem DenL.map {α : Type} {f : α → Dt} {g : α → V} (h : ∀ a, Den K H (f a) (g a)) : ∀ xs : List α, DenL K H (xs.map f) (xs.map g)
  | [] => .nil
  | x :: xs => .cons (h x) (DenL.map h xs)
end
/-! ### data as PyData -/
mutual
def Dt.py : Dt → PyData
  | .non => .none
  | .bl b => .bool b
  | .int i => .int i
  | .str x => .str x
  | .tup xs => .tuple (Dt.pyL xs)
  | .lst xs => .list (Dt.pyL xs)
  | .ro _ => .none
  | .raw _ => .none
def Dt.pyL : List Dt → List PyData
  | [] => []
  | x :: xs => Dt.py x :: Dt.pyL xs
end
mutual
/-- no reference within, at most n deep -/
def Dt.ok : Nat → Dt → Bool
  | _, .non => true
  | _, .bl _ => true
  | _, .int _ => true
  | _, .str _ => true
  | 0, .tup _ => false
  | 0, .lst _ => false
  | n + 1, .tup xs => Dt.okL n xs
  | n + 1, .lst xs => Dt.okL n xs
  | _, .ro _ => false
  | _, .raw _ => false
def Dt.okL : Nat → List Dt → Bool
  | _, [] => true
  | n, x :: xs => Dt.ok n x && Dt.okL n xs
end
theorem okL_iff {n : Nat} : ∀ {xs : List Dt}, Dt.okL n xs = true ↔ ∀ x ∈ xs, Dt.ok n x = true
  | [] => by simp [Dt.okL]
  | x :: xs => by simp [Dt.okL, okL_iff (n := n) (xs := xs)]
mutual
theorem ok_plain : ∀ (n : Nat) (d : Dt), Dt.ok n d = true → d.py.plain = true ∧ d.py.depth ≤ n
  | _, .non, _ => ⟨rfl, by simp [Dt.py, PyData.depth]⟩
  | _, .bl _, _ => ⟨rfl, by simp [Dt.py, PyData.depth]⟩
  | _, .int _, _ => ⟨rfl, by simp [Dt.py, PyData.depth]⟩
  | _, .str _, _ => ⟨rfl, by simp [Dt.py, PyData.depth]⟩
  | 0, .tup _, h => by simp [Dt.ok] at h
  | 0, .lst _, h => by simp [Dt.ok] at h
  | n + 1, .tup xs, h => by
    have q := okL_plain n xs (by simpa [Dt.ok] using h)
    refine ⟨by simpa [Dt.py, PyData.plain] using q.1, ?_⟩
    have := q.2
    simp only [Dt.py, PyData.depth]
    omega
  | n + 1, .lst xs, h => by
    have q := okL_plain n xs (by simpa [Dt.ok] using h)
    refine ⟨by simpa [Dt.py, PyData.plain] using q.1, ?_⟩
    have := q.2
    simp only [Dt.py, PyData.depth]
    omega
  | 0, .raw _, h => by simp [Dt.ok] at h
  | n + 1, .raw _, h => by simp [Dt.ok] at h
  | 0, .ro _, h => by simp [Dt.ok] at h
  | n + 1, .ro _, h => by simp [Dt.ok] at h
theorem okL_plain : ∀ (n : Nat) (xs : List Dt), Dt.okL n xs = true → PyData.plainAll (Dt.pyL xs) = true ∧ PyData.depthAll (Dt.pyL xs) ≤ n
  | _, [], _ => ⟨rfl, by simp [Dt.pyL, PyData.depthAll]⟩
  | n, x :: xs, h => by
    simp only [Dt.okL, Bool.and_eq_true] at h
    have h1 := ok_plain n x h.1
    have h2 := okL_plain n xs h.2
    refine ⟨by simp [Dt.pyL, PyData.plainAll, h1.1, h2.1], ?_⟩
    simp only [Dt.pyL, PyData.depthAll]
    omega
end
section
variable {X : Cx} {pins : List (Addr × Obj)} {σ : L2.St} {H : Hp} {s : Shared}
mutual
theorem den_reads (I : Inv X pins σ H s) : ∀ (n : Nat) (d : Dt) (v : V) (u : Value), Dt.ok n d = true → Den X.K H d v → RelV v u → ∃ as, Reads s.heap u d.py as
  | _, .non, _, _, _, h, r => by
    cases h
    cases r
    exact ⟨_, Reads.none⟩
  | _, .bl b, _, _, _, h, r => by
    cases h
    cases r
    exact ⟨_, Reads.bool b⟩
  | _, .int i, _, _, _, h, r => by
    cases h
    obtain ⟨t, rfl⟩ := r
    exact ⟨_, Reads.int i t⟩
  | _, .str x, _, _, _, h, r => by
    cases h
    obtain ⟨t, rfl⟩ := r
    exact ⟨_, Reads.str x t⟩
  | 0, .tup _, _, _, h, _, _ => by simp [Dt.ok] at h
  | 0, .lst _, _, _, h, _, _ => by simp [Dt.ok] at h
  | n + 1, .lst ds, _, _, ho, h, r => by
    cases h with
    | lst hs ha =>
      cases r
      obtain ⟨its, rv, ⟨o, k, hg, hc, _, hd⟩, _⟩ := I.list (SqL.of hs)
      obtain ⟨as, hr⟩ := denL_reads I n ds _ its (by simpa [Dt.ok] using ho) ha rv
      exact ⟨_, Reads.list hg hc hd hr⟩
  | n + 1, .tup ds, _, _, ho, h, r => by
    cases h with
    | tup hs ha =>
      cases r
      obtain ⟨its, rv, ⟨o, hg, hc, k, hd⟩, _⟩ := I.tuple hs
      obtain ⟨as, hr⟩ := denL_reads I n ds _ its (by simpa [Dt.ok] using ho) ha rv
      exact ⟨_, Reads.tuple hg hc hd hr⟩
  | 0, .raw _, _, _, h, _, _ => by simp [Dt.ok] at h
  | n + 1, .raw _, _, _, h, _, _ => by simp [Dt.ok] at h
  | 0, .ro _, _, _, h, _, _ => by simp [Dt.ok] at h
  | n + 1, .ro _, _, _, h, _, _ => by simp [Dt.ok] at h
theorem denL_reads (I : Inv X pins σ H s) : ∀ (n : Nat) (ds : List Dt) (vs : List V) (us : List Value), Dt.okL n ds = true → DenL X.K H ds vs → Vals vs us → ∃ as, ReadsAll s.heap us (Dt.pyL ds) as
  | _, [], _, _, _, h, r => by
    cases h
    cases r
    exact ⟨_, ReadsAll.nil⟩
  | n, d :: ds, _, _, ho, h, r => by
    simp only [Dt.okL, Bool.and_eq_true] at ho
    cases h with
    | cons h1 h2 =>
      cases r with
      | cons r1 r2 =>
        obtain ⟨as, q1⟩ := den_reads I n d _ _ ho.1 h1 r1
        obtain ⟨bs, q2⟩ := denL_reads I n ds _ _ ho.2 h2 r2
        exact ⟨_, ReadsAll.cons q1 q2⟩
end
end
/-! ### == of data -/
mutual
def eqD : Dt → Dt → Bool
  | .non, .non => true
  | .bl a, .bl b => a == b
  | .bl a, .int j => (if a then 1 else 0) == j
  | .int i, .bl b => i == (if b then 1 else 0)
  | .int i, .int j => decide (i = j)
  | .str x, .str y => decide (x = y)
  | .lst xs, .lst ys => eqDL xs ys
  | .tup xs, .tup ys => eqDL xs ys
  | _, _ => false
def eqDL : List Dt → List Dt → Bool
  | [], [] => true
  | x :: xs, y :: ys => eqD x y && eqDL xs ys
  | _, _ => false
end
mutual
theorem eqv_eqD : ∀ (n m : Nat) (d e : Dt), Dt.ok n d = true → Dt.ok m e = true → PyData.eqv d.py e.py = eqD d e
  | _, _, .non, e, _, h => by cases e <;> first | rfl | (exfalso; revert h; cases ‹Nat› <;> simp [Dt.ok])
  | _, _, .bl b, e, _, h => by cases e <;> first | rfl | (exfalso; revert h; cases ‹Nat› <;> simp [Dt.ok])
  | _, _, .int i, e, _, h => by
    cases e with
    | int j => simp [Dt.py, PyData.eqv, eqD, Bool.beq_eq_decide_eq]
    | _ => rfl
  | _, _, .str i, e, _, h => by
    cases e with
    | str j => simp [Dt.py, PyData.eqv, eqD, Bool.beq_eq_decide_eq]
    | _ => rfl
  | n + 1, m, .tup xs, e, h1, h2 => by
    cases e with
    | tup ys =>
      cases m with
      | zero => simp [Dt.ok] at h2
      | succ m =>
        simp only [Dt.py, PyData.eqv, eqD]
        exact eqv_eqDL n m xs ys (by simpa [Dt.ok] using h1) (by simpa [Dt.ok] using h2)
    | _ => rfl
  | n + 1, m, .lst xs, e, h1, h2 => by
    cases e with
    | lst ys =>
      cases m with
      | zero => simp [Dt.ok] at h2
      | succ m =>
        simp only [Dt.py, PyData.eqv, eqD]
        exact eqv_eqDL n m xs ys (by simpa [Dt.ok] using h1) (by simpa [Dt.ok] using h2)
    | _ => rfl
  | 0, _, .tup _, _, h, _ => by simp [Dt.ok] at h
  | 0, _, .lst _, _, h, _ => by simp [Dt.ok] at h
  | 0, _, .raw _, _, h, _ => by simp [Dt.ok] at h
  | n + 1, _, .raw _, _, h, _ => by simp [Dt.ok] at h
  | 0, _, .ro _, _, h, _ => by simp [Dt.ok] at h
  | n + 1, _, .ro _, _, h, _ => by simp [Dt.ok] at h
theorem eqv_eqDL : ∀ (n m : Nat) (ds es : List Dt), Dt.okL n ds = true → Dt.okL m es = true → PyData.eqvAll (Dt.pyL ds) (Dt.pyL es) = eqDL ds es
  | _, _, [], [], _, _ => rfl
  | _, _, [], _ :: _, _, _ => rfl
  | _, _, _ :: _, [], _, _ => rfl
  | n, m, d :: ds, e :: es, h1, h2 => by
    simp only [Dt.okL, Bool.and_eq_true] at h1 h2
    simp only [Dt.pyL, PyData.eqvAll, eqDL]
    rw [eqv_eqD n m d e h1.1 h2.1, eqv_eqDL n m ds es h1.2 h2.2]
end
section
variable {X : Cx}
def rEqG (K : PySem.W.Frag) : R2 := fun x y H Q => ∃ d e, Den K H d x ∧ Den K H e y ∧ Dt.ok 60 d = true ∧ Dt.ok 60 e = true ∧ Q (.bl (eqD d e)) H
def rNeG (K : PySem.W.Frag) : R2 := fun x y H Q => ∃ d e, Den K H d x ∧ Den K H e y ∧ Dt.ok 60 d = true ∧ Dt.ok 60 e = true ∧ Q (.bl (!eqD d e)) H
theorem op_eqG (hu : X.A.units + 64 < cLine) : OpR X (compareOp .Eq) (rEqG X.K) := by
  intro pins s σ H x y v u Q I rx ry h
  obtain ⟨d, e, hd, he, sd, se, q⟩ := h
  obtain ⟨as, r1⟩ := den_reads I 60 d x v sd hd rx
  obtain ⟨bs, r2⟩ := den_reads I 60 e y u se he ry
  have p1 := ok_plain 60 d sd
  have p2 := ok_plain 60 e se
  refine SeqAt.eq_plain r1 r2 p1.1 p2.1 ?_ ⟨.bl _, H, I, rfl, ?_⟩
  · have := Nat.min_le_left d.py.depth e.py.depth
    omega
  · rw [eqv_eqD 60 60 d e sd se]
    exact q
theorem op_neG (hu : X.A.units + 64 < cLine) : OpR X (compareOp .NotEq) (rNeG X.K) := by
  intro pins s σ H x y v u Q I rx ry h
  obtain ⟨d, e, hd, he, sd, se, q⟩ := h
  obtain ⟨as, r1⟩ := den_reads I 60 d x v sd hd rx
  obtain ⟨bs, r2⟩ := den_reads I 60 e y u se he ry
  have p1 := ok_plain 60 d sd
  have p2 := ok_plain 60 e se
  refine SeqAt.ne_plain r1 r2 p1.1 p2.1 ?_ ⟨.bl _, H, I, rfl, ?_⟩
  · have := Nat.min_le_left d.py.depth e.py.depth
    omega
  · rw [eqv_eqD 60 60 d e sd se]
    exact q
/-- x in c, c a list or tuple of data -/
def rInG (K : PySem.W.Frag) (neg : Bool) : R2 := fun x y H Q => ∃ d es c, Den K H d x ∧ (c = .lst es ∨ c = .tup es) ∧ Den K H c y ∧ Dt.ok 30 d = true ∧ Dt.okL 30 es = true ∧ Q (.bl (if neg then !(es.any fun e => eqD e d) else es.any fun e => eqD e d)) H
theorem any_eqv {d : Dt} (hd : Dt.ok 30 d = true) : ∀ {es : List Dt}, Dt.okL 30 es = true → ((Dt.pyL es).any fun y => PyData.eqv y d.py) = es.any fun e => eqD e d
  | [], _ => rfl
  | e :: es, h => by
    simp only [Dt.okL, Bool.and_eq_true] at h
    simp only [Dt.pyL, List.any_cons]
    rw [eqv_eqD 30 30 e d h.1 hd, any_eqv hd h.2]
theorem op_inG (hu : X.A.units + 64 < cLine) : OpR X (compareOp .In) (rInG X.K false) := by
  intro pins s σ H x y v u Q I rx ry h
  obtain ⟨d, es, c, hd, hc, he, sd, se, q⟩ := h
  obtain ⟨as, r1⟩ := den_reads I 30 d x v sd hd rx
  have p1 := ok_plain 30 d sd
  have p2 := okL_plain 30 es se
  have hr : X.A.units + 1 + min (PyData.depthAll (Dt.pyL es)) d.py.depth < cLine := by
    have := Nat.min_le_left (PyData.depthAll (Dt.pyL es)) d.py.depth
    omega
  have fin : EP X pins σ Q (.bool ((Dt.pyL es).any fun y => PyData.eqv y d.py)) s := ⟨.bl _, H, I, rfl, by rw [any_eqv sd se]; exact q⟩
  rcases hc with rfl | rfl
  · obtain ⟨bs, r2⟩ := den_reads I 31 _ y u (by simpa [Dt.ok] using se) he ry
    exact SeqAt.in_list_data r2 r1 p2.1 p1.1 hr fin
  · obtain ⟨bs, r2⟩ := den_reads I 31 _ y u (by simpa [Dt.ok] using se) he ry
    exact SeqAt.in_tuple_data r2 r1 p2.1 p1.1 hr fin
theorem op_notInG (hu : X.A.units + 64 < cLine) : OpR X (compareOp .NotIn) (rInG X.K true) := by
  intro pins s σ H x y v u Q I rx ry h
  obtain ⟨d, es, c, hd, hc, he, sd, se, q⟩ := h
  obtain ⟨as, r1⟩ := den_reads I 30 d x v sd hd rx
  have p1 := ok_plain 30 d sd
  have p2 := okL_plain 30 es se
  have hr : X.A.units + 1 + min (PyData.depthAll (Dt.pyL es)) d.py.depth < cLine := by
    have := Nat.min_le_left (PyData.depthAll (Dt.pyL es)) d.py.depth
    omega
  have fin : EP X pins σ Q (.bool (!(Dt.pyL es).any fun y => PyData.eqv y d.py)) s := ⟨.bl _, H, I, rfl, by rw [any_eqv sd se]; exact q⟩
  rcases hc with rfl | rfl
  · obtain ⟨bs, r2⟩ := den_reads I 31 _ y u (by simpa [Dt.ok] using se) he ry
    exact SeqAt.notIn_list_data r2 r1 p2.1 p1.1 hr fin
  · obtain ⟨bs, r2⟩ := den_reads I 31 _ y u (by simpa [Dt.ok] using se) he ry
    exact SeqAt.notIn_tuple_data r2 r1 p2.1 p1.1 hr fin
end
end DL
namespace DL
open PySem PySem.Spec PyProof.Rows L2
/-! ### what is owned: objects that may change -/
inductive Cell where
  | lst (ds : List Dt)
  | dk (kvs : List (Key × Dt))
  | ins (C : Addr) (fs : List (Str × Dt))
abbrev Own := List (Addr × Cell)
abbrev DenKV {κ : Type} (K : PySem.W.Frag) (B : Hp) : List (κ × Dt) → List (κ × V) → Prop := Paired fun (p : κ × Dt) (q : κ × V) => p.1 = q.1 ∧ Den K B p.2 q.2
def CellAt (K : PySem.W.Frag) (B H : Hp) (p : Addr) : Cell → Prop
  | .lst ds => ∃ vs, H p = some (.lst vs) ∧ DenL K B ds vs
  | .dk kvs => ∃ ws, H p = some (.dK ws) ∧ DenKV K B kvs ws
  | .ins C fs => ∃ dx ws, H p = some (.ins C dx ws) ∧ DenKV K B fs ws
theorem DenKV.mono {κ : Type} {K : PySem.W.Frag} {B B' : Hp} (e : Same B B') {xs : List (κ × Dt)} {ys : List (κ × V)} (h : DenKV K B xs ys) : DenKV K B' xs ys :=
  Paired.mapP h fun _ _ q => ⟨q.1, q.2.mono e⟩
theorem CellAt.mono {K : PySem.W.Frag} {B B' H H' : Hp} {p : Addr} (e : Same B B') (eh : H' p = H p) : ∀ {c : Cell}, CellAt K B H p c → CellAt K B' H' p c
  | .lst _, ⟨vs, h, q⟩ => ⟨vs, eh.trans h, q.mono e⟩
  | .dk _, ⟨vs, h, q⟩ => ⟨vs, eh.trans h, DenKV.mono e q⟩
  | .ins _ _, ⟨dx, vs, h, q⟩ => ⟨dx, vs, eh.trans h, DenKV.mono e q⟩
theorem CellAt.there {K : PySem.W.Frag} {B H : Hp} {p : Addr} : ∀ {c : Cell}, CellAt K B H p c → H p ≠ none
  | .lst _, ⟨vs, h, q⟩ => by rw [h]; simp
  | .dk _, ⟨vs, h, q⟩ => by rw [h]; simp
  | .ins _ _, ⟨dx, vs, h, q⟩ => by rw [h]; simp
/-- what must stay, what was data at the entry -/
structure En where
  Kp : Hp
  B0 : Hp
abbrev Gm := List (Option Dt)
structure Sat (K : PySem.W.Frag) (w : En) (Γ : Gm) (O : Own) (P : List (Dt × V)) (σ : L2.St) (H B : Hp) : Prop where
  b0 : Same w.B0 B
  bh : Same B H
  kh : Same w.Kp H
  fr : ∀ q, B q ≠ none → w.B0 q ≠ none ∨ w.Kp q = none
  len : Γ.length = σ.length
  sl : ∀ (i : Nat) (d : Dt), Γ[i]? = some (some d) → ∃ v, σ[i]? = some (some v) ∧ Den K B d v
  ow : ∀ p c, (p, c) ∈ O → B p = none ∧ w.Kp p = none ∧ CellAt K B H p c
  nd : (O.map (·.1)).Nodup
  pi : ∀ d v, (d, v) ∈ P → Den K B d v
theorem same_upd {H : Hp} {p : Addr} {o : HO} (h : H p = none) : Same H (upd H p o) := fun b x e => by
  rw [upd_ne (ne_of_none e h)]
  exact e
theorem same_none {H H' : Hp} (e : Same H H') {p : Addr} (h : H' p = none) : H p = none := e.free h
theorem upd_some {H : Hp} {p q : Addr} {o : HO} (h : upd H p o q ≠ none) : q = p ∨ H q ≠ none := by
  by_cases e : q = p
  · exact .inl e
  · rw [upd_ne e] at h
    exact .inr h
section
variable {K : PySem.W.Frag} {w : En} {Γ Γ' : Gm} {O O' : Own} {P P' : List (Dt × V)} {σ σ' : L2.St} {H H' B B' : Hp} {p : Addr} {d : Dt} {v : V}
theorem Sat.pins (S : Sat K w Γ O P σ H B) (h : ∀ x ∈ P', x ∈ P) : Sat K w Γ O P' σ H B := ⟨S.b0, S.bh, S.kh, S.fr, S.len, S.sl, S.ow, S.nd, fun d v q => S.pi d v (h _ q)⟩
theorem Sat.pin (S : Sat K w Γ O P σ H B) (h : Den K B d v) : Sat K w Γ O ((d, v) :: P) σ H B := ⟨S.b0, S.bh, S.kh, S.fr, S.len, S.sl, S.ow, S.nd, fun d' v' q => by
  rcases List.mem_cons.mp q with e | q
  · cases e; exact h
  · exact S.pi d' v' q⟩
theorem Sat.pinL {ds : List Dt} {vs : List V} (S : Sat K w Γ O P σ H B) (h : DenL K B ds vs) : Sat K w Γ O (ds.zip vs ++ P) σ H B := ⟨S.b0, S.bh, S.kh, S.fr, S.len, S.sl, S.ow, S.nd, fun d' v' q => by
  rcases List.mem_append.mp q with q | q
  · exact h.mem q
  · exact S.pi d' v' q⟩
theorem Sat.perm (S : Sat K w Γ O P σ H B) (h : O.Perm O') : Sat K w Γ O' P σ H B := ⟨S.b0, S.bh, S.kh, S.fr, S.len, S.sl, fun p c q => S.ow p c (h.mem_iff.mpr q), (h.map _).nodup_iff.mp S.nd, S.pi⟩
theorem Sat.set (S : Sat K w Γ O P σ H B) (i : Nat) (h : Den K B d v) : Sat K w (Γ.set i (some d)) O P (σ.set i (some v)) H B := ⟨S.b0, S.bh, S.kh, S.fr, by simpa using S.len, fun j d' q => by
  by_cases e : i = j
  · subst e
    have hl : i < Γ.length := by
      have := (List.getElem?_eq_some_iff.mp q).1
      simpa using this
    rw [List.getElem?_set_self hl] at q
    cases q
    exact ⟨v, List.getElem?_set_self (by rw [← S.len]; exact hl), h⟩
  · rw [List.getElem?_set_ne e] at q
    obtain ⟨v', h1, h2⟩ := S.sl j d' q
    exact ⟨v', by rw [List.getElem?_set_ne e]; exact h1, h2⟩, S.ow, S.nd, S.pi⟩
theorem Sat.weak (S : Sat K w Γ O P σ H B) (hl : Γ'.length = Γ.length) (h : ∀ (i : Nat) (d : Dt), Γ'[i]? = some (some d) → Γ[i]? = some (some d)) : Sat K w Γ' O P σ H B :=
  ⟨S.b0, S.bh, S.kh, S.fr, hl.trans S.len, fun i d q => S.sl i d (h i d q), S.ow, S.nd, S.pi⟩
/-- the base grows by new things, or what was owned -/
theorem Sat.grow (S : Sat K w Γ O P σ H B) (hb : Same B B') (hbh : Same B' H') (hk : Same w.Kp H') (hf : ∀ q, B' q ≠ none → B q ≠ none ∨ w.Kp q = none)
    (ho : ∀ p c, (p, c) ∈ O' → B' p = none ∧ w.Kp p = none ∧ CellAt K B' H' p c) (nd : (O'.map (·.1)).Nodup) : Sat K w Γ O' P σ H' B' :=
  ⟨S.b0.trans hb, hbh, hk, fun q h => (hf q h).elim (fun z => S.fr q z) .inr, S.len, fun i d q => let ⟨v, h1, h2⟩ := S.sl i d q; ⟨v, h1, h2.mono hb⟩, ho, nd, fun d v q => (S.pi d v q).mono hb⟩
theorem Sat.kfree (S : Sat K w Γ O P σ H B) (h : H p = none) : w.Kp p = none := same_none S.kh h
theorem Sat.bfree (S : Sat K w Γ O P σ H B) (h : H p = none) : B p = none := same_none S.bh h
/-- a new thing that is data from now on -/
theorem Sat.new {o : HO} (S : Sat K w Γ O P σ H B) (h : H p = none) : Sat K w Γ O P σ (upd H p o) (upd B p o) := by
  have hb := S.bfree h
  refine S.grow (same_upd hb) (fun q u e => ?_) (S.kh.trans (same_upd h)) (fun q hq => ?_) (fun q c hq => ?_) S.nd
  · by_cases z : q = p
    · subst z; rw [upd_same] at e ⊢; exact e
    · rw [upd_ne z] at e ⊢; exact S.bh _ _ e
  · rcases upd_some hq with rfl | z
    · exact .inr (S.kfree h)
    · exact .inl z
  · obtain ⟨h1, h2, h3⟩ := S.ow q c hq
    have z : q ≠ p := fun z => h3.there (by rw [z]; exact h)
    exact ⟨by rw [upd_ne z]; exact h1, h2, h3.mono (same_upd hb) (upd_ne z)⟩
/-- a new thing that is owned from now on -/
theorem Sat.newOwn {o : HO} {c : Cell} (S : Sat K w Γ O P σ H B) (h : H p = none) (hc : CellAt K B (upd H p o) p c) : Sat K w Γ ((p, c) :: O) P σ (upd H p o) B := by
  refine S.grow (Same.refl _) (S.bh.trans (same_upd h)) (S.kh.trans (same_upd h)) (fun q hq => .inl hq) (fun q c' hq => ?_) ?_
  · rcases List.mem_cons.mp hq with e | hq
    · cases e
      exact ⟨S.bfree h, S.kfree h, hc⟩
    · obtain ⟨h1, h2, h3⟩ := S.ow q c' hq
      have z : q ≠ p := fun z => h3.there (by rw [z]; exact h)
      exact ⟨h1, h2, h3.mono (Same.refl _) (upd_ne z)⟩
  · rw [List.map_cons, List.nodup_cons]
    refine ⟨fun hm => ?_, S.nd⟩
    obtain ⟨⟨q, c'⟩, hq, e⟩ := List.mem_map.mp hm
    have e' : q = p := e
    exact (S.ow q c' hq).2.2.there (by rw [e']; exact h)
/-- an owned thing is written: it stands first in O -/
theorem Sat.write {o : HO} {c c' : Cell} (S : Sat K w Γ ((p, c) :: O) P σ H B) (hc : CellAt K B (upd H p o) p c') : Sat K w Γ ((p, c') :: O) P σ (upd H p o) B := by
  obtain ⟨g1, g2, g3⟩ := S.ow p c List.mem_cons_self
  have nd := S.nd
  rw [List.map_cons, List.nodup_cons] at nd
  have ne : ∀ q u, (q, u) ∈ O → q ≠ p := fun q u hq z => nd.1 (List.mem_map.mpr ⟨(q, u), hq, z⟩)
  refine S.grow (Same.refl _) (fun q u e => ?_) (fun q u e => ?_) (fun q hq => .inl hq) (fun q c' hq => ?_) (by rw [List.map_cons, List.nodup_cons]; exact nd)
  · rw [upd_ne (ne_of_none e g1)]; exact S.bh _ _ e
  · rw [upd_ne (ne_of_none e g2)]; exact S.kh _ _ e
  · rcases List.mem_cons.mp hq with e | hq
    · cases e
      exact ⟨g1, g2, hc⟩
    · obtain ⟨h1, h2, h3⟩ := S.ow q c' (List.mem_cons_of_mem _ hq)
      exact ⟨h1, h2, h3.mono (Same.refl _) (upd_ne (ne q c' hq))⟩
/-- an owned list is data from now on -/
theorem Sat.freeze {ds : List Dt} (S : Sat K w Γ ((p, .lst ds) :: O) P σ H B) : ∃ vs, Sat K w Γ O P σ H (upd B p (.lst vs)) ∧ Den K (upd B p (.lst vs)) (.lst ds) (.ref p) := by
  obtain ⟨g1, g2, vs, g3, g4⟩ := S.ow p _ List.mem_cons_self
  have nd := S.nd
  rw [List.map_cons, List.nodup_cons] at nd
  have ne : ∀ q u, (q, u) ∈ O → q ≠ p := fun q u hq z => nd.1 (List.mem_map.mpr ⟨(q, u), hq, z⟩)
  refine ⟨vs, S.grow (same_upd g1) (fun q u e => ?_) S.kh (fun q hq => ?_) (fun q c hq => ?_) nd.2, .lst upd_same (g4.mono (same_upd g1))⟩
  · by_cases z : q = p
    · subst z; rw [upd_same] at e; rw [g3]; exact e
    · rw [upd_ne z] at e; exact S.bh _ _ e
  · rcases upd_some hq with rfl | z
    · exact .inr g2
    · exact .inl z
  · obtain ⟨h1, h2, h3⟩ := S.ow q c (List.mem_cons_of_mem _ hq)
    exact ⟨by rw [upd_ne (ne q c hq)]; exact h1, h2, h3.mono (same_upd g1) rfl⟩
theorem Sat.drop {c : Cell} (S : Sat K w Γ ((p, c) :: O) P σ H B) : Sat K w Γ O P σ H B :=
  ⟨S.b0, S.bh, S.kh, S.fr, S.len, S.sl, fun q c hq => S.ow q c (List.mem_cons_of_mem _ hq), by have := S.nd; rw [List.map_cons, List.nodup_cons] at this; exact this.2, S.pi⟩
end
/-! ### the judgements -/
def EW (K : PySem.W.Frag) (t : TE) (Γ : Gm) (O : Own) (Post : Dt → Own → Prop) : Prop := ∀ (w : En) P σ H B, Sat K w Γ O P σ H B → ∀ Q : VK, (∀ d v O' H' B', Post d O' → Sat K w Γ O' ((d, v) :: P) σ H' B' → Q v H') → t σ H Q
def TW (K : PySem.W.Frag) (t : TT) (Γ : Gm) (O : Own) (Post : Bool → Own → Prop) : Prop := ∀ (w : En) P σ H B, Sat K w Γ O P σ H B → ∀ Q : Bool → Hp → Prop, (∀ b O' H' B', Post b O' → Sat K w Γ O' P σ H' B' → Q b H') → t σ H Q
def AW (K : PySem.W.Frag) (t : TA) (Γ : Gm) (O : Own) (Post : List Dt → Own → Prop) : Prop := ∀ (w : En) P σ H B, Sat K w Γ O P σ H B → ∀ Q : List V → Hp → Prop, (∀ ds vs O' H' B', Post ds O' → DenL K B' ds vs → Sat K w Γ O' P σ H' B' → Q vs H') → t σ H Q
def PW (K : PySem.W.Frag) (t : TO) (Γ : Gm) (O : Own) (Post : Option Int → Own → Prop) : Prop := ∀ (w : En) P σ H B, Sat K w Γ O P σ H B → ∀ Q : Option Int → Hp → Prop, (∀ o O' H' B', Post o O' → Sat K w Γ O' P σ H' B' → Q o H') → t σ H Q
/-- two values, one value, a list of values worked on -/
def RW (K : PySem.W.Frag) (r : R2) (d e : Dt) (O : Own) (Post : Dt → Own → Prop) : Prop := ∀ (w : En) Γ P σ H B x y, Sat K w Γ O P σ H B → Den K B d x → Den K B e y → ∀ Q : VK, (∀ d v O' H' B', Post d O' → Sat K w Γ O' ((d, v) :: P) σ H' B' → Q v H') → r x y H Q
def UW (K : PySem.W.Frag) (r : V → Hp → VK → Prop) (d : Dt) (O : Own) (Post : Dt → Own → Prop) : Prop := ∀ (w : En) Γ P σ H B x, Sat K w Γ O P σ H B → Den K B d x → ∀ Q : VK, (∀ d v O' H' B', Post d O' → Sat K w Γ O' ((d, v) :: P) σ H' B' → Q v H') → r x H Q
def CW (K : PySem.W.Frag) (r : List V → Hp → VK → Prop) (ds : List Dt) (O : Own) (Post : Dt → Own → Prop) : Prop := ∀ (w : En) Γ P σ H B xs, Sat K w Γ O P σ H B → DenL K B ds xs → ∀ Q : VK, (∀ d v O' H' B', Post d O' → Sat K w Γ O' ((d, v) :: P) σ H' B' → Q v H') → r xs H Q
def GW (K : PySem.W.Frag) (g : TG) (J : Nat → Prop) (d : Dt) (Γ : Gm) (O : Own) (Post : Gm → Own → Prop) : Prop := ∀ (w : En) P σ H B v, Sat K w Γ O P σ H B → Den K B d v → ∀ Q : L2.St → Hp → Prop,
  (∀ Γ' O' σ' H' B', Post Γ' O' → Sat K w Γ' O' P σ' H' B' → (∀ i : Nat, ¬ J i → σ'[i]? = σ[i]?) → σ'.length = σ.length → Q σ' H') → g v σ H Q
def GsW (K : PySem.W.Frag) (g : TGs) (J : Nat → Prop) (ds : List Dt) (Γ : Gm) (O : Own) (Post : Gm → Own → Prop) : Prop := ∀ (w : En) P σ H B vs, Sat K w Γ O P σ H B → DenL K B ds vs → ∀ Q : L2.St → Hp → Prop,
  (∀ Γ' O' σ' H' B', Post Γ' O' → Sat K w Γ' O' P σ' H' B' → (∀ i : Nat, ¬ J i → σ'[i]? = σ[i]?) → σ'.length = σ.length → Q σ' H') → g vs σ H Q
structure De where
  nx : Gm → Own → Prop
  rt : Dt → Own → Prop
  bk : Gm → Own → Prop := fun _ _ => False
  ct : Gm → Own → Prop := fun _ _ => False
structure Meets (K : PySem.W.Frag) (w : En) (P : List (Dt × V)) (E : De) (D : Ends) : Prop where
  nx : ∀ Γ' O' σ' H' B', E.nx Γ' O' → Sat K w Γ' O' P σ' H' B' → D.nx σ' H'
  rt : ∀ d v Γ' O' σ' H' B', E.rt d O' → Sat K w Γ' O' ((d, v) :: P) σ' H' B' → D.rt v H'
  bk : ∀ Γ' O' σ' H' B', E.bk Γ' O' → Sat K w Γ' O' P σ' H' B' → D.bk σ' H'
  ct : ∀ Γ' O' σ' H' B', E.ct Γ' O' → Sat K w Γ' O' P σ' H' B' → D.ct σ' H'
def SW (K : PySem.W.Frag) (t : TS) (Γ : Gm) (O : Own) (E : De) : Prop := ∀ (w : En) P σ H B, Sat K w Γ O P σ H B → ∀ D : Ends, Meets K w P E D → t D σ H
section
variable {K : PySem.W.Frag} {w : En} {Γ : Gm} {O : Own} {Post Post' : Dt → Own → Prop} {t ta tb te : TE} {r : R2} {d e : Dt}
theorem EW.imp (h : EW K t Γ O Post) (k : ∀ d O, Post d O → Post' d O) : EW K t Γ O Post' := fun w P σ H B S Q q => h w P σ H B S Q fun d v O' H' B' p S' => q d v O' H' B' (k _ _ p) S'
theorem ew_perm {O' : Own} (hp : O.Perm O') (h : EW K t Γ O' Post) : EW K t Γ O Post := fun w P σ H B S => h w P σ H B (S.perm hp)
/-! ### expressions -/
theorem ew_var {i : Nat} (h : Γ[i]? = some (some d)) (k : Post d O) : EW K (tVar i) Γ O Post := fun w P σ H B S Q q => by
  obtain ⟨v, h1, h2⟩ := S.sl i d h
  exact ⟨v, h1, q d v O H B k (S.pin h2)⟩
theorem ew_int {i : Int} (k : Post (.int i) O) : EW K (tC (.int i)) Γ O Post := fun w P σ H B S Q q => q _ _ O H B k (S.pin (.int i))
theorem ew_str {i : Str} (k : Post (.str i) O) : EW K (tC (.str i)) Γ O Post := fun w P σ H B S Q q => q _ _ O H B k (S.pin (.str i))
theorem ew_bl {i : Bool} (k : Post (.bl i) O) : EW K (tC (.bl i)) Γ O Post := fun w P σ H B S Q q => q _ _ O H B k (S.pin (.bl i))
theorem ew_non (k : Post .non O) : EW K (tC .non) Γ O Post := fun w P σ H B S Q q => q _ _ O H B k (S.pin .non)
theorem ew_raw {v : V} (k : Post (.raw v) O) : EW K (tC v) Γ O Post := fun w P σ H B S Q q => q _ _ O H B k (S.pin (.raw v))
theorem ew_op (h : EW K ta Γ O fun d O1 => EW K tb Γ O1 fun e O2 => RW K r d e O2 Post) : EW K (tOp r ta tb) Γ O Post := fun w P σ H B S Q q =>
  h w P σ H B S _ fun d x O1 H1 B1 p1 S1 => p1 w _ σ H1 B1 S1 _ fun e y O2 H2 B2 p2 S2 => p2 w Γ _ σ H2 B2 x y S2 (S2.pi d x (by simp)) (S2.pi e y (by simp)) Q fun d' v O' H' B' p' S' => q d' v O' H' B' p' (S'.pins (by
    intro z hz
    rcases List.mem_cons.mp hz with rfl | hz
    · simp
    · simp [hz]))
theorem ew_un {r : V → Hp → VK → Prop} (h : EW K ta Γ O fun d O1 => UW K r d O1 Post) : EW K (tUn r ta) Γ O Post := fun w P σ H B S Q q =>
  h w P σ H B S _ fun d x O1 H1 B1 p1 S1 => p1 w Γ _ σ H1 B1 x S1 (S1.pi d x (by simp)) Q fun d' v O' H' B' p' S' => q d' v O' H' B' p' (S'.pins (by
    intro z hz
    rcases List.mem_cons.mp hz with rfl | hz
    · simp
    · simp [hz]))
/-! two ints -/
theorem rw_I0 {g : Int → Int → V} {g' : Int → Int → Dt} (hg : ∀ i j K B, Den K B (g' i j) (g i j)) {i j : Int} (k : Post (g' i j) O) : RW K (rI0 g) (.int i) (.int j) O Post := fun w Γ P σ H B x y S hx hy Q q => by
  cases hx
  cases hy
  exact ⟨i, j, rfl, rfl, q _ _ O H B k (S.pin (hg i j _ _))⟩
theorem rw_I {C : Int → Int → Prop} {g : Int → Int → V} {g' : Int → Int → Dt} (hg : ∀ i j K B, Den K B (g' i j) (g i j)) {i j : Int} (hc : C i j) (k : Post (g' i j) O) : RW K (rI C g) (.int i) (.int j) O Post := fun w Γ P σ H B x y S hx hy Q q => by
  cases hx
  cases hy
  exact ⟨i, j, rfl, rfl, hc, q _ _ O H B k (S.pin (hg i j _ _))⟩
theorem rw_add {i j : Int} (k : Post (.int (i + j)) O) : RW K (rI0 fun i j => .int (i + j)) (.int i) (.int j) O Post := rw_I0 (g' := fun i j => .int (i + j)) (fun i j _ _ => .int _) k
theorem rw_sub {i j : Int} (k : Post (.int (i - j)) O) : RW K (rI0 fun i j => .int (i - j)) (.int i) (.int j) O Post := rw_I0 (g' := fun i j => .int (i - j)) (fun i j _ _ => .int _) k
theorem rw_mul {i j : Int} (hc : CMul i j) (k : Post (.int (i * j)) O) : RW K (rI CMul fun i j => .int (i * j)) (.int i) (.int j) O Post := rw_I (g' := fun i j => .int (i * j)) (fun i j _ _ => .int _) hc k
theorem rw_mod {i j : Int} (hc : 0 < j) (k : Post (.int (i % j)) O) : RW K (rI (fun _ j => 0 < j) fun i j => .int (i % j)) (.int i) (.int j) O Post := rw_I (g' := fun i j => .int (i % j)) (fun i j _ _ => .int _) hc k
theorem rw_fdiv {i j : Int} (hc : CDiv i j) (k : Post (.int (i / j)) O) : RW K (rI CDiv fun i j => .int (i / j)) (.int i) (.int j) O Post := rw_I (g' := fun i j => .int (i / j)) (fun i j _ _ => .int _) hc k
theorem rw_pow {i j : Int} (hc : CPow i j) (k : Post (.int (i ^ j.toNat)) O) : RW K (rI CPow fun i j => .int (i ^ j.toNat)) (.int i) (.int j) O Post := rw_I (g' := fun i j => .int (i ^ j.toNat)) (fun i j _ _ => .int _) hc k
theorem rw_lt {i j : Int} (k : Post (.bl (decide (i < j))) O) : RW K (rI0 fun i j => .bl (decide (i < j))) (.int i) (.int j) O Post := rw_I0 (g' := fun i j => .bl (decide (i < j))) (fun i j _ _ => .bl _) k
theorem rw_le {i j : Int} (k : Post (.bl (decide (i ≤ j))) O) : RW K (rI0 fun i j => .bl (decide (i ≤ j))) (.int i) (.int j) O Post := rw_I0 (g' := fun i j => .bl (decide (i ≤ j))) (fun i j _ _ => .bl _) k
theorem rw_gt {i j : Int} (k : Post (.bl (decide (j < i))) O) : RW K (rI0 fun i j => .bl (decide (j < i))) (.int i) (.int j) O Post := rw_I0 (g' := fun i j => .bl (decide (j < i))) (fun i j _ _ => .bl _) k
theorem rw_ge {i j : Int} (k : Post (.bl (decide (j ≤ i))) O) : RW K (rI0 fun i j => .bl (decide (j ≤ i))) (.int i) (.int j) O Post := rw_I0 (g' := fun i j => .bl (decide (j ≤ i))) (fun i j _ _ => .bl _) k
theorem uw_neg {i : Int} (k : Post (.int (-i)) O) : UW K (rU fun i => .int (-i)) (.int i) O Post := fun w Γ P σ H B x S hx Q q => by
  cases hx
  exact ⟨i, rfl, q _ _ O H B k (S.pin (.int _))⟩
/-! what may be looked at: data, or an owned list -/
inductive View (O : Own) : Dt → Dt → Prop
  | same (d : Dt) : View O d d
  | own {p : Addr} {ds : List Dt} : (p, .lst ds) ∈ O → View O (.raw (.ref p)) (.lst ds)
theorem View.den {P : List (Dt × V)} {σ : L2.St} {H B : Hp} {v : V} (h : View O d e) (S : Sat K w Γ O P σ H B) (hd : Den K B d v) : Den K H e v := by
  cases h with
  | same => exact hd.mono S.bh
  | own hm =>
    cases hd
    obtain ⟨_, _, vs, h3, h4⟩ := S.ow _ _ hm
    exact .lst h3 (h4.mono S.bh)
/-- .. of which the items are data -/
theorem View.list {P : List (Dt × V)} {σ : L2.St} {H B : Hp} {v : V} {ds : List Dt} (h : View O d (.lst ds)) (S : Sat K w Γ O P σ H B) (hd : Den K B d v) : ∃ a vs, v = .ref a ∧ H a = some (.lst vs) ∧ DenL K B ds vs := by
  cases h with
  | same =>
    cases hd with
    | lst h1 h2 => exact ⟨_, _, rfl, S.bh _ _ h1, h2⟩
  | own hm =>
    cases hd
    obtain ⟨_, _, vs, h3, h4⟩ := S.ow _ _ hm
    exact ⟨_, _, rfl, h3, h4⟩
theorem rw_eq {d' e' : Dt} (v1 : View O d d') (v2 : View O e e') (h1 : Dt.ok 60 d' = true) (h2 : Dt.ok 60 e' = true) (k : Post (.bl (eqD d' e')) O) : RW K (rEqG K) d e O Post := fun w Γ P σ H B x y S hx hy Q q =>
  ⟨d', e', v1.den S hx, v2.den S hy, h1, h2, q _ _ O H B k (S.pin (.bl _))⟩
theorem rw_ne {d' e' : Dt} (v1 : View O d d') (v2 : View O e e') (h1 : Dt.ok 60 d' = true) (h2 : Dt.ok 60 e' = true) (k : Post (.bl (!eqD d' e')) O) : RW K (rNeG K) d e O Post := fun w Γ P σ H B x y S hx hy Q q =>
  ⟨d', e', v1.den S hx, v2.den S hy, h1, h2, q _ _ O H B k (S.pin (.bl _))⟩
theorem rw_inL {es : List Dt} (v2 : View O e (.lst es)) (h1 : Dt.ok 30 d = true) (h2 : Dt.okL 30 es = true) (k : Post (.bl (es.any fun e => eqD e d)) O) : RW K (rInG K false) d e O Post := fun w Γ P σ H B x y S hx hy Q q =>
  ⟨d, es, _, hx.mono S.bh, .inl rfl, v2.den S hy, h1, h2, q _ _ O H B k (S.pin (.bl _))⟩
theorem rw_niL {es : List Dt} (v2 : View O e (.lst es)) (h1 : Dt.ok 30 d = true) (h2 : Dt.okL 30 es = true) (k : Post (.bl (!es.any fun e => eqD e d)) O) : RW K (rInG K true) d e O Post := fun w Γ P σ H B x y S hx hy Q q =>
  ⟨d, es, _, hx.mono S.bh, .inl rfl, v2.den S hy, h1, h2, q _ _ O H B k (S.pin (.bl _))⟩
theorem rw_inT {es : List Dt} (h1 : Dt.ok 30 d = true) (h2 : Dt.okL 30 es = true) (k : Post (.bl (es.any fun e => eqD e d)) O) : RW K (rInG K false) d (.tup es) O Post := fun w Γ P σ H B x y S hx hy Q q =>
  ⟨d, es, _, hx.mono S.bh, .inr rfl, hy.mono S.bh, h1, h2, q _ _ O H B k (S.pin (.bl _))⟩
theorem rw_niT {es : List Dt} (h1 : Dt.ok 30 d = true) (h2 : Dt.okL 30 es = true) (k : Post (.bl (!es.any fun e => eqD e d)) O) : RW K (rInG K true) d (.tup es) O Post := fun w Γ P σ H B x y S hx hy Q q =>
  ⟨d, es, _, hx.mono S.bh, .inr rfl, hy.mono S.bh, h1, h2, q _ _ O H B k (S.pin (.bl _))⟩
/-! items -/
theorem atI_den {K : PySem.W.Frag} {B : Hp} {ds : List Dt} {vs : List V} {i : Int} (h : DenL K B ds vs) (ha : atI ds i = some d) : ∃ v, atI vs i = some v ∧ Den K B d v := by
  unfold atI at ha ⊢
  rw [← h.length]
  cases hx : ixN ds.length i with
  | none => rw [hx] at ha; cases ha
  | some j =>
    rw [hx] at ha
    obtain ⟨v, h1, h2⟩ := h.get (i := j) (d := d) ha
    exact ⟨v, h1, h2⟩
theorem rw_ixT {es : List Dt} {i : Int} (ha : atI es i = some d) (k : Post d O) : RW K (rIx K) (.tup es) (.int i) O Post := fun w Γ P σ H B x y S hx hy Q q => by
  cases hy
  cases hx with
  | tup h1 h2 =>
    obtain ⟨v, a1, a2⟩ := atI_den h2 ha
    exact .inr (.inl ⟨_, _, i, v, rfl, rfl, sqT_mono S.bh h1, a1, q _ _ O H B k (S.pin a2)⟩)
theorem rw_ixL {es : List Dt} {c : Dt} {i : Int} (v1 : View O c (.lst es)) (ha : atI es i = some d) (k : Post d O) : RW K (rIx K) c (.int i) O Post := fun w Γ P σ H B x y S hx hy Q q => by
  cases hy
  obtain ⟨a, vs, rfl, h1, h2⟩ := v1.list S hx
  obtain ⟨v, a1, a2⟩ := atI_den h2 ha
  exact .inl ⟨_, _, i, v, rfl, rfl, SqL.of h1, a1, q _ _ O H B k (S.pin a2)⟩
/-! t + u -/
theorem rw_catT {ds es : List Dt} (hz : ds.length + es.length ≤ sizeLine) (k : Post (.tup (ds ++ es)) O) : RW K (rCatA K) (.tup ds) (.tup es) O Post := fun w Γ P σ H B x y S hx hy Q q => by
  cases hx with
  | tup h1 h2 =>
    cases hy with
    | tup g1 g2 =>
      refine ⟨_, _, _, _, rfl, rfl, sqT_mono S.bh h1, sqT_mono S.bh g1, by rw [← h2.length, ← g2.length]; exact hz, fun e => ?_, fun _ e => ?_, fun _ _ p hp => ?_⟩
      · subst e
        cases h2
        exact q _ _ O H B k (S.pin (.tup g1 g2))
      · subst e
        cases g2
        rw [List.append_nil] at k
        exact q _ _ O H B k (S.pin (.tup h1 h2))
      · exact q _ _ O _ _ k ((S.new hp).pin (.tup (SqT.of upd_same) ((h2.append g2).mono (same_upd (S.bfree hp)))))
theorem rw_catL {c e : Dt} {ds es : List Dt} (v1 : View O c (.lst ds)) (v2 : View O e (.lst es)) (hz : ds.length + es.length ≤ sizeLine) (k : Post (.lst (ds ++ es)) O) : RW K rCat c e O Post := fun w Γ P σ H B x y S hx hy Q q => by
  obtain ⟨a, vs, rfl, h1, h2⟩ := v1.list S hx
  obtain ⟨b, us, rfl, g1, g2⟩ := v2.list S hy
  exact ⟨_, _, _, _, rfl, rfl, h1, g1, by rw [← h2.length, ← g2.length]; exact hz, fun p hp => q _ _ O _ _ k ((S.new hp).pin (.lst upd_same ((h2.append g2).mono (same_upd (S.bfree hp)))))⟩
theorem rw_catS {i j : Str} (hz : i.length + j.length ≤ sizeLine) (k : Post (.str (i ++ j)) O) : RW K (fun x y H Q => ∃ i j, x = .str i ∧ y = .str j ∧ i.length + j.length ≤ sizeLine ∧ Q (.str (i ++ j)) H) (.str i) (.str j) O Post := fun w Γ P σ H B x y S hx hy Q q => by
  cases hx
  cases hy
  exact ⟨i, j, rfl, rfl, hz, q _ _ O H B k (S.pin (.str _))⟩
/-! is None -/
def isNon : Dt → Bool
  | .non => true
  | _ => false
theorem isNon_den {K : PySem.W.Frag} {B : Hp} {d : Dt} {x : V} (hx : Den K B d x) (hr : ∀ v, d ≠ .raw v) : decide (x = V.non) = isNon d := by
  cases hx <;> first | rfl | exact absurd rfl (hr _)
theorem rw_isN {d : Dt} (hr : ∀ v, d ≠ .raw v) (k : Post (.bl (isNon d)) O) : RW K (fun x y H Q => y = V.non ∧ Q (.bl (decide (x = V.non))) H) d .non O Post := fun w Γ P σ H B x y S hx hy Q q => by
  cases hy
  refine ⟨rfl, ?_⟩
  rw [isNon_den hx hr]
  exact q _ _ O H B k (S.pin (.bl _))
theorem rw_notN {d : Dt} (hr : ∀ v, d ≠ .raw v) (k : Post (.bl (!isNon d)) O) : RW K (fun x y H Q => y = V.non ∧ Q (.bl (!decide (x = V.non))) H) d .non O Post := fun w Γ P σ H B x y S hx hy Q q => by
  cases hy
  refine ⟨rfl, ?_⟩
  rw [isNon_den hx hr]
  exact q _ _ O H B k (S.pin (.bl _))
/-! displays -/
theorem ew_tup {ta : TA} (h : AW K ta Γ O fun ds O1 => ds.length ≤ sizeLine ∧ Post (.tup ds) O1) : EW K (tTup ta) Γ O Post := fun w P σ H B S Q q =>
  h w P σ H B S _ fun ds vs O1 H1 B1 ⟨p0, p1⟩ hd S1 => ⟨by rw [← hd.length]; exact p0, fun p hp => q _ _ O1 _ _ p1 ((S1.new hp).pin (.tup (SqT.of upd_same) (hd.mono (same_upd (S1.bfree hp)))))⟩
theorem ew_lst {ta : TA} (h : AW K ta Γ O fun ds O1 => ds.length ≤ sizeLine ∧ Post (.lst ds) O1) : EW K (tLst ta) Γ O Post := fun w P σ H B S Q q =>
  h w P σ H B S _ fun ds vs O1 H1 B1 ⟨p0, p1⟩ hd S1 => ⟨by rw [← hd.length]; exact p0, fun p hp => q _ _ O1 _ _ p1 ((S1.new hp).pin (.lst upd_same (hd.mono (same_upd (S1.bfree hp)))))⟩
/-- a new list that is owned -/
theorem ew_lstO {ta : TA} (h : AW K ta Γ O fun ds O1 => ds.length ≤ sizeLine ∧ ∀ p, Post (.raw (.ref p)) ((p, .lst ds) :: O1)) : EW K (tLst ta) Γ O Post := fun w P σ H B S Q q =>
  h w P σ H B S _ fun ds vs O1 H1 B1 ⟨p0, p1⟩ hd S1 => ⟨by rw [← hd.length]; exact p0, fun p hp => q _ _ _ _ _ (p1 p) ((S1.newOwn (c := .lst ds) hp ⟨vs, upd_same, hd⟩).pin (.raw _))⟩
theorem aw_nil {Post : List Dt → Own → Prop} (k : Post [] O) : AW K tNil Γ O Post := fun w P σ H B S Q q => q [] [] O H B k .nil S
theorem aw_cons {tr : TA} {Post : List Dt → Own → Prop} (h : EW K ta Γ O fun d O1 => AW K tr Γ O1 fun ds O2 => Post (d :: ds) O2) : AW K (tCons ta tr) Γ O Post := fun w P σ H B S Q q =>
  h w P σ H B S _ fun d x O1 H1 B1 p1 S1 => p1 w _ σ H1 B1 S1 _ fun ds vs O2 H2 B2 p2 hd S2 => q _ _ O2 H2 B2 p2 (.cons (S2.pi d x (by simp)) hd) (S2.pins fun z hz => by simp [hz])
/-- what is owned becomes data -/
theorem ew_freeze {p : Addr} {ds : List Dt} (h : EW K t Γ O fun d O1 => d = .raw (.ref p) ∧ ∃ O2, O1.Perm ((p, .lst ds) :: O2) ∧ Post (.lst ds) O2) : EW K t Γ O Post := fun w P σ H B S Q q =>
  h w P σ H B S Q fun d v O1 H1 B1 ⟨e, O2, hp, p1⟩ S1 => by
    subst e
    obtain ⟨vs, S2, hd⟩ := (S1.perm hp).freeze
    have hv : v = .ref p := by
      have := S1.pi (.raw (.ref p)) v (by simp)
      cases this
      rfl
    subst hv
    exact q _ _ O2 _ _ p1 ((S2.pins fun z hz => by simp [hz]).pin hd)
/-- ew_thaw's reverse -/
theorem ew_frz (h : EW K t Γ O fun d O1 => ∃ (p : Addr) (ds : List Dt) (O2 : Own), d = .raw (.ref p) ∧ O1.Perm ((p, .lst ds) :: O2) ∧ Post (.lst ds) O2) : EW K t Γ O Post := fun w P σ H B S Q q =>
  h w P σ H B S Q fun d v O1 H1 B1 ⟨p, ds, O2, e, hp, p1⟩ S1 => by
    subst e
    obtain ⟨vs, S2, hd⟩ := (S1.perm hp).freeze
    have hv : v = .ref p := by
      have := S1.pi (.raw (.ref p)) v (by simp)
      cases this
      rfl
    subst hv
    exact q _ _ O2 _ _ p1 ((S2.pins fun z hz => by simp [hz]).pin hd)
/-! slices -/
def cutD (xs : List Dt) (lo hi : Option Int) : List Dt := (xs.drop (HT.sIx xs.length 0 lo)).take (HT.sIx xs.length xs.length hi - HT.sIx xs.length 0 lo)
theorem cutD_den {K : PySem.W.Frag} {B : Hp} {ds : List Dt} {vs : List V} {lo hi : Option Int} (h : DenL K B ds vs) : DenL K B (cutD ds lo hi) (cutV vs lo hi) := by
  unfold cutD cutV
  rw [h.length]
  exact (h.drop _).take _
theorem pw_none {Post : Option Int → Own → Prop} (k : Post none O) : PW K tNoPart Γ O Post := fun w P σ H B S Q q => q none O H B k S
theorem pw_some {Post : Option Int → Own → Prop} (h : EW K ta Γ O fun d O1 => ∃ i, d = .int i ∧ Post (some i) O1) : PW K (tPart ta) Γ O Post := fun w P σ H B S Q q =>
  h w P σ H B S _ fun d v O1 H1 B1 ⟨i, e, p⟩ S1 => by
    subst e
    have := S1.pi _ v List.mem_cons_self
    cases this
    exact ⟨i, rfl, q _ O1 H1 B1 p (S1.pins fun z hz => by simp [hz])⟩
theorem ew_slT {tl th : TO} (h : EW K ta Γ O fun d O1 => PW K tl Γ O1 fun lo O2 => PW K th Γ O2 fun hi O3 => ∃ es, d = .tup es ∧ Post (.tup (cutD es lo hi)) O3) : EW K (tSl (rSlA K) ta tl th) Γ O Post := fun w P σ H B S Q q =>
  h w P σ H B S _ fun d x O1 H1 B1 p1 S1 => p1 w _ σ H1 B1 S1 _ fun lo O2 H2 B2 p2 S2 => p2 w _ σ H2 B2 S2 _ fun hi O3 H3 B3 ⟨es, e, p3⟩ S3 => by
    subst e
    have hx := S3.pi _ x List.mem_cons_self
    have S3' := S3.pins (P' := P) fun z hz => by simp [hz]
    cases hx with
    | tup h1 h2 =>
      refine ⟨_, _, rfl, sqT_mono S3.bh h1, fun hw => ?_, fun _ p hp => q _ _ O3 _ _ p3 ((S3'.new hp).pin (.tup (SqT.of upd_same) ((cutD_den h2).mono (same_upd (S3.bfree hp)))))⟩
      have e2 : cutD es lo hi = es := by
        have hl := h2.length
        unfold cutD
        rw [hl, hw.1, hw.2, Nat.sub_zero, List.drop_zero, ← hl, List.take_length]
      rw [e2] at p3
      exact q _ _ O3 _ _ p3 (S3'.pin (.tup h1 h2))
theorem ew_slL {tl th : TO} (h : EW K ta Γ O fun d O1 => PW K tl Γ O1 fun lo O2 => PW K th Γ O2 fun hi O3 => ∃ es, View O3 d (.lst es) ∧ Post (.lst (cutD es lo hi)) O3) : EW K (tSl (rSlL K) ta tl th) Γ O Post := fun w P σ H B S Q q =>
  h w P σ H B S _ fun d x O1 H1 B1 p1 S1 => p1 w _ σ H1 B1 S1 _ fun lo O2 H2 B2 p2 S2 => p2 w _ σ H2 B2 S2 _ fun hi O3 H3 B3 ⟨es, vw, p3⟩ S3 => by
    have hx := S3.pi _ x List.mem_cons_self
    have S3' := S3.pins (P' := P) fun z hz => by simp [hz]
    obtain ⟨a, vs, rfl, h1, h2⟩ := vw.list S3 hx
    exact ⟨_, _, rfl, SqL.of h1, fun p hp => q _ _ O3 _ _ p3 ((S3'.new hp).pin (.lst upd_same ((cutD_den h2).mono (same_upd (S3.bfree hp)))))⟩
/-! tests -/
section
variable {PostT : Bool → Own → Prop} {tt tu : TT}
theorem tw_test (h : EW K t Γ O fun d O1 => ∃ b, d = .bl b ∧ PostT b O1) : TW K (tTest t) Γ O PostT := fun w P σ H B S Q q => h w P σ H B S _ fun d v O1 H1 B1 ⟨b, e, p⟩ S1 => by
  subst e
  have := S1.pi _ v List.mem_cons_self
  cases this
  exact ⟨b, rfl, q _ O1 H1 B1 p (S1.pins fun z hz => by simp [hz])⟩
theorem tw_B (h : EW K t Γ O fun d O1 => ∃ b, d = .bl b ∧ PostT b O1) : TW K (tB t) Γ O PostT := tw_test h
theorem tw_and (h : TW K tt Γ O fun b O1 => (b = true → TW K tu Γ O1 PostT) ∧ (b = false → PostT false O1)) : TW K (tAnd tt tu) Γ O PostT := fun w P σ H B S Q q => h w P σ H B S _ fun b O1 H1 B1 p S1 => by
  cases b with
  | true => exact iteT (p.1 rfl w P σ H1 B1 S1 Q q)
  | false => exact iteF (q _ O1 H1 B1 (p.2 rfl) S1)
theorem tw_or (h : TW K tt Γ O fun b O1 => (b = false → TW K tu Γ O1 PostT) ∧ (b = true → PostT true O1)) : TW K (tOr tt tu) Γ O PostT := fun w P σ H B S Q q => h w P σ H B S _ fun b O1 H1 B1 p S1 => by
  cases b with
  | true => exact iteT (q _ O1 H1 B1 (p.2 rfl) S1)
  | false => exact iteF (p.1 rfl w P σ H1 B1 S1 Q q)
theorem tw_not (h : TW K tt Γ O fun b O1 => PostT (!b) O1) : TW K (tNot tt) Γ O PostT := fun w P σ H B S Q q => h w P σ H B S _ fun b O1 H1 B1 p S1 => q _ O1 H1 B1 p S1
theorem ew_andV (h : EW K ta Γ O fun d O1 => ∃ b, d = .bl b ∧ (b = true → EW K tb Γ O1 Post) ∧ (b = false → Post (.bl false) O1)) : EW K (tAndV ta tb) Γ O Post := fun w P σ H B S Q q => h w P σ H B S _ fun d v O1 H1 B1 ⟨b, e, p⟩ S1 => by
  subst e
  have := S1.pi _ v List.mem_cons_self
  cases this
  have S2 := S1.pins (P' := P) fun z hz => by simp [hz]
  refine ⟨b, rfl, ?_⟩
  cases b with
  | true => exact iteT (p.1 rfl w P σ H1 B1 S2 Q q)
  | false => exact iteF (q _ _ O1 H1 B1 (p.2 rfl) (S2.pin (.bl false)))
theorem ew_orV (h : EW K ta Γ O fun d O1 => ∃ b, d = .bl b ∧ (b = false → EW K tb Γ O1 Post) ∧ (b = true → Post (.bl true) O1)) : EW K (tOrV ta tb) Γ O Post := fun w P σ H B S Q q => h w P σ H B S _ fun d v O1 H1 B1 ⟨b, e, p⟩ S1 => by
  subst e
  have := S1.pi _ v List.mem_cons_self
  cases this
  have S2 := S1.pins (P' := P) fun z hz => by simp [hz]
  refine ⟨b, rfl, ?_⟩
  cases b with
  | true => exact iteT (q _ _ O1 H1 B1 (p.2 rfl) (S2.pin (.bl true)))
  | false => exact iteF (p.1 rfl w P σ H1 B1 S2 Q q)
theorem ew_notV (h : EW K ta Γ O fun d O1 => ∃ b, d = .bl b ∧ Post (.bl (!b)) O1) : EW K (tNotV ta) Γ O Post := fun w P σ H B S Q q => h w P σ H B S _ fun d v O1 H1 B1 ⟨b, e, p⟩ S1 => by
  subst e
  have := S1.pi _ v List.mem_cons_self
  cases this
  exact ⟨b, rfl, q _ _ O1 H1 B1 p ((S1.pins (P' := P) fun z hz => by simp [hz]).pin (.bl _))⟩
theorem ew_if (h : TW K tt Γ O fun b O1 => (b = true → EW K ta Γ O1 Post) ∧ (b = false → EW K tb Γ O1 Post)) : EW K (tIf tt ta tb) Γ O Post := fun w P σ H B S Q q => h w P σ H B S _ fun b O1 H1 B1 p S1 => by
  cases b with
  | true => exact iteT (p.1 rfl w P σ H1 B1 S1 Q q)
  | false => exact iteF (p.2 rfl w P σ H1 B1 S1 Q q)
/-- a < b < c -/
theorem ew_chain {r r' : R2} {tc : TE} (h : EW K ta Γ O fun d O1 => EW K tb Γ O1 fun e O2 => RW K r d e O2 fun z O3 => ∃ k, z = .bl k ∧ (k = true → EW K tc Γ O3 fun f O4 => RW K r' e f O4 Post) ∧ (k = false → Post (.bl false) O3)) : EW K (tChain r r' ta tb tc) Γ O Post := fun w P σ H B S Q q =>
  h w P σ H B S _ fun d x O1 H1 B1 p1 S1 => p1 w _ σ H1 B1 S1 _ fun e y O2 H2 B2 p2 S2 => p2 w Γ _ σ H2 B2 x y S2 (S2.pi d x (by simp)) (S2.pi e y (by simp)) _ fun z v O3 H3 B3 ⟨k, ek, p3⟩ S3 => by
    subst ek
    have := S3.pi _ v List.mem_cons_self
    cases this
    refine ⟨k, rfl, ?_⟩
    cases k with
    | true => exact iteT (p3.1 rfl w _ σ H3 B3 S3 _ fun f u O4 H4 B4 p4 S4 => p4 w Γ _ σ H4 B4 y u S4 (S4.pi e y (by simp)) (S4.pi f u (by simp)) Q fun d' v' O' H' B' p' S' => q d' v' O' H' B' p' (S'.pins (by
        intro z hz
        rcases List.mem_cons.mp hz with rfl | hz
        · simp
        · simp [hz])))
    | false => exact iteF (q _ _ O3 H3 B3 (p3.2 rfl) ((S3.pins (P' := P) fun z hz => by simp [hz]).pin (.bl false)))
end
end
end DL
namespace DL
open PySem PySem.Spec PyProof.Rows L2
/-! ### an owned thing hidden: the frame -/
section
variable {K : PySem.W.Frag} {w : En} {Γ Γ' : Gm} {O O' : Own} {P P' : List (Dt × V)} {σ σ' : L2.St} {H H' B B' : Hp} {p : Addr} {d : Dt} {v : V} {c : Cell}
theorem Sat.hide (S : Sat K w Γ ((p, c) :: O) P σ H B) : ∃ w' : En, Sat K w' Γ O P σ H B ∧
    ∀ Γ' O' P' σ' H' B', Sat K w' Γ' O' P' σ' H' B' → Sat K w Γ' ((p, c) :: O') P' σ' H' B' ∧ Same B B' ∧ H' p = H p := by
  obtain ⟨g1, g2, g3⟩ := S.ow p c List.mem_cons_self
  have nd := S.nd
  rw [List.map_cons, List.nodup_cons] at nd
  have ne : ∀ q u, (q, u) ∈ O → q ≠ p := fun q u hq z => nd.1 (List.mem_map.mpr ⟨(q, u), hq, z⟩)
  obtain ⟨ho, eo⟩ : ∃ o, H p = some o := by
    cases e : H p with
    | none => exact absurd e g3.there
    | some o => exact ⟨o, rfl⟩
  refine ⟨⟨upd w.Kp p ho, B⟩, ⟨Same.refl _, S.bh, fun q u e => ?_, fun q hq => .inl hq, S.len, S.sl, fun q u hq => ?_, nd.2, S.pi⟩, fun Γ' O' P' σ' H' B' T => ?_⟩
  · by_cases z : q = p
    · subst z
      have e' : upd w.Kp q ho q = some u := e
      rw [upd_same] at e'
      rw [eo]; exact e'
    · have e' : upd w.Kp p ho q = some u := e
      rw [upd_ne z] at e'
      exact S.kh _ _ e'
  · obtain ⟨h1, h2, h3⟩ := S.ow q u (List.mem_cons_of_mem _ hq)
    exact ⟨h1, by show upd w.Kp p ho q = none; rw [upd_ne (ne q u hq)]; exact h2, h3⟩
  · have tp : H' p = some ho := T.kh p ho (by show upd w.Kp p ho p = some ho; exact upd_same)
    have bp : B' p = none := by
      cases e : B' p with
      | none => rfl
      | some o =>
        rcases T.fr p (by rw [e]; simp) with z | z
        · exact absurd g1 z
        · have z' : upd w.Kp p ho p = none := z
          rw [upd_same] at z'
          cases z'
    have kq : ∀ q, upd w.Kp p ho q = none → w.Kp q = none := fun q z => by
      by_cases e : q = p
      · rw [e]; exact g2
      · rwa [upd_ne e] at z
    refine ⟨⟨S.b0.trans T.b0, T.bh, fun q u e => T.kh q u (by show upd w.Kp p ho q = some u; rw [upd_ne (ne_of_none e g2)]; exact e), fun q hq => ?_, T.len, T.sl, fun q u hq => ?_, ?_, T.pi⟩, T.b0, tp.trans eo.symm⟩
    · rcases T.fr q hq with z | z
      · exact S.fr q z
      · exact .inr (kq q z)
    · rcases List.mem_cons.mp hq with e | hq
      · cases e
        exact ⟨bp, g2, g3.mono T.b0 (tp.trans eo.symm)⟩
      · obtain ⟨h1, h2, h3⟩ := T.ow q u hq
        exact ⟨h1, kq q h2, h3⟩
    · rw [List.map_cons, List.nodup_cons]
      refine ⟨fun hm => ?_, T.nd⟩
      obtain ⟨⟨q, u⟩, hq, e⟩ := List.mem_map.mp hm
      have e' : q = p := e
      have z := (T.ow q u hq).2.1
      rw [e'] at z
      have z' : upd w.Kp p ho p = none := z
      rw [upd_same] at z'
      cases z'
end
/-! ### targets -/
section
variable {K : PySem.W.Frag} {Γ : Gm} {O : Own} {d : Dt} {ds : List Dt} {Post : Gm → Own → Prop}
theorem gw_name {i : Nat} {J : Nat → Prop} (hJ : J i) (k : Post (Γ.set i (some d)) O) : GW K (gName i) J d Γ O Post := fun w P σ H B v S hd Q q =>
  q _ O _ H B k (S.set i hd) (fun j hj => List.getElem?_set_ne (fun e => by subst e; exact hj hJ)) (by simp)
theorem gsw_nil {J : Nat → Prop} (k : Post Γ O) : GsW K gNil J [] Γ O Post := fun w P σ H B vs S hd Q q => by
  cases hd
  exact ⟨rfl, q _ O _ H B k S (fun _ _ => rfl) rfl⟩
theorem gsw_cons {g : TG} {gs : TGs} {J : Nat → Prop} (h : GW K g J d Γ O fun Γ1 O1 => GsW K gs J ds Γ1 O1 Post) : GsW K (gCons g gs) J (d :: ds) Γ O Post := fun w P σ H B vs S hd Q q => by
  cases hd with
  | @cons _ v _ vs h1 h2 =>
    refine ⟨v, vs, rfl, h w (ds.zip vs ++ P) σ H B v (S.pinL h2) h1 _ fun Γ1 O1 σ1 H1 B1 p1 S1 e1 l1 => ?_⟩
    have h2' : DenL K B1 ds vs := .of_zip h2.length fun d v q => S1.pi d v (List.mem_append_left _ q)
    exact p1 w P σ1 H1 B1 vs (S1.pins fun z hz => List.mem_append_right _ hz) h2' Q fun Γ2 O2 σ2 H2 B2 p2 S2 e2 l2 => q Γ2 O2 σ2 H2 B2 p2 S2 (fun i hi => (e2 i hi).trans (e1 i hi)) (l2.trans l1)
theorem gw_tup {gs : TGs} {J : Nat → Prop} {n : Nat} (hn : ds.length = n) (h : GsW K gs J ds Γ O Post) : GW K (gTup K n gs) J (.tup ds) Γ O Post := fun w P σ H B v S hd Q q => by
  cases hd with
  | tup h1 h2 => exact ⟨_, _, rfl, sqT_mono S.bh h1, by rw [← h2.length]; exact hn, h w P σ H B _ S h2 Q q⟩
/-- xs[i] = d, xs owned -/
theorem gw_setL {to ti : TE} {J : Nat → Prop} {p : Addr} {es : List Dt} {i : Int} {j : Nat} {O2 : Own} (ho : EW K to Γ O fun o O1 => o = .raw (.ref p) ∧ EW K ti Γ O1 fun k O' => k = .int i ∧ O'.Perm ((p, .lst es) :: O2) ∧ ixN es.length i = some j ∧ Post Γ ((p, .lst (es.set j d)) :: O2)) :
    GW K (gSub to ti rSetL) J d Γ O Post := fun w P σ H B v S hd Q q =>
  ho w ((d, v) :: P) σ H B (S.pin hd) _ fun o ov O1 H1 B1 ⟨e1, p1⟩ S1 => by
    subst e1
    have h1 := S1.pi _ ov List.mem_cons_self
    cases h1
    refine p1 w _ σ H1 B1 S1 _ fun k kv O' H2 B2 ⟨e2, hp, hj, p2⟩ S2 => ?_
    subst e2
    have h2 := S2.pi _ kv List.mem_cons_self
    cases h2
    have hv := S2.pi d v (by simp)
    have S3 := (S2.perm hp).pins (P' := P) fun z hz => by simp [hz]
    obtain ⟨_, _, vs, h4, h5⟩ := S3.ow p _ List.mem_cons_self
    refine ⟨p, vs, i, j, rfl, rfl, h4, by rw [← h5.length]; exact hj, q _ _ _ _ _ p2 (S3.write (c' := .lst (es.set j d)) ⟨_, upd_same, h5.set hv j⟩) (fun _ _ => rfl) rfl⟩
end
/-! ### statements -/
section
variable {K : PySem.W.Frag} {Γ : Gm} {O : Own} {E : De} {t u : TS} {te : TE}
theorem sw_next (k : E.nx Γ O) : SW K tNext Γ O E := fun w P σ H B S D M => M.nx _ _ _ _ _ k S
theorem sw_break (k : E.bk Γ O) : SW K tBreak Γ O E := fun w P σ H B S D M => M.bk _ _ _ _ _ k S
theorem sw_cont (k : E.ct Γ O) : SW K tCont Γ O E := fun w P σ H B S D M => M.ct _ _ _ _ _ k S
theorem sw_seq (h : SW K t Γ O { E with nx := fun Γ' O' => SW K u Γ' O' E }) : SW K (tSeq t u) Γ O E := fun w P σ H B S D M =>
  h w P σ H B S _ ⟨fun Γ' O' σ' H' B' p S' => p w P σ' H' B' S' D M, M.rt, M.bk, M.ct⟩
theorem sw_drop (h : EW K te Γ O fun _ O1 => E.nx Γ O1) : SW K (tDrop te) Γ O E := fun w P σ H B S D M =>
  h w P σ H B S _ fun d v O' H' B' p S' => M.nx _ _ _ _ _ p (S'.pins fun z hz => by simp [hz])
theorem sw_ret (h : EW K te Γ O E.rt) : SW K (tRet te) Γ O E := fun w P σ H B S D M =>
  h w P σ H B S _ fun d v O' H' B' p S' => M.rt _ _ _ _ _ _ _ p S'
theorem sw_retN (h : E.rt .non O) : SW K tRetN Γ O E := fun w P σ H B S D M => M.rt _ _ _ _ _ _ _ h (S.pin .non)
theorem sw_if {tc : TT} (h : TW K tc Γ O fun b O1 => (b = true → SW K t Γ O1 E) ∧ (b = false → SW K u Γ O1 E)) : SW K (tIfS tc t u) Γ O E := fun w P σ H B S D M =>
  h w P σ H B S _ fun b O1 H1 B1 p S1 => by
    cases b with
    | true => exact iteT (p.1 rfl w P σ H1 B1 S1 D M)
    | false => exact iteF (p.2 rfl w P σ H1 B1 S1 D M)
theorem sw_never (h : False) : SW K tNever Γ O E := h.elim
theorem sw_asg {g : TG} (h : EW K te Γ O fun d O1 => GW K g (fun _ => True) d Γ O1 E.nx) : SW K (tAsg te g) Γ O E := fun w P σ H B S D M =>
  h w P σ H B S _ fun d v O1 H1 B1 p S1 => p w P σ H1 B1 v (S1.pins fun z hz => by simp [hz]) (S1.pi d v List.mem_cons_self) _ fun Γ' O' σ' H' B' p' S' _ _ => M.nx _ _ _ _ _ p' S'
theorem sw_set {i : Nat} (h : EW K te Γ O fun d O1 => E.nx (Γ.set i (some d)) O1) : SW K (tAsg te (gName i)) Γ O E := sw_asg (h.imp fun d O1 q => gw_name trivial q)
theorem sw_par {ta : TA} {i j : Nat} (h : AW K ta Γ O fun ds O1 => ∃ d e, ds = [d, e] ∧ E.nx ((Γ.set i (some d)).set j (some e)) O1) : SW K (tPar i j ta) Γ O E := fun w P σ H B S D M =>
  h w P σ H B S _ fun ds vs O1 H1 B1 ⟨d, e, e1, p⟩ hd S1 => by
    subst e1
    cases hd with
    | cons h1 h2 =>
      cases h2 with
      | cons h2 h3 =>
        cases h3
        exact ⟨_, _, rfl, M.nx _ _ _ _ _ p ((S1.set i h1).set j h2)⟩
theorem sw_perm {O' : Own} (hp : O.Perm O') (h : SW K t Γ O' E) : SW K t Γ O E := fun w P σ H B S => h w P σ H B (S.perm hp)
theorem SW.drop {p : Addr} {c : Cell} (h : SW K t Γ O E) : SW K t Γ ((p, c) :: O) E := fun w P σ H B S => h w P σ H B S.drop
theorem SW.weak {Γ' : Gm} (hl : Γ'.length = Γ.length) (hw : ∀ (i : Nat) (d : Dt), Γ'[i]? = some (some d) → Γ[i]? = some (some d)) (h : SW K t Γ' O E) : SW K t Γ O E := fun w P σ H B S => h w P σ H B (S.weak hl hw)
theorem SW.imp {E' : De} (h : SW K t Γ O E) (h1 : ∀ Γ O, E.nx Γ O → E'.nx Γ O) (h2 : ∀ d O, E.rt d O → E'.rt d O) (h3 : ∀ Γ O, E.bk Γ O → E'.bk Γ O) (h4 : ∀ Γ O, E.ct Γ O → E'.ct Γ O) : SW K t Γ O E' := fun w P σ H B S D M =>
  h w P σ H B S D ⟨fun a b c d e p q => M.nx a b c d e (h1 _ _ p) q, fun a v b c d e f p q => M.rt a v b c d e f (h2 _ _ p) q, fun a b c d e p q => M.bk a b c d e (h3 _ _ p) q, fun a b c d e p q => M.ct a b c d e (h4 _ _ p) q⟩
/-- while: Pv by a number that falls -/
theorem sw_while {tc : TT} {tb : TS} (Pv : Nat → Gm → Own → Prop) (m : Nat) (h0 : Pv m Γ O)
    (hs : ∀ m Γ O, Pv m Γ O → TW K tc Γ O fun b O1 => (b = true → SW K tb Γ O1 { nx := fun Γ' O' => ∃ m', m' < m ∧ Pv m' Γ' O', rt := E.rt, bk := E.nx, ct := fun Γ' O' => ∃ m', m' < m ∧ Pv m' Γ' O' }) ∧ (b = false → E.nx Γ O1)) :
    SW K (tWhile tc tb) Γ O E := fun w P σ H B S D M => by
  refine ⟨fun m σ H => ∃ Γ O B, Pv m Γ O ∧ Sat K w Γ O P σ H B, ⟨m, Γ, O, B, h0, S⟩, fun m σ H ⟨Γ1, O1, B1, p1, S1⟩ => ?_⟩
  refine hs m Γ1 O1 p1 w P σ H B1 S1 _ fun b O2 H2 B2 p2 S2 => ?_
  cases b with
  | true => exact iteT ⟨fun σ' H' => ∃ m', m' < m ∧ ∃ Γ O B, Pv m' Γ O ∧ Sat K w Γ O P σ' H' B, fun σ' H' q => q, p2.1 rfl w P σ H2 B2 S2 _ ⟨fun Γ' O' σ' H' B' ⟨m', l, p'⟩ S' => ⟨m', l, Γ', O', B', p', S'⟩, M.rt, M.nx, fun Γ' O' σ' H' B' ⟨m', l, p'⟩ S' => ⟨m', l, Γ', O', B', p', S'⟩⟩⟩
  | false => exact iteF (M.nx _ _ _ _ _ (p2.2 rfl) S2)
end
/-! ### what is walked -/
/-- the source: as it was, an owned list among it -/
def Src (K : PySem.W.Frag) (ds : List Dt) (o : Option Addr) (B H : Hp) : Prop := ∀ p, o = some p → ∃ vs, H p = some (.lst vs) ∧ DenL K B ds vs
structure ItD (K : PySem.W.Frag) (J : It) (ds : List Dt) (o : Option Addr) (B1 : Hp) : Prop where
  go : ∀ i H B, Same B1 B → Same B H → Src K ds o B H → i < ds.length → J.go i H
  yld : ∀ i d H x H' B, Same B1 B → Same B H → Src K ds o B H → ds[i]? = some d → J.yld i H x H' → ∃ B', Same B B' ∧ Same B' H' ∧ Same H H' ∧ (∀ q, B' q ≠ none → B q ≠ none ∨ H q = none) ∧ Den K B' d x
  stop : ∀ H B, Same B1 B → Same B H → Src K ds o B H → J.stop ds.length H
def IW (K : PySem.W.Frag) (wi : TI) (Γ : Gm) (O : Own) (Post : List Dt → Option Addr → Own → Prop) : Prop := ∀ (w : En) P σ H B, Sat K w Γ O P σ H B → ∀ R : It → Hp → Prop,
  (∀ ds o O' J H' B', Post ds o O' → Sat K w Γ O' P σ H' B' → ItD K J ds o B' → R J H') → wi σ H R
section
variable {K : PySem.W.Frag} {w : En} {Γ : Gm} {O : Own} {P : List (Dt × V)} {σ : L2.St} {H B : Hp}
/-- behind a step of the iterator -/
theorem Sat.yielded {H' B' : Hp} (S : Sat K w Γ O P σ H B) (h1 : Same B B') (h2 : Same B' H') (h3 : Same H H') (h4 : ∀ q, B' q ≠ none → B q ≠ none ∨ H q = none) : Sat K w Γ O P σ H' B' := by
  refine S.grow h1 h2 (S.kh.trans h3) (fun q hq => (h4 q hq).imp id fun z => S.kfree z) (fun p c hq => ?_) S.nd
  obtain ⟨g1, g2, g3⟩ := S.ow p c hq
  have gt := g3.there
  obtain ⟨o, eo⟩ : ∃ o, H p = some o := by
    cases e : H p with
    | none => exact absurd e gt
    | some o => exact ⟨o, rfl⟩
  refine ⟨?_, g2, g3.mono h1 ((h3 p o eo).trans eo.symm)⟩
  cases e : B' p with
  | none => rfl
  | some u =>
    rcases h4 p (by rw [e]; simp) with z | z
    · exact absurd g1 z
    · exact absurd z gt
theorem src_of {ds : List Dt} {o : Option Addr} (S : Sat K w Γ O P σ H B) (h : ∀ p, o = some p → (p, .lst ds) ∈ O) : Src K ds o B H := fun p e => (S.ow p _ (h p e)).2.2
theorem itd_list {a : Addr} {vs : List V} {ds : List Dt} {B1 : Hp} (h : SqL K B1 a vs) (hd : DenL K B1 ds vs) : ItD K (Itl K a) ds none B1 := by
  refine ⟨fun i H B e1 e2 _ hi => ?_, fun i d H x H' B e1 e2 _ hi y => ?_, fun H B e1 e2 _ => ?_⟩
  · obtain ⟨v, hv, _⟩ := hd.get (i := i) (List.getElem?_eq_getElem hi)
    exact ⟨vs, v, e2.seq (e1.seq h), hv⟩
  · obtain ⟨rfl, y⟩ := y
    obtain ⟨v, hv, hd'⟩ := hd.get hi
    have := (y vs (e2.seq (e1.seq h))).symm.trans hv
    cases this
    exact ⟨B, Same.refl _, e2, Same.refl _, fun q hq => .inl hq, hd'.mono e1⟩
  · exact ⟨vs, e2.seq (e1.seq h), by rw [hd.length]; exact Nat.le_refl _⟩
theorem itd_own {a : Addr} {ds : List Dt} {B1 : Hp} : ItD K (Itl K a) ds (some a) B1 := by
  refine ⟨fun i H B e1 e2 s hi => ?_, fun i d H x H' B e1 e2 s hi y => ?_, fun H B e1 e2 s => ?_⟩
  · obtain ⟨vs, h1, h2⟩ := s a rfl
    obtain ⟨v, hv, _⟩ := h2.get (i := i) (List.getElem?_eq_getElem hi)
    exact ⟨vs, v, SqL.of h1, hv⟩
  · obtain ⟨rfl, y⟩ := y
    obtain ⟨vs, h1, h2⟩ := s a rfl
    obtain ⟨v, hv, hd'⟩ := h2.get hi
    have := (y vs (SqL.of h1)).symm.trans hv
    cases this
    exact ⟨B, Same.refl _, e2, Same.refl _, fun q hq => .inl hq, hd'⟩
  · obtain ⟨vs, h1, h2⟩ := s a rfl
    exact ⟨vs, SqL.of h1, by rw [h2.length]; exact Nat.le_refl _⟩
theorem itd_tup {a : Addr} {vs : List V} {ds : List Dt} {B1 : Hp} (h : SqT K B1 a vs) (hd : DenL K B1 ds vs) : ItD K (Itt K a) ds none B1 := by
  refine ⟨fun i H B e1 e2 _ hi => ?_, fun i d H x H' B e1 e2 _ hi y => ?_, fun H B e1 e2 _ => ?_⟩
  · obtain ⟨v, hv, _⟩ := hd.get (i := i) (List.getElem?_eq_getElem hi)
    exact ⟨vs, v, sqT_mono e2 (sqT_mono e1 h), hv⟩
  · obtain ⟨rfl, y⟩ := y
    obtain ⟨v, hv, hd'⟩ := hd.get hi
    have := (y vs (sqT_mono e2 (sqT_mono e1 h))).symm.trans hv
    cases this
    exact ⟨B, Same.refl _, e2, Same.refl _, fun q hq => .inl hq, hd'.mono e1⟩
  · exact ⟨vs, sqT_mono e2 (sqT_mono e1 h), by rw [hd.length]; exact Nat.le_refl _⟩
def rngD (lo : Int) (n : Nat) : List Dt := (List.range n).map fun i : Nat => .int (lo + (i : Int))
theorem rngD_length (lo : Int) (n : Nat) : (rngD lo n).length = n := by simp [rngD]
theorem rngD_get {lo : Int} {n i : Nat} {d : Dt} (h : (rngD lo n)[i]? = some d) : i < n ∧ d = .int (lo + (i : Int)) := by
  have hi : i < n := by
    have := (List.getElem?_eq_some_iff.mp h).1
    rwa [rngD_length] at this
  refine ⟨hi, ?_⟩
  have e : (rngD lo n)[i]? = some (.int (lo + (i : Int))) := by simp [rngD, hi]
  exact Option.some.inj (h.symm.trans e)
theorem itd_range {lo : Int} {n : Nat} {B1 : Hp} : ItD K (Itr lo n) (rngD lo n) none B1 := by
  refine ⟨fun i H B e1 e2 _ hi => ?_, fun i d H x H' B e1 e2 _ hi y => ?_, fun H B e1 e2 _ => ?_⟩
  · show i < n
    rwa [rngD_length] at hi
  · obtain ⟨rfl, rfl⟩ := y
    obtain ⟨_, rfl⟩ := rngD_get hi
    exact ⟨B, Same.refl _, e2, Same.refl _, fun q hq => .inl hq, .int _⟩
  · show n ≤ _
    rw [rngD_length]; exact Nat.le_refl _
variable {Post : List Dt → Option Addr → Own → Prop} {tl : TE} {ta : TA}
theorem iw_list (h : EW K tl Γ O fun d O1 => ∃ ds, (d = .lst ds ∨ d = .ro ds) ∧ Post ds none O1) : IW K (iList K tl) Γ O Post := fun w P σ H B S R q =>
  h w P σ H B S _ fun d v O1 H1 B1 ⟨ds, e, p⟩ S1 => by
    have hd := S1.pi d v List.mem_cons_self
    have S2 := S1.pins (P' := P) fun z hz => by simp [hz]
    rcases e with rfl | rfl
    · cases hd with
      | lst h1 h2 => exact ⟨_, rfl, ⟨_, SqL.of (S1.bh _ _ h1)⟩, q ds none O1 _ H1 B1 p S2 (itd_list (SqL.of h1) h2)⟩
    · cases hd with
      | ro h1 h2 => exact ⟨_, rfl, ⟨_, S1.bh.seq h1⟩, q ds none O1 _ H1 B1 p S2 (itd_list h1 h2)⟩
theorem iw_own (h : EW K tl Γ O fun d O1 => ∃ p ds, d = .raw (.ref p) ∧ (p, .lst ds) ∈ O1 ∧ Post ds (some p) O1) : IW K (iList K tl) Γ O Post := fun w P σ H B S R q =>
  h w P σ H B S _ fun d v O1 H1 B1 ⟨a, ds, e, hm, p⟩ S1 => by
    subst e
    have hd := S1.pi _ v List.mem_cons_self
    have S2 := S1.pins (P' := P) fun z hz => by simp [hz]
    cases hd
    obtain ⟨_, _, vs, h1, h2⟩ := S2.ow a _ hm
    exact ⟨a, rfl, ⟨vs, SqL.of h1⟩, q ds (some a) O1 _ H1 B1 p S2 itd_own⟩
theorem iw_tup (h : EW K tl Γ O fun d O1 => ∃ ds, d = .tup ds ∧ Post ds none O1) : IW K (iTup K tl) Γ O Post := fun w P σ H B S R q =>
  h w P σ H B S _ fun d v O1 H1 B1 ⟨ds, e, p⟩ S1 => by
    subst e
    have hd := S1.pi _ v List.mem_cons_self
    have S2 := S1.pins (P' := P) fun z hz => by simp [hz]
    cases hd with
    | tup h1 h2 => exact ⟨_, rfl, ⟨_, sqT_mono S1.bh h1⟩, q ds none O1 _ H1 B1 p S2 (itd_tup h1 h2)⟩
theorem iw_rng1 (h : AW K ta Γ O fun ds O1 => ∃ j : Int, ds = [.int j] ∧ -(2 ^ 62) ≤ j ∧ j < 2 ^ 62 ∧ Post (rngD 0 j.toNat) none O1) : IW K (iRng1 ta) Γ O Post := fun w P σ H B S R q =>
  h w P σ H B S _ fun ds vs O1 H1 B1 ⟨j, e, l1, l2, p⟩ hd S1 => by
    subst e
    cases hd with
    | cons h1 h2 =>
      cases h1
      cases h2
      exact ⟨j, rfl, l1, l2, q _ none O1 _ H1 B1 p S1 itd_range⟩
theorem iw_rng2 (h : AW K ta Γ O fun ds O1 => ∃ i j : Int, ds = [.int i, .int j] ∧ (-(2 ^ 62) ≤ i ∧ i < 2 ^ 62 ∧ -(2 ^ 62) ≤ j ∧ j < 2 ^ 62) ∧ Post (rngD i (j - i).toNat) none O1) : IW K (iRng2 ta) Γ O Post := fun w P σ H B S R q =>
  h w P σ H B S _ fun ds vs O1 H1 B1 ⟨i, j, e, l, p⟩ hd S1 => by
    subst e
    cases hd with
    | cons h1 h2 =>
      cases h1
      cases h2 with
      | cons h2 h3 =>
        cases h2
        cases h3
        exact ⟨i, j, rfl, l, q _ none O1 _ H1 B1 p S1 itd_range⟩
end
/-! ### for -/
section
variable {K : PySem.W.Frag} {Γ : Gm} {O : Own} {E : De} {wi : TI} {g : TG} {tb : TS}
theorem sw_for (h : IW K wi Γ O fun ds o O1 => ∃ (Pv : Nat → Gm → Own → Prop), Pv 0 Γ O1 ∧ (∀ p, o = some p → ∀ i Γ' O', Pv i Γ' O' → (p, .lst ds) ∈ O') ∧
      (∀ i d Γ' O', ds[i]? = some d → Pv i Γ' O' → GW K g (fun _ => True) d Γ' O' fun Γ2 O2 => SW K tb Γ2 O2 { nx := Pv (i + 1), rt := E.rt, bk := E.nx, ct := Pv (i + 1) }) ∧ (∀ Γ' O', Pv ds.length Γ' O' → E.nx Γ' O')) :
    SW K (tFor wi g tb) Γ O E := fun w P σ H B S D M =>
  h w P σ H B S _ fun ds o O1 J H1 B1 ⟨Pv, h0, ho, hs, hd⟩ S1 it => by
    refine ⟨fun i m σ H => i + m = ds.length ∧ ∃ Γ' O' B', Pv i Γ' O' ∧ Sat K w Γ' O' P σ H B' ∧ Same B1 B', ⟨ds.length, by omega, Γ, O1, B1, h0, S1, Same.refl _⟩, ?_⟩
    rintro i m σ2 H2 ⟨em, Γ2, O2, B2, p2, S2, e2⟩
    have src := src_of S2 fun p e => ho p e i Γ2 O2 p2
    by_cases hi : i < ds.length
    · refine .inr ⟨it.go i H2 B2 e2 S2.bh src hi, fun σ' H' => ∃ Γ' O' B', Pv (i + 1) Γ' O' ∧ Sat K w Γ' O' P σ' H' B' ∧ Same B1 B', fun σ' H' q => ⟨m - 1, by omega, by omega, q⟩, fun x H3 y => ?_⟩
      obtain ⟨d, hx⟩ : ∃ d, ds[i]? = some d := ⟨_, List.getElem?_eq_getElem hi⟩
      obtain ⟨B3, a1, a2, a3, a4, a5⟩ := it.yld i d H2 x H3 B2 e2 S2.bh src hx y
      have S3 := S2.yielded a1 a2 a3 a4
      -- the base from here on: w' tells that it grows
      have key : ∀ (w' : En), w'.B0 = B3 → w'.Kp = w.Kp → Sat K w' Γ2 O2 P σ2 H3 B3 := fun w' q1 q2 => ⟨by rw [q1]; exact Same.refl _, S3.bh, by rw [q2]; exact S3.kh, fun q hq => .inl (by rw [q1]; exact hq), S3.len, S3.sl, fun p c hq => by rw [q2]; exact S3.ow p c hq, S3.nd, S3.pi⟩
      have back : ∀ {Γ' O' P' σ' H' B'}, Sat K ⟨w.Kp, B3⟩ Γ' O' P' σ' H' B' → Sat K w Γ' O' P' σ' H' B' := fun T => ⟨S3.b0.trans T.b0, T.bh, T.kh, fun q hq => (T.fr q hq).elim (fun z => S3.fr q z) .inr, T.len, T.sl, T.ow, T.nd, T.pi⟩
      refine hs i d Γ2 O2 hx p2 ⟨w.Kp, B3⟩ P σ2 H3 B3 x (key ⟨w.Kp, B3⟩ rfl rfl) a5 _ fun Γ4 O4 σ4 H4 B4 p4 S4 _ _ => ?_
      refine p4 ⟨w.Kp, B3⟩ P σ4 H4 B4 S4 _ ⟨fun Γ' O' σ' H' B' p' S' => ⟨Γ', O', B', p', back S', (e2.trans a1).trans S'.b0⟩, fun d v Γ' O' σ' H' B' p' S' => M.rt _ _ _ _ _ _ _ p' (back S'), fun Γ' O' σ' H' B' p' S' => M.nx _ _ _ _ _ p' (back S'), fun Γ' O' σ' H' B' p' S' => ⟨Γ', O', B', p', back S', (e2.trans a1).trans S'.b0⟩⟩
    · have ei : i = ds.length := by omega
      subst ei
      exact .inl ⟨it.stop H2 B2 e2 S2.bh src, M.nx _ _ _ _ _ (hd _ _ p2) S2⟩
end
end DL
namespace DL
open PySem PySem.Spec PyProof.Rows L2
/-! ### comprehensions -/
def wipeG (Γ : Gm) : List Nat → Gm
  | [] => Γ
  | v :: vs => (wipeG Γ vs).set v none
section
variable {K : PySem.W.Frag} {w : En} {Γ Γ2 : Gm} {O O1 O' : Own} {P P' : List (Dt × V)} {σ σ2 : L2.St} {H H1 B B1 : Hp}
theorem wipe_len (σ : L2.St) : ∀ vs : List Nat, (wipe σ vs).length = σ.length
  | [] => rfl
  | v :: vs => by unfold wipe; rw [List.length_set, wipe_len σ vs]
theorem wipe_get {i : Nat} : ∀ (vs : List Nat) (σ : L2.St), i ∉ vs → (wipe σ vs)[i]? = σ[i]?
  | [], _, _ => rfl
  | v :: vs, σ, h => by
    unfold wipe
    rw [List.getElem?_set_ne (fun e => h (by simp [e]))]
    exact wipe_get vs σ fun z => h (List.mem_cons_of_mem _ z)
theorem wipe_gone {i : Nat} : ∀ (vs : List Nat) (σ : L2.St), i ∈ vs → (wipe σ vs)[i]? = if i < σ.length then some none else none
  | [], _, h => by cases h
  | v :: vs, σ, h => by
    unfold wipe
    by_cases e : v = i
    · subst e
      rw [List.getElem?_set, if_pos rfl, wipe_len]
    · rw [List.getElem?_set_ne e]
      refine wipe_gone vs σ ?_
      rcases List.mem_cons.mp h with z | z
      · exact absurd z.symm e
      · exact z
theorem wipe_eq {vs : List Nat} {σ σ2 : L2.St} (hl : σ2.length = σ.length) (h : ∀ i : Nat, i ∉ vs → σ2[i]? = σ[i]?) : wipe σ2 vs = wipe σ vs := by
  apply List.ext_getElem?
  intro i
  by_cases hi : i ∈ vs
  · rw [wipe_gone vs σ2 hi, wipe_gone vs σ hi, hl]
  · rw [wipe_get vs σ2 hi, wipe_get vs σ hi, h i hi]
theorem wipe_wipe (σ : L2.St) (vs : List Nat) : wipe (wipe σ vs) vs = wipe σ vs := wipe_eq (wipe_len σ vs) fun i hi => wipe_get vs σ hi
theorem Sat.wipe (S : Sat K w Γ O P σ H B) : ∀ vs : List Nat, Sat K w (wipeG Γ vs) O P (L2.wipe σ vs) H B
  | [] => S
  | v :: vs => by
    have T := Sat.wipe S vs
    unfold wipeG L2.wipe
    refine ⟨T.b0, T.bh, T.kh, T.fr, by simpa using T.len, fun i d q => ?_, T.ow, T.nd, T.pi⟩
    by_cases e : v = i
    · subst e
      rw [List.getElem?_set] at q
      simp at q
    · rw [List.getElem?_set_ne e] at q
      obtain ⟨u, h1, h2⟩ := T.sl i d q
      exact ⟨u, by rw [List.getElem?_set_ne e]; exact h1, h2⟩
theorem Sat.reslot (T : Sat K w Γ2 O P' σ2 H B) (S : Sat K w Γ O1 P σ H1 B1) (e : Same B1 B) : Sat K w Γ O P σ H B :=
  ⟨T.b0, T.bh, T.kh, T.fr, S.len, fun i d q => let ⟨v, h1, h2⟩ := S.sl i d q; ⟨v, h1, h2.mono e⟩, T.ow, T.nd, fun d v q => (S.pi d v q).mono e⟩
variable {Post : Dt → Own → Prop} {wi : TI} {g : TG} {tt : TT} {te : TE} {vs : List Nat}
theorem ew_lcI (h : IW K wi Γ O fun ds o O1 => ∃ (Pv : Nat → List Dt → Own → Prop), Pv 0 [] O1 ∧ (∀ p, o = some p → ∀ i acc O', Pv i acc O' → (p, .lst ds) ∈ O') ∧
      (∀ i d acc O', ds[i]? = some d → Pv i acc O' → acc.length < sizeLine ∧ GW K g (· ∈ vs) d (wipeG Γ vs) O' fun Γ2 O2 => TW K tt Γ2 O2 fun b O3 => (b = true → EW K te Γ2 O3 fun y O4 => Pv (i + 1) (acc ++ [y]) O4) ∧ (b = false → Pv (i + 1) acc O3)) ∧
      (∀ acc O', Pv ds.length acc O' → Post (.lst acc) O')) : EW K (tLc wi g tt te vs) Γ O Post := fun w P σ H B S Q q =>
  h w P σ H B S _ fun ds o O1 J H1 B1 ⟨Pv, h0, ho, hs, hd⟩ S1 it D hD => by
    refine ⟨fun i m H => i + m = ds.length ∧ ∃ acc O' B', Pv i acc O' ∧ Sat K w Γ ((D, .lst acc) :: O') P σ H B' ∧ Same B1 B', ⟨ds.length, by omega, [], O1, B1, h0, S1.newOwn (c := .lst []) hD ⟨[], upd_same, .nil⟩, Same.refl _⟩, ?_⟩
    rintro i m H2 ⟨em, acc, O2, B2, p2, S2, e2⟩
    have src := src_of S2 fun p e => List.mem_cons_of_mem _ (ho p e i acc O2 p2)
    by_cases hi : i < ds.length
    · refine .inr ⟨it.go i H2 B2 e2 S2.bh src hi, fun H' => ∃ acc O' B', Pv (i + 1) acc O' ∧ Sat K w Γ ((D, .lst acc) :: O') P σ H' B' ∧ Same B1 B', fun H' q => ⟨m - 1, by omega, by omega, q⟩, fun x H3 y => ?_⟩
      obtain ⟨d, hx⟩ : ∃ d, ds[i]? = some d := ⟨_, List.getElem?_eq_getElem hi⟩
      obtain ⟨B3, a1, a2, a3, a4, a5⟩ := it.yld i d H2 x H3 B2 e2 S2.bh src hx y
      have S3 := S2.yielded a1 a2 a3 a4
      obtain ⟨hz, turn⟩ := hs i d acc O2 hx p2
      obtain ⟨w', T3, back⟩ := (S3.wipe vs).hide
      refine turn w' P (L2.wipe σ vs) H3 B3 x T3 a5 _ fun Γ4 O4 σ4 H4 B4 p4 T4 f4 l4 => ⟨?_, ?_⟩
      · rw [← wipe_wipe σ vs]
        exact wipe_eq l4 f4
      · refine p4 w' P σ4 H4 B4 T4 _ fun b O5 H5 B5 p5 T5 => ?_
        cases b with
        | true =>
          refine iteT (p5.1 rfl w' P σ4 H5 B5 T5 _ fun yd yv O6 H6 B6 p6 T6 => ?_)
          obtain ⟨S6, b36, _⟩ := back _ _ _ _ _ _ T6
          obtain ⟨_, _, us, h1, h2⟩ := S6.ow D _ List.mem_cons_self
          have hy := S6.pi yd yv List.mem_cons_self
          refine ⟨us, h1, by rw [← h2.length]; exact hz, acc ++ [yd], O6, B6, p6, ?_, (e2.trans a1).trans b36⟩
          have S7 := S6.write (o := .lst (us ++ [yv])) (c' := .lst (acc ++ [yd])) ⟨_, upd_same, h2.append (.cons hy .nil)⟩
          exact S7.reslot S1 ((e2.trans a1).trans b36)
        | false =>
          refine iteF ?_
          obtain ⟨S6, b36, _⟩ := back _ _ _ _ _ _ T5
          exact ⟨acc, O5, B5, p5.2 rfl, S6.reslot S1 ((e2.trans a1).trans b36), (e2.trans a1).trans b36⟩
    · have ei : i = ds.length := by omega
      subst ei
      refine .inl ⟨it.stop H2 B2 e2 S2.bh src, ?_⟩
      obtain ⟨us, S3, hden⟩ := S2.freeze
      exact q _ _ _ _ _ (hd _ _ p2) (S3.pin hden)
/-- .. the new list stays owned -/
theorem ew_lcIO (h : IW K wi Γ O fun ds o O1 => ∃ (Pv : Nat → List Dt → Own → Prop), Pv 0 [] O1 ∧ (∀ p, o = some p → ∀ i acc O', Pv i acc O' → (p, .lst ds) ∈ O') ∧
      (∀ i d acc O', ds[i]? = some d → Pv i acc O' → acc.length < sizeLine ∧ GW K g (· ∈ vs) d (wipeG Γ vs) O' fun Γ2 O2 => TW K tt Γ2 O2 fun b O3 => (b = true → EW K te Γ2 O3 fun y O4 => Pv (i + 1) (acc ++ [y]) O4) ∧ (b = false → Pv (i + 1) acc O3)) ∧
      (∀ acc O', Pv ds.length acc O' → ∀ p, Post (.raw (.ref p)) ((p, .lst acc) :: O'))) : EW K (tLc wi g tt te vs) Γ O Post := fun w P σ H B S Q q =>
  h w P σ H B S _ fun ds o O1 J H1 B1 ⟨Pv, h0, ho, hs, hd⟩ S1 it D hD => by
    refine ⟨fun i m H => i + m = ds.length ∧ ∃ acc O' B', Pv i acc O' ∧ Sat K w Γ ((D, .lst acc) :: O') P σ H B' ∧ Same B1 B', ⟨ds.length, by omega, [], O1, B1, h0, S1.newOwn (c := .lst []) hD ⟨[], upd_same, .nil⟩, Same.refl _⟩, ?_⟩
    rintro i m H2 ⟨em, acc, O2, B2, p2, S2, e2⟩
    have src := src_of S2 fun p e => List.mem_cons_of_mem _ (ho p e i acc O2 p2)
    by_cases hi : i < ds.length
    · refine .inr ⟨it.go i H2 B2 e2 S2.bh src hi, fun H' => ∃ acc O' B', Pv (i + 1) acc O' ∧ Sat K w Γ ((D, .lst acc) :: O') P σ H' B' ∧ Same B1 B', fun H' q => ⟨m - 1, by omega, by omega, q⟩, fun x H3 y => ?_⟩
      obtain ⟨d, hx⟩ : ∃ d, ds[i]? = some d := ⟨_, List.getElem?_eq_getElem hi⟩
      obtain ⟨B3, a1, a2, a3, a4, a5⟩ := it.yld i d H2 x H3 B2 e2 S2.bh src hx y
      have S3 := S2.yielded a1 a2 a3 a4
      obtain ⟨hz, turn⟩ := hs i d acc O2 hx p2
      obtain ⟨w', T3, back⟩ := (S3.wipe vs).hide
      refine turn w' P (L2.wipe σ vs) H3 B3 x T3 a5 _ fun Γ4 O4 σ4 H4 B4 p4 T4 f4 l4 => ⟨?_, ?_⟩
      · rw [← wipe_wipe σ vs]
        exact wipe_eq l4 f4
      · refine p4 w' P σ4 H4 B4 T4 _ fun b O5 H5 B5 p5 T5 => ?_
        cases b with
        | true =>
          refine iteT (p5.1 rfl w' P σ4 H5 B5 T5 _ fun yd yv O6 H6 B6 p6 T6 => ?_)
          obtain ⟨S6, b36, _⟩ := back _ _ _ _ _ _ T6
          obtain ⟨_, _, us, h1, h2⟩ := S6.ow D _ List.mem_cons_self
          have hy := S6.pi yd yv List.mem_cons_self
          refine ⟨us, h1, by rw [← h2.length]; exact hz, acc ++ [yd], O6, B6, p6, ?_, (e2.trans a1).trans b36⟩
          have S7 := S6.write (o := .lst (us ++ [yv])) (c' := .lst (acc ++ [yd])) ⟨_, upd_same, h2.append (.cons hy .nil)⟩
          exact S7.reslot S1 ((e2.trans a1).trans b36)
        | false =>
          refine iteF ?_
          obtain ⟨S6, b36, _⟩ := back _ _ _ _ _ _ T5
          exact ⟨acc, O5, B5, p5.2 rfl, S6.reslot S1 ((e2.trans a1).trans b36), (e2.trans a1).trans b36⟩
    · have ei : i = ds.length := by omega
      subst ei
      refine .inl ⟨it.stop H2 B2 e2 S2.bh src, ?_⟩
      exact q _ _ _ _ _ (hd _ _ p2 D) (S2.pin (.raw _))
theorem tw_yes {PostT : Bool → Own → Prop} (k : PostT true O) : TW K tYes Γ O PostT := fun w P σ H B S Q q => q _ _ _ _ k S
/-- nothing changes; typed items -/
theorem ew_lcP {α : Type} (h : IW K wi Γ O fun ds o O1 => ∃ (enc : α → Dt) (as : List α) (f : α → Bool) (v : α → Dt), ds = as.map enc ∧ (∀ p, o = some p → (p, .lst ds) ∈ O1) ∧ as.length ≤ 1000000 ∧
      (∀ a ∈ as, GW K g (· ∈ vs) (enc a) (wipeG Γ vs) O1 fun Γ2 O2 => TW K tt Γ2 O2 fun b O3 => (b = true → EW K te Γ2 O3 fun y O4 => O4 = O1 ∧ f a = true ∧ y = v a) ∧ (b = false → O3 = O1 ∧ f a = false)) ∧ Post (.lst ((as.filter f).map v)) O1) :
    EW K (tLc wi g tt te vs) Γ O Post := by
  refine ew_lcI fun w P σ H B S R q => h w P σ H B S R fun ds o O1 J H' B' ⟨enc, as, f, v, hds, ho, hz, hs, hp⟩ S' it => q ds o O1 J H' B' ?_ S' it
  subst hds
  refine ⟨fun i acc O' => O' = O1 ∧ acc = ((as.take i).filter f).map v, ⟨rfl, rfl⟩, fun p e i acc O' hP => ?_, fun i d acc O' hd hP => ?_, fun acc O' hP => ?_⟩
  · rw [hP.1]; exact ho p e
  · obtain ⟨rfl, rfl⟩ := hP
    rw [List.getElem?_map] at hd
    cases ha : as[i]? with
    | none => rw [ha] at hd; cases hd
    | some a =>
      rw [ha] at hd
      cases hd
      have hm : a ∈ as := List.mem_of_getElem? ha
      have et : as.take (i + 1) = as.take i ++ [a] := by rw [List.take_add_one, ha]; rfl
      refine ⟨?_, fun w P σ H B v' S hd Q q => hs a hm w P σ H B v' S hd Q fun Γ2 O2 σ2 H2 B2 p2 S2 => q Γ2 O2 σ2 H2 B2 (fun w P σ H B S Q q => p2 w P σ H B S Q fun b O3 H3 B3 p3 S3 => q b O3 H3 B3 ⟨fun hb => (p3.1 hb).imp fun y O4 ⟨q1, q2, q3⟩ => ⟨q1, ?_⟩, fun hb => ?_⟩ S3) S2⟩
      · rw [List.length_map]
        have h1 := List.length_filter_le f (as.take i)
        rw [List.length_take] at h1
        have h2 : (1000000 : Nat) < sizeLine := by decide
        omega
      · rw [et, List.filter_append, List.map_append, List.filter_cons, if_pos q2, q3]; rfl
      · obtain ⟨q1, q2⟩ := p3.2 hb
        refine ⟨q1, ?_⟩
        rw [et, List.filter_append, List.map_append, List.filter_cons, if_neg (by rw [q2]; decide)]
        simp
  · obtain ⟨rfl, rfl⟩ := hP
    rw [List.length_map, List.take_length]
    exact hp
theorem ew_lcPO {α : Type} (h : IW K wi Γ O fun ds o O1 => ∃ (enc : α → Dt) (as : List α) (f : α → Bool) (v : α → Dt), ds = as.map enc ∧ (∀ p, o = some p → (p, .lst ds) ∈ O1) ∧ as.length ≤ 1000000 ∧
      (∀ a ∈ as, GW K g (· ∈ vs) (enc a) (wipeG Γ vs) O1 fun Γ2 O2 => TW K tt Γ2 O2 fun b O3 => (b = true → EW K te Γ2 O3 fun y O4 => O4 = O1 ∧ f a = true ∧ y = v a) ∧ (b = false → O3 = O1 ∧ f a = false)) ∧ ∀ p, Post (.raw (.ref p)) ((p, .lst ((as.filter f).map v)) :: O1)) :
    EW K (tLc wi g tt te vs) Γ O Post := by
  refine ew_lcIO fun w P σ H B S R q => h w P σ H B S R fun ds o O1 J H' B' ⟨enc, as, f, v, hds, ho, hz, hs, hp⟩ S' it => q ds o O1 J H' B' ?_ S' it
  subst hds
  refine ⟨fun i acc O' => O' = O1 ∧ acc = ((as.take i).filter f).map v, ⟨rfl, rfl⟩, fun p e i acc O' hP => ?_, fun i d acc O' hd hP => ?_, fun acc O' hP => ?_⟩
  · rw [hP.1]; exact ho p e
  · obtain ⟨rfl, rfl⟩ := hP
    rw [List.getElem?_map] at hd
    cases ha : as[i]? with
    | none => rw [ha] at hd; cases hd
    | some a =>
      rw [ha] at hd
      cases hd
      have hm : a ∈ as := List.mem_of_getElem? ha
      have et : as.take (i + 1) = as.take i ++ [a] := by rw [List.take_add_one, ha]; rfl
      refine ⟨?_, fun w P σ H B v' S hd Q q => hs a hm w P σ H B v' S hd Q fun Γ2 O2 σ2 H2 B2 p2 S2 => q Γ2 O2 σ2 H2 B2 (fun w P σ H B S Q q => p2 w P σ H B S Q fun b O3 H3 B3 p3 S3 => q b O3 H3 B3 ⟨fun hb => (p3.1 hb).imp fun y O4 ⟨q1, q2, q3⟩ => ⟨q1, ?_⟩, fun hb => ?_⟩ S3) S2⟩
      · rw [List.length_map]
        have h1 := List.length_filter_le f (as.take i)
        rw [List.length_take] at h1
        have h2 : (1000000 : Nat) < sizeLine := by decide
        omega
      · rw [et, List.filter_append, List.map_append, List.filter_cons, if_pos q2, q3]; rfl
      · obtain ⟨q1, q2⟩ := p3.2 hb
        refine ⟨q1, ?_⟩
        rw [et, List.filter_append, List.map_append, List.filter_cons, if_neg (by rw [q2]; decide)]
        simp
  · obtain ⟨rfl, rfl⟩ := hP
    rw [List.length_map, List.take_length]
    exact hp
theorem ew_lcMO {α : Type} (h : IW K wi Γ O fun ds o O1 => ∃ (enc : α → Dt) (as : List α) (v : α → Dt), ds = as.map enc ∧ (∀ p, o = some p → (p, .lst ds) ∈ O1) ∧ as.length ≤ 1000000 ∧
      (∀ a ∈ as, GW K g (· ∈ vs) (enc a) (wipeG Γ vs) O1 fun Γ2 O2 => EW K te Γ2 O2 fun y O4 => O4 = O1 ∧ y = v a) ∧ ∀ p, Post (.raw (.ref p)) ((p, .lst (as.map v)) :: O1)) :
    EW K (tLc wi g tYes te vs) Γ O Post := by
  refine ew_lcPO (α := α) fun w P σ H B S R q => h w P σ H B S R fun ds o O1 J H' B' ⟨enc, as, v, h1, h3, h4, h5, h6⟩ S' it => q ds o O1 J H' B' ⟨enc, as, fun _ => true, v, h1, h3, h4, fun a ha => ?_, ?_⟩ S' it
  · exact fun w P σ H B v' S hd Q q => h5 a ha w P σ H B v' S hd Q fun Γ2 O2 σ2 H2 B2 p2 S2 => q Γ2 O2 σ2 H2 B2 (tw_yes ⟨fun _ => p2.imp fun y O4 ⟨q1, q2⟩ => ⟨q1, rfl, q2⟩, fun z => nomatch z⟩) S2
  · rw [List.filter_eq_self.mpr fun _ _ => rfl]
    exact h6
end
/-! ### calls -/
abbrev SpT := List Dt → Own → (Dt → Own → Prop) → Prop
structure Clo (K : PySem.W.Frag) (B H : Hp) (Oc : Own) (d : Dt) (v : V) (Oc' : Own) (H' B' : Hp) : Prop where
  bb : Same B B'
  bh : Same B' H'
  kp : ∀ q o, H q = some o → q ∉ Oc.map (·.1) → H' q = some o
  fr : ∀ q, B' q ≠ none → B q ≠ none ∨ H q = none ∨ q ∈ Oc.map (·.1)
  den : Den K B' d v
  ow : ∀ p c, (p, c) ∈ Oc' → B' p = none ∧ (H p = none ∨ p ∈ Oc.map (·.1)) ∧ CellAt K B' H' p c
  nd : (Oc'.map (·.1)).Nodup
/-- a promise over data: S tells from the arguments and the things that are lent what comes back -/
def SpD (K : PySem.W.Frag) (S : SpT) : Sp := fun vs H Q _ => ∃ (B : Hp) (ds : List Dt) (Oc : Own) (Post : Dt → Own → Prop), Same B H ∧ DenL K B ds vs ∧ (∀ p c, (p, c) ∈ Oc → B p = none ∧ CellAt K B H p c) ∧ (Oc.map (·.1)).Nodup ∧ S ds Oc Post ∧
  ∀ d v Oc' H' B', Post d Oc' → Clo K B H Oc d v Oc' H' B' → Q v H'
section
variable {K : PySem.W.Frag} {Γ : Gm} {O : Own} {Post : Dt → Own → Prop} {ta tk : TA} {S : SpT} {E : XK}
theorem call_sp {w : En} {O1 Oc Or : Own} {ds : List Dt} {vs : List V} {P : List (Dt × V)} {σ : L2.St} {H B : Hp} {Q : VK} {E : XK} (hp : O1.Perm (Oc ++ Or)) (hS : S ds Oc fun d Oc' => Post d (Oc' ++ Or)) (hd : DenL K B ds vs) (T : Sat K w Γ O1 P σ H B)
    (q : ∀ d v O' H' B', Post d O' → Sat K w Γ O' ((d, v) :: P) σ H' B' → Q v H') : SpD K S vs H Q E := by
  have T1 := T.perm hp
  have nd := T1.nd
  rw [List.map_append, List.nodup_append] at nd
  obtain ⟨nd1, nd2, nd3⟩ := nd
  refine ⟨B, ds, Oc, _, T1.bh, hd, fun p c hm => ?_, nd1, hS, fun d v Oc' H' B' p C => q d v _ H' B' p ?_⟩
  · obtain ⟨h1, _, h3⟩ := T1.ow p c (List.mem_append_left _ hm)
    exact ⟨h1, h3⟩
  · have kOc : ∀ q, q ∈ Oc.map (·.1) → w.Kp q = none := fun q hq => by
      obtain ⟨⟨p, c⟩, hm, rfl⟩ := List.mem_map.mp hq
      exact (T1.ow p c (List.mem_append_left _ hm)).2.1
    have orN : ∀ p c, (p, c) ∈ Or → p ∉ Oc.map (·.1) ∧ H p ≠ none := fun p c hm => ⟨fun z => nd3 p z p (List.mem_map.mpr ⟨(p, c), hm, rfl⟩) rfl, (T1.ow p c (List.mem_append_right _ hm)).2.2.there⟩
    refine Sat.pin (T1.grow C.bb C.bh (fun q o e => C.kp q o (T1.kh q o e) fun z => by rw [kOc q z] at e; cases e) (fun q hq => ?_) (fun p c hm => ?_) ?_) C.den
    · rcases C.fr q hq with z | z | z
      · exact .inl z
      · exact .inr (T1.kfree z)
      · exact .inr (kOc q z)
    · rcases List.mem_append.mp hm with hm | hm
      · obtain ⟨h1, h2, h3⟩ := C.ow p c hm
        exact ⟨h1, h2.elim (fun z => T1.kfree z) (kOc p), h3⟩
      · obtain ⟨n1, n2⟩ := orN p c hm
        obtain ⟨h1, h2, h3⟩ := T1.ow p c (List.mem_append_right _ hm)
        obtain ⟨o, eo⟩ : ∃ o, H p = some o := by
          cases e : H p with
          | none => exact absurd e n2
          | some o => exact ⟨o, rfl⟩
        refine ⟨?_, h2, h3.mono C.bb ((C.kp p o eo n1).trans eo.symm)⟩
        cases e : B' p with
        | none => rfl
        | some u =>
          rcases C.fr p (by rw [e]; simp) with z | z | z
          · exact absurd h1 z
          · exact absurd z n2
          · exact absurd z n1
    · rw [List.map_append, List.nodup_append]
      refine ⟨C.nd, nd2, fun a ha b hb e => ?_⟩
      subst e
      obtain ⟨⟨p, c⟩, hm, rfl⟩ := List.mem_map.mp ha
      obtain ⟨⟨p', c'⟩, hm', e'⟩ := List.mem_map.mp hb
      have e'' : p' = p := e'
      subst e''
      obtain ⟨n1, n2⟩ := orN p' c' hm'
      rcases (C.ow p' c hm).2.1 with z | z
      · exact n2 z
      · exact n1 z
theorem ew_call (h : AW K ta Γ O fun ds O1 => ∃ Oc Or, O1.Perm (Oc ++ Or) ∧ S ds Oc fun d Oc' => Post d (Oc' ++ Or)) : EW K (tCall (SpD K S) [] E ta) Γ O Post := fun w P σ H B T Q q =>
  h w P σ H B T _ fun ds vs O1 H1 B1 ⟨Oc, Or, hp, hS⟩ hd T1 => by
    show SpD K S (vs ++ []) H1 Q E
    rw [List.append_nil]
    exact call_sp hp hS hd T1 q
/-- nothing is lent -/
theorem ew_call0 (h : AW K ta Γ O fun ds O1 => S ds [] fun d Oc' => Post d (Oc' ++ O1)) : EW K (tCall (SpD K S) [] E ta) Γ O Post :=
  ew_call fun w P σ H B T Q q => h w P σ H B T Q fun ds vs O' H' B' p => q ds vs O' H' B' ⟨[], O', List.Perm.refl _, p⟩
/-- with keywords, which stand last -/
theorem ew_callN {n m : Nat} {gV : List V → List V → List V} (hg : ∀ vs zs, gV vs zs = vs ++ zs) (h : AW K ta Γ O fun ds O1 => AW K tk Γ O1 fun es O2 => ds.length = n ∧ es.length = m ∧ ∃ Oc Or, O2.Perm (Oc ++ Or) ∧ S (ds ++ es) Oc fun d Oc' => Post d (Oc' ++ Or)) :
    EW K (tCallN n m (SpD K S) gV E ta tk) Γ O Post := fun w P σ H B T Q q =>
  h w P σ H B T _ fun ds vs O1 H1 B1 p1 hd T1 => p1 w (ds.zip vs ++ P) σ H1 B1 (T1.pinL hd) _ fun es us O2 H2 B2 ⟨l1, l2, Oc, Or, hp, hS⟩ he T2 => by
    have hd2 : DenL K B2 ds vs := .of_zip hd.length fun d v z => T2.pi d v (List.mem_append_left _ z)
    refine ⟨hd.length.symm.trans l1, he.length.symm.trans l2, ?_⟩
    rw [hg]
    exact call_sp hp hS (hd2.append he) (T2.pins fun z hz => List.mem_append_right _ hz) q
end
/-! ### a def's body -/
def startG (N : List Str) (ds : List Dt) : Gm := ds.map some ++ List.replicate (N.length - ds.length) none
section
variable {P : Program} {w : World} {K : PySem.W.Frag} {mg : Str → Option Value} {base : Heap}
theorem sat_start {N : List Str} {B H : Hp} {ds : List Dt} {vs : List V} {Oc : Own} (hb : Same B H) (hd : DenL K B ds vs) (ho : ∀ p c, (p, c) ∈ Oc → B p = none ∧ CellAt K B H p c) (nd : (Oc.map (·.1)).Nodup) :
    Sat K ⟨fun q => if q ∈ Oc.map (·.1) then none else H q, B⟩ (startG N ds) Oc [] (L2.start N vs) H B := by
  refine ⟨Same.refl _, hb, fun q o e => ?_, fun q hq => .inl hq, ?_, fun i d q => ?_, fun p c hm => ?_, nd, fun d v q => by cases q⟩
  · have e' : (if q ∈ Oc.map (·.1) then none else H q) = some o := e
    split at e'
    · cases e'
    · exact e'
  · unfold startG L2.start
    simp [hd.length]
  · unfold startG at q
    unfold L2.start
    rw [List.getElem?_append, List.length_map] at q
    rw [List.getElem?_append, List.length_map]
    split at q
    · rename_i hi
      rw [if_pos (by rw [← hd.length]; exact hi)]
      rw [List.getElem?_map] at q
      rw [List.getElem?_map]
      cases e : ds[i]? with
      | none => rw [e] at q; cases q
      | some d' =>
        rw [e] at q
        cases q
        obtain ⟨v, h1, h2⟩ := hd.get e
        exact ⟨v, by rw [h1]; rfl, h2⟩
    · rw [List.getElem?_replicate] at q
      split at q <;> cases q
  · obtain ⟨h1, h2⟩ := ho p c hm
    exact ⟨h1, if_pos (List.mem_map.mpr ⟨(p, c), hm, rfl⟩), h2⟩
theorem clo_of {K : PySem.W.Frag} {B H : Hp} {Oc Oc' : Own} {d : Dt} {v : V} {Γ' : Gm} {σ' : L2.St} {H' B' : Hp} (T : Sat K ⟨fun q => if q ∈ Oc.map (·.1) then none else H q, B⟩ Γ' Oc' [(d, v)] σ' H' B') : Clo K B H Oc d v Oc' H' B' := by
  have kz : ∀ q, (if q ∈ Oc.map (·.1) then none else H q) = none → H q = none ∨ q ∈ Oc.map (·.1) := fun q z => by
    split at z
    · exact .inr ‹_›
    · exact .inl z
  refine ⟨T.b0, T.bh, fun q o e hn => T.kh q o (by show (if q ∈ Oc.map (·.1) then none else H q) = some o; rw [if_neg hn]; exact e), fun q hq => ?_, T.pi d v List.mem_cons_self, fun p c hm => ?_, T.nd⟩
  · rcases T.fr q hq with z | z
    · exact .inl z
    · exact .inr (kz q z)
  · obtain ⟨h1, h2, h3⟩ := T.ow p c hm
    exact ⟨h1, kz p h2, h3⟩
/-- THE RULE for a def: its body as a term of rules, and what it does to data -/
theorem fn_ok {x qual : Str} {st : Stmt} {f : Addr} {fd : FuncData} {N ps : List Str} {k : Nat} {S : SpT} (F : Fun K x qual st f fd) (Sc : FnScope N ps (defScope st)) (len : ∀ ds Oc Post, S ds Oc Post → ds.length = ps.length)
    (hbody : ∀ (cdv : Value) (A : Around) (outer : List Env) (s : Shared) (H : Hp) (E : XK), Room k (A.deeper (envOfC qual (defScope st) s.heap.objs.size f cdv)) →
      ∃ t, PSs (cxOf CX0 P w K mg base N qual (defScope st) f cdv A outer s H E).nox (defBody st) t ∧ ∀ ds Oc Post, S ds Oc Post → SW K t (startG N ds) Oc { nx := fun _ O => Post .non O, rt := Post }) : FnOk P w K mg base CX0 (k + 1) f fd ps (SpD K S) := by
  refine F.ok Sc (fun vs H Q E h => ?_) (fun cdv A outer s H vs Q E hr h => ?_)
  · obtain ⟨B, ds, Oc, Post, _, hd, _, _, hS, _⟩ := h
    rw [← hd.length]
    exact len _ _ _ hS
  · obtain ⟨B, ds, Oc, Post, hb, hd, ho, nd, hS, q⟩ := h
    obtain ⟨t, ht, hw⟩ := hbody cdv A outer s H E hr
    refine ⟨t, ht, hw ds Oc Post hS _ [] _ H B (sat_start hb hd ho nd) _ ⟨fun Γ' O' σ' H' B' p T => ?_, fun d v Γ' O' σ' H' B' p T => q d v O' H' B' p (clo_of T), fun _ _ _ _ _ p _ => p.elim, fun _ _ _ _ _ p _ => p.elim⟩⟩
    exact q .non .non O' H' B' p (clo_of (T.pin .non))
end
end DL
namespace DL
open PySem PySem.Spec PyProof.Rows L2
/-! ### operators whatever the kinds -/
section
variable {X : Cx}
theorem SlR.or' {r r' : V → Option Int → Option Int → Hp → VK → Prop} (h : SlR X r) (h' : SlR X r') : SlR X (fun x lo hi H Q => r x lo hi H Q ∨ r' x lo hi H Q) := h.or h'
def rPlus (K : PySem.W.Frag) : R2 := fun x y H Q => (rI0 fun i j => .int (i + j)) x y H Q ∨ rCatA K x y H Q ∨ rCat x y H Q ∨ (∃ i j, x = .str i ∧ y = .str j ∧ i.length + j.length ≤ sizeLine ∧ Q (.str (i ++ j)) H)
theorem op_plus : OpR X (binaryOp .Add) (rPlus X.K) := op_add.or (op_catA.or (op_cat.or op_add_str))
def rTimes (K : PySem.W.Frag) : R2 := fun x y H Q => (rI CMul fun i j => .int (i * j)) x y H Q ∨ rRep x y H Q ∨ rRepT K x y H Q
theorem op_times : OpR X (binaryOp .Mult) (rTimes X.K) := op_mul.or (op_rep.or op_repT)
def rSl (K : PySem.W.Frag) : V → Option Int → Option Int → Hp → VK → Prop := fun x lo hi H Q => rSlA K x lo hi H Q ∨ rSlL K x lo hi H Q
theorem sl_any : SlR X (rSl X.K) := sl_tupA.or sl_list
def rInA (K : PySem.W.Frag) (neg : Bool) : R2 := fun x y H Q => rInG K neg x y H Q ∨ (∃ c z, x = .str ⟨#[c]⟩ ∧ y = .str z ∧ Q (.bl (if neg then !(decide (c ∈ z.cps.toList)) else decide (c ∈ z.cps.toList))) H)
theorem op_inA (hu : X.A.units + 64 < cLine) : OpR X (compareOp .In) (rInA X.K false) := (op_inG hu).or op_in_sign
theorem op_notInA (hu : X.A.units + 64 < cLine) : OpR X (compareOp .NotIn) (rInA X.K true) := (op_notInG hu).or op_notIn_sign
def rLen (K : PySem.W.Frag) : List V → Hp → VK → Prop := fun xs H Q => (∃ p ys, xs = [.ref p] ∧ (SqL K H p ys ∨ SqT K H p ys) ∧ Q (.int ys.length) H) ∨ (∃ z, xs = [.str z] ∧ z.length ≤ sizeLine ∧ Q (.int z.length) H)
theorem call_lenG : CallR X (.builtin "len") (rLen X.K) := call_len_seq.or call_len_str
/-- for over a list, a tuple, a text -/
def iSeq (K : PySem.W.Frag) (tl : TE) : TI := fun σ H R => tl σ H fun x H1 => (∃ a, x = .ref a ∧ (∃ xs, SqL K H1 a xs) ∧ R (Itl K a) H1) ∨ (∃ a, x = .ref a ∧ (∃ xs, SqT K H1 a xs) ∧ R (Itt K a) H1) ∨ (∃ z, x = .str z ∧ R (Its z) H1)
theorem pi_seq {tg l : Expr} {tl : TE} (hl : PE X l tl) : PI X tg l (iSeq X.K tl) := by
  refine ⟨fun pins s σ H R I h => ?_⟩
  refine thn (hl.run pins s σ H _ I h) fun v s1 ⟨x, H1, I1, r1, q1⟩ => ?_
  -- each kind by its own rule, at the value
  have one : ∀ (wi : TI), PI (X) tg l wi → True := fun _ _ => trivial
  rcases q1 with ⟨a, e, hq, q⟩ | ⟨a, e, hq, q⟩ | ⟨z, e, q⟩
  · subst e
    obtain ⟨xs, hq⟩ := hq
    cases r1
    obtain ⟨its, rv, p, hz⟩ := I1.list hq
    refine wpAny_pyIter_list p.isList ?_
    refine ⟨s1.heap.objs.size, [s1.heap.objs.size], _, _, H1, rfl, I1.kept (t' := s1.toks) fun b o e => Heap.get?_push_of_some _ e, turn_list a _, ⟨_, Heap.get?_push_size _ rfl, rfl, rfl⟩, fun b hb => ?_, q⟩
    have e : b = s1.heap.objs.size := by simpa using hb
    subst e
    exact I1.fpOk (Nat.le_refl _) (I1.hok.fresh (Nat.le_refl _))
  · subst e
    obtain ⟨xs, hq⟩ := hq
    cases r1
    obtain ⟨its, rv, p, hz⟩ := I1.tuple hq
    refine wpAny_pyIter_tuple (show s1.heap.IsTuple a its.toArray from p) ?_
    refine ⟨s1.heap.objs.size, [s1.heap.objs.size], _, _, H1, rfl, I1.kept (t' := s1.toks) fun b o e => Heap.get?_push_of_some _ e, turn_tuple a _, ⟨_, Heap.get?_push_size _ rfl, rfl, rfl⟩, fun b hb => ?_, q⟩
    have e : b = s1.heap.objs.size := by simpa using hb
    subst e
    exact I1.fpOk (Nat.le_refl _) (I1.hok.fresh (Nat.le_refl _))
  · subst e
    obtain ⟨t, rfl⟩ := r1
    cases ha : z.cps.all (· < 128)
    · exact wpAny_pyIter_wide ha (pi_one (tk := s1.toks) I1 _ (turn_str _ z t "str_iterator" (.inr rfl)) ⟨_, Heap.get?_push_size _ rfl, rfl, rfl⟩ q)
    · exact wpAny_pyIter_ascii ha (pi_one (tk := s1.toks) I1 _ (turn_str _ z t "str_ascii_iterator" (.inl rfl)) ⟨_, Heap.get?_push_size _ rfl, rfl, rfl⟩ q)
end
section
variable {K : PySem.W.Frag} {Γ : Gm} {O : Own} {Post : Dt → Own → Prop} {d e : Dt} {ta : TA} {te to : TE}
/-! + -/
theorem rwp_int {i j : Int} (k : Post (.int (i + j)) O) : RW K (rPlus K) (.int i) (.int j) O Post := fun w Γ P σ H B x y S hx hy Q q => .inl (rw_add k w Γ P σ H B x y S hx hy Q q)
theorem rwp_tup {ds es : List Dt} (hz : ds.length + es.length ≤ sizeLine) (k : Post (.tup (ds ++ es)) O) : RW K (rPlus K) (.tup ds) (.tup es) O Post := fun w Γ P σ H B x y S hx hy Q q => .inr (.inl (rw_catT hz k w Γ P σ H B x y S hx hy Q q))
theorem rwp_lst {c e : Dt} {ds es : List Dt} (v1 : View O c (.lst ds)) (v2 : View O e (.lst es)) (hz : ds.length + es.length ≤ sizeLine) (k : Post (.lst (ds ++ es)) O) : RW K (rPlus K) c e O Post := fun w Γ P σ H B x y S hx hy Q q => .inr (.inr (.inl (rw_catL v1 v2 hz k w Γ P σ H B x y S hx hy Q q)))
theorem rwp_str {i j : Str} (hz : i.length + j.length ≤ sizeLine) (k : Post (.str (i ++ j)) O) : RW K (rPlus K) (.str i) (.str j) O Post := fun w Γ P σ H B x y S hx hy Q q => .inr (.inr (.inr (rw_catS hz k w Γ P σ H B x y S hx hy Q q)))
/-- the concatenation of lists as an owned list -/
theorem rwp_lstO {c e : Dt} {ds es : List Dt} (v1 : View O c (.lst ds)) (v2 : View O e (.lst es)) (hz : ds.length + es.length ≤ sizeLine) (k : ∀ p, Post (.raw (.ref p)) ((p, .lst (ds ++ es)) :: O)) : RW K (rPlus K) c e O Post := fun w Γ P σ H B x y S hx hy Q q => .inr (.inr (.inl (by
  obtain ⟨a, vs, rfl, h1, h2⟩ := v1.list S hx
  obtain ⟨b, us, rfl, g1, g2⟩ := v2.list S hy
  exact ⟨_, _, _, _, rfl, rfl, h1, g1, by rw [← h2.length, ← g2.length]; exact hz, fun p hp => q _ _ _ _ _ (k p) ((S.newOwn (c := .lst (ds ++ es)) hp ⟨_, upd_same, h2.append g2⟩).pin (.raw _))⟩)))
/-! * -/
theorem rwt_int {i j : Int} (hc : CMul i j) (k : Post (.int (i * j)) O) : RW K (rTimes K) (.int i) (.int j) O Post := fun w Γ P σ H B x y S hx hy Q q => .inl (rw_mul hc k w Γ P σ H B x y S hx hy Q q)
theorem DenL.rep {K : PySem.W.Frag} {H : Hp} {ds : List Dt} {vs : List V} (h : DenL K H ds vs) : ∀ n : Nat, DenL K H (List.replicate n ds).flatten (List.replicate n vs).flatten
  | 0 => .nil
  | n + 1 => by
    rw [List.replicate_succ, List.replicate_succ, List.flatten_cons, List.flatten_cons]
    exact h.append (DenL.rep h n)
theorem rwt_lst {c : Dt} {ds : List Dt} {j : Int} (v1 : View O c (.lst ds)) (h1 : -(2 ^ 63) ≤ j) (h2 : j < 2 ^ 63) (hz : ds.length * j.toNat ≤ sizeLine) (k : Post (.lst (List.replicate j.toNat ds).flatten) O) : RW K (rTimes K) c (.int j) O Post := fun w Γ P σ H B x y S hx hy Q q => .inr (.inl (by
  obtain ⟨a, vs, rfl, g1, g2⟩ := v1.list S hx
  cases hy
  exact ⟨_, j, _, rfl, rfl, g1, h1, h2, by rw [← g2.length]; exact hz, fun p hp => q _ _ O _ _ k ((S.new hp).pin (.lst upd_same ((g2.rep _).mono (same_upd (S.bfree hp)))))⟩))
theorem rwt_tup {ds : List Dt} {j : Int} (h0 : ds ≠ []) (h1 : 2 ≤ j) (h2 : j ≤ 1000) (hz : ds.length ≤ 1000) (k : Post (.tup (List.replicate j.toNat ds).flatten) O) : RW K (rTimes K) (.tup ds) (.int j) O Post := fun w Γ P σ H B x y S hx hy Q q => .inr (.inr (by
  cases hy
  cases hx with
  | @tup a vs _ g1 g2 =>
    exact ⟨_, j, _, rfl, rfl, sqT_mono S.bh g1, fun e => h0 (by subst e; cases g2; rfl), h1, h2, by rw [← g2.length]; exact hz, fun p hp => q _ _ O _ _ k ((S.new hp).pin (.tup (SqT.of upd_same) ((g2.rep _).mono (same_upd (S.bfree hp)))))⟩))
/-! slices -/
theorem ew_slTA {tl th : TO} (h : EW K te Γ O fun d O1 => PW K tl Γ O1 fun lo O2 => PW K th Γ O2 fun hi O3 => (∃ es, d = .tup es ∧ Post (.tup (cutD es lo hi)) O3)) : EW K (tSl (rSl K) te tl th) Γ O Post := fun w P σ H B S Q q => by
  have h' := ew_slT h w P σ H B S Q q
  have mono : ∀ {x l u H' Q'}, rSlA K x l u H' Q' → rSl K x l u H' Q' := fun z => .inl z
  exact h w P σ H B S _ fun d x O1 H1 B1 p1 S1 => p1 w _ σ H1 B1 S1 _ fun lo O2 H2 B2 p2 S2 => p2 w _ σ H2 B2 S2 _ fun hi O3 H3 B3 ⟨es, e, p3⟩ S3 => .inl (by
    subst e
    have hx := S3.pi _ x List.mem_cons_self
    have S3' := S3.pins (P' := P) fun z hz => by simp [hz]
    cases hx with
    | tup h1 h2 =>
      refine ⟨_, _, rfl, sqT_mono S3.bh h1, fun hw => ?_, fun _ p hp => q _ _ O3 _ _ p3 ((S3'.new hp).pin (.tup (SqT.of upd_same) ((cutD_den h2).mono (same_upd (S3.bfree hp)))))⟩
      have e2 : cutD es lo hi = es := by
        have hl := h2.length
        unfold cutD
        rw [hl, hw.1, hw.2, Nat.sub_zero, List.drop_zero, ← hl, List.take_length]
      rw [e2] at p3
      exact q _ _ O3 _ _ p3 (S3'.pin (.tup h1 h2)))
theorem ew_slLA {tl th : TO} (h : EW K te Γ O fun d O1 => PW K tl Γ O1 fun lo O2 => PW K th Γ O2 fun hi O3 => (∃ es, View O3 d (.lst es) ∧ Post (.lst (cutD es lo hi)) O3)) : EW K (tSl (rSl K) te tl th) Γ O Post := fun w P σ H B S Q q =>
  h w P σ H B S _ fun d x O1 H1 B1 p1 S1 => p1 w _ σ H1 B1 S1 _ fun lo O2 H2 B2 p2 S2 => p2 w _ σ H2 B2 S2 _ fun hi O3 H3 B3 ⟨es, vw, p3⟩ S3 => .inr (by
    have hx := S3.pi _ x List.mem_cons_self
    have S3' := S3.pins (P' := P) fun z hz => by simp [hz]
    obtain ⟨a, vs, rfl, h1, h2⟩ := vw.list S3 hx
    exact ⟨_, _, rfl, SqL.of h1, fun p hp => q _ _ O3 _ _ p3 ((S3'.new hp).pin (.lst upd_same ((cutD_den h2).mono (same_upd (S3.bfree hp)))))⟩)
/-- xs[::-1] -/
theorem DenL.rev {K : PySem.W.Frag} {H : Hp} : ∀ {ds : List Dt} {vs : List V}, DenL K H ds vs → DenL K H ds.reverse vs.reverse
  | _, _, .nil => .nil
  | _, _, .cons h q => by
    rw [List.reverse_cons, List.reverse_cons]
    exact (DenL.rev q).append (.cons h .nil)
theorem ew_revL (h : EW K te Γ O fun d O1 => ∃ es, View O1 d (.lst es) ∧ Post (.lst es.reverse) O1) : EW K (tRevL K te) Γ O Post := fun w P σ H B S Q q =>
  h w P σ H B S _ fun d x O1 H1 B1 ⟨es, vw, p⟩ S1 => by
    have hx := S1.pi _ x List.mem_cons_self
    have S2 := S1.pins (P' := P) fun z hz => by simp [hz]
    obtain ⟨a, vs, rfl, h1, h2⟩ := vw.list S1 hx
    exact ⟨_, _, rfl, SqL.of h1, fun p' hp => q _ _ O1 _ _ p ((S2.new hp).pin (.lst upd_same (h2.rev.mono (same_upd (S2.bfree hp)))))⟩
/-! in -/
theorem rwi_L {es : List Dt} {neg : Bool} (v2 : View O e (.lst es)) (h1 : Dt.ok 30 d = true) (h2 : Dt.okL 30 es = true) (k : Post (.bl (if neg then !(es.any fun e => eqD e d) else es.any fun e => eqD e d)) O) : RW K (rInA K neg) d e O Post := fun w Γ P σ H B x y S hx hy Q q =>
  .inl ⟨d, es, _, hx.mono S.bh, .inl rfl, v2.den S hy, h1, h2, q _ _ O H B k (S.pin (.bl _))⟩
theorem rwi_T {es : List Dt} {neg : Bool} (h1 : Dt.ok 30 d = true) (h2 : Dt.okL 30 es = true) (k : Post (.bl (if neg then !(es.any fun e => eqD e d) else es.any fun e => eqD e d)) O) : RW K (rInA K neg) d (.tup es) O Post := fun w Γ P σ H B x y S hx hy Q q =>
  .inl ⟨d, es, _, hx.mono S.bh, .inr rfl, hy.mono S.bh, h1, h2, q _ _ O H B k (S.pin (.bl _))⟩
theorem rwi_c {c : Nat} {z : Str} {neg : Bool} (k : Post (.bl (if neg then !(decide (c ∈ z.cps.toList)) else decide (c ∈ z.cps.toList))) O) : RW K (rInA K neg) (.str ⟨#[c]⟩) (.str z) O Post := fun w Γ P σ H B x y S hx hy Q q => by
  cases hx
  cases hy
  exact .inr ⟨c, z, rfl, rfl, q _ _ O H B k (S.pin (.bl _))⟩
/-! what is walked -/
variable {PostI : List Dt → Option Addr → Own → Prop}
theorem iws_lst (h : EW K te Γ O fun d O1 => ∃ ds, d = .lst ds ∧ PostI ds none O1) : IW K (iSeq K te) Γ O PostI := fun w P σ H B S R q =>
  h w P σ H B S _ fun d v O1 H1 B1 ⟨ds, e, p⟩ S1 => by
    have hd := S1.pi d v List.mem_cons_self
    have S2 := S1.pins (P' := P) fun z hz => by simp [hz]
    subst e
    cases hd with
    | lst h1 h2 => exact .inl ⟨_, rfl, ⟨_, SqL.of (S1.bh _ _ h1)⟩, q ds none O1 _ H1 B1 p S2 (itd_list (SqL.of h1) h2)⟩
theorem iws_ro (h : EW K te Γ O fun d O1 => ∃ ds, d = .ro ds ∧ PostI ds none O1) : IW K (iSeq K te) Γ O PostI := fun w P σ H B S R q =>
  h w P σ H B S _ fun d v O1 H1 B1 ⟨ds, e, p⟩ S1 => by
    have hd := S1.pi d v List.mem_cons_self
    have S2 := S1.pins (P' := P) fun z hz => by simp [hz]
    subst e
    cases hd with
    | ro h1 h2 => exact .inl ⟨_, rfl, ⟨_, S1.bh.seq h1⟩, q ds none O1 _ H1 B1 p S2 (itd_list h1 h2)⟩
theorem iws_own (h : EW K te Γ O fun d O1 => ∃ p ds, d = .raw (.ref p) ∧ (p, .lst ds) ∈ O1 ∧ PostI ds (some p) O1) : IW K (iSeq K te) Γ O PostI := fun w P σ H B S R q =>
  h w P σ H B S _ fun d v O1 H1 B1 ⟨a, ds, e, hm, p⟩ S1 => by
    subst e
    have hd := S1.pi _ v List.mem_cons_self
    have S2 := S1.pins (P' := P) fun z hz => by simp [hz]
    cases hd
    obtain ⟨_, _, vs, h1, h2⟩ := S2.ow a _ hm
    exact .inl ⟨a, rfl, ⟨vs, SqL.of h1⟩, q ds (some a) O1 _ H1 B1 p S2 itd_own⟩
theorem iws_tup (h : EW K te Γ O fun d O1 => ∃ ds, d = .tup ds ∧ PostI ds none O1) : IW K (iSeq K te) Γ O PostI := fun w P σ H B S R q =>
  h w P σ H B S _ fun d v O1 H1 B1 ⟨ds, e, p⟩ S1 => by
    subst e
    have hd := S1.pi _ v List.mem_cons_self
    have S2 := S1.pins (P' := P) fun z hz => by simp [hz]
    cases hd with
    | tup h1 h2 => exact .inr (.inl ⟨_, rfl, ⟨_, sqT_mono S1.bh h1⟩, q ds none O1 _ H1 B1 p S2 (itd_tup h1 h2)⟩)
theorem itd_str {z : Str} {B1 : Hp} : ItD K (Its z) (z.cps.toList.map fun c => .str ⟨#[c]⟩) none B1 := by
  have hl : (z.cps.toList.map fun c => Dt.str ⟨#[c]⟩).length = z.cps.size := by simp
  refine ⟨fun i H B e1 e2 _ hi => ?_, fun i d H x H' B e1 e2 _ hi y => ?_, fun H B e1 e2 _ => ?_⟩
  · show i < z.cps.size
    rwa [hl] at hi
  · obtain ⟨rfl, c, hc, rfl⟩ := y
    refine ⟨B, Same.refl _, e2, Same.refl _, fun q hq => .inl hq, ?_⟩
    rw [List.getElem?_map, Array.getElem?_toList, hc] at hi
    cases hi
    exact .str _
  · show z.cps.size ≤ _
    rw [hl]; exact Nat.le_refl _
theorem iws_str (h : EW K te Γ O fun d O1 => ∃ z, d = .str z ∧ PostI (z.cps.toList.map fun c => .str ⟨#[c]⟩) none O1) : IW K (iSeq K te) Γ O PostI := fun w P σ H B S R q =>
  h w P σ H B S _ fun d v O1 H1 B1 ⟨z, e, p⟩ S1 => by
    subst e
    have hd := S1.pi _ v List.mem_cons_self
    have S2 := S1.pins (P' := P) fun z hz => by simp [hz]
    cases hd
    exact .inr (.inr ⟨z, rfl, q _ none O1 _ H1 B1 p S2 itd_str⟩)
/-- zip of two lists | tuples -/
theorem itd_pair {J : It} {n : Nat} {G : Hp → Prop} {fx fy : Nat → Option V} {ds es : List Dt} {B1 : Hp} (W : Walk J n G (YPair fx fy)) (hG : ∀ B H, Same B1 B → Same B H → G H) (hn : n = min ds.length es.length)
    (hx : ∀ (i : Nat) (d : Dt) x, ds[i]? = some d → fx i = some x → Den K B1 d x) (hy : ∀ (i : Nat) (d : Dt) x, es[i]? = some d → fy i = some x → Den K B1 d x) : ItD K J (List.zipWith (fun d e => .tup [d, e]) ds es) none B1 := by
  have hl : (List.zipWith (fun d e => Dt.tup [d, e]) ds es).length = n := by rw [List.length_zipWith, hn]
  refine ⟨fun i H B e1 e2 _ hi => W.goes i H (by rwa [hl] at hi) (hG B H e1 e2), fun i d H x H' B e1 e2 _ hi y => ?_, fun H B e1 e2 _ => by rw [hl]; exact W.stops H (hG B H e1 e2)⟩
  have hin : i < n := by
    have := (List.getElem?_eq_some_iff.mp hi).1
    rwa [hl] at this
  obtain ⟨T, a, b, rfl, hT, rfl, h1, h2⟩ := W.yields i H x H' hin (hG B H e1 e2) y
  have bT : B T = none := e2.free hT
  rw [List.getElem?_zipWith] at hi
  cases hd : ds[i]? with
  | none => rw [hd] at hi; cases hi
  | some d1 =>
    cases he : es[i]? with
    | none => rw [hd, he] at hi; cases hi
    | some e1' =>
      rw [hd, he] at hi
      cases hi
      refine ⟨upd B T (.tup [a, b]), same_upd bT, fun q u e => ?_, same_upd hT, fun q hq => ?_, .tup (SqT.of upd_same) (.cons (((hx i d1 a hd h1).mono e1).mono (same_upd bT)) (.cons (((hy i e1' b he h2).mono e1).mono (same_upd bT)) .nil))⟩
      · by_cases z : q = T
        · subst z; rw [upd_same] at e ⊢; exact e
        · rw [upd_ne z] at e ⊢; exact e2 _ _ e
      · rcases upd_some hq with rfl | z
        · exact .inr hT
        · exact .inl z
end
end DL
namespace DL
open PySem PySem.Spec PyProof.Rows L2
section
variable {K : PySem.W.Frag} {Γ : Gm} {O : Own} {Post : Dt → Own → Prop} {d e : Dt} {ta : TA} {te to : TE}
theorem ew_cb {r : List V → Hp → VK → Prop} (h : AW K ta Γ O fun ds O1 => CW K r ds O1 Post) : EW K (tCB r ta) Γ O Post := fun w P σ H B S Q q =>
  h w P σ H B S _ fun ds vs O1 H1 B1 p hd S1 => p w Γ P σ H1 B1 vs S1 hd Q q
theorem cw_lenL {es : List Dt} (v : View O d (.lst es)) (k : Post (.int es.length) O) : CW K (rLen K) [d] O Post := fun w Γ P σ H B xs S hd Q q => by
  cases hd with
  | cons h1 h2 =>
    cases h2
    obtain ⟨a, vs, rfl, g1, g2⟩ := v.list S h1
    exact .inl ⟨a, vs, rfl, .inl (SqL.of g1), q _ _ O H B k (S.pin (by rw [g2.length]; exact .int _))⟩
theorem cw_lenT {es : List Dt} (k : Post (.int es.length) O) : CW K (rLen K) [.tup es] O Post := fun w Γ P σ H B xs S hd Q q => by
  cases hd with
  | cons h1 h2 =>
    cases h2
    cases h1 with
    | tup g1 g2 => exact .inl ⟨_, _, rfl, .inr (sqT_mono S.bh g1), q _ _ O H B k (S.pin (by rw [g2.length]; exact .int _))⟩
theorem cw_lenR {es : List Dt} (k : Post (.int es.length) O) : CW K (rLen K) [.ro es] O Post := fun w Γ P σ H B xs S hd Q q => by
  cases hd with
  | cons h1 h2 =>
    cases h2
    cases h1 with
    | ro g1 g2 => exact .inl ⟨_, _, rfl, .inl (S.bh.seq g1), q _ _ O H B k (S.pin (by rw [g2.length]; exact .int _))⟩
theorem cw_lenS {z : Str} (hz : z.length ≤ sizeLine) (k : Post (.int z.length) O) : CW K (rLen K) [.str z] O Post := fun w Γ P σ H B xs S hd Q q => by
  cases hd with
  | cons h1 h2 =>
    cases h2
    cases h1
    exact .inr ⟨z, rfl, hz, q _ _ O H B k (S.pin (.int _))⟩
abbrev rMax2 : List V → Hp → VK → Prop := fun xs H Q => ∃ i j, xs = [V.int i, V.int j] ∧ Q (.int (if j > i then j else i)) H
abbrev rMin2 : List V → Hp → VK → Prop := fun xs H Q => ∃ i j, xs = [V.int i, V.int j] ∧ Q (.int (if j < i then j else i)) H
theorem cw_max2 {i j : Int} (k : Post (.int (max i j)) O) : CW K rMax2 [.int i, .int j] O Post := fun w Γ P σ H B xs S hd Q q => by
  cases hd with
  | cons h1 h2 =>
    cases h2 with
    | cons h2 h3 =>
      cases h3
      cases h1
      cases h2
      have e : (if j > i then j else i) = max i j := by split <;> omega
      exact ⟨i, j, rfl, by rw [e]; exact q _ _ O H B k (S.pin (.int _))⟩
theorem cw_min2 {i j : Int} (k : Post (.int (min i j)) O) : CW K rMin2 [.int i, .int j] O Post := fun w Γ P σ H B xs S hd Q q => by
  cases hd with
  | cons h1 h2 =>
    cases h2 with
    | cons h2 h3 =>
      cases h3
      cases h1
      cases h2
      have e : (if j < i then j else i) = min i j := by split <;> omega
      exact ⟨i, j, rfl, by rw [e]; exact q _ _ O H B k (S.pin (.int _))⟩
abbrev rInt1 : List V → Hp → VK → Prop := fun xs H Q => (∃ i, xs = [V.int i] ∧ Q (.int i) H) ∨ ∃ k, xs = [V.bl k] ∧ Q (.int (if k then 1 else 0)) H
theorem cw_intB {b : Bool} (k : Post (.int (if b then 1 else 0)) O) : CW K rInt1 [.bl b] O Post := fun w Γ P σ H B xs S hd Q q => by
  cases hd with
  | cons h1 h2 =>
    cases h2
    cases h1
    exact .inr ⟨b, rfl, q _ _ O H B k (S.pin (.int _))⟩
abbrev rTupleOf (K : PySem.W.Frag) : List V → Hp → VK → Prop := fun xs H Q => ∃ p ys, xs = [V.ref p] ∧ ((SqL K H p ys ∧ ∀ l, H l = none → Q (.ref l) (upd H l (.tup ys))) ∨ (SqT K H p ys ∧ Q (.ref p) H))
theorem cw_tupL {es : List Dt} (v : View O d (.lst es)) (k : Post (.tup es) O) : CW K (rTupleOf K) [d] O Post := fun w Γ P σ H B xs S hd Q q => by
  cases hd with
  | cons h1 h2 =>
    cases h2
    obtain ⟨a, vs, rfl, g1, g2⟩ := v.list S h1
    exact ⟨a, vs, rfl, .inl ⟨SqL.of g1, fun l hl => q _ _ O _ _ k ((S.new hl).pin (.tup (SqT.of upd_same) (g2.mono (same_upd (S.bfree hl)))))⟩⟩
theorem cw_tupT {es : List Dt} (k : Post (.tup es) O) : CW K (rTupleOf K) [.tup es] O Post := fun w Γ P σ H B xs S hd Q q => by
  cases hd with
  | cons h1 h2 =>
    cases h2
    cases h1 with
    | tup g1 g2 => exact ⟨_, _, rfl, .inr ⟨sqT_mono S.bh g1, q _ _ O H B k (S.pin (.tup g1 g2))⟩⟩
abbrev rListOf (K : PySem.W.Frag) : List V → Hp → VK → Prop := fun xs H Q => ∃ p ys, xs = [V.ref p] ∧ (SqL K H p ys ∨ SqT K H p ys) ∧ ∀ l, H l = none → Q (.ref l) (upd H l (.lst ys))
theorem cw_listL {es : List Dt} (v : View O d (.lst es)) (k : Post (.lst es) O) : CW K (rListOf K) [d] O Post := fun w Γ P σ H B xs S hd Q q => by
  cases hd with
  | cons h1 h2 =>
    cases h2
    obtain ⟨a, vs, rfl, g1, g2⟩ := v.list S h1
    exact ⟨a, vs, rfl, .inl (SqL.of g1), fun l hl => q _ _ O _ _ k ((S.new hl).pin (.lst upd_same (g2.mono (same_upd (S.bfree hl)))))⟩
theorem cw_listT {es : List Dt} (k : Post (.lst es) O) : CW K (rListOf K) [.tup es] O Post := fun w Γ P σ H B xs S hd Q q => by
  cases hd with
  | cons h1 h2 =>
    cases h2
    cases h1 with
    | tup g1 g2 => exact ⟨_, _, rfl, .inr (sqT_mono S.bh g1), fun l hl => q _ _ O _ _ k ((S.new hl).pin (.lst upd_same (g2.mono (same_upd (S.bfree hl)))))⟩
theorem den_bls {K : PySem.W.Frag} {B : Hp} : ∀ {bs : List Bool} {vs : List V}, DenL K B (bs.map Dt.bl) vs → vs = bs.map V.bl
  | [], _, h => by cases h; rfl
  | b :: bs, _, h => by
    cases h with
    | cons h1 h2 => cases h1; rw [den_bls h2]; rfl
theorem den_ints {K : PySem.W.Frag} {B : Hp} : ∀ {bs : List Int} {vs : List V}, DenL K B (bs.map Dt.int) vs → vs = bs.map V.int
  | [], _, h => by cases h; rfl
  | b :: bs, _, h => by
    cases h with
    | cons h1 h2 => cases h1; rw [den_ints h2]; rfl
theorem den_strs {K : PySem.W.Frag} {B : Hp} : ∀ {bs : List Str} {vs : List V}, DenL K B (bs.map Dt.str) vs → vs = bs.map V.str
  | [], _, h => by cases h; rfl
  | b :: bs, _, h => by
    cases h with
    | cons h1 h2 => cases h1; rw [den_strs h2]; rfl
theorem cw_all {bs : List Bool} {zs : List Dt} (v : View O d (.lst zs)) (ez : zs = bs.map .bl) (k : Post (.bl (bs.all id)) O) : CW K (rAll K) [d] O Post := fun w Γ P σ H B xs S hd Q q => by
  subst ez
  cases hd with
  | cons h1 h2 =>
    cases h2
    obtain ⟨a, vs, rfl, g1, g2⟩ := v.list S h1
    have e := den_bls g2
    subst e
    exact ⟨a, bs, rfl, SqL.of g1, q _ _ O H B k (S.pin (.bl _))⟩
theorem cw_sum {bs : List Int} {zs : List Dt} (v : View O d (.lst zs)) (ez : zs = bs.map .int) (k : Post (.int bs.sum) O) : CW K (rSum K) [d] O Post := fun w Γ P σ H B xs S hd Q q => by
  subst ez
  cases hd with
  | cons h1 h2 =>
    cases h2
    obtain ⟨a, vs, rfl, g1, g2⟩ := v.list S h1
    have e := den_ints g2
    subst e
    exact ⟨a, bs, rfl, SqL.of g1, q _ _ O H B k (S.pin (.int _))⟩
theorem cw_maxL {bs : List Int} {zs : List Dt} (v : View O d (.lst zs)) (ez : zs = bs.map .int) (h0 : 0 < bs.length) (k : ∀ m, m ∈ bs → (∀ y ∈ bs, y ≤ m) → Post (.int m) O) : CW K (rMax K) [d] O Post := fun w Γ P σ H B xs S hd Q q => by
  subst ez
  cases hd with
  | cons h1 h2 =>
    cases h2
    obtain ⟨a, vs, rfl, g1, g2⟩ := v.list S h1
    have e := den_ints g2
    subst e
    exact ⟨a, bs, rfl, SqL.of g1, h0, fun m hm hl => q _ _ O H B (k m hm hl) (S.pin (.int _))⟩
theorem cw_minL {bs : List Int} {zs : List Dt} (v : View O d (.lst zs)) (ez : zs = bs.map .int) (h0 : 0 < bs.length) (k : ∀ m, m ∈ bs → (∀ y ∈ bs, m ≤ y) → Post (.int m) O) : CW K (rMin K) [d] O Post := fun w Γ P σ H B xs S hd Q q => by
  subst ez
  cases hd with
  | cons h1 h2 =>
    cases h2
    obtain ⟨a, vs, rfl, g1, g2⟩ := v.list S h1
    have e := den_ints g2
    subst e
    exact ⟨a, bs, rfl, SqL.of g1, h0, fun m hm hl => q _ _ O H B (k m hm hl) (S.pin (.int _))⟩
/-! methods of an owned list -/
theorem ew_append {p : Addr} {ds : List Dt} {O2 : Own} (h : EW K to Γ O fun o O1 => o = .raw (.ref p) ∧ (∃ es, (p, .lst es) ∈ O1) ∧ EW K te Γ O1 fun d O' => O'.Perm ((p, .lst ds) :: O2) ∧ ds.length < sizeLine ∧ Post .non ((p, .lst (ds ++ [d])) :: O2)) :
    EW K (tBM K "list" rAppend to (tCons te tNil)) Γ O Post := fun w P σ H B S Q q =>
  h w P σ H B S _ fun o ov O1 H1 B1 ⟨e1, ⟨es, hm⟩, p1⟩ S1 => by
    subst e1
    have h1 := S1.pi _ ov List.mem_cons_self
    cases h1
    obtain ⟨_, _, us, g1, _⟩ := S1.ow p _ hm
    refine ⟨.inl ⟨rfl, us, SqL.of g1⟩, p1 w P σ H1 B1 (S1.pins fun z hz => by simp [hz]) _ fun d v O' H2 B2 ⟨hp, hz, p2⟩ S2 => ?_⟩
    have S3 := S2.perm hp
    obtain ⟨_, _, vs, h4, h5⟩ := S3.ow p _ List.mem_cons_self
    have hv := S3.pi d v List.mem_cons_self
    exact ⟨p, vs, v, rfl, rfl, h4, by rw [← h5.length]; exact hz, q _ _ _ _ _ p2 (((S3.pins (P' := P) fun z hz => by simp [hz]).write (c' := .lst (ds ++ [d])) ⟨_, upd_same, h5.append (.cons hv .nil)⟩).pin .non)⟩
theorem ew_pop0 {p : Addr} {d : Dt} {ds : List Dt} {O2 : Own} (h : EW K to Γ O fun o O1 => o = .raw (.ref p) ∧ O1.Perm ((p, .lst (d :: ds)) :: O2) ∧ Post d ((p, .lst ds) :: O2)) :
    EW K (tBM K "list" rPopAt to (tCons (tC (.int 0)) tNil)) Γ O Post := fun w P σ H B S Q q =>
  h w P σ H B S _ fun o ov O1 H1 B1 ⟨e1, hp, p1⟩ S1 => by
    subst e1
    have h1 := S1.pi _ ov List.mem_cons_self
    cases h1
    have S2 := (S1.perm hp).pins (P' := P) fun z hz => by simp [hz]
    obtain ⟨_, _, vs, h4, h5⟩ := S2.ow p _ List.mem_cons_self
    refine ⟨.inl ⟨rfl, vs, SqL.of h4⟩, ?_⟩
    cases h5 with
    | @cons _ v _ us hv hu =>
      exact ⟨p, v :: us, 0, 0, v, rfl, rfl, h4, by decide, by decide, by simp [seqIndex?], rfl, q _ _ _ _ _ p1 ((S2.write (c' := .lst ds) ⟨_, upd_same, hu⟩).pin (hv.mono (Same.refl _)))⟩
/-- a new owned list as a statement's value: x = [..] -/
theorem sw_setO {E : De} {i : Nat} (h : EW K te Γ O fun d O1 => E.nx (Γ.set i (some d)) O1) : SW K (tAsg te (gName i)) Γ O E := sw_set h
end
end DL
namespace DL
open PySem PySem.Spec PyProof.Rows L2
/-! ### isinstance -/
def tyD : Dt → String
  | .non => "NoneType"
  | .bl _ => "bool"
  | .int _ => "int"
  | .str _ => "str"
  | .tup _ => "tuple"
  | .lst _ => "list"
  | .ro _ => "list"
  | .raw _ => "?"
def instD (d : Dt) (T : String) : Bool := tyD d == T || (T == "int" && tyD d == "bool")
def isRaw : Dt → Bool
  | .raw _ => true
  | _ => false
def Ty5 (T : String) : Prop := T = "int" ∨ T = "bool" ∨ T = "str" ∨ T = "tuple" ∨ T = "list"
theorem kit_inst {K : PySem.W.Frag} {a T : String} (ha : a ∈ ["NoneType", "bool", "int", "str", "tuple", "list"]) (hT : Ty5 T) : PySem.W.kitOne K (.type a) (.type T) = some (a == T || (T == "int" && a == "bool")) := by
  refine kit_ty ?_
  rcases hT with rfl | rfl | rfl | rfl | rfl <;> (simp only [List.mem_cons, List.mem_nil_iff, or_false] at ha; rcases ha with rfl | rfl | rfl | rfl | rfl | rfl <;> decide +kernel)
theorem den_ty {K : PySem.W.Frag} {H : Hp} {d : Dt} {v : V} (h : Den K H d v) (hr : isRaw d = false) : TyX K H v (.type (tyD d)) ∧ tyD d ∈ ["NoneType", "bool", "int", "str", "tuple", "list"] := by
  cases h with
  | non => exact ⟨.base .non, by simp [tyD]⟩
  | bl b => exact ⟨.base (.bl b), by simp [tyD]⟩
  | int b => exact ⟨.base (.int b), by simp [tyD]⟩
  | str b => exact ⟨.base (.str b), by simp [tyD]⟩
  | tup h1 _ =>
    refine ⟨?_, by simp [tyD]⟩
    rcases h1 with (h1 | ⟨o, h1⟩) | ⟨o, its, n, e, c, _⟩
    · exact .base (.tup h1)
    · exact .fTuple h1
    · exact .kTuple e c
  | lst h1 _ => exact ⟨.base (.lst h1), by simp [tyD]⟩
  | ro h1 _ =>
    refine ⟨?_, by simp [tyD]⟩
    rcases h1 with (h1 | ⟨o, h1⟩) | ⟨o, its, n, e, c, _⟩
    · exact .base (.lst h1)
    · exact .base (.frz h1)
    · exact .kList e c
  | raw => cases hr
section
variable {K : PySem.W.Frag} {Γ : Gm} {O : Own} {Post : Dt → Own → Prop} {d e : Dt} {ta : TA} {te to : TE}
theorem cw_isi {d' : Dt} {T : String} (vw : View O d d') (hr : isRaw d' = false) (hT : Ty5 T) (k : Post (.bl (instD d' T)) O) : CW K (rIsi K) [d, .raw (.ty T)] O Post := fun w Γ P σ H B xs S hd Q q => by
  cases hd with
  | cons h1 h2 =>
    cases h2 with
    | cons h2 h3 =>
      cases h3
      cases h2
      obtain ⟨t1, t2⟩ := den_ty (vw.den S h1) hr
      exact ⟨_, _, _, _, _, rfl, .ty T, t1, kit_inst t2 hT, q _ _ O H B k (S.pin (.bl _))⟩
end
/-! ### comprehensions without a test -/
section
variable {K : PySem.W.Frag} {Γ : Gm} {O : Own} {Post : Dt → Own → Prop} {wi : TI} {g : TG} {te : TE} {vs : List Nat}
theorem ew_lcM {α : Type} (h : IW K wi Γ O fun ds o O1 => ∃ (enc : α → Dt) (as : List α) (v : α → Dt), ds = as.map enc ∧ (∀ p, o = some p → (p, .lst ds) ∈ O1) ∧ as.length ≤ 1000000 ∧
      (∀ a ∈ as, GW K g (· ∈ vs) (enc a) (wipeG Γ vs) O1 fun Γ2 O2 => EW K te Γ2 O2 fun y O4 => O4 = O1 ∧ y = v a) ∧ Post (.lst (as.map v)) O1) :
    EW K (tLc wi g tYes te vs) Γ O Post := by
  refine ew_lcP (α := α) fun w P σ H B S R q => h w P σ H B S R fun ds o O1 J H' B' ⟨enc, as, v, h1, h3, h4, h5, h6⟩ S' it => q ds o O1 J H' B' ⟨enc, as, fun _ => true, v, h1, h3, h4, fun a ha => ?_, ?_⟩ S' it
  · exact fun w P σ H B v' S hd Q q => h5 a ha w P σ H B v' S hd Q fun Γ2 O2 σ2 H2 B2 p2 S2 => q Γ2 O2 σ2 H2 B2 (tw_yes ⟨fun _ => p2.imp fun y O4 ⟨q1, q2⟩ => ⟨q1, rfl, q2⟩, fun z => nomatch z⟩) S2
  · rw [List.filter_eq_self.mpr fun _ _ => rfl]
    exact h6
end
/-! ### zip, enumerate -/
section
variable {K : PySem.W.Frag} {Γ : Gm} {O : Own} {PostI : List Dt → Option Addr → Own → Prop} {ta : TA}
theorem walk_zipT {a b : Addr} {xs ys : List V} {n : Nat} (hn : n = min xs.length ys.length) : Walk (RZ.ItzT K a b) n (fun H => SqT K H a xs ∧ SqT K H b ys) (YPair (fun i => xs[i]?) (fun i => ys[i]?)) :=
  ⟨fun i H hi h => ⟨xs, ys, xs[i]'(by omega), ys[i]'(by omega), h.1, h.2, List.getElem?_eq_getElem (by omega), List.getElem?_eq_getElem (by omega)⟩, fun H h => ⟨xs, ys, h.1, h.2, by omega⟩,
    fun i H x H' _ h ⟨T, u, v, e1, e2, e3, e4, e5⟩ => ⟨T, u, v, e1, e2, e3, e4 _ h.1, e5 _ h.2⟩⟩
theorem pi_zipG {X : Cx} {e e2 : Expr} {ta : TA} {p pos tpos : Pos} {elts : List Expr} {kk : Nat} (hg : Gl X "zip") (hm : X.mg "zip" = none) (ha : PA X [e, e2] ta)
    (hs : starEach [e, e2] X.env = (false, eval e X.env) :: starEach [e2] X.env := by rfl) (hpl : (backTo pos (starEach [e2] X.env)).any (·.1) = false := by rfl) :
    PI X (.Tuple elts kk tpos) (.Call (.Name "zip" p) [e, e2] [] pos) (RZ.iZipA X.K ta) := RZ.pi_zipA hg hm ha hs hpl
theorem iw_zipT (h : AW K ta Γ O fun ds O1 => ∃ xs ys, ds = [.tup xs, .tup ys] ∧ PostI (List.zipWith (fun d e => .tup [d, e]) xs ys) none O1) : IW K (RZ.iZipA K ta) Γ O PostI := fun w P σ H B S R q =>
  h w P σ H B S _ fun ds vs O1 H1 B1 ⟨xs, ys, e, p⟩ hd S1 => by
    subst e
    cases hd with
    | cons h1 h2 =>
      cases h2 with
      | cons h2 h3 =>
        cases h3
        cases h1 with
        | tup a1 a2 =>
          cases h2 with
          | tup b1 b2 =>
            exact ⟨_, _, _, _, rfl, .inr ⟨sqT_mono S1.bh a1, sqT_mono S1.bh b1, q _ none O1 _ H1 B1 p S1 (itd_pair (walk_zipT rfl) (fun B H e1 e2 => ⟨sqT_mono e2 (sqT_mono e1 a1), sqT_mono e2 (sqT_mono e1 b1)⟩) (by rw [a2.length, b2.length])
              (fun i d x hd hx => by obtain ⟨v, e1, e2⟩ := a2.get hd; rw [e1] at hx; cases hx; exact e2) (fun i d x hd hx => by obtain ⟨v, e1, e2⟩ := b2.get hd; rw [e1] at hx; cases hx; exact e2))⟩⟩
theorem iw_zipL (h : AW K ta Γ O fun ds O1 => ∃ xs ys, ds = [.lst xs, .lst ys] ∧ PostI (List.zipWith (fun d e => .tup [d, e]) xs ys) none O1) : IW K (RZ.iZipA K ta) Γ O PostI := fun w P σ H B S R q =>
  h w P σ H B S _ fun ds vs O1 H1 B1 ⟨xs, ys, e, p⟩ hd S1 => by
    subst e
    cases hd with
    | cons h1 h2 =>
      cases h2 with
      | cons h2 h3 =>
        cases h3
        cases h1 with
        | lst a1 a2 =>
          cases h2 with
          | lst b1 b2 =>
            exact ⟨_, _, _, _, rfl, .inl ⟨SqL.of (S1.bh _ _ a1), SqL.of (S1.bh _ _ b1), q _ none O1 _ H1 B1 p S1 (itd_pair (walk_zip rfl) (fun B H e1 e2 => ⟨SqL.of (e2 _ _ (e1 _ _ a1)), SqL.of (e2 _ _ (e1 _ _ b1))⟩) (by rw [a2.length, b2.length])
              (fun i d x hd hx => by obtain ⟨v, e1, e2⟩ := a2.get hd; rw [e1] at hx; cases hx; exact e2) (fun i d x hd hx => by obtain ⟨v, e1, e2⟩ := b2.get hd; rw [e1] at hx; cases hx; exact e2))⟩⟩
end
end DL
namespace DL
open PySem PySem.Spec PyProof.Rows L2
/-! ### the rules with the written part named (a block's context hides it) -/
section
variable {X : Cx} {K : PySem.W.Frag}
theorem plusK (hK : X.K = K := by rfl) : OpR X (binaryOp .Add) (rPlus K) := by subst hK; exact op_plus
theorem timesK (hK : X.K = K := by rfl) : OpR X (binaryOp .Mult) (rTimes K) := by subst hK; exact op_times
theorem eqK (hu : X.A.units + 64 < cLine) (hK : X.K = K := by rfl) : OpR X (compareOp .Eq) (rEqG K) := by subst hK; exact op_eqG hu
theorem neK (hu : X.A.units + 64 < cLine) (hK : X.K = K := by rfl) : OpR X (compareOp .NotEq) (rNeG K) := by subst hK; exact op_neG hu
theorem inK (hu : X.A.units + 64 < cLine) (hK : X.K = K := by rfl) : OpR X (compareOp .In) (rInA K false) := by subst hK; exact op_inA hu
theorem notInK (hu : X.A.units + 64 < cLine) (hK : X.K = K := by rfl) : OpR X (compareOp .NotIn) (rInA K true) := by subst hK; exact op_notInA hu
theorem ixK (hK : X.K = K := by rfl) : IxR X (rIx K) := by subst hK; exact ix_seq
theorem slK (hK : X.K = K := by rfl) : SlR X (rSl K) := by subst hK; exact sl_any
theorem lenK (hK : X.K = K := by rfl) : CallR X (.builtin "len") (rLen K) := by subst hK; exact call_lenG
theorem allK (hc : X.calm = true := by rfl) (hK : X.K = K := by rfl) : CallR X (.builtin "all") (rAll K) := by subst hK; exact cr_all hc
theorem sumK (hc : X.calm = true := by rfl) (hK : X.K = K := by rfl) : CallR X (.builtin "sum") (rSum K) := by subst hK; exact cr_sum hc
theorem maxK (hc : X.calm = true := by rfl) (hK : X.K = K := by rfl) : CallR X (.builtin "max") (rMax K) := by subst hK; exact cr_max hc
theorem minK (hc : X.calm = true := by rfl) (hK : X.K = K := by rfl) : CallR X (.builtin "min") (rMin K) := by subst hK; exact cr_min hc
theorem tupleK (hK : X.K = K := by rfl) : CallR X (.type "tuple") (rTupleOf K) := by subst hK; exact call_tuple_of
theorem listK (hK : X.K = K := by rfl) : CallR X (.type "list") (rListOf K) := by subst hK; exact call_list_of
theorem isiK (hK : X.K = K := by rfl) : CallR X (.builtin "isinstance") (rIsi K) := by subst hK; exact call_isi
theorem sortedIK (hK : X.K = K := by rfl) : CallR X (.builtin "sorted") (rSortedI K) := by subst hK; exact cr_sortedI
variable {T : String} {name : Str} {id : String} {r : V → List V → Hp → VK → Prop} {o : Expr} {to : TE} {e : Expr} {es : List Expr} {t : TA} {pos : Pos} {te : TE} {tg : Expr}
theorem pe_bmK {apos : Pos} (hK : X.K = K) (pa : PlainAttrs T) (slot : Slot T name id) (hty : typeOf (.builtin id) = pure (.type "method_descriptor")) (hm : MtR X id r) (ho : PE X o to) (ha : PA X (e :: es) t)
    (h : PE X (.Call (.Attribute o name apos) (e :: es) [] pos) (tBM X.K T r to t)) : PE X (.Call (.Attribute o name apos) (e :: es) [] pos) (tBM K T r to t) := by subst hK; exact h
theorem bmK {e : Expr} {t : TA} (h : PE X e (tBM X.K T r to t)) (hK : X.K = K := by rfl) : PE X e (tBM K T r to t) := by subst hK; exact h
theorem bm0K {e : Expr} (h : PE X e (tBM0 X.K T r to)) (hK : X.K = K := by rfl) : PE X e (tBM0 K T r to) := by subst hK; exact h
theorem seqK {l : Expr} {tl : TE} (hl : PE X l tl) (hK : X.K = K := by rfl) : PI X tg l (iSeq K tl) := by subst hK; exact pi_seq hl
theorem zipK {tg e : Expr} {ta : TA} (h : PI X tg e (RZ.iZipA X.K ta)) (hK : X.K = K := by rfl) : PI X tg e (RZ.iZipA K ta) := by subst hK; exact h
theorem revK {e : Expr} {t : TE} (h : PE X e (tRevL X.K t)) (hK : X.K = K := by rfl) : PE X e (tRevL K t) := by subst hK; exact h
theorem tupK {tg : Expr} {n : Nat} {t : TGs} (h : PG X tg (gTup X.K n t)) (hK : X.K = K := by rfl) : PG X tg (gTup K n t) := by subst hK; exact h
end
section
variable {K : PySem.W.Frag} {O : Own} {Post : Dt → Own → Prop} {d : Dt}
theorem rw_ixT_ {es : List Dt} {i : Int} (ha : atI es i = some d) (k : Post d O) : RW K (rIx K) (.tup es) (.int i) O Post := rw_ixT ha k
theorem rw_ixR {es : List Dt} {i : Int} (ha : atI es i = some d) (k : Post d O) : RW K (rIx K) (.ro es) (.int i) O Post := fun w Γ P σ H B x y S hx hy Q q => by
  cases hy
  cases hx with
  | ro h1 h2 =>
    obtain ⟨v, a1, a2⟩ := atI_den h2 ha
    exact .inl ⟨_, _, i, v, rfl, rfl, S.bh.seq h1, a1, q _ _ O H B k (S.pin a2)⟩
/-- a written tuple as data -/
theorem ew_den {Γ : Gm} {v : V} {Post : Dt → Own → Prop} (hd : ∀ H B : Hp, Den K B d v) (k : Post d O) : EW K (tC v) Γ O Post := fun w P σ H B S Q q => q _ _ O H B k (S.pin (hd H B))
end
end DL
namespace DL
open PySem PySem.Spec PyProof.Rows L2
/-! ### typed data -/
mutual
theorem ok_mono : ∀ {n m : Nat} {d : Dt}, n ≤ m → Dt.ok n d = true → Dt.ok m d = true
  | _, _, .non, _, _ => by simp [Dt.ok]
  | _, _, .bl _, _, _ => by simp [Dt.ok]
  | _, _, .int _, _, _ => by simp [Dt.ok]
  | _, _, .str _, _, _ => by simp [Dt.ok]
  | 0, _, .tup _, _, h => by simp [Dt.ok] at h
  | 0, _, .lst _, _, h => by simp [Dt.ok] at h
  | n + 1, m, .tup xs, hl, h => by
    obtain ⟨k, rfl⟩ : ∃ k, m = k + 1 := ⟨m - 1, by omega⟩
    simp only [Dt.ok] at h ⊢
    exact okL_mono (by omega) h
  | n + 1, m, .lst xs, hl, h => by
    obtain ⟨k, rfl⟩ : ∃ k, m = k + 1 := ⟨m - 1, by omega⟩
    simp only [Dt.ok] at h ⊢
    exact okL_mono (by omega) h
  | 0, _, .ro _, _, h => by simp [Dt.ok] at h
  | n + 1, _, .ro _, _, h => by simp [Dt.ok] at h
  | 0, _, .raw _, _, h => by simp [Dt.ok] at h
  | n + 1, _, .raw _, _, h => by simp [Dt.ok] at h
theorem okL_mono : ∀ {n m : Nat} {ds : List Dt}, n ≤ m → Dt.okL n ds = true → Dt.okL m ds = true
  | _, _, [], _, _ => rfl
  | n, m, d :: ds, hl, h => by
    simp only [Dt.okL, Bool.and_eq_true] at h ⊢
    exact ⟨ok_mono hl h.1, okL_mono hl h.2⟩
end
class Enc (α : Type) [DecidableEq α] where
  enc : α → Dt
  dep : Nat
  ok : ∀ x, Dt.ok dep (enc x) = true
  eq : ∀ x y, eqD (enc x) (enc y) = decide (x = y)
open Enc (enc)
structure T2 (α β : Type) where
  a : α
  b : β
  deriving DecidableEq
structure T3 (α β γ : Type) where
  a : α
  b : β
  c : γ
  deriving DecidableEq
structure T4 (α β γ δ : Type) where
  a : α
  b : β
  c : γ
  d : δ
  deriving DecidableEq
structure T5 (α β γ δ ε : Type) where
  a : α
  b : β
  c : γ
  d : δ
  e : ε
  deriving DecidableEq
instance : Enc Int := ⟨.int, 0, fun _ => by simp [Dt.ok], fun x y => by simp [eqD]⟩
instance : Enc Nat := ⟨fun n => .int (n : Int), 0, fun _ => by simp [Dt.ok], fun x y => by simp only [eqD, decide_eq_decide]; omega⟩
instance : Enc Str := ⟨.str, 0, fun _ => by simp [Dt.ok], fun x y => by simp [eqD]⟩
instance : Enc Bool := ⟨.bl, 0, fun _ => by simp [Dt.ok], fun x y => by cases x <;> cases y <;> rfl⟩
section
variable {α β γ δ ε : Type} [DecidableEq α] [DecidableEq β] [DecidableEq γ] [DecidableEq δ] [DecidableEq ε] [Enc α] [Enc β] [Enc γ] [Enc δ] [Enc ε]
theorem eqDL_map : ∀ xs ys : List α, eqDL (xs.map enc) (ys.map enc) = decide (xs = ys)
  | [], [] => by simp [eqDL]
  | [], _ :: _ => by simp [eqDL]
  | _ :: _, [] => by simp [eqDL]
  | x :: xs, y :: ys => by
    simp only [List.map_cons, eqDL, Enc.eq, eqDL_map xs ys, List.cons.injEq]
    by_cases h1 : x = y <;> by_cases h2 : xs = ys <;> simp [h1, h2]
theorem okL_map (n : Nat) (h : Enc.dep α ≤ n) (xs : List α) : Dt.okL n (xs.map enc) = true := by
  rw [okL_iff]
  intro d hd
  obtain ⟨x, _, rfl⟩ := List.mem_map.mp hd
  exact ok_mono h (Enc.ok x)
/-- a list, a tuple of many -/
abbrev encL (xs : List α) : Dt := .lst (xs.map enc)
abbrev encU (xs : List α) : Dt := .tup (xs.map enc)
instance : Enc (List α) := ⟨encL, Enc.dep α + 1, fun xs => by simp only [encL, Dt.ok]; exact okL_map _ (Nat.le_refl _) xs, fun x y => by simp only [encL, eqD]; exact eqDL_map x y⟩
instance : Enc (T2 α β) := ⟨fun p => .tup [enc p.a, enc p.b], max (Enc.dep α) (Enc.dep β) + 1, fun p => by
  simp only [Dt.ok, Dt.okL, Bool.and_true, Bool.and_eq_true]
  exact ⟨ok_mono (by omega) (Enc.ok p.a), ok_mono (by omega) (Enc.ok p.b)⟩, fun x y => by
  obtain ⟨x1, x2⟩ := x
  obtain ⟨y1, y2⟩ := y
  simp only [eqD, eqDL, Enc.eq, Bool.and_true, T2.mk.injEq]
  by_cases h1 : x1 = y1 <;> by_cases h2 : x2 = y2 <;> simp [h1, h2]⟩
instance : Enc (T3 α β γ) := ⟨fun p => .tup [enc p.a, enc p.b, enc p.c], max (Enc.dep α) (max (Enc.dep β) (Enc.dep γ)) + 1, fun p => by
  simp only [Dt.ok, Dt.okL, Bool.and_true, Bool.and_eq_true]
  exact ⟨ok_mono (by omega) (Enc.ok p.a), ok_mono (by omega) (Enc.ok p.b), ok_mono (by omega) (Enc.ok p.c)⟩, fun x y => by
  obtain ⟨x1, x2, x3⟩ := x
  obtain ⟨y1, y2, y3⟩ := y
  simp only [eqD, eqDL, Enc.eq, Bool.and_true, T3.mk.injEq]
  by_cases h1 : x1 = y1 <;> by_cases h2 : x2 = y2 <;> by_cases h3 : x3 = y3 <;> simp [h1, h2, h3]⟩
instance : Enc (T4 α β γ δ) := ⟨fun p => .tup [enc p.a, enc p.b, enc p.c, enc p.d], max (Enc.dep α) (max (Enc.dep β) (max (Enc.dep γ) (Enc.dep δ))) + 1, fun p => by
  simp only [Dt.ok, Dt.okL, Bool.and_true, Bool.and_eq_true]
  exact ⟨ok_mono (by omega) (Enc.ok p.a), ok_mono (by omega) (Enc.ok p.b), ok_mono (by omega) (Enc.ok p.c), ok_mono (by omega) (Enc.ok p.d)⟩, fun x y => by
  obtain ⟨x1, x2, x3, x4⟩ := x
  obtain ⟨y1, y2, y3, y4⟩ := y
  simp only [eqD, eqDL, Enc.eq, Bool.and_true, T4.mk.injEq]
  by_cases h1 : x1 = y1 <;> by_cases h2 : x2 = y2 <;> by_cases h3 : x3 = y3 <;> by_cases h4 : x4 = y4 <;> simp [h1, h2, h3, h4]⟩
instance : Enc (T5 α β γ δ ε) := ⟨fun p => .tup [enc p.a, enc p.b, enc p.c, enc p.d, enc p.e], max (Enc.dep α) (max (Enc.dep β) (max (Enc.dep γ) (max (Enc.dep δ) (Enc.dep ε)))) + 1, fun p => by
  simp only [Dt.ok, Dt.okL, Bool.and_true, Bool.and_eq_true]
  exact ⟨ok_mono (by omega) (Enc.ok p.a), ok_mono (by omega) (Enc.ok p.b), ok_mono (by omega) (Enc.ok p.c), ok_mono (by omega) (Enc.ok p.d), ok_mono (by omega) (Enc.ok p.e)⟩, fun x y => by
  obtain ⟨x1, x2, x3, x4, x5⟩ := x
  obtain ⟨y1, y2, y3, y4, y5⟩ := y
  simp only [eqD, eqDL, Enc.eq, Bool.and_true, T5.mk.injEq]
  by_cases h1 : x1 = y1 <;> by_cases h2 : x2 = y2 <;> by_cases h3 : x3 = y3 <;> by_cases h4 : x4 = y4 <;> by_cases h5 : x5 = y5 <;> simp [h1, h2, h3, h4, h5]⟩
theorem ok60 {n : Nat} (h : Enc.dep α ≤ n) (x : α) : Dt.ok n (enc x) = true := ok_mono h (Enc.ok x)
variable {K : PySem.W.Frag} {O : Own} {Post : Dt → Own → Prop}
/-- ==, != of typed data -/
theorem rw_eqE {d e : Dt} (x y : α) (v1 : View O d (enc x)) (v2 : View O e (enc y)) (k : Post (.bl (decide (x = y))) O) (h : Enc.dep α ≤ 60 := by decide) : RW K (rEqG K) d e O Post := by
  refine rw_eq v1 v2 (ok60 h x) (ok60 h y) ?_
  rw [Enc.eq]; exact k
theorem rw_neE {d e : Dt} (x y : α) (v1 : View O d (enc x)) (v2 : View O e (enc y)) (k : Post (.bl (!decide (x = y))) O) (h : Enc.dep α ≤ 60 := by decide) : RW K (rNeG K) d e O Post := by
  refine rw_ne v1 v2 (ok60 h x) (ok60 h y) ?_
  rw [Enc.eq]; exact k
theorem any_enc (x : α) : ∀ xs : List α, ((xs.map enc).any fun e => eqD e (enc x)) = decide (x ∈ xs)
  | [] => by simp
  | y :: ys => by
    simp only [List.map_cons, List.any_cons, Enc.eq, any_enc x ys, List.mem_cons]
    by_cases h1 : y = x
    · subst h1; simp
    · have h2 : ¬ x = y := fun z => h1 z.symm
      simp [h1, h2]
theorem rwi_E {d e : Dt} {neg : Bool} (x : α) (xs : List α) (e1 : d = enc x) (v2 : View O e (.lst (xs.map enc))) (k : Post (.bl (if neg then !decide (x ∈ xs) else decide (x ∈ xs))) O) (h : Enc.dep α ≤ 30 := by decide) : RW K (rInA K neg) d e O Post := by
  subst e1
  refine rwi_L v2 (ok60 h x) (okL_map 30 h xs) ?_
  rw [any_enc]; exact k
/-- an item of many -/
theorem atI_map {xs : List α} {i : Nat} (h : i < xs.length) : atI (xs.map enc) (i : Int) = some (enc xs[i]) := atI_nat (by rw [List.getElem?_map, List.getElem?_eq_getElem h]; rfl)
end
/-- a word between two statements -/
theorem sw_cut {K : PySem.W.Frag} {Γ : Gm} {O : Own} {E : De} {t u : TS} (Mid : Gm → Own → Prop) (h1 : SW K t Γ O { E with nx := Mid }) (h2 : ∀ Γ' O', Mid Γ' O' → SW K u Γ' O' E) : SW K (tSeq t u) Γ O E :=
  sw_seq (h1.imp h2 (fun _ _ q => q) (fun _ _ q => q) fun _ _ q => q)
theorem sw_mid {K : PySem.W.Frag} {Γ : Gm} {O : Own} {E : De} {t : TS} (Mid : Gm → Own → Prop) (h1 : SW K t Γ O { E with nx := Mid }) (h2 : ∀ Γ' O', Mid Γ' O' → E.nx Γ' O') : SW K t Γ O E :=
  h1.imp h2 (fun _ _ q => q) (fun _ _ q => q) fun _ _ q => q
theorem ew_slA {K : PySem.W.Frag} {Γ : Gm} {O : Own} {Post : Dt → Own → Prop} {te : TE} {tl th : TO} (h : EW K te Γ O fun d O1 => PW K tl Γ O1 fun lo O2 => PW K th Γ O2 fun hi O3 => (∃ es, d = .tup es ∧ Post (.tup (cutD es lo hi)) O3) ∨ (∃ es, View O3 d (.lst es) ∧ Post (.lst (cutD es lo hi)) O3)) :
    EW K (tSl (rSl K) te tl th) Γ O Post := fun w P σ H B S Q q =>
  h w P σ H B S _ fun d x O1 H1 B1 p1 S1 => p1 w _ σ H1 B1 S1 _ fun lo O2 H2 B2 p2 S2 => p2 w _ σ H2 B2 S2 _ fun hi O3 H3 B3 p3 S3 => by
    have hx := S3.pi _ x List.mem_cons_self
    have S3' := S3.pins (P' := P) fun z hz => by simp [hz]
    rcases p3 with ⟨es, e, p3⟩ | ⟨es, vw, p3⟩
    · subst e
      left
      cases hx with
      | tup h1 h2 =>
        refine ⟨_, _, rfl, sqT_mono S3.bh h1, fun hw => ?_, fun _ p hp => q _ _ O3 _ _ p3 ((S3'.new hp).pin (.tup (SqT.of upd_same) ((cutD_den h2).mono (same_upd (S3.bfree hp)))))⟩
        have e2 : cutD es lo hi = es := by
          have hl := h2.length
          unfold cutD
          rw [hl, hw.1, hw.2, Nat.sub_zero, List.drop_zero, ← hl, List.take_length]
        rw [e2] at p3
        exact q _ _ O3 _ _ p3 (S3'.pin (.tup h1 h2))
    · right
      obtain ⟨a, vs, rfl, h1, h2⟩ := vw.list S3 hx
      exact ⟨_, _, rfl, SqL.of h1, fun p hp => q _ _ O3 _ _ p3 ((S3'.new hp).pin (.lst upd_same ((cutD_den h2).mono (same_upd (S3.bfree hp)))))⟩
theorem ew_drop {K : PySem.W.Frag} {Γ : Gm} {O : Own} {Post : Dt → Own → Prop} {t : TE} (h : EW K t Γ O fun d O1 => ∃ (p : Addr) (c : Cell) (O2 : Own), O1.Perm ((p, c) :: O2) ∧ Post d O2) : EW K t Γ O Post := fun w P σ H B S Q q =>
  h w P σ H B S Q fun d v O1 H1 B1 ⟨p, c, O2, hp, p1⟩ S1 => q d v O2 H1 B1 p1 ((S1.perm hp).drop)
theorem sw_drop_own {K : PySem.W.Frag} {Γ : Gm} {O O2 : Own} {E : De} {t : TS} {p : Addr} {c : Cell} (hp : O.Perm ((p, c) :: O2)) (h : SW K t Γ O2 E) : SW K t Γ O E := sw_perm hp h.drop
theorem tw_perm {K : PySem.W.Frag} {Γ : Gm} {O O' : Own} {Post : Bool → Own → Prop} {t : TT} (hp : O.Perm O') (h : TW K t Γ O' Post) : TW K t Γ O Post := fun w P σ H B S => h w P σ H B (S.perm hp)
abbrev rIsN : R2 := fun x y H Q => y = V.non ∧ Q (.bl (decide (x = V.non))) H
abbrev rNotN : R2 := fun x y H Q => y = V.non ∧ Q (.bl (!decide (x = V.non))) H
end DL
/-! enumerate(list | tuple) -/
namespace PySem
open Sem (wp)
set_option maxHeartbeats 1000000 in
theorem meets_en1 {vv : Value} {oo : Obj} {HH : Heap → Prop} (BB : Begins vv oo HH) :
    Meets (Builtin.«enumerate.__new__» ⟨[.type "enumerate", vv], []⟩) (fun _ RR ss => HH ss.heap ∧
      RR (.ok (.ret (.ref (ss.heap.push oo).objs.size))) { ss with heap := (ss.heap.push oo).push { cls := .type "enumerate", data := .fields #[.none, .bool false, .ref ss.heap.objs.size, rawInt 0, .none, .none] } }) :=
  .of_wp fun pg ww AA RR ss hh => by
    obtain ⟨hp, gg, dd, tk, os⟩ := ss
    obtain ⟨k1, kk⟩ := hh
    have hsb := sub_enumerate
    have qq : ∀ {A' : Around} {E : Value → Shared → Prop} {Q : Value → Shared → Prop}, Q (.ref hp.objs.size) ⟨hp.push oo, gg, dd, tk, os⟩ → wpAny (model pg ww) A' (pyIter vv) Q E ⟨hp, gg, dd, tk, os⟩ :=
      fun z => BB.iter pg ww _ _ ⟨hp, gg, dd, tk, os⟩ _ k1 z
    wp_walk using qq
    refine wpAny_stack_any (fun _ => wpAny_pure ?_)
    split
    · rename_i cc _ _ _ _ _
      cases (cc == Value.type "enumerate") <;> (wp_walk using qq; exact ⟨_, rfl, kk⟩)
    · wp_walk using qq
      exact ⟨_, rfl, kk⟩
theorem call_en1 {prog : Program} {w : World} {A : Around} {E : Value → Shared → Prop} {s : Shared} {vv : Value} {oo : Obj} {HH : Heap → Prop} {Q : Value → Shared → Prop} (BB : Begins vv oo HH) (h1 : HH s.heap)
    (kk : ∀ h', IsEnum h' (s.heap.objs.size + 1) s.heap.objs.size 0 .none → h'.get? s.heap.objs.size = some oo → (∀ b o, s.heap.get? b = some o → h'.get? b = some o) → Q (.ref (s.heap.objs.size + 1)) { s with heap := h' }) :
    wpAny (model prog w) A (call (.type "enumerate") [vv]) Q E s := by
  refine callType_new F.called_enumerate (by decide) (F.typeCall_enumerate_1 _) (F.newCall_enumerate_1 _) (fun ob => F.args_object_init_2 ob _) F.entry_enumerate_new (meets_en1 BB) ⟨h1, ?_⟩
  have zz : (s.heap.push oo).objs.size = s.heap.objs.size + 1 := Heap.size_push ..
  show _ ∧ _
  rw [zz]
  have en : IsEnum ((s.heap.push oo).push { cls := .type "enumerate", data := .fields #[.none, .bool false, .ref s.heap.objs.size, rawInt 0, .none, .none] }) (s.heap.objs.size + 1) s.heap.objs.size 0 .none := by
    have y := Heap.get?_push_size (s.heap.push oo) (o := { cls := .type "enumerate", data := .fields #[.none, .bool false, .ref s.heap.objs.size, rawInt 0, .none, .none] }) rfl
    rwa [zz] at y
  exact ⟨⟨_, en, rfl⟩, kk _ en (Heap.get?_push_of_some _ (Heap.get?_push_size _ BB.free)) fun b o x => Heap.get?_push_of_some _ (Heap.get?_push_of_some _ x)⟩
end PySem
namespace DL
open PySem PySem.Spec PyProof.Rows L2
/-- the tuple at a, each item in a new pair -/
def IteT (K : PySem.W.Frag) (a : Addr) : It :=
  ⟨fun i H => ∃ (xs : List V) (x : V), SqT K H a xs ∧ xs[i]? = some x, fun i H v H' => ∃ TT x, v = .ref TT ∧ H TT = none ∧ H' = upd H TT (.tup [.int (i : Nat), x]) ∧ ∀ xs, SqT K H a xs → xs[i]? = some x, fun i H => ∃ xs : List V, SqT K H a xs ∧ xs.length = i⟩
theorem turn_enT {P : Program} {w : World} {K : PySem.W.Frag} {elts : List Expr} {kk : Nat} {tpos : Pos} (a e it : Addr) (hai : a ≠ it) (hae : a ≠ e) :
    Turn P w K (.Tuple elts kk tpos) (IteT K a) [e, it] e (fun i h => (∃ old, IsEnum h e it ((i : Nat) : Int) old) ∧ h.IsTupleIter it a i ∧ e ≠ it) where
  mem := List.mem_cons_self
  obj := fun i h st b hb => by
    obtain ⟨⟨old, he⟩, ⟨o, ho, hc, hd⟩, _⟩ := st
    rcases List.mem_cons.mp hb with z | hb
    · subst z; exact ⟨_, he, fun v q => nomatch q⟩
    · rw [List.mem_singleton] at hb
      subst hb
      refine ⟨o, ho, fun v q => ?_⟩
      rw [hd] at q; cases q
  keep := fun i h h' ⟨⟨old, he⟩, hi, hne⟩ k => ⟨⟨old, k e List.mem_cons_self _ he⟩, hi.at fun o q => k it (List.mem_cons_of_mem _ List.mem_cons_self) o q, hne⟩
  item := by
    intro X hP hw hK hc i pins s σ H E I hf st hg
    subst hP hw hK
    obtain ⟨⟨old, he⟩, hit, hne⟩ := st
    obtain ⟨xs, x, hq, hx⟩ := hg
    obtain ⟨its, rv, p, hz⟩ := I.tuple hq
    obtain ⟨u, hu, ru⟩ := rv.get hx
    have hel : e < s.heap.objs.size := Heap.lt_size he
    have hil : it < s.heap.objs.size := by obtain ⟨_, q, _⟩ := hit; exact Heap.lt_size q
    have hlt : i < its.toArray.size := by
      have := (List.getElem?_eq_some_iff.mp hu).1
      simpa using this
    refine wpAny_pyNext_enum_itemD (Draws.tuple (A := X.A.in1) (show X.A.in1.handled = none from I.ok.hd hc) it a hai its.toArray) he ⟨hit, show s.heap.IsTuple a its.toArray from p⟩ hlt hne ?_ ?_
    · intro q
      rcases List.mem_cons.mp q with q | q
      · exact hne q
      · rw [List.mem_singleton] at q; exact hae q.symm
    intro v h' tk hv ho hst hT hsz hk
    have ev : v = u := by
      have : its.toArray[i]? = some u := by simpa using hu
      rw [this] at hv
      exact (Option.some.inj hv).symm
    subst ev
    refine ⟨_, rfl, wpAny_letOwnedTupleGo_enum (s := { s with heap := h', toks := tk + 1 }) ho fun h'' he' sb => ?_⟩
    have hT2 : h''.get? s.heap.objs.size = some { cls := .type "tuple", data := .seq #[.int i tk, v] } := (sb.2 _ (Nat.ne_of_gt hel)).trans hT
    have new : ObjOk X.prog X.w (upd H s.heap.objs.size (.tup [.int (i : Nat), x])) h'' s.heap.objs.size (.tup [.int (i : Nat), x]) :=
      ⟨show 2 ≤ sizeLine by decide, [.int i tk, v], .cons ⟨_, rfl⟩ (.cons ru .nil), ⟨_, hT2, rfl, _, rfl⟩⟩
    have I1 : Inv X pins σ (upd H s.heap.objs.size (.tup [.int (i : Nat), x])) { s with heap := h'', toks := tk + 1 } :=
      I.turnedNew (t' := tk + 1) (ch := [e, it]) (fun b ob hb q => (sb.2 b (fun z => hb (by simp [z]))).trans (hk b ob (fun z => hb (by simp [z])) (fun z => hb (by simp [z])) q)) hf (Nat.le_refl _) new
    refine ⟨.ref s.heap.objs.size, _, I1, rfl, ⟨_, x, rfl, I.hok.fresh (Nat.le_refl _), rfl, fun ys hy => by rw [I.tuple_inj hy hq]; exact hx⟩, ⟨⟨v, ?_⟩, hst.1.at fun o q => (sb.2 it (Ne.symm hne)).trans q, hne⟩, fun b hb => ?_⟩
    · have e1 : ((i + 1 : Nat) : Int) = (i : Int) + 1 := by omega
      rw [e1]; exact he'
    · have hb' : b < s.heap.objs.size := by
        rcases List.mem_cons.mp hb with z | z
        · rw [z]; exact hel
        · rw [List.mem_singleton] at z; rw [z]; exact hil
      rw [upd_ne (Nat.ne_of_lt hb')]
      exact (hf b hb).1
  done := by
    intro X hP hw hK hc i pins s σ H E I hf st hg
    subst hP hw hK
    obtain ⟨⟨old, he⟩, hit, hne⟩ := st
    obtain ⟨xs, hq, hx⟩ := hg
    obtain ⟨its, rv, p, hz⟩ := I.tuple hq
    obtain ⟨f0, f1, f2, f3, f4, f5⟩ := hf it (List.mem_cons_of_mem _ List.mem_cons_self)
    have hl := rv.length
    have hi : its.toArray.size = i := by simp; omega
    refine wpAny_pyNext_enum_endD (Draws.tuple (A := X.A.in1) (show X.A.in1.handled = none from I.ok.hd hc) it a hai its.toArray) he ?_ fun h' eb => ⟨rfl, I.turned (t' := s.toks) (fun b o hb q => eb b o hb q) f0 f1 f3 f4 f5⟩
    rw [hi]
    exact ⟨hit, show s.heap.IsTuple a its.toArray from p⟩
  self := fun A i s Q E st h => wpAny_pyIter_enum st.1.choose_spec h
def iEnumG (K : PySem.W.Frag) (ta : TA) : TI := fun σ H R => ta σ H fun vs H1 => ∃ a xs, vs = [.ref a] ∧ ((SqL K H1 a xs ∧ R (Ite K a) H1) ∨ (SqT K H1 a xs ∧ R (IteT K a) H1))
theorem pi_enumG {X : Cx} {e : Expr} {ta : TA} {p pos tpos : Pos} {elts : List Expr} {kk : Nat} (hg : Gl X "enumerate") (hm : X.mg "enumerate" = none) (ha : PA X [e] ta) (hs : starEach [e] X.env = [(false, eval e X.env)] := by rfl) :
    PI X (.Tuple elts kk tpos) (.Call (.Name "enumerate" p) [e] [] pos) (iEnumG X.K ta) := by
  refine ⟨fun pins s σ H R I h => Call_ (ld_blt I hg hm boot_enumerate (PyProof.Rows.callWith_type1 (thn (ha.run pos pins s σ H _ I h) fun us s1 ⟨vs, H1, I1, r1, q1⟩ => ?_) hs rfl))⟩
  obtain ⟨a, xs, ex, q⟩ := q1
  subst ex
  cases r1 with
  | cons r rr =>
    cases rr
    cases r
    have fr : ∀ b, b ∈ [s1.heap.objs.size + 1, s1.heap.objs.size] → FpOk X pins H1 b := fun b hb => by
      have hle : s1.heap.objs.size ≤ b := by
        rcases List.mem_cons.mp hb with z | z
        · rw [z]; exact Nat.le_add_right _ _
        · rw [List.mem_singleton] at z; rw [z]; exact Nat.le_refl _
      exact I1.fpOk hle (I1.hok.fresh hle)
    rcases q with ⟨hq, q⟩ | ⟨hq, q⟩
    · obtain ⟨its, rv, p', hz⟩ := I1.list hq
      refine call_en1 (begins_list a its.toArray) p'.isList fun h' he hit hk => wpAny_pyIter_enum he ?_
      exact ⟨s1.heap.objs.size + 1, [s1.heap.objs.size + 1, s1.heap.objs.size], _, _, H1, rfl, I1.kept (t' := s1.toks) hk, turn_enum a (s1.heap.objs.size + 1) s1.heap.objs.size, ⟨⟨.none, he⟩, ⟨_, hit, rfl, rfl⟩, Nat.succ_ne_self _⟩, fr, q⟩
    · obtain ⟨its, rv, p', hz⟩ := I1.tuple hq
      have pt : s1.heap.IsTuple a its.toArray := p'
      have al : a < s1.heap.objs.size := by
        obtain ⟨o, ho, _⟩ := pt
        exact Heap.lt_size ho
      refine call_en1 (begins_tuple a its.toArray) pt fun h' he hit hk => wpAny_pyIter_enum he ?_
      exact ⟨s1.heap.objs.size + 1, [s1.heap.objs.size + 1, s1.heap.objs.size], _, _, H1, rfl, I1.kept (t' := s1.toks) hk, turn_enT a (s1.heap.objs.size + 1) s1.heap.objs.size (Nat.ne_of_lt al) (Nat.ne_of_lt (Nat.lt_succ_of_lt al)), ⟨⟨.none, he⟩, ⟨_, hit, rfl, rfl⟩, Nat.succ_ne_self _⟩, fr, q⟩
section
variable {K : PySem.W.Frag} {Γ : Gm} {O : Own} {PostI : List Dt → Option Addr → Own → Prop} {ta : TA}
theorem walk_enT {a : Addr} {xs : List V} : Walk (IteT K a) xs.length (fun H => SqT K H a xs) (YPair (fun i => some (.int (i : Nat))) (fun i => xs[i]?)) :=
  ⟨fun i _ hi q => ⟨xs, xs[i], q, List.getElem?_eq_getElem hi⟩, fun _ q => ⟨xs, q, rfl⟩, fun i H v H' _ q ⟨T, x, h1, h2, h3, h4⟩ => ⟨T, .int (i : Nat), x, h1, h2, h3, rfl, h4 xs q⟩⟩
theorem rng_den {K : PySem.W.Frag} {B : Hp} {n i : Nat} {d : Dt} {x : V} (hd : (rngD 0 n)[i]? = some d) (hx : (some (.int (i : Nat)) : Option V) = some x) : Den K B d x := by
  obtain ⟨_, rfl⟩ := rngD_get hd
  cases hx
  rw [Int.zero_add]
  exact .int _
/-- enumerate(list), enumerate(tuple) -/
theorem iw_enumL (h : AW K ta Γ O fun ds O1 => ∃ xs, ds = [.lst xs] ∧ PostI (List.zipWith (fun d e => .tup [d, e]) (rngD 0 xs.length) xs) none O1) : IW K (iEnumG K ta) Γ O PostI := fun w P σ H B S R q =>
  h w P σ H B S _ fun ds vs O1 H1 B1 ⟨xs, e, p⟩ hd S1 => by
    subst e
    cases hd with
    | cons h1 h2 =>
      cases h2
      cases h1 with
      | lst a1 a2 =>
        refine ⟨_, _, rfl, .inl ⟨SqL.of (S1.bh _ _ a1), q _ none O1 _ H1 B1 p S1 (itd_pair walk_enum (fun B H e1 e2 => SqL.of (e2 _ _ (e1 _ _ a1))) ?_ (fun i d x hd hx => rng_den hd hx) (fun i d x hd hx => by obtain ⟨v, e1, e2⟩ := a2.get hd; rw [e1] at hx; cases hx; exact e2))⟩⟩
        unfold rngD
        rw [List.length_map, List.length_range, a2.length, Nat.min_self]
theorem iw_enumT (h : AW K ta Γ O fun ds O1 => ∃ xs, ds = [.tup xs] ∧ PostI (List.zipWith (fun d e => .tup [d, e]) (rngD 0 xs.length) xs) none O1) : IW K (iEnumG K ta) Γ O PostI := fun w P σ H B S R q =>
  h w P σ H B S _ fun ds vs O1 H1 B1 ⟨xs, e, p⟩ hd S1 => by
    subst e
    cases hd with
    | cons h1 h2 =>
      cases h2
      cases h1 with
      | tup a1 a2 =>
        refine ⟨_, _, rfl, .inr ⟨sqT_mono S1.bh a1, q _ none O1 _ H1 B1 p S1 (itd_pair walk_enT (fun B H e1 e2 => sqT_mono e2 (sqT_mono e1 a1)) ?_ (fun i d x hd hx => rng_den hd hx) (fun i d x hd hx => by obtain ⟨v, e1, e2⟩ := a2.get hd; rw [e1] at hx; cases hx; exact e2))⟩⟩
        unfold rngD
        rw [List.length_map, List.length_range, a2.length, Nat.min_self]
theorem enumK {X : Cx} {tg e : Expr} {ta : TA} (h : PI X tg e (iEnumG X.K ta)) (hK : X.K = K := by rfl) : PI X tg e (iEnumG K ta) := by subst hK; exact h
/-- an item of an enumerated many -/
theorem enum_get {α : Type} {f : α → Dt} {xs : List α} {i : Nat} {d : Dt} (hd : (List.zipWith (fun d e => Dt.tup [d, e]) (rngD 0 (xs.map f).length) (xs.map f))[i]? = some d) : ∃ h : i < xs.length, d = .tup [.int (i : Int), f xs[i]] := by
  rw [List.getElem?_zipWith] at hd
  cases e1 : (rngD 0 (xs.map f).length)[i]? with
  | none => rw [e1] at hd; cases hd
  | some a =>
    obtain ⟨hi, rfl⟩ := rngD_get e1
    rw [List.length_map] at hi
    rw [e1, List.getElem?_map, List.getElem?_eq_getElem hi] at hd
    cases hd
    exact ⟨hi, by rw [Int.zero_add]⟩
theorem enum_map {α : Type} {f : α → Dt} {xs : List α} : List.zipWith (fun d e => Dt.tup [d, e]) (rngD 0 (xs.map f).length) (xs.map f) = (List.range xs.length).map fun i => match xs[i]? with | some x => .tup [.int (i : Int), f x] | none => .non := by
  refine List.ext_getElem? fun i => ?_
  rw [List.getElem?_map]
  by_cases hi : i < xs.length
  · have e1 : (rngD 0 (xs.map f).length)[i]? = some (.int (i : Int)) := by
      unfold rngD
      rw [List.getElem?_map, List.length_map, List.getElem?_range hi]
      show some (Dt.int (0 + (i : Int))) = _
      rw [Int.zero_add]
    rw [List.getElem?_zipWith, e1, List.getElem?_map, List.getElem?_eq_getElem hi, List.getElem?_range hi]
    simp only [Option.map_some, List.getElem?_eq_getElem hi]
  · rw [List.getElem?_eq_none, List.getElem?_eq_none]
    · rfl
    · rw [List.length_range]; omega
    · rw [List.length_zipWith, List.length_map]; omega
/-- list(range(..)) -/
theorem den_rg {K : PySem.W.Frag} {B : Hp} {a : Int} : ∀ l : List Nat, DenL K B (l.map fun i => Dt.int (a + (i : Nat))) (l.map fun i => V.int (a + (i : Nat)))
  | [] => .nil
  | _ :: l => .cons (.int _) (den_rg l)
theorem ew_lstRg1 {Post : Dt → Own → Prop} {te : TE} (h : EW K te Γ O fun d O1 => ∃ j : Int, d = .int j ∧ 0 ≤ j ∧ j ≤ 16777216 ∧ Post (.lst (rngD 0 j.toNat)) O1) : EW K (tLstRg (tRg1 te)) Γ O Post := fun w P σ H B S Q q =>
  h w P σ H B S _ fun d v O1 H1 B1 ⟨j, e, l1, l2, p⟩ S1 => by
    subst e
    have hd := S1.pi _ v List.mem_cons_self
    cases hd
    have S2 := S1.pins (P' := P) fun z hz => by simp [hz]
    refine ⟨j, rfl, RgOk.of_le (Int.le_refl _) l2 (by decide) l1, fun a ha => q _ _ O1 _ _ p ((S2.new ha).pin (.lst upd_same ?_))⟩
    have := den_rg (K := K) (B := upd B1 a (.lst (rgV 0 j))) (a := 0) (List.range (j - 0).toNat)
    rw [Int.sub_zero] at this
    unfold rngD
    unfold rgV at this ⊢
    rw [Int.sub_zero] at this ⊢
    exact this
theorem ew_lstRg2 {Post : Dt → Own → Prop} {te te' : TE} (h : EW K te Γ O fun d O1 => EW K te' Γ O1 fun e O2 => ∃ i j : Int, d = .int i ∧ e = .int j ∧ 0 ≤ i ∧ i ≤ 16777216 ∧ 0 ≤ j ∧ j ≤ 16777216 ∧ Post (.lst (rngD i (j - i).toNat)) O2) : EW K (tLstRg (tRg2 te te')) Γ O Post := fun w P σ H B S Q q =>
  h w P σ H B S _ fun d v O1 H1 B1 p1 S1 => p1 w _ σ H1 B1 S1 _ fun d2 v2 O2 H2 B2 ⟨i, j, e1, e2, i0, i1, j0, j1, p⟩ S2 => by
    subst e1
    subst e2
    have hd2 := S2.pi _ v2 List.mem_cons_self
    have hd1 := S2.pi _ v (List.mem_cons_of_mem _ List.mem_cons_self)
    cases hd1
    cases hd2
    have S3 := S2.pins (P' := P) fun z hz => by simp [hz]
    refine ⟨i, j, rfl, rfl, RgOk.of_le i0 j1 i1 j0, fun a ha => q _ _ O2 _ _ p ((S3.new ha).pin (.lst upd_same ?_))⟩
    exact den_rg (K := K) (a := i) (List.range (j - i).toNat)
theorem den_intsL {K : PySem.W.Frag} {B : Hp} : ∀ ns : List Int, DenL K B (ns.map Dt.int) (ns.map V.int)
  | [] => .nil
  | n :: ns => .cons (.int n) (den_intsL ns)
/-- sorted(ints) -/
theorem cw_sortI {Post : Dt → Own → Prop} {d : Dt} {zs : List Dt} {ns : List Int} (v : View O d (.lst zs)) (ez : zs = ns.map .int) (k : ∀ ns' : List Int, ns'.Perm ns → ns'.Pairwise (· ≤ ·) → Post (.lst (ns'.map .int)) O) : CW K (rSortedI K) [d] O Post := fun w Γ P σ H B xs S hd Q q => by
  subst ez
  cases hd with
  | cons h1 h2 =>
    cases h2
    obtain ⟨a, vs, rfl, g1, g2⟩ := v.list S h1
    have e := den_ints g2
    subst e
    exact ⟨a, ns, rfl, SqL.of g1, fun ns' p hp hs hl => q _ _ O _ _ (k ns' hp hs) ((S.new hl).pin (.lst upd_same (den_intsL ns')))⟩
end
end DL
/-! dicts with texts as keys -/
namespace DL
open PySem PySem.Spec PyProof.Rows L2
abbrev KD := List (Key × Dt)
def getK (kvs : KD) (k : Key) : Option Dt := (kvs.find? fun kv => decide (kv.1 = k)).map (·.2)
def putKD (kvs : KD) (k : Key) (v : Dt) : KD :=
  if (kvs.any fun kv => decide (kv.1 = k)) = true then kvs.map (fun kv => if kv.1 = k then (kv.1, v) else kv) else kvs ++ [(k, v)]
theorem getK_den {K : PySem.W.Frag} {B : Hp} {k : Key} : ∀ {kvs : KD} {ws : List (Key × V)}, DenKV K B kvs ws → (getK kvs k = none ∧ valV ws k = none) ∨ ∃ d v, getK kvs k = some d ∧ valV ws k = some v ∧ Den K B d v
  | [], _, h => by cases h; exact .inl ⟨rfl, rfl⟩
  | p :: r, ws, h => by
    cases h with
    | @cons _ q _ s h1 h2 =>
      obtain ⟨e1, e2⟩ := h1
      by_cases e : p.1 = k
      · right
        refine ⟨p.2, q.2, ?_, valV_pos (e1.symm.trans e), e2⟩
        simp [getK, List.find?_cons, e]
      · have e' : ¬ q.1 = k := fun z => e (e1.trans z)
        rw [valV_neg e']
        have : getK (p :: r) k = getK r k := by simp [getK, List.find?_cons, e]
        rw [this]
        exact getK_den h2
theorem any_den {K : PySem.W.Frag} {B : Hp} {k : Key} : ∀ {kvs : KD} {ws : List (Key × V)}, DenKV K B kvs ws → (kvs.any fun kv => decide (kv.1 = k)) = ws.any fun kv => decide (kv.1 = k)
  | [], _, h => by cases h; rfl
  | p :: r, ws, h => by
    cases h with
    | cons h1 h2 => rw [List.any_cons, List.any_cons, any_den h2, h1.1]
theorem map_den {K : PySem.W.Frag} {B : Hp} {k : Key} {d : Dt} {v : V} (hd : Den K B d v) : ∀ {kvs : KD} {ws : List (Key × V)}, DenKV K B kvs ws → DenKV K B (kvs.map fun kv => if kv.1 = k then (kv.1, d) else kv) (ws.map fun kv => if kv.1 = k then (kv.1, v) else kv)
  | [], _, h => by cases h; exact .nil
  | p :: r, ws, h => by
    cases h with
    | @cons _ q _ s h1 h2 =>
      refine .cons ?_ (map_den hd h2)
      by_cases e : p.1 = k
      · simp only [if_pos e, if_pos (h1.1.symm.trans e)]; exact ⟨h1.1, hd⟩
      · simp only [if_neg e, if_neg (fun z => e (h1.1.trans z) : ¬ q.1 = k)]; exact h1
theorem snoc_den {K : PySem.W.Frag} {B : Hp} {k : Key} {d : Dt} {v : V} (hd : Den K B d v) : ∀ {kvs : KD} {ws : List (Key × V)}, DenKV K B kvs ws → DenKV K B (kvs ++ [(k, d)]) (ws ++ [(k, v)])
  | [], _, h => by cases h; exact .cons ⟨rfl, hd⟩ .nil
  | p :: r, ws, h => by
    cases h with
    | cons h1 h2 => exact .cons h1 (snoc_den hd h2)
theorem put_den {K : PySem.W.Frag} {B : Hp} {k : Key} {d : Dt} {v : V} (hd : Den K B d v) {kvs : KD} {ws : List (Key × V)} (h : DenKV K B kvs ws) : DenKV K B (putKD kvs k d) (putK ws k v) := by
  unfold putKD putK
  rw [any_den h]
  split
  · exact map_den hd h
  · exact snoc_den hd h
section
variable {K : PySem.W.Frag} {Γ : Gm} {O : Own} {Post : Dt → Own → Prop} {td ty tx : TE}
/-- {} -/
theorem ew_dnew (k : ∀ p, Post (.raw (.ref p)) ((p, .dk []) :: O)) : EW K tDNewK Γ O Post := fun w P σ H B S Q q p hp =>
  q _ _ _ _ _ (k p) ((S.newOwn (c := .dk []) hp ⟨[], upd_same, .nil⟩).pin (.raw _))
/-- d.get(k, x), k a text -/
theorem ew_dget2 (h : EW K td Γ O fun o O1 => ∃ p, o = .raw (.ref p) ∧ (∃ kv, (p, .dk kv) ∈ O1) ∧ EW K ty Γ O1 fun y O2 => EW K tx Γ O2 fun z O3 => ∃ (s : Str) (kvs : KD), y = .str s ∧ (p, .dk kvs) ∈ O3 ∧ Post ((getK kvs (.inr s)).getD z) O3) :
    EW K (tDGet2 td ty tx) Γ O Post := fun w P σ H B S Q q =>
  h w P σ H B S _ fun o ov O1 H1 B1 ⟨p, e1, ⟨kv, hm⟩, p1⟩ S1 => by
    subst e1
    have h1 := S1.pi _ ov List.mem_cons_self
    cases h1
    obtain ⟨_, _, ws, g1, _⟩ := S1.ow p _ hm
    refine ⟨p, rfl, .inl ⟨ws, .inl g1⟩, p1 w P σ H1 B1 (S1.pins fun z hz => by simp [hz]) _ fun y yv O2 H2 B2 p2 S2 => p2 w _ σ H2 B2 S2 _ fun z zv O3 H3 B3 ⟨s, kvs, e2, hm3, p3⟩ S3 => ?_⟩
    subst e2
    have hy := S3.pi _ yv (List.mem_cons_of_mem _ List.mem_cons_self)
    have hz := S3.pi _ zv List.mem_cons_self
    cases hy
    have S4 := S3.pins (P' := P) fun z hz => by simp [hz]
    obtain ⟨_, _, ws, g3, g4⟩ := S4.ow p _ hm3
    refine ⟨_, DGet.k (k := .inr s) g3, ?_⟩
    rcases getK_den (k := .inr s) g4 with ⟨n1, n2⟩ | ⟨d, v, n1, n2, n3⟩
    · rw [n2]
      rw [n1] at p3
      exact q _ _ _ _ _ p3 (S4.pin hz)
    · rw [n2]
      rw [n1] at p3
      exact q _ _ _ _ _ p3 (S4.pin (n3.mono (Same.refl _)))
end
/-- d[k] = v, k a text -/
theorem gw_setD {K : PySem.W.Frag} {Γ : Gm} {O : Own} {Post : Gm → Own → Prop} {to ti : TE} {J : Nat → Prop} {p : Addr} {kvs : KD} {s : Str} {O2 : Own} {d : Dt} (hn : kvs.length < sizeLine)
    (ho : EW K to Γ O fun o O1 => o = .raw (.ref p) ∧ EW K ti Γ O1 fun k O' => k = .str s ∧ O'.Perm ((p, .dk kvs) :: O2) ∧ Post Γ ((p, .dk (putKD kvs (.inr s) d)) :: O2)) :
    GW K (gSub to ti rSetD) J d Γ O Post := fun w P σ H B v S hd Q q =>
  ho w ((d, v) :: P) σ H B (S.pin hd) _ fun o ov O1 H1 B1 ⟨e1, p1⟩ S1 => by
    subst e1
    have h1 := S1.pi _ ov List.mem_cons_self
    cases h1
    refine p1 w _ σ H1 B1 S1 _ fun k kv O' H2 B2 ⟨e2, hp, p2⟩ S2 => ?_
    subst e2
    have h2 := S2.pi _ kv List.mem_cons_self
    cases h2
    have hv := S2.pi d v (by simp)
    have S3 := (S2.perm hp).pins (P' := P) fun z hz => by simp [hz]
    obtain ⟨_, _, ws, h4, h5⟩ := S3.ow p _ List.mem_cons_self
    have hl : ws.length < sizeLine := by rw [← Paired.length h5]; exact hn
    exact ⟨p, _, rfl, DPut.k (k := .inr s) h4 hl, q _ _ _ _ _ p2 (S3.write (c' := .dk (putKD kvs (.inr s) d)) ⟨_, upd_same, put_den hv h5⟩) (fun _ _ => rfl) rfl⟩
end DL
/-! set(list of texts), sorted(set(..)), len(set(..)) -/
namespace TX
open PySem PySem.Spec PyProof.Rows L2
open PySem.Froz (SD sObj TxOk addTx tailTx)
def keyS (e : Int × Value) : Str := strOf e.2
def stepX (ks : List Str) (k : Str) : List Str := if k ∈ ks then ks else k :: ks
/-- the different texts -/
def distinct (xs : List Str) : List Str := xs.foldl stepX []
section
variable {ks : List Str}
theorem stepX_nodup {k : Str} (h : ks.Nodup) : (stepX ks k).Nodup := by
  unfold stepX
  split
  · exact h
  · rename_i n
    exact List.nodup_cons.mpr ⟨n, h⟩
theorem stepX_mem {k x : Str} : x ∈ stepX ks k ↔ x ∈ ks ∨ x = k := by
  unfold stepX
  split
  · rename_i h
    exact ⟨.inl, fun z => z.elim id fun e => e ▸ h⟩
  · rw [List.mem_cons]; exact Or.comm
theorem stepX_len {k : Str} : (stepX ks k).length ≤ ks.length + 1 := by
  unfold stepX
  split
  · omega
  · simp
theorem foldX : ∀ {xs ks : List Str}, ks.Nodup → (xs.foldl stepX ks).Nodup ∧ (∀ x, x ∈ xs.foldl stepX ks ↔ x ∈ ks ∨ x ∈ xs) ∧ (xs.foldl stepX ks).length ≤ ks.length + xs.length
  | [], ks, h => ⟨h, fun x => by simp, by simp⟩
  | y :: xs, ks, h => by
    obtain ⟨h1, h2, h3⟩ := foldX (xs := xs) (stepX_nodup (k := y) h)
    refine ⟨h1, fun x => ?_, ?_⟩
    · rw [List.foldl_cons, h2, stepX_mem, List.mem_cons, or_assoc]
    · have := stepX_len (ks := ks) (k := y)
      rw [List.foldl_cons, List.length_cons]
      omega
theorem distinct_nodup (xs : List Str) : (distinct xs).Nodup := (foldX List.nodup_nil).1
theorem distinct_mem {xs : List Str} {x : Str} : x ∈ distinct xs ↔ x ∈ xs := by
  have := (foldX (xs := xs) List.nodup_nil).2.1 x
  unfold distinct
  simpa using this
theorem distinct_len (xs : List Str) : (distinct xs).length ≤ xs.length := by
  have := (foldX (xs := xs) List.nodup_nil).2.2
  simpa [distinct] using this
theorem distinct_snoc (xs : List Str) (i : Nat) (h : i < xs.length) : distinct (xs.take (i + 1)) = stepX (distinct (xs.take i)) (xs.getD i Str.empty) := by
  have e : xs.take (i + 1) = xs.take i ++ [xs.getD i Str.empty] := by
    rw [List.take_succ, List.getElem?_eq_getElem h]
    simp [List.getElem?_eq_getElem h]
  rw [e]
  unfold distinct
  rw [List.foldl_append]
  rfl
end
/-! ### what an add keeps -/
theorem tail_keep (ep : Nat) (es : Array (Int × Value)) (t : SetTable) (b : Bool) :
    (tailTx ep es t b).1.toList.Perm es.toList ∧ (Ris t.place.toList → Ris (tailTx ep es t b).2.2.place.toList) ∧ (tailTx ep es t b).2.2.led = t.led := by
  unfold tailTx
  split
  · exact ⟨relayAll_perm _ _ _, fun _ => relayAll_ris _ _ _, relayAll_led _ _ _⟩
  · exact ⟨List.Perm.refl _, id, rfl⟩
theorem add_keep (n : Int) (v : Value) (D : SD) :
    (addTx n v D).1.toList.Perm ((n, v) :: D.1.toList) ∧ (Ris D.2.2.place.toList → Ris (addTx n v D).2.2.place.toList) ∧ (addTx n v D).2.2.led = D.2.2.led := by
  have p := layNew_perm D.2.2 D.1 n v
  rw [Array.toList_push] at p
  have q := tail_keep D.2.1 (layNew D.2.2 D.1 n v).1 (if (layNew D.2.2 D.1 n v).2.1.plain = true then { (layNew D.2.2 D.1 n v).2.1 with plain := false } else (layNew D.2.2 D.1 n v).2.1) (layNew D.2.2 D.1 n v).2.2.1
  refine ⟨(q.1.trans p).trans (List.perm_append_singleton _ _), fun z => q.2.1 ?_, q.2.2.trans ?_⟩
  · have r := layNew_ris D.2.2 D.1 n v z
    split <;> exact r
  · have r := layNew_led D.2.2 D.1 n v
    split <;> exact r
/-- the set of texts at a: ks its members; it can be walked -/
def SetX (P : Program) (w : World) (hp : Heap) (a : Addr) (ks : List Str) : Prop :=
  ∃ D : SD, hp.get? a = some (sObj "set" D) ∧ TxOk P w D ks ∧ (D.1.toList.map keyS).Perm ks ∧ Ris D.2.2.place.toList ∧ (w.params.followText "set-order" = true ∨ D.2.2.led = true)
section
variable {P : Program} {w : World} {A : Around} {E : Value → Shared → Prop} {s : Shared} {a : Addr} {ks : List Str}
theorem SetX.keep {hp hq : Heap} (R : SetX P w hp a ks) (k : ∀ o, hp.get? a = some o → hq.get? a = some o) : SetX P w hq a ks := by
  obtain ⟨D, h, r⟩ := R
  exact ⟨D, k _ h, r⟩
/-- a text that is in already -/
theorem add_old {D : SD} {k : Str} {u : Tok} {Q : Bool → Shared → Prop} (ho : s.heap.get? a = some (sObj "set" D)) (F : TxOk P w D ks) (hk : k ∈ ks) (hb : ks.length < scanBound) (h : ∀ b, Q b s) :
    wpAny (model P w) A (setAddHashed a (.str k u) (hashStr w k)) Q E s := by
  obtain ⟨es, ep, t⟩ := D
  have hz : es.size < scanBound := by rw [show es.size = ks.length from F.sz]; exact hb
  unfold setAddHashed setAddHashedIn
  refine wpAny_holding (wpAny_bind (wpAny_setState_of ho rfl F.fit ?_))
  dsimp only
  rw [byScan_of (x := Value.str k u) rfl hz F.el]
  simp only [↓reduceIte]
  unfold setAddByScan
  refine wpAny_bind (wpAny_bind (wpAny_rule (wpAny_bind (wpAny_setScan_of (knd := PySem.strKind P w) (k := k) (PySem.Froz.is_str k u) ho rfl F.fit F.el ?_))))
  cases hr : List.findIdx? (fun e => (PySem.strKind P w).is k e.2) es.toList with
  | some j =>
    dsimp only
    exact wpAny_pure (wpAny_pure (h _))
  | none =>
    obtain ⟨e, he, q⟩ := (F.mem k).mp hk
    have c := List.findIdx?_eq_none_iff.mp hr e he
    rw [q] at c
    cases c
theorem addX {k : Str} {u : Tok} {Q : Bool → Shared → Prop} (R : SetX P w s.heap a ks) (room : ks.length + 1 < scanBound)
    (hQ : ∀ hq b, Heap.SameBut a s.heap hq → SetX P w hq a (stepX ks k) → Q b { s with heap := hq }) :
    wpAny (model P w) A (setAddHashed a (.str k u) (hashStr w k)) Q E s := by
  obtain ⟨D, ho, F, pm, ri, le⟩ := R
  by_cases hk : k ∈ ks
  · refine add_old ho F hk (by omega) fun b => hQ s.heap b (Heap.SameBut.refl a _) ?_
    unfold stepX
    rw [if_pos hk]
    exact ⟨D, ho, F, pm, ri, le⟩
  · obtain ⟨q1, q2, q3⟩ := add_keep (hashStr w k) (.str k u) D
    refine PySem.Froz.add_x ho F hk room (hQ _ _ (Heap.SameBut.update _ a _) ?_)
    unfold stepX
    rw [if_neg hk]
    exact ⟨_, PySem.Froz.get_upd _ ho rfl, PySem.Froz.add_ok u F, (q1.map keyS).trans (pm.cons k), q2 ri, le.imp id fun z => q3.trans z⟩
end
/-- a new set -/
abbrev nset (w : World) : Obj := { cls := .type "set", dict := none, data := .set #[] 0 (.fresh 0 0 (!w.params.followText "set-order")) }
section
variable {P : Program} {w : World} {A : Around} {E : Value → Shared → Prop} {s : Shared}
theorem newX {hp : Heap} {a : Addr} (h : hp.get? a = some (nset w)) : SetX P w hp a [] := by
  refine ⟨(#[], 0, .fresh 0 0 (!w.params.followText "set-order")), h, PySem.Froz.TxOk.nil rfl, List.Perm.refl _, List.Pairwise.nil, ?_⟩
  cases e : w.params.followText "set-order"
  · exact .inr rfl
  · exact .inl rfl
/-- the loop that adds what an iterator gives -/
theorem loopX {I : Addr} {fp wr : List Addr} {G : Array GenState → Array GenState → Prop} {n : Nat} {V : Nat → Value → Prop} {St : Nat → Shared → Prop} {R : Result → Shared → Prop}
    (W : WalksS P w A.in1 I fp wr G n V St) (S : Addr) (out : S ∉ fp) (xs : List Str) (len : xs.length = n) (room : n + 1 < scanBound) (val : ∀ i v, V i v → ∃ t, v = .str (xs.getD i Str.empty) t) (m : Nat) :
    ∀ (i : Nat) (s : Shared), i + m = n → St i s → SetX P w s.heap S (distinct (xs.take i)) →
      (∀ z, Moved (S :: wr) G s z → SetX P w z.heap S (distinct xs) → R (.ok (.ret .none)) z) →
      codeAny (model P w) A (.builtin "set.update.loop" ⟨[.ref S, .ref I], []⟩) R s := by
  have far : S ∉ wr := fun z => out (W.sub _ z)
  have more : ∀ b ∈ wr, b ∈ S :: wr := fun _ => List.mem_cons_of_mem _
  induction m with
  | zero =>
    intro i s e st hS fin
    refine codeAny_builtin PyProof.Rows.F.entry_set_update_loop ?_
    rw [Around.under_plainId
      PyProof.Rows.F.plain_set_update_loop _]
    show wpAny _ _ (pyNext (.ref I) >>= _) _ _ s
    refine wpAny_bind (W.done s _ _ (by rw [← e, Nat.add_zero]; exact st) fun z mv => wpAny_pure (fin z (mv.mono more) ?_))
    rw [List.take_of_length_le (by omega)] at hS
    exact hS.keep fun o q => mv.heap S o far q
  | succ m ih =>
    intro i s e st hS fin
    refine codeAny_builtin PyProof.Rows.F.entry_set_update_loop ?_
    rw [Around.under_plainId
      PyProof.Rows.F.plain_set_update_loop _]
    show wpAny _ _ (pyNext (.ref I) >>= _) _ _ s
    refine wpAny_bind (W.item i s _ _ (by omega) st fun v z hv st' mv => ?_)
    obtain ⟨t, rfl⟩ := val i v hv
    have room' : (distinct (xs.take i)).length + 1 < scanBound := by
      have q1 := distinct_len (xs.take i)
      have q2 := List.length_take_le i xs
      omega
    show wpAny _ _ (holding _ (setAdd S _) >>= _) _ _ z
    unfold setAdd
    refine wpAny_bind (wpAny_holding (wpAny_holding (wpAny_bind ((PySem.strKind P w).pyHash (k := xs.getD i Str.empty) (PySem.Froz.is_str _ _) ?_))))
    refine addX (s := { z with toks := z.toks + 1 }) (hS.keep fun o q => mv.heap S o far q) room' fun hq b same hS2 => wpAny_pure ⟨plainId_quiet PyProof.Rows.F.plain_set_update_loop _, ?_⟩
    rw [← distinct_snoc xs i (by omega)] at hS2
    refine ih (i + 1) _ (by omega) (W.frame _ z _ _ st' (Nat.le_succ _) fun b hb o q => ?_) hS2 fun y mv2 hS3 => fin y ?_ hS3
    · exact (same.2 b (fun c => out (c ▸ hb))).trans q
    · refine Moved.trans W.gtrans ((mv.mono more).then_heap (Nat.le_succ _) fun b o nb q => ?_) mv2
      exact (same.2 b (fun c => nb (by rw [c]; exact List.mem_cons_self))).trans q
end
section
variable {P : Program} {w : World} {A : Around} {E : Value → Shared → Prop} {s : Shared}
/-- the state with a new set -/
abbrev withSet (w : World) (s : Shared) : Shared := { s with heap := s.heap.push (nset w) }
set_option maxHeartbeats 4000000 in
/-- set(xs), xs a list of texts -/
theorem callX {l : Addr} {its : Array Value} {xs : List Str} {Q : Value → Shared → Prop} (calm : A.handled = none) (hl : s.heap.IsList l its) (hx : StrsAre its.toList xs) (room : xs.length + 1 < scanBound)
    (fin : ∀ (hq : Heap) (u : Nat), SetX P w hq s.heap.objs.size (distinct xs) → (∀ b o, s.heap.get? b = some o → hq.get? b = some o) → Q (.ref s.heap.objs.size) { s with heap := hq, toks := u }) :
    wpAny (model P w) A (call (.type "set") [.ref l]) Q E s := by
  have len : xs.length = its.size := by rw [← StrsAre.len_eq hx, Array.length_toList]
  have at' : (s.heap.push (nset w)).get? s.heap.objs.size = some (nset w) := Heap.get?_push_size _ rfl
  have ty : Shared.TypeIs (withSet w s) (.ref s.heap.objs.size) "set" := ⟨_, at', rfl⟩
  obtain ⟨c, tl, mro⟩ := PySem.F.called_set.mro
  have c1 := PySem.F.called_set.made
  have c2 := PySem.F.called_set.sub
  have c3 := PySem.F.called_set.notType
  have c4 := PySem.F.called_set.canCreate
  have c5 := PySem.F.typeCall_set_1 (.ref l)
  have c6 := PySem.F.called_set.init.lookup
  have c7 := PySem.F.called_set.init.bind (.ref s.heap.objs.size)
  refine wpAny_call (codeAny_of_tree (wpAny_pure ⟨Code.quiet_builtin _ (by decide +kernel), codeAny_builtin PySem.F.entry_type_call ?_⟩))
  rw [Around.under_plain (weight_type_call_type
    "set" [.ref l] []) rfl]
  repeat (any_goals (first | assumption | wp_step))
  refine codeAny_mono (code_set_led1 (.ref l) (E := E) (Q₁ := fun x z => x = .ref s.heap.objs.size ∧ z = withSet w s) ⟨rfl, rfl⟩) fun r z hz => ?_
  rcases r with e | (x | _ | _ | _)
  all_goals try exact hz
  all_goals try exact hz.elim
  obtain ⟨rfl, rfl⟩ := hz
  repeat (any_goals (first | assumption | wp_step))
  refine codeAny_mono (codeAny_call_builtin (R := wants (fun r z => r = .none ∧ ∃ hq u, z = { s with heap := hq, toks := u } ∧ SetX P w hq s.heap.objs.size (distinct xs) ∧ (∀ b o, s.heap.get? b = some o → hq.get? b = some o)) E)
    PySem.F.called_set.init.plain PySem.F.entry_set_init (PySem.check_set_init_1 ty ?_)) fun r z hz => ?_
  · obtain ⟨⟨k0, k1, k2, k3⟩, lo, e1, n, e2⟩ := hl
    simp only at e1 e2
    subst e1
    subst e2
    have lo2 : (s.heap.push (nset w)).get? l = some ⟨.type "list", k1, .seq its n, k3⟩ := Heap.get?_push_of_some _ lo
    have isl : (s.heap.push (nset w)).IsList l its := ⟨_, lo2, rfl, n, rfl⟩
    have lt : l < s.heap.objs.size := Heap.lt_size lo
    have big : (s.heap.push (nset w)).objs.size = s.heap.objs.size + 1 := Heap.size_push ..
    have d1 := PySem.F.sub_list_set
    have d2 := PySem.F.sub_list_frozenset
    have d3 : (Value.type "list" == Value.type "dict") = false := by decide
    unfold Builtin.«set.__init__»
    unfold noKeywords
    unfold Builtin.Frozenset.updateFrom
    generalize pi : pyIter = PI
    wp_walk
    subst pi
    refine wpAny_pyIter_list isl (wpAny_bind (wpAny_runValue ?_))
    have far : s.heap.objs.size ∉ [(s.heap.push (nset w)).objs.size, l] := by
      rw [big]
      intro m
      rcases List.mem_cons.mp m with m | m
      · exact absurd m (Nat.ne_of_lt (Nat.lt_succ_self _))
      · exact absurd (List.mem_singleton.mp m) (Nat.ne_of_gt lt)
    refine loopX ((Walks.list (show A.in1.in1.in1.handled = none by simp [calm]) _ l (by rw [big]; exact Nat.ne_of_lt (Nat.lt_succ_of_lt lt)) its).toS) s.heap.objs.size far xs len (by rw [← len]; exact room)
      (fun i v hv => SS.strs_at hx i v (by rw [Array.getElem?_toList]; exact hv)) its.size 0 _ (Nat.zero_add _) ⟨⟨_, Heap.get?_push_size _ rfl, rfl, rfl⟩, isl.push _⟩ (newX (Heap.get?_push_of_some _ at')) ?_
    rintro ⟨hq, gq, dq, uq, oq⟩ mv R
    have g1 : gq = s.gens := mv.gens
    have g2 : dq = s.drawn := mv.drawn
    have g3 : oq = s.os := mv.os
    subst g1
    subst g2
    subst g3
    show wpAny _ _ _ _ _ _
    refine wpAny_pure ?_
    show wpAny _ _ (ret Value.none) _ _ _
    refine wpAny_pure ⟨rfl, hq, uq, rfl, R, fun b o e => ?_⟩
    have lb := Heap.lt_size e
    refine mv.heap b o (fun m => ?_) (Heap.get?_push_of_some _ (Heap.get?_push_of_some _ e))
    rcases List.mem_cons.mp m with m | m
    · exact absurd m (Nat.ne_of_lt lb)
    · have m := List.mem_singleton.mp m
      rw [big] at m
      exact absurd m (Nat.ne_of_lt (Nat.lt_succ_of_lt lb))
  · rcases r with e | (x | _ | _ | _)
    all_goals try exact hz
    all_goals try exact hz.elim
    obtain ⟨rfl, hq, u, rfl, h1, h2⟩ := hz
    repeat (any_goals (first | assumption | wp_step))
    exact fin _ _ h1 h2
set_option maxHeartbeats 4000000 in
/-- sorted(s), s a set of fewer than 64 texts -/
theorem sortedX {a : Addr} {ks : List Str} {Q : Value → Shared → Prop} (R : SetX P w s.heap a ks) (calm : A.handled = none) (few : ks.length < 64)
    (fin : ∀ (z : Shared) (p : Addr) (out : Array Value) (c : Nat) (ys : List Str), (∀ b o, s.heap.get? b = some o → z.heap.get? b = some o) → z.gens = s.gens → z.os = s.os → s.heap.objs.size ≤ p →
      z.heap.get? p = some (seqObj "list" out c) → StrsAre out.toList ys → ys.Perm ks → sortedS ys = true → Q (.ref p) z) :
    wpAny (model P w) A (call (.builtin "sorted") [.ref a]) Q E s := by
  obtain ⟨⟨es, ep, t⟩, ho, F, pm, ri, le⟩ := R
  have small : es.size < scanBound := by
    rw [show es.size = ks.length from F.sz]
    exact Nat.lt_trans few (by decide)
  refine Calls.call_function_entry PyProof.Rows.kind_sorted PyProof.Rows.plain_sorted PyProof.Rows.entry_sorted (PyProof.Rows.args_sorted1 _) ?_
  unfold Builtin.«sorted»
  refine wpAny_bind (m := checkCount "sorted" 1 1 _) (wpAny_pure (wpAny_bind (collect_set (A := A.in1) calm ⟨_, ho, rfl, rfl⟩ F.fit small ri le fun z vs k1 k2 k3 k4 pv => ?_)))
  have S : StrsAre vs (vs.map strOf) := strsAre_map vs fun v hv => by
    obtain ⟨e, he, q⟩ := List.mem_map.mp (pv.mem_iff.mp hv)
    obtain ⟨⟨k, h1, _⟩, _⟩ := F.el e he
    obtain ⟨t, h2⟩ := Value.isStrOf_shape h1
    exact ⟨k, t, by rw [← q]; exact h2⟩
  have pk : (vs.map strOf).Perm ks := by
    have q := pv.map strOf
    rw [List.map_map] at q
    exact q.trans pm
  have lv : vs.length < 64 := by
    have := pk.length_eq
    rw [List.length_map] at this
    omega
  refine wpAny_bind (wpAny_newList ?_ (by rw [sizeLine_eq]; omega))
  have got : (z.heap.push (seqObj "list" vs.toArray 0)).get? z.heap.objs.size = some (seqObj "list" vs.toArray 0) := Heap.get?_push_size _ rfl
  refine wpAny_bind (wpAny_holding (wpAny_call_entry PyProof.Rows.slot_list_sort ⟨_, got, rfl⟩ PyProof.Rows.entry_list_sort
    (list_sort_treeK strKind_oneLt (s := { z with heap := z.heap.push (seqObj "list" vs.toArray 0) }) got S.keysOf (fun v1 v2 rest e => keyKind_strs (by rw [← e]; exact S)) lv fun st pp ps => ⟨_, rfl, ?_⟩) (PyProof.Rows.args_list_sort _)))
  obtain ⟨ys, g1, g2, g3⟩ := sorted_out_str S pp ps
  obtain ⟨c, hc⟩ := PyProof.Rows.sortedHeap_at (vs := vs) (out := (arrOf st).map (·.2)) got
  refine wpAny_pure ⟨_, rfl, fin _ z.heap.objs.size _ c ys (fun b u e => ?_) k3 k4 k2 hc g1 (g2.trans pk) g3⟩
  have q := k1 b u e
  have lt := Heap.lt_size q
  show (sortedHeap _ _ _ _).get? b = some u
  rw [PyProof.Rows.sortedHeap_old (Nat.ne_of_lt lt) (by rw [size_push']; exact Nat.lt_succ_of_lt lt)]
  exact Heap.get?_push_of_some _ q
/-- texts in their order, each once -/
def ltS (x y : Str) : Prop := x.cps.toList < y.cps.toList
def SortX (ys xs : List Str) : Prop := ys.Pairwise ltS ∧ ∀ x, x ∈ ys ↔ x ∈ xs
theorem str_ext {x y : Str} (h : x.cps.toList = y.cps.toList) : x = y := by
  cases x
  cases y
  simp only [Str.mk.injEq]
  exact Array.toList_inj.mp h
theorem sortX_of {ys xs : List Str} (p : ys.Perm (distinct xs)) (h : sortedS ys = true) : SortX ys xs := by
  refine ⟨?_, fun x => by rw [p.mem_iff, distinct_mem]⟩
  have nd : ys.Nodup := p.nodup_iff.mpr (distinct_nodup xs)
  clear p
  have rise : ∀ (l : List Str) (x : Str), risingS x l = true → (x :: l).Pairwise fun a b => ¬ b.cps.toList < a.cps.toList := by
    intro l
    induction l with
    | nil => intro x _; exact List.pairwise_singleton _ _
    | cons y l ih =>
      intro x e
      simp only [risingS, Bool.and_eq_true, Bool.not_eq_true', ltCps_eq, decide_eq_false_iff_not] at e
      have q := ih y e.2
      refine List.pairwise_cons.mpr ⟨fun b hb => ?_, q⟩
      rcases List.mem_cons.mp hb with rfl | hb
      · exact e.1
      · have := (List.pairwise_cons.mp q).1 b hb
        exact fun z => e.1 (List.lt_of_le_of_lt (List.not_lt.mp this) z)
  have le : ys.Pairwise fun a b => ¬ b.cps.toList < a.cps.toList := by
    cases ys with
    | nil => exact List.Pairwise.nil
    | cons x l => exact rise l x h
  refine (le.and nd).imp fun {a b} ⟨h1, h2⟩ => ?_
  unfold ltS
  refine Classical.byContradiction fun h3 => h2 (str_ext ?_)
  exact List.le_antisymm (List.not_lt.mp h1) (List.not_lt.mp h3)
theorem sortX_uniq : ∀ {xs ys : List Str}, xs.Pairwise ltS → ys.Pairwise ltS → (∀ x, x ∈ xs ↔ x ∈ ys) → xs = ys
  | [], [], _, _, _ => rfl
  | [], y :: ys, _, _, h => absurd ((h y).mpr List.mem_cons_self) List.not_mem_nil
  | x :: xs, [], _, _, h => absurd ((h x).mp List.mem_cons_self) List.not_mem_nil
  | x :: xs, y :: ys, h1, h2, h => by
    obtain ⟨a1, a2⟩ := List.pairwise_cons.mp h1
    obtain ⟨b1, b2⟩ := List.pairwise_cons.mp h2
    have e : x = y := by
      rcases List.mem_cons.mp ((h x).mp List.mem_cons_self) with z | z
      · exact z
      · rcases List.mem_cons.mp ((h y).mpr List.mem_cons_self) with z' | z'
        · exact z'.symm
        · exact absurd (List.lt_trans (a1 y z') (b1 x z)) (List.lt_irrefl _)
    subst e
    have irr : ∀ l : List Str, (∀ z ∈ l, ltS x z) → x ∉ l := fun l q z => List.lt_irrefl _ (q x z)
    rw [sortX_uniq a2 b2 fun z => ?_]
    constructor
    · intro hz
      rcases List.mem_cons.mp ((h z).mp (List.mem_cons_of_mem _ hz)) with e | e
      · subst e; exact absurd hz (irr _ a1)
      · exact e
    · intro hz
      rcases List.mem_cons.mp ((h z).mpr (List.mem_cons_of_mem _ hz)) with e | e
      · subst e; exact absurd hz (irr _ b1)
      · exact e
theorem SortX.eq {xs ys xs' ys' : List Str} (h : SortX ys xs) (h' : SortX ys' xs') (e : ∀ x, x ∈ xs ↔ x ∈ xs') : ys = ys' :=
  sortX_uniq h.1 h'.1 fun x => (h.2 x).trans ((e x).trans (h'.2 x).symm)
theorem SortX.len {xs ys : List Str} (h : SortX ys xs) : ys.length ≤ xs.length := by
  have nd : ys.Nodup := h.1.imp fun {a b} q e => by subst e; exact List.lt_irrefl _ q
  have : ∀ (n : Nat) (ys xs : List Str), xs.length = n → ys.Nodup → (∀ x ∈ ys, x ∈ xs) → ys.length ≤ xs.length := by
    intro n
    induction n with
    | zero =>
      intro ys xs e _ k
      cases ys with
      | nil => exact Nat.zero_le _
      | cons y ys =>
        have := k y List.mem_cons_self
        rw [List.length_eq_zero_iff.mp e] at this
        cases this
    | succ n ih =>
      intro ys xs e nd k
      cases ys with
      | nil => exact Nat.zero_le _
      | cons y ys =>
        have hy := k y List.mem_cons_self
        have l1 := List.length_erase_of_mem hy
        obtain ⟨n1, n2⟩ := List.nodup_cons.mp nd
        have := ih ys (xs.erase y) (by omega) n2 fun x hx => by
          have := k x (List.mem_cons_of_mem _ hx)
          exact (List.mem_erase_of_ne (fun z => n1 (by rw [← z]; exact hx))).mpr this
        rw [List.length_cons]
        have := List.length_pos_of_mem hy
        omega
  exact this _ ys xs rfl nd fun x hx => (h.2 x).mp hx
end
end TX
namespace DL
open PySem PySem.Spec PyProof.Rows L2
/-- sorted(set(xs)), xs a list of texts -/
def tSS (K : PySem.W.Frag) (te : TE) : TE := fun σ H Q => te σ H fun x H1 => ∃ (l : Addr) (xs : List Str), x = .ref l ∧ SqL K H1 l (xs.map V.str) ∧ xs.length < 64 ∧
  ∀ (ys : List Str) (p : Addr), TX.SortX ys xs → H1 p = none → Q (.ref p) (upd H1 p (.lst (ys.map V.str)))
/-- len(set(xs)), xs a list of texts -/
def tLS (K : PySem.W.Frag) (te : TE) : TE := fun σ H Q => te σ H fun x H1 => ∃ (l : Addr) (xs : List Str), x = .ref l ∧ SqL K H1 l (xs.map V.str) ∧ xs.length < 64 ∧ Q (.int (TX.distinct xs).length) H1
section
variable {X : Cx}
theorem end_ss {pins : List (Addr × Obj)} {σ : L2.St} {H : Hp} {s z : Shared} {p : Addr} {out : Array Value} {c : Nat} {ys : List Str} (I : Inv X pins σ H s) (k1 : ∀ b o, s.heap.get? b = some o → z.heap.get? b = some o) (k2 : z.gens = s.gens) (k3 : z.os = s.os)
    (k4 : s.heap.objs.size ≤ p) (k5 : z.heap.get? p = some (seqObj "list" out c)) (k6 : StrsAre out.toList ys) (few : ys.length < 64) : H p = none ∧ Inv X pins σ (upd H p (.lst (ys.map V.str))) z := by
  have hlen : (ys.map V.str).length ≤ sizeLine := by
    rw [List.length_map, sizeLine_eq]
    omega
  have hn : H p = none := I.hok.fresh k4
  have J : Inv X pins σ (upd H p (.lst (ys.map V.str))) { s with heap := z.heap, gens := z.gens, drawn := z.drawn, toks := z.toks } :=
    I.call (ch := []) (Un.laid k1 k4 hn) (I.hok.laid k1 k4 ⟨hlen, out.toList, c, vals_of_strs k6, k5⟩) (by rw [k2]; exact I.bare) (fun _ z => nomatch z)
  have e : z = { s with heap := z.heap, gens := z.gens, drawn := z.drawn, toks := z.toks } := by
    cases z
    cases s
    cases k3
    rfl
  rw [e]
  exact ⟨hn, J⟩
theorem pe_ss {a : Expr} {ta : TE} {p p2 q pos : Pos} (hc : X.calm = true) (hg : Gl X "sorted") (hm : X.mg "sorted" = none) (hg2 : Gl X "set") (hm2 : X.mg "set" = none) (ha : PE X a ta)
    (na : starEach [a] X.env = (false, eval a X.env) :: starEach [] X.env := by rfl) : PE X (.Call (.Name "sorted" p) [.Call (.Name "set" p2) [a] [] q] [] pos) (tSS X.K ta) := by
  refine ⟨fun pins s σ H Q I h => ?_⟩
  refine Call_ (ld_blt I hg hm PyProof.Rows.boot_sorted ?_)
  refine PyProof.Rows.callWith_builtin1 (PyProof.Rows.args_cons ?_ rfl) rfl rfl
  refine Call_ (ld_blt I hg2 hm2 PyProof.Rows.boot_set ?_)
  refine PyProof.Rows.callWith_type1 (PyProof.Rows.args_cons (thn (ha.run pins s σ H _ I h) fun v s1 ⟨x, H1, I1, r1, q1⟩ => PyProof.Rows.args_nil ?_) na) na rfl
  obtain ⟨l, xs, rfl, hq, few, q1⟩ := q1
  cases r1
  obtain ⟨its, r, pl, hz⟩ := I1.list hq
  refine TX.callX (I1.ok.hd hc) pl.isList (by simpa using strsAre_of r) (Nat.lt_trans (Nat.succ_lt_succ few) (by decide)) fun hq u R keep => PyProof.Rows.args_nil ?_
  have I2 : Inv X pins σ H1 { s1 with heap := hq, toks := u } := I1.kept keep
  have lk := TX.distinct_len xs
  refine TX.sortedX R (I2.ok.hd hc) (by omega) fun z p out c ys k1 k2 k3 k4 k5 k6 k7 k8 => ?_
  obtain ⟨hn, J⟩ := end_ss I2 k1 k2 k3 k4 k5 k6 (by rw [k7.length_eq]; omega)
  exact ⟨.ref p, _, J, rfl, q1 ys p (TX.sortX_of k7 k8) hn⟩
theorem pe_ls {a : Expr} {ta : TE} {p p2 q pos : Pos} (hc : X.calm = true) (hg : Gl X "len") (hm : X.mg "len" = none) (hg2 : Gl X "set") (hm2 : X.mg "set" = none) (ha : PE X a ta)
    (na : starEach [a] X.env = (false, eval a X.env) :: starEach [] X.env := by rfl) : PE X (.Call (.Name "len" p) [.Call (.Name "set" p2) [a] [] q] [] pos) (tLS X.K ta) := by
  refine ⟨fun pins s σ H Q I h => ?_⟩
  refine Call_ (ld_blt I hg hm boot_len ?_)
  refine PyProof.Rows.callWith_builtin1 (PyProof.Rows.args_cons ?_ rfl) rfl rfl
  refine Call_ (ld_blt I hg2 hm2 PyProof.Rows.boot_set ?_)
  refine PyProof.Rows.callWith_type1 (PyProof.Rows.args_cons (thn (ha.run pins s σ H _ I h) fun v s1 ⟨x, H1, I1, r1, q1⟩ => PyProof.Rows.args_nil ?_) na) na rfl
  obtain ⟨l, xs, rfl, hq, few, q1⟩ := q1
  cases r1
  obtain ⟨its, r, pl, hz⟩ := I1.list hq
  refine TX.callX (I1.ok.hd hc) pl.isList (by simpa using strsAre_of r) (Nat.lt_trans (Nat.succ_lt_succ few) (by decide)) fun hq u R keep => PyProof.Rows.args_nil ?_
  have I2 : Inv X pins σ H1 { s1 with heap := hq, toks := u } := I1.kept keep
  have lk := TX.distinct_len xs
  obtain ⟨D, ho, F, _⟩ := R
  have sz : D.1.size = (TX.distinct xs).length := F.sz
  refine call_len_set ho ⟨rfl, rfl, rfl⟩ rfl F.fit (by rw [sz]; omega) ⟨.int (TX.distinct xs).length, H1, I2.tok _, ⟨_, by rw [sz]⟩, q1⟩
theorem ssK {K : PySem.W.Frag} {e : Expr} {t : TE} (h : PE X e (tSS X.K t)) (hK : X.K = K := by rfl) : PE X e (tSS K t) := by subst hK; exact h
theorem lsK {K : PySem.W.Frag} {e : Expr} {t : TE} (h : PE X e (tLS X.K t)) (hK : X.K = K := by rfl) : PE X e (tLS K t) := by subst hK; exact h
end
section
variable {K : PySem.W.Frag} {Γ : Gm} {O : Own} {Post : Dt → Own → Prop} {te : TE}
theorem den_strsL {B : Hp} : ∀ xs : List Str, DenL K B (xs.map Dt.str) (xs.map V.str)
  | [] => .nil
  | x :: xs => .cons (.str x) (den_strsL xs)
theorem ew_ss (h : EW K te Γ O fun d O1 => ∃ xs : List Str, View O1 d (.lst (xs.map .str)) ∧ xs.length < 64 ∧ ∀ ys, TX.SortX ys xs → Post (.lst (ys.map .str)) O1) : EW K (tSS K te) Γ O Post := fun w P σ H B S Q q =>
  h w P σ H B S _ fun d x O1 H1 B1 ⟨xs, vw, few, p1⟩ S1 => by
    have hx := S1.pi _ x List.mem_cons_self
    have S1' := S1.pins (P' := P) fun z hz => by simp [hz]
    obtain ⟨a, vs, rfl, h1, h2⟩ := vw.list S1 hx
    have e := den_strs h2
    subst e
    exact ⟨a, xs, rfl, SqL.of h1, few, fun ys p hs hp => q _ _ O1 _ _ (p1 ys hs) ((S1'.new hp).pin (.lst upd_same (den_strsL ys)))⟩
theorem ew_ls (h : EW K te Γ O fun d O1 => ∃ xs : List Str, View O1 d (.lst (xs.map .str)) ∧ xs.length < 64 ∧ Post (.int (TX.distinct xs).length) O1) : EW K (tLS K te) Γ O Post := fun w P σ H B S Q q =>
  h w P σ H B S _ fun d x O1 H1 B1 ⟨xs, vw, few, p1⟩ S1 => by
    have hx := S1.pi _ x List.mem_cons_self
    have S1' := S1.pins (P' := P) fun z hz => by simp [hz]
    obtain ⟨a, vs, rfl, h1, h2⟩ := vw.list S1 hx
    have e := den_strs h2
    subst e
    exact ⟨a, xs, rfl, SqL.of h1, few, q _ _ O1 _ _ p1 (S1'.pin (.int _))⟩
end
end DL
/-! list(zip(tuple, list, list)) -/
namespace Z3
open PySem PySem.Spec PyProof.Rows L2
section
variable {P : Program} {w : World} {A : Around} {E : Value → Shared → Prop} {s : Shared} {z TI TO T i1 i2 i3 : Addr} {fp1 fp2 fp3 : List Addr} {n1 n2 n3 i : Nat} {P1 P2 P3 : Nat → Value → Prop} {St1 St2 St3 : Nat → Heap → Prop} {f : Bool} {oT : Obj}
/-- the next tuple, the first one still held -/
theorem held_item {Q : Value → Shared → Prop} (S : ZipSep3 z TI TO i1 i2 i3 fp1 fp2 fp3) (D1 : Draws P w A i1 fp1 n1 P1 St1) (D2 : Draws P w A i2 fp2 n2 P2 St2) (D3 : Draws P w A i3 fp3 n3 P3 St3)
    (zz : IsZipHeld s.heap z TI TO T f) (tt : s.heap.get? T = some oT) (ti : IsTupOf3 s.heap TI (.ref i1) (.ref i2) (.ref i3)) (a1 : St1 i s.heap) (a2 : St2 i s.heap) (a3 : St3 i s.heap) (l1 : i < n1) (l2 : i < n2) (l3 : i < n3)
    (k : ∀ x1 x2 x3 hq u, P1 i x1 → P2 i x2 → P3 i x3 → IsZipHeld hq z TI TO T true → St1 (i + 1) hq → St2 (i + 1) hq → St3 (i + 1) hq → IsTupOf3 hq s.heap.objs.size x1 x2 x3 → (∀ c o, c ≠ z → c ≠ i1 → c ≠ i2 → c ≠ i3 → s.heap.get? c = some o → hq.get? c = some o) → Q (.ref s.heap.objs.size) { s with heap := hq, toks := u }) :
    wpAny (model P w) A (Builtin.«zip.__next__» ⟨[.ref z], []⟩) (fun r y => ∃ v, r = .done (.ret v) ∧ Q v y) E s := by
  obtain ⟨hp, g, d, tk, os⟩ := s
  show wpAny _ _ (field (.ref z) 2 >>= _) _ _ ⟨hp, g, d, tk, os⟩
  refine wpAny_bind (wpAny_field zz rfl (x := .bool false) rfl ?_)
  show wpAny _ _ (field (.ref z) 3 >>= _) _ _ ⟨hp, g, d, tk, os⟩
  refine wpAny_bind (wpAny_field zz rfl (x := .ref TI) rfl (wpAny_bind (wpAny_seqItems ti rfl ?_)))
  show wpAny _ _ (Builtin.SmallTypes.ownedTupleIsFree (.ref z) >>= _) _ _ ⟨hp, g, d, tk, os⟩
  refine wpAny_bind (wpAny_tupleHeld_zip zz tt fun h1 zz1 sb1 => ?_)
  simp only [Bool.false_eq_true, if_false]
  refine wpAny_bind ?_
  rw [← Array.forIn_toList]
  simp only [List.forIn_cons, List.forIn_nil]
  replace sb1 : Heap.SameBut z hp h1 := sb1
  refine wpAny_bind (wpAny_bind (wpAny_holding ?_))
  show wpAny _ _ (Builtin.SmallTypes.nextOf (.ref i1) >>= _) _ _ ⟨h1, g, d, tk, os⟩
  refine wpAny_bind (D1.item i _ _ _ l1 (D1.over a1 sb1 S.zf1) fun x1 h2 u1 p1 b1 sb2 => wpAny_pure (wpAny_pure ?_))
  replace sb2 : Heap.SameBut i1 h1 h2 := sb2
  refine wpAny_bind (wpAny_bind (wpAny_holding ?_))
  show wpAny _ _ (Builtin.SmallTypes.nextOf (.ref i2) >>= _) _ _ ⟨h2, g, d, u1, os⟩
  refine wpAny_bind (D2.item i _ _ _ l2 (D2.over (D2.over a2 sb1 S.zf2) sb2 S.sep1_2) fun x2 h3 u2 p2 b2 sb3 => wpAny_pure (wpAny_pure ?_))
  replace sb3 : Heap.SameBut i2 h2 h3 := sb3
  refine wpAny_bind (wpAny_bind (wpAny_holding ?_))
  show wpAny _ _ (Builtin.SmallTypes.nextOf (.ref i3) >>= _) _ _ ⟨h3, g, d, u2, os⟩
  refine wpAny_bind (D3.item i _ _ _ l3 (D3.over (D3.over (D3.over a3 sb1 S.zf3) sb2 S.sep1_3) sb3 S.sep2_3) fun x3 h4 u3 p3 b3 sb4 => wpAny_pure (wpAny_pure (wpAny_pure ?_)))
  replace sb4 : Heap.SameBut i3 h3 h4 := sb4
  show wpAny _ _ (newTuple [x1, x2, x3] >>= _) _ _ ⟨h4, g, d, u3, os⟩
  refine wpAny_bind (wpAny_newTuple (wpAny_pure ⟨_, rfl, ?_⟩))
  have size : h4.objs.size = hp.objs.size := by rw [sb4.1, sb3.1, sb2.1, sb1.1]
  have keep : ∀ c o, c ≠ z → c ≠ i1 → c ≠ i2 → c ≠ i3 → hp.get? c = some o → h4.get? c = some o := fun c o c0 c1 c2 c3 e => sb4.extBut _ _ c3 (sb3.extBut _ _ c2 (sb2.extBut _ _ c1 (sb1.extBut _ _ c0 e)))
  have zz4 : IsZipHeld h4 z TI TO T true := sb4.extBut _ _ S.zi3 (sb3.extBut _ _ S.zi2 (sb2.extBut _ _ S.zi1 zz1))
  have new : IsTupOf3 (h4.push { cls := .type "tuple", data := .seq #[x1, x2, x3] }) h4.objs.size x1 x2 x3 := Heap.get?_push_size _ rfl
  have up : ∀ c o, h4.get? c = some o → (h4.push { cls := .type "tuple", data := .seq #[x1, x2, x3] }).get? c = some o := fun c o => Heap.get?_push_of_some _
  show Q (.ref h4.objs.size) _
  rw [size] at new ⊢
  exact k x1 x2 x3 _ u3 p1 p2 p3 (up _ _ zz4) (D1.frame _ _ _ (D1.over (D1.over b1 sb3 S.sep2_1) sb4 S.sep3_1) fun b _ o => up b o) (D2.frame _ _ _ (D2.over b2 sb4 S.sep3_2) fun b _ o => up b o) (D3.frame _ _ _ b3 fun b _ o => up b o) new
    fun c o c0 c1 c2 c3 e => up c o (keep c o c0 c1 c2 c3 e)
/-- the end, by the first iterator -/
theorem held_end {Q : Fin → Shared → Prop} (S : ZipSep3 z TI TO i1 i2 i3 fp1 fp2 fp3) (D1 : Draws P w A i1 fp1 n1 P1 St1) (zz : IsZipHeld s.heap z TI TO T f) (tt : s.heap.get? T = some oT) (ti : IsTupOf3 s.heap TI (.ref i1) (.ref i2) (.ref i3)) (a1 : St1 n1 s.heap)
    (k : ∀ hq e, (∀ c o, c ≠ z → c ≠ i1 → s.heap.get? c = some o → hq.get? c = some o) → (∃ o, hq.get? e = some o ∧ o.cls = .type "StopIteration") → E (.ref e) { s with heap := hq }) :
    wpAny (model P w) A (Builtin.«zip.__next__» ⟨[.ref z], []⟩) Q E s := by
  obtain ⟨hp, g, d, tk, os⟩ := s
  show wpAny _ _ (field (.ref z) 2 >>= _) _ _ ⟨hp, g, d, tk, os⟩
  refine wpAny_bind (wpAny_field zz rfl (x := .bool false) rfl ?_)
  show wpAny _ _ (field (.ref z) 3 >>= _) _ _ ⟨hp, g, d, tk, os⟩
  refine wpAny_bind (wpAny_field zz rfl (x := .ref TI) rfl (wpAny_bind (wpAny_seqItems ti rfl ?_)))
  show wpAny _ _ (Builtin.SmallTypes.ownedTupleIsFree (.ref z) >>= _) _ _ ⟨hp, g, d, tk, os⟩
  refine wpAny_bind (wpAny_tupleHeld_zip zz tt fun h1 zz1 sb1 => ?_)
  simp only [Bool.false_eq_true, if_false]
  refine wpAny_bind ?_
  rw [← Array.forIn_toList]
  simp only [List.forIn_cons, List.forIn_nil]
  replace sb1 : Heap.SameBut z hp h1 := sb1
  refine wpAny_bind (wpAny_bind (wpAny_holding ?_))
  show wpAny _ _ (Builtin.SmallTypes.nextOf (.ref i1) >>= _) _ _ ⟨h1, g, d, tk, os⟩
  refine wpAny_bind (D1.done _ _ _ (D1.over a1 sb1 S.zf1) fun h2 e sb2 he => k h2 e (fun c o c0 c1 x => sb2 _ _ c1 (sb1.extBut _ _ c0 x)) he)
theorem next_item {Q : Option Value → Shared → Prop} (S : ZipSep3 z TI TO i1 i2 i3 fp1 fp2 fp3) (D1 : Draws P w A.in1 i1 fp1 n1 P1 St1) (D2 : Draws P w A.in1 i2 fp2 n2 P2 St2) (D3 : Draws P w A.in1 i3 fp3 n3 P3 St3)
    (zz : IsZipHeld s.heap z TI TO T f) (tt : s.heap.get? T = some oT) (ti : IsTupOf3 s.heap TI (.ref i1) (.ref i2) (.ref i3)) (a1 : St1 i s.heap) (a2 : St2 i s.heap) (a3 : St3 i s.heap) (l1 : i < n1) (l2 : i < n2) (l3 : i < n3)
    (k : ∀ x1 x2 x3 hq u, P1 i x1 → P2 i x2 → P3 i x3 → IsZipHeld hq z TI TO T true → St1 (i + 1) hq → St2 (i + 1) hq → St3 (i + 1) hq → IsTupOf3 hq s.heap.objs.size x1 x2 x3 → (∀ c o, c ≠ z → c ≠ i1 → c ≠ i2 → c ≠ i3 → s.heap.get? c = some o → hq.get? c = some o) → Q (some (.ref s.heap.objs.size)) { s with heap := hq, toks := u }) :
    wpAny (model P w) A (pyNext (.ref z)) Q E s := by
  have ty : s.TypeIs (.ref z) "zip" := ⟨_, zz, rfl⟩
  unfold pyNext
  exact wpAny_bind (wpAny_attempt (wpAny_callSpecial?_slot (name := Str.ofString "__next__") ty PySem.F.slot_zip_next (wpAny_call_entry PySem.F.slot_zip_next ty PySem.F.entry_zip_next
    (held_item S D1 D2 D3 zz tt ti a1 a2 a3 l1 l2 l3 fun x1 x2 x3 hq u b1 b2 b3 b4 b5 b6 b7 b8 b9 => wpAny_pure (k x1 x2 x3 hq u b1 b2 b3 b4 b5 b6 b7 b8 b9)) (PySem.F.args_zip_next_1 _))))
theorem next_end {Q : Option Value → Shared → Prop} (S : ZipSep3 z TI TO i1 i2 i3 fp1 fp2 fp3) (D1 : Draws P w A.in1 i1 fp1 n1 P1 St1) (zz : IsZipHeld s.heap z TI TO T f) (tt : s.heap.get? T = some oT) (ti : IsTupOf3 s.heap TI (.ref i1) (.ref i2) (.ref i3)) (a1 : St1 n1 s.heap)
    (k : ∀ hq, (∀ c o, c ≠ z → c ≠ i1 → s.heap.get? c = some o → hq.get? c = some o) → Q none { s with heap := hq }) : wpAny (model P w) A (pyNext (.ref z)) Q E s := by
  have ty : s.TypeIs (.ref z) "zip" := ⟨_, zz, rfl⟩
  unfold pyNext
  refine wpAny_bind (wpAny_attempt (wpAny_callSpecial?_slot (name := Str.ofString "__next__") ty PySem.F.slot_zip_next (wpAny_call_entry PySem.F.slot_zip_next ty PySem.F.entry_zip_next
    (held_end S D1 zz tt ti a1 fun hq e kp he => ?_) (PySem.F.args_zip_next_1 _))))
  obtain ⟨o, h1, h2⟩ := he
  exact wpAny_bind (wpAny_isInstance (T := "StopIteration") (b := true) ⟨o, h1, h2⟩ isSubtype_stop (wpAny_pure (k _ kp)))
end
theorem zip_no_len : typeLookup (.type "zip") "__len__" = pure none := by
  rw [typeLookup_type]
  rw [builtinLookup_eq_fast]
  kernel_rfl
theorem zip_no_hint : typeLookup (.type "zip") "__length_hint__" = pure none := by
  rw [typeLookup_type]
  rw [builtinLookup_eq_fast]
  kernel_rfl
/-- new tuples, one after another -/
def layT : List (List V) → (List V → Hp → Prop) → Hp → Prop
  | [], Q, H => Q [] H
  | r :: rs, Q, H => ∀ T, H T = none → layT rs (fun Ts G => Q (.ref T :: Ts) G) (upd H T (.tup r))
def rowsV (xs ys zs : List V) : List (List V) := (xs.zip (ys.zip zs)).map fun p => [p.1, p.2.1, p.2.2]
theorem rowsV_drop {xs ys zs : List V} {i : Nat} {x y z : V} (hx : xs[i]? = some x) (hy : ys[i]? = some y) (hz : zs[i]? = some z) : (rowsV xs ys zs).drop i = [x, y, z] :: (rowsV xs ys zs).drop (i + 1) := by
  have e : (rowsV xs ys zs)[i]? = some [x, y, z] := by
    unfold rowsV
    rw [List.getElem?_map, List.getElem?_zip_eq_some (z := (x, (y, z))) |>.mpr ⟨hx, List.getElem?_zip_eq_some (z := (y, z)) |>.mpr ⟨hy, hz⟩⟩]
    rfl
  obtain ⟨h, e⟩ := List.getElem?_eq_some_iff.mp e
  rw [List.drop_eq_getElem_cons h, e]
abbrev lsO (acc : Array Value) (c : Nat) : Obj := { cls := .type "list", dict := none, data := .seq acc c, slots := #[] }
/-- where the zip stands -/
def ZS (h : Heap) (z TI TO i1 i2 i3 : Addr) : Prop :=
  (IsZip h z TI TO .none ∧ IsTupOf3 h TO .none .none .none) ∨ ∃ T oT f, IsZipHeld h z TI TO T f ∧ h.get? T = some oT ∧ T ∉ [z, TI, TO, i1, i2, i3]
theorem upd_swap {H : Hp} {a b : Addr} {o u : HO} (h : a ≠ b) : upd (upd H a o) b u = upd (upd H b u) a o := by
  funext c
  unfold upd
  by_cases e1 : c = b
  · subst e1
    rw [if_pos rfl, if_neg (Ne.symm h), if_pos rfl]
  · rw [if_neg e1, if_neg e1]
theorem nin {x a b : Nat} (h1 : x ≠ a) (h2 : x ≠ b) : x ∉ [a, b] := by simp [h1, h2]
theorem sep3 {B t l1 l2 : Nat} (b1 : t < B) (b2 : l1 < B) (b3 : l2 < B) : ZipSep3 (B + 5) (B + 3) (B + 4) B (B + 1) (B + 2) [B, t] [B + 1, l1] [B + 2, l2] := by
  have n1 : ∀ a b : Nat, a < b → a ≠ b := fun a b h => Nat.ne_of_lt h
  have n2 : ∀ a b : Nat, b < a → a ≠ b := fun a b h => Nat.ne_of_gt h
  exact ⟨n1 _ _ (by omega), n1 _ _ (by omega), n1 _ _ (by omega), n2 _ _ (by omega), List.mem_cons_self, nin (n2 _ _ (by omega)) (n2 _ _ (by omega)), nin (n2 _ _ (by omega)) (n2 _ _ (by omega)),
    n2 _ _ (by omega), List.mem_cons_self, nin (n2 _ _ (by omega)) (n2 _ _ (by omega)), nin (n2 _ _ (by omega)) (n2 _ _ (by omega)),
    n2 _ _ (by omega), List.mem_cons_self, nin (n2 _ _ (by omega)) (n2 _ _ (by omega)), nin (n2 _ _ (by omega)) (n2 _ _ (by omega)),
    nin (n1 _ _ (by omega)) (n2 _ _ (by omega)), nin (n1 _ _ (by omega)) (n2 _ _ (by omega)), nin (n2 _ _ (by omega)) (n2 _ _ (by omega)), nin (n1 _ _ (by omega)) (n2 _ _ (by omega)), nin (n2 _ _ (by omega)) (n2 _ _ (by omega)), nin (n2 _ _ (by omega)) (n2 _ _ (by omega))⟩
section
variable {X : Cx} {pins : List (Addr × Obj)} {σ : L2.St} {S z TI TO i1 i2 i3 t l1 l2 : Addr} {xs ys zs : List V} {v1 v2 v3 : Array Value} {n : Nat} {A : Around} {R : Result → Shared → Prop} {QF : V → Hp → Prop}
theorem loop (calm : A.handled = none) (D : ZipSep3 z TI TO i1 i2 i3 [i1, t] [i2, l1] [i3, l2]) (t1 : t ≠ i1) (t2 : l1 ≠ i2) (t3 : l2 ≠ i3) (r1 : Vals xs v1.toList) (r2 : Vals ys v2.toList) (r3 : Vals zs v3.toList)
    (e1 : xs.length = n) (e2 : ys.length = n) (e3 : zs.length = n) (few : n ≤ 1000) (far : S ∉ [z, TI, TO, i1, i2, i3]) (S1 : S ≠ t) (S2 : S ≠ l1) (S3 : S ≠ l2)
    (fin : ∀ y G, Inv X pins σ G y → QF (.ref S) G → R (.ok (.ret .none)) y) (m : Nat) :
    ∀ (i : Nat) (s : Shared) (H : Hp) (Ts : List V) (acc : Array Value) (c : Nat), i + m = n → s.heap.get? S = some (lsO acc c) → Vals Ts acc.toList → Ts.length = i → Inv X pins σ (upd H S (.lst Ts)) s → H S = none →
      (∀ b ∈ [z, TI, TO, i1, i2, i3], FpOk X pins (upd H S (.lst Ts)) b ∧ b < s.heap.objs.size) → ZS s.heap z TI TO i1 i2 i3 → IsTupOf3 s.heap TI (.ref i1) (.ref i2) (.ref i3) →
      (s.heap.IsTupleIter i1 t i ∧ s.heap.IsTuple t v1) → (s.heap.IsListIter i2 l1 i ∧ s.heap.IsList l1 v2) → (s.heap.IsListIter i3 l2 i ∧ s.heap.IsList l2 v3) →
      layT ((rowsV xs ys zs).drop i) (fun Us G => ∀ p, G p = none → QF (.ref p) (upd G p (.lst (Ts ++ Us)))) H →
      codeAny (model X.prog X.w) A (.builtin "list.extend.loop" ⟨[.ref S, .ref z, .none], []⟩) R s := by
  have n1 : v1.size = n := by rw [← Array.length_toList, ← r1.length, e1]
  have n2 : v2.size = n := by rw [← Array.length_toList, ← r2.length, e2]
  have n3 : v3.size = n := by rw [← Array.length_toList, ← r3.length, e3]
  have hh : A.in1.in1.handled = none := calm
  have D1 := Draws.tuple (prog := X.prog) (w := X.w) (A := A.in1.in1) hh i1 t t1 v1
  have D2 := Draws.list (prog := X.prog) (w := X.w) (A := A.in1.in1) hh i2 l1 t2 v2
  have D3 := Draws.list (prog := X.prog) (w := X.w) (A := A.in1.in1) hh i3 l2 t3 v3
  have far' : S ≠ z ∧ S ≠ TI ∧ S ≠ TO ∧ S ≠ i1 ∧ S ≠ i2 ∧ S ≠ i3 := by simpa using far
  induction m with
  | zero =>
    intro i s H Ts acc c e hS rT lT I hH fp zs0 ti st1 st2 st3 q
    have ei : i = n := by omega
    have rest : (rowsV xs ys zs).drop i = [] := by
      refine List.drop_eq_nil_of_le ?_
      unfold rowsV
      rw [List.length_map, List.length_zip, List.length_zip]
      omega
    rw [rest] at q
    have q := q S hH
    rw [List.append_nil] at q
    refine codeAny_builtin PySem.F.entry_extend_loop ?_
    rw [Around.under_plainId PySem.F.plain_extend_loop _]
    show wpAny _ A.in1 (pyNext (.ref z) >>= _) _ _ s
    have fin' : ∀ hq u, (∀ c o, c ∉ [z, TI, TO, i1, i2, i3] → s.heap.get? c = some o → hq.get? c = some o) → R (.ok (.ret .none)) { s with heap := hq, toks := u } := fun hq u keep => fin _ _ (I.turnedL keep fun b hb => (fp b hb).1) q
    rcases zs0 with ⟨zz, to⟩ | ⟨T, oT, f, zz, tt, _⟩
    · refine wpAny_bind (wpAny_pyNext_zipD3_end D D1 D2 D3 zz ti to st1 st2 st3 (by omega) (by omega) (by omega) (.inl (by omega)) fun hq u keep => wpAny_pure (fin' hq u fun c o hc x => ?_))
      have hc : c ≠ z ∧ c ≠ TI ∧ c ≠ TO ∧ c ≠ i1 ∧ c ≠ i2 ∧ c ≠ i3 := by simpa using hc
      exact keep c o hc.1 hc.2.2.1 hc.2.2.2.1 hc.2.2.2.2.1 hc.2.2.2.2.2 x
    · rw [ei, ← n1] at st1
      refine wpAny_bind (next_end D D1 zz tt ti st1 fun hq keep => wpAny_pure (fin' hq s.toks fun c o hc x => ?_))
      have hc : c ≠ z ∧ c ≠ TI ∧ c ≠ TO ∧ c ≠ i1 ∧ c ≠ i2 ∧ c ≠ i3 := by simpa using hc
      exact keep c o hc.1 hc.2.2.2.1 x
  | succ m ih =>
    intro i s H Ts acc c e hS rT lT I hH fp zs0 ti st1 st2 st3 q
    have hi : i < n := by omega
    have accs : acc.size = i := by rw [← Array.length_toList, ← rT.length, lT]
    have slt : S < s.heap.objs.size := Heap.lt_size hS
    have hfree : upd H S (.lst Ts) s.heap.objs.size = none := I.hok.fresh (Nat.le_refl _)
    have hne : s.heap.objs.size ≠ S := Nat.ne_of_gt slt
    have hT : H s.heap.objs.size = none := by rw [upd_ne hne] at hfree; exact hfree
    obtain ⟨x, hx⟩ : ∃ x, xs[i]? = some x := ⟨_, List.getElem?_eq_getElem (by omega)⟩
    obtain ⟨y, hy⟩ : ∃ y, ys[i]? = some y := ⟨_, List.getElem?_eq_getElem (by omega)⟩
    obtain ⟨w, hw⟩ : ∃ w, zs[i]? = some w := ⟨_, List.getElem?_eq_getElem (by omega)⟩
    rw [rowsV_drop hx hy hw] at q
    have q := q s.heap.objs.size hT
    have go : ∀ x1 x2 x3 hq u, v1[i]? = some x1 → v2[i]? = some x2 → v3[i]? = some x3 → ZS hq z TI TO i1 i2 i3 → (hq.IsTupleIter i1 t (i + 1) ∧ hq.IsTuple t v1) → (hq.IsListIter i2 l1 (i + 1) ∧ hq.IsList l1 v2) → (hq.IsListIter i3 l2 (i + 1) ∧ hq.IsList l2 v3) →
        IsTupOf3 hq s.heap.objs.size x1 x2 x3 → (∀ c o, c ∉ [z, TO, i1, i2, i3] → s.heap.get? c = some o → hq.get? c = some o) →
        wpAny (model X.prog X.w) A.in1 (updateSeq S (·.push (.ref s.heap.objs.size)) >>= fun _ => again (.builtin "list.extend.loop" ⟨[.ref S, .ref z, .none], []⟩))
          (fun fin s' => match fin with | .done f => R (.ok f) s' | .again c' => c'.quiet = true ∧ codeAny (model X.prog X.w) A c' R s') (fun e s' => R (.error e) s') { s with heap := hq, toks := u } := by
      intro x1 x2 x3 hq u p1 p2 p3 zs1 st1' st2' st3' new keep
      have grow : s.heap.objs.size < hq.objs.size := Heap.lt_size new
      have sub : ∀ {c : Addr}, c ∈ [z, TO, i1, i2, i3] → c ∈ [z, TI, TO, i1, i2, i3] := fun m => (List.Sublist.cons₂ z (List.sublist_cons_self TI _)).subset m
      obtain ⟨w1, g1, k1⟩ := r1.get hx
      obtain ⟨w2, g2, k2⟩ := r2.get hy
      obtain ⟨w3, g3, k3⟩ := r3.get hw
      have q1 : w1 = x1 := by rw [Array.getElem?_toList, p1] at g1; exact (Option.some.inj g1).symm
      have q2 : w2 = x2 := by rw [Array.getElem?_toList, p2] at g2; exact (Option.some.inj g2).symm
      have q3 : w3 = x3 := by rw [Array.getElem?_toList, p3] at g3; exact (Option.some.inj g3).symm
      subst q1
      subst q2
      subst q3
      have ok : ObjOk X.prog X.w (upd (upd H S (.lst Ts)) s.heap.objs.size (.tup [x, y, w])) hq s.heap.objs.size (.tup [x, y, w]) :=
        ⟨show 3 ≤ sizeLine by decide, [w1, w2, w3], .cons k1 (.cons k2 (.cons k3 .nil)), ⟨_, new, rfl, _, rfl⟩⟩
      have I1 : Inv X pins σ (upd (upd H S (.lst Ts)) s.heap.objs.size (.tup [x, y, w])) { s with heap := hq, toks := u } :=
        I.turnedNew (ch := [z, TI, TO, i1, i2, i3]) (fun c o hc e => keep c o (fun m => hc (sub m)) e) (fun b hb => (fp b hb).1) (Nat.le_refl _) ok
      rw [upd_swap (Ne.symm hne)] at I1
      have hS1 : hq.get? S = some (lsO acc c) := keep S _ (fun m => far (sub m)) hS
      have hS2 : hq.get? S = some { cls := .type "list", data := .seq acc.toList.toArray c } := by rw [Array.toArray_toList]; exact hS1
      have I2 := I1.lset (t' := u) (its' := acc.toList ++ [.ref s.heap.objs.size]) (ys := Ts ++ [.ref s.heap.objs.size]) (f := (·.push (.ref s.heap.objs.size))) upd_same hS2 (by
          show acc.toList.toArray.push _ = _
          rw [Array.toArray_toList, ← Array.toList_push, Array.toArray_toList]) (rT.append (.cons (show RelV (V.ref s.heap.objs.size) (Value.ref s.heap.objs.size) from rfl) .nil)) (by
        rw [List.length_append, lT]
        exact Nat.le_trans (m := 1001) (by simp; omega) (by decide))
      rw [L2.upd_upd] at I2
      refine wpAny_bind (wpAny_updateSeq hS1 rfl (wpAny_pure ⟨plainId_quiet PySem.F.plain_extend_loop _, ?_⟩) (Nat.le_trans (m := 1001) (by omega) (by decide)) (by rw [Array.size_push]; exact Nat.le_trans (m := 1001) (by omega) (by decide)))
      have oth : ∀ b o, b ≠ S → hq.get? b = some o → (hq.update S (Obj.mapSeq (·.push (.ref s.heap.objs.size)))).get? b = some o := fun b o hb e => (Heap.get?_update_other _ _ (Ne.symm hb)).trans e
      have size2 : (hq.update S (Obj.mapSeq (·.push (.ref s.heap.objs.size)))).objs.size = hq.objs.size := by simp [Heap.update]
      obtain ⟨c', hc'⟩ : ∃ c', (hq.update S (Obj.mapSeq (·.push (.ref s.heap.objs.size)))).get? S = some (lsO (acc.push (.ref s.heap.objs.size)) c') := ⟨_, Heap.get?_update_self (Obj.mapSeq (·.push (.ref s.heap.objs.size))) hS1 rfl⟩
      refine ih (i + 1) _ (upd H s.heap.objs.size (.tup [x, y, w])) (Ts ++ [.ref s.heap.objs.size]) (acc.push (.ref s.heap.objs.size)) c' (by omega) ?_ ?_ (by rw [List.length_append, lT]; rfl) I2 ?_ (fun b hb => ?_) ?_ ?_ ?_ ?_ ?_ ?_
      · exact hc'
      · rw [Array.toList_push]
        exact rT.append (.cons (show RelV (V.ref s.heap.objs.size) (Value.ref s.heap.objs.size) from rfl) .nil)
      · rw [upd_ne (Ne.symm hne)]; exact hH
      · obtain ⟨⟨b0, b1⟩, b2⟩ := fp b hb
        have bS : b ≠ S := fun e => far (e ▸ hb)
        rw [upd_ne bS] at b0
        refine ⟨⟨?_, b1⟩, ?_⟩
        · rw [upd_ne bS, upd_ne (Nat.ne_of_lt b2)]; exact b0
        · show b < (hq.update S _).objs.size
          rw [size2]
          exact Nat.lt_trans b2 grow
      · rcases zs1 with ⟨a1, a2⟩ | ⟨T, oT, f, a1, a2, a3⟩
        · exact .inl ⟨oth _ _ (Ne.symm far'.1) a1, oth _ _ (Ne.symm far'.2.2.1) a2⟩
        · by_cases e : T = S
          · subst e
            rw [hS1] at a2
            exact .inr ⟨T, _, f, oth _ _ (Ne.symm far'.1) a1, Heap.get?_update_self (Obj.mapSeq _) hS1 rfl, a3⟩
          · exact .inr ⟨T, oT, f, oth _ _ (Ne.symm far'.1) a1, oth _ _ e a2, a3⟩
      · have TIn : TI ∉ [z, TO, i1, i2, i3] := by
          simp only [List.mem_cons, List.mem_nil_iff, or_false, not_or]
          exact ⟨D.TIz, D.TITO, D.TIi1, D.TIi2, D.TIi3⟩
        exact oth _ _ (Ne.symm far'.2.1) (keep _ _ TIn ti)
      · exact D1.frame _ _ _ st1' fun b hb o e => oth b o (fun q => by
          rcases List.mem_cons.mp hb with m | m
          · exact far'.2.2.2.1 (q ▸ m)
          · exact S1 (q ▸ List.mem_singleton.mp m)) e
      · exact D2.frame _ _ _ st2' fun b hb o e => oth b o (fun q => by
          rcases List.mem_cons.mp hb with m | m
          · exact far'.2.2.2.2.1 (q ▸ m)
          · exact S2 (q ▸ List.mem_singleton.mp m)) e
      · exact D3.frame _ _ _ st3' fun b hb o e => oth b o (fun q => by
          rcases List.mem_cons.mp hb with m | m
          · exact far'.2.2.2.2.2 (q ▸ m)
          · exact S3 (q ▸ List.mem_singleton.mp m)) e
      · have ef : (fun Us G => ∀ p, G p = none → QF (.ref p) (upd G p (.lst (Ts ++ (.ref s.heap.objs.size :: Us))))) = fun Us G => ∀ p, G p = none → QF (.ref p) (upd G p (.lst (Ts ++ [.ref s.heap.objs.size] ++ Us))) := by
          funext Us G
          rw [List.append_assoc]
          rfl
        rw [← ef]
        exact q
    refine codeAny_builtin PySem.F.entry_extend_loop ?_
    rw [Around.under_plainId PySem.F.plain_extend_loop _]
    show wpAny _ A.in1 (pyNext (.ref z) >>= _) _ _ s
    have hzs := zs0
    rcases zs0 with ⟨zz, to⟩ | ⟨T, oT, f, zz, tt, out⟩
    · refine wpAny_bind (wpAny_pyNext_zipD3_item D D1 D2 D3 zz ti to st1 st2 st3 (by omega) (by omega) (by omega) fun x1 x2 x3 hq u p1 p2 p3 b1 b2 b3 b4 b5 b6 b7 keep => ?_)
      refine go x1 x2 x3 hq u p1 p2 p3 (.inr ⟨_, _, false, b1, b6, fun m => ?_⟩) b3 b4 b5 b6 fun c o hc e => ?_
      · exact absurd (fp _ m).2 (Nat.lt_irrefl _)
      · have hc : c ≠ z ∧ c ≠ TO ∧ c ≠ i1 ∧ c ≠ i2 ∧ c ≠ i3 := by simpa using hc
        exact keep c o hc.1 hc.2.1 hc.2.2.1 hc.2.2.2.1 hc.2.2.2.2 e
    · refine wpAny_bind (next_item D D1 D2 D3 zz tt ti st1 st2 st3 (by omega) (by omega) (by omega) fun x1 x2 x3 hq u p1 p2 p3 b1 b2 b3 b4 b5 keep => ?_)
      have out' : T ≠ z ∧ T ≠ TI ∧ T ≠ TO ∧ T ≠ i1 ∧ T ≠ i2 ∧ T ≠ i3 := by simpa using out
      refine go x1 x2 x3 hq u p1 p2 p3 (.inr ⟨T, oT, true, b1, keep _ _ out'.1 out'.2.2.2.1 out'.2.2.2.2.1 out'.2.2.2.2.2 tt, out⟩) b2 b3 b4 b5 fun c o hc e => ?_
      have hc : c ≠ z ∧ c ≠ TO ∧ c ≠ i1 ∧ c ≠ i2 ∧ c ≠ i3 := by simpa using hc
      exact keep c o hc.1 hc.2.2.1 hc.2.2.2.1 hc.2.2.2.2 e
set_option maxHeartbeats 4000000 in
theorem call_list_zip {s : Shared} {H : Hp} {Q : Value → Shared → Prop} {E : Value → Shared → Prop} (calm : A.handled = none) (I : Inv X pins σ H s) (q1 : SqT X.K H t xs) (q2 : SqL X.K H l1 ys) (q3 : SqL X.K H l2 zs) (e1 : xs.length = n) (e2 : ys.length = n) (e3 : zs.length = n) (few : n ≤ 1000)
    (q : layT (rowsV xs ys zs) (fun Us G => ∀ p, G p = none → QF (.ref p) (upd G p (.lst Us))) H) (fin : ∀ y G p, Inv X pins σ G y → QF (.ref p) G → Q (.ref p) y) :
    wpAny (model X.prog X.w) A (call (.type "zip") [.ref t, .ref l1, .ref l2]) (fun v y => wpAny (model X.prog X.w) A (call (.type "list") [v]) Q E y) E s := by
  obtain ⟨v1, r1, p1, _⟩ := I.tuple q1
  obtain ⟨v2, r2, p2, _⟩ := I.list q2
  obtain ⟨v3, r3, p3, _⟩ := I.list q3
  have p1 : s.heap.IsTuple t v1.toArray := p1
  have b1 : t < s.heap.objs.size := by obtain ⟨_, e, _⟩ := p1; exact Heap.lt_size e
  have b2 := p2.lt
  have b3 := p3.lt
  refine zip_begins3 (begins_tuple t v1.toArray) (begins_list l1 v2.toArray) (begins_list l2 v3.toArray) p1 p2.isList p3.isList fun hq zz ti to g1 g2 g3 size keep => ?_
  have I1 : Inv X pins σ H { s with heap := hq } := I.kept (t' := s.toks) keep
  have D := sep3 b1 b2 b3
  have nS : ∀ b, b < s.heap.objs.size + 6 → b ≠ hq.objs.size := fun b h => by rw [size]; exact Nat.ne_of_lt h
  have zS : hq.objs.size ≠ s.heap.objs.size + 5 := by rw [size]; exact Nat.ne_of_gt (Nat.lt_succ_self _)
  -- the new list, as list() works at it
  have hs : (hq.push (lsO #[] 0)).get? hq.objs.size = some (lsO #[] 0) := Heap.get?_push_size _ rfl
  have up : ∀ (h : Heap) (f : Obj → Obj), (∀ b o, hq.get? b = some o → h.get? b = some o) → ∀ b o, hq.get? b = some o → (h.update hq.objs.size f).get? b = some o := fun h f k b o e =>
    (Heap.get?_update_other _ _ (Ne.symm (Nat.ne_of_lt (Heap.lt_size e)))).trans (k b o e)
  have k1 : ∀ b o, hq.get? b = some o → (hq.push (lsO #[] 0)).get? b = some o := fun b o => Heap.get?_push_of_some _
  have hs2 := Heap.get?_update_self (Obj.mapSeq (fun _ => (#[] : Array Value))) hs rfl
  have k2 := up _ (Obj.mapSeq (fun _ => (#[] : Array Value))) k1
  have hs3 := Heap.get?_update_self (Obj.mapSeq (·.push Value.none)) hs2 rfl
  have k3 := up _ (Obj.mapSeq (·.push Value.none)) k2
  have hs4 := Heap.get?_update_self (Obj.mapSeq (·.pop)) hs3 rfl
  have k4 := up _ (Obj.mapSeq (·.pop)) k3
  refine callType_codes (Q₁ := fun v y => v = .ref hq.objs.size ∧ y = { s with heap := hq.push (lsO #[] 0) }) PySem.F.called_list (PySem.F.typeCall_list_1 _) PySem.F.entry_list_init
    (code_list_new (s := { s with heap := hq }) _ ⟨rfl, rfl⟩) fun v y hv => ?_
  obtain ⟨rfl, rfl⟩ := hv
  refine ⟨⟨_, hs, rfl⟩, PySem.F.args_list_init_2 _ _, ?_⟩
  show wpAny _ _ (do
      let was ← Builtin.List.listItems (.ref hq.objs.size)
      Builtin.List.listUpdate (.ref hq.objs.size) (fun _ => #[])
      letGo was.toList.reverse
      Builtin.List.listExtendWith (.ref hq.objs.size) (.ref (s.heap.objs.size + 5)) .none) _ _ _
  refine wpAny_bind ?_
  unfold Builtin.List.listItems
  refine wpAny_bind (wpAny_seqItems hs rfl (wpAny_pure ?_))
  show wpAny _ _ (updateSeq hq.objs.size (fun _ => #[]) >>= fun _ => letGo (#[] : Array Value).toList.reverse >>= fun _ => Builtin.List.listExtendWith (.ref hq.objs.size) (.ref (s.heap.objs.size + 5)) .none) _ _ _
  refine wpAny_bind (wpAny_updateSeq (hz := Nat.zero_le _) (_hz' := Nat.zero_le _) hs rfl (wpAny_bind (wpAny_letGo ?_)))
  unfold Builtin.List.listExtendWith
  have ty : ∀ {h : Heap}, (∀ b o, hq.get? b = some o → h.get? b = some o) → Shared.TypeIs { s with heap := h } (.ref (s.heap.objs.size + 5)) "zip" := fun k => ⟨_, k _ _ zz, rfl⟩
  refine wpAny_bind (wpAny_typeOf (ty k2) ?_)
  have d1 : Builtin.List.listSameRef (.ref hq.objs.size) (.ref (s.heap.objs.size + 5)) = false := by simp [Builtin.List.listSameRef, zS]
  have d2 : (Value.type "zip" == Value.type "list") = false := by decide
  have d3 : (Value.type "zip" == Value.type "tuple") = false := by decide
  simp only [d1, d2, d3, Bool.or_false, Bool.false_eq_true, if_false]
  refine wpAny_bind (wpAny_pyIter_zip (k2 _ _ zz) (wpAny_bind (wpAny_holding ?_)))
  unfold Builtin.List.listLengthHint
  refine wpAny_bind (wpAny_specialOf (ty k2) zip_no_len ?_)
  show wpAny _ _ (specialOf (Value.ref (s.heap.objs.size + 5)) (Str.ofString "__length_hint__") >>= _) _ _ _
  refine wpAny_bind (wpAny_specialOf (ty k2) zip_no_hint (wpAny_pure ?_))
  show wpAny _ _ (rule "list.extend.makes-room" >>= fun _ => Builtin.List.listTouch (.ref hq.objs.size) >>= fun _ =>
    again (.builtin "list.extend.loop" ⟨[.ref hq.objs.size, .ref (s.heap.objs.size + 5), .none], []⟩)) _ _ _
  refine wpAny_bind (wpAny_rule (wpAny_bind ?_))
  show wpAny _ _ (updateSeq hq.objs.size (·.push .none) >>= fun _ => updateSeq hq.objs.size (·.pop)) _ _ _
  refine wpAny_bind (wpAny_updateSeq (hz := Nat.zero_le _) (_hz' := Nat.le_add_left 1 _) hs2 rfl (wpAny_updateSeq (hz := (by decide : 1 ≤ sizeLine)) (_hz' := Nat.zero_le _) hs3 rfl (wpAny_pure ⟨plainId_quiet PySem.F.plain_extend_loop _, ?_⟩)))
  have hH : H hq.objs.size = none := I1.hok.fresh (Nat.le_refl _)
  have J : Inv X pins σ (upd H hq.objs.size (.lst [])) { s with heap := _, toks := s.toks } := I1.laid (t' := s.toks) k4 (Nat.le_refl _) ⟨by decide, [], _, .nil, hs4⟩
  refine loop (X := X) (QF := QF) (A := A.in1) calm D ?_ ?_ ?_ r1 r2 r3 e1 e2 e3 few ?_ ?_ ?_ ?_ (fun y G JJ qq => ⟨rfl, fin y G _ JJ qq⟩) n 0 _ H [] #[] _ (Nat.zero_add _) hs4 .nil rfl J hH ?_ ?_ (k4 _ _ ti) ⟨⟨_, k4 _ _ g1, rfl, rfl⟩, p1.at fun o e => k4 _ _ (keep _ _ e)⟩
    ⟨⟨_, k4 _ _ g2, rfl, rfl⟩, p2.isList.at fun o e => k4 _ _ (keep _ _ e)⟩ ⟨⟨_, k4 _ _ g3, rfl, rfl⟩, p3.isList.at fun o e => k4 _ _ (keep _ _ e)⟩ q
  · exact Nat.ne_of_lt b1
  · exact Nat.ne_of_lt (Nat.lt_succ_of_lt b2)
  · exact Nat.ne_of_lt (Nat.lt_succ_of_lt (Nat.lt_succ_of_lt b3))
  · intro m
    rw [size] at m
    simp at m
  · exact Ne.symm (nS t (Nat.lt_of_lt_of_le b1 (Nat.le_add_right _ _)))
  · exact Ne.symm (nS l1 (Nat.lt_of_lt_of_le b2 (Nat.le_add_right _ _)))
  · exact Ne.symm (nS l2 (Nat.lt_of_lt_of_le b3 (Nat.le_add_right _ _)))
  · intro b hb
    have hb : s.heap.objs.size ≤ b ∧ b < s.heap.objs.size + 6 := by
      have hb : b = s.heap.objs.size + 5 ∨ b = s.heap.objs.size + 3 ∨ b = s.heap.objs.size + 4 ∨ b = s.heap.objs.size ∨ b = s.heap.objs.size + 1 ∨ b = s.heap.objs.size + 2 := by simpa using hb
      rcases hb with e | e | e | e | e | e <;> (rw [e]; exact ⟨by first | exact Nat.le_add_right _ _ | exact Nat.le_refl _, by first | exact Nat.add_lt_add_left (by decide) _ | exact Nat.lt_add_of_pos_right (by decide)⟩)
    have nb := nS b hb.2
    refine ⟨I.fpOk hb.1 ?_, ?_⟩
    · rw [upd_ne nb]
      exact I.hok.fresh hb.1
    · have e : ((((hq.push (lsO #[] 0)).update hq.objs.size (Obj.mapSeq (fun _ => (#[] : Array Value)))).update hq.objs.size (Obj.mapSeq (·.push Value.none))).update hq.objs.size (Obj.mapSeq (·.pop))).objs.size = hq.objs.size + 1 := by
        simp [Heap.update, Heap.size_push]
      show b < Array.size _
      rw [e, size]
      exact Nat.lt_succ_of_lt hb.2
  · exact .inl ⟨k4 _ _ zz, k4 _ _ to⟩
end
end Z3
namespace DL
open PySem PySem.Spec PyProof.Rows L2
/-- list(zip(a, b, c)), a a tuple, b and c lists, of one length -/
def tLZ (K : PySem.W.Frag) (ta : TA) : TE := fun σ H Q => ta σ H fun vs H1 => ∃ (t l m : Addr) (xs ys zs : List V), vs = [.ref t, .ref l, .ref m] ∧ SqT K H1 t xs ∧ SqL K H1 l ys ∧ SqL K H1 m zs ∧ ys.length = xs.length ∧ zs.length = xs.length ∧ xs.length ≤ 1000 ∧
  Z3.layT (Z3.rowsV xs ys zs) (fun Us G => ∀ p, G p = none → Q (.ref p) (upd G p (.lst Us))) H1
theorem pe_lz {X : Cx} {e1 e2 e3 : Expr} {ta : TA} {p p2 q pos : Pos} (hc : X.calm = true) (hg : Gl X "list") (hm : X.mg "list" = none) (hg2 : Gl X "zip") (hm2 : X.mg "zip" = none) (ha : PA X [e1, e2, e3] ta)
    (hs : starEach [e1, e2, e3] X.env = (false, eval e1 X.env) :: starEach [e2, e3] X.env := by rfl) (hpl : (backTo q (starEach [e2, e3] X.env)).any (·.1) = false := by rfl) :
    PE X (.Call (.Name "list" p) [.Call (.Name "zip" p2) [e1, e2, e3] [] q] [] pos) (tLZ X.K ta) := by
  refine ⟨fun pins s σ H Q I h => ?_⟩
  refine Call_ (ld_blt I hg hm boot_list ?_)
  refine PyProof.Rows.callWith_type1 (PyProof.Rows.args_cons ?_ rfl) rfl rfl
  refine Call_ (ld_blt I hg2 hm2 PyProof.Rows.boot_zip ?_)
  refine PyProof.Rows.callWith_type1 (thn (ha.run q pins s σ H _ I h) fun us s1 ⟨vs, H1, I1, r1, q1⟩ => ?_) hs hpl
  obtain ⟨t, l, m, xs, ys, zs, rfl, h1, h2, h3, n2, n3, few, q1⟩ := q1
  cases r1 with
  | cons a1 r1 =>
    cases r1 with
    | cons a2 r1 =>
      cases r1 with
      | cons a3 r1 =>
        cases r1
        cases a1
        cases a2
        cases a3
        refine thn (Z3.call_list_zip (QF := Q) (Q := EP X pins σ Q) (I1.ok.hd hc) I1 h1 h2 h3 rfl n2 n3 few q1 fun y G p J qq => ⟨.ref p, G, J, rfl, qq⟩) fun v y hv => PyProof.Rows.args_nil hv
theorem lzK {X : Cx} {K : PySem.W.Frag} {e : Expr} {t : TA} (h : PE X e (tLZ X.K t)) (hK : X.K = K := by rfl) : PE X e (tLZ K t) := by subst hK; exact h
end DL
/-! list(zip) of three as data; owned lists within an owned list; is True; what a dict holds after a put -/
namespace DL
open PySem PySem.Spec PyProof.Rows L2
section
variable {K : PySem.W.Frag} {w : En} {Γ : Gm} {O : Own} {P : List (Dt × V)} {σ : L2.St} {H B : Hp}
def rowsD (xs ys zs : List Dt) : List Dt := (xs.zip (ys.zip zs)).map fun p => .tup [p.1, p.2.1, p.2.2]
theorem lay_den {Q : List V → Hp → Prop} : ∀ {xs ys zs : List Dt} {vx vy vz : List V} {H B : Hp}, DenL K B xs vx → DenL K B ys vy → DenL K B zs vz → Sat K w Γ O P σ H B →
    (∀ Us G B', Sat K w Γ O P σ G B' → Same B B' → DenL K B' (rowsD xs ys zs) Us → Q Us G) → Z3.layT (Z3.rowsV vx vy vz) Q H
  | [], _, _, vx, _, _, H, B, h1, _, _, S, k => by
    cases h1
    exact k [] H B S (Same.refl _) .nil
  | _ :: _, [], _, _, vy, _, H, B, h1, h2, _, S, k => by
    cases h1
    cases h2
    exact k [] H B S (Same.refl _) .nil
  | _ :: _, _ :: _, [], _, _, vz, H, B, h1, h2, h3, S, k => by
    cases h1
    cases h2
    cases h3
    exact k [] H B S (Same.refl _) .nil
  | x :: xs, y :: ys, z :: zs, _, _, _, H, B, h1, h2, h3, S, k => by
    cases h1 with
    | @cons _ a _ as a1 b1 =>
      cases h2 with
      | @cons _ b _ bs a2 b2 =>
        cases h3 with
        | @cons _ c _ cs a3 b3 =>
          intro T hT
          have e := same_upd (o := .tup [a, b, c]) (S.bfree hT)
          refine lay_den (b1.mono e) (b2.mono e) (b3.mono e) (S.new hT) fun Us G B' S' e' d => k _ _ _ S' (fun p o q => e' _ _ (e _ _ q)) ?_
          exact .cons (.tup (SqT.of (e' _ _ upd_same)) (.cons ((a1.mono e).mono e') (.cons ((a2.mono e).mono e') (.cons ((a3.mono e).mono e') .nil)))) d
theorem ew_lz {Post : Dt → Own → Prop} {ta : TA} (h : AW K ta Γ O fun ds O1 => ∃ xs ys zs, ds = [.tup xs, .lst ys, .lst zs] ∧ ys.length = xs.length ∧ zs.length = xs.length ∧ xs.length ≤ 1000 ∧ Post (.lst (rowsD xs ys zs)) O1) : EW K (tLZ K ta) Γ O Post := fun w P σ H B S Q q =>
  h w P σ H B S _ fun ds vs O1 H1 B1 ⟨xs, ys, zs, e, n2, n3, few, p⟩ hd S1 => by
    subst e
    cases hd with
    | cons h1 hd =>
      cases hd with
      | cons h2 hd =>
        cases hd with
        | cons h3 hd =>
          cases hd
          cases h1 with
          | tup a1 b1 =>
            cases h2 with
            | lst a2 b2 =>
              cases h3 with
              | lst a3 b3 =>
                refine ⟨_, _, _, _, _, _, rfl, sqT_mono S1.bh a1, SqL.of (S1.bh _ _ a2), SqL.of (S1.bh _ _ a3), by rw [← b2.length, ← b1.length]; exact n2, by rw [← b3.length, ← b1.length]; exact n3, by rw [← b1.length]; exact few, ?_⟩
                refine lay_den b1 b2 b3 S1 fun Us G B' S' e d p' hp => ?_
                exact q _ _ O1 _ _ p ((S'.new hp).pin (.lst upd_same (d.mono (same_upd (S'.bfree hp)))))
/-- a family of owned lists becomes data -/
def fam (ps : List (Addr × List Dt)) : Own := ps.map fun p => (p.1, .lst p.2)
theorem nest_go : ∀ {ps : List (Addr × List Dt)} {H B : Hp}, Sat K w Γ (fam ps ++ O) P σ H B → ∃ B', Sat K w Γ O P σ H B' ∧ Same B B' ∧ DenL K B' (ps.map fun p => .lst p.2) (ps.map fun p => .ref p.1)
  | [], H, B, S => ⟨B, S, Same.refl _, .nil⟩
  | p :: ps, H, B, S => by
    have hb : B p.1 = none := (S.ow p.1 _ List.mem_cons_self).1
    obtain ⟨vs, S1, d1⟩ := Sat.freeze (p := p.1) (ds := p.2) S
    obtain ⟨B', S2, e, d2⟩ := nest_go S1
    exact ⟨B', S2, fun a o q => e _ _ (same_upd hb _ _ q), .cons (d1.mono e) d2⟩
theorem den_raws {ps : List (Addr × List Dt)} {vs : List V} (h : DenL K B (ps.map fun p => .raw (.ref p.1)) vs) : vs = ps.map fun p => .ref p.1 := by
  induction ps generalizing vs with
  | nil => cases h; rfl
  | cons p ps ih =>
    cases h with
    | cons h1 h2 =>
      cases h1
      rw [ih h2]
      rfl
theorem ew_nest {Post : Dt → Own → Prop} {t : TE} (h : EW K t Γ O fun d O1 => ∃ (p : Addr) (ps : List (Addr × List Dt)) (O2 : Own), d = .raw (.ref p) ∧ O1.Perm (fam ps ++ (p, .lst (ps.map fun p => .raw (.ref p.1))) :: O2) ∧ Post (.lst (ps.map fun p => .lst p.2)) O2) : EW K t Γ O Post := fun w P σ H B S Q q =>
  h w P σ H B S Q fun d v O1 H1 B1 ⟨p, ps, O2, e, hp, p1⟩ S1 => by
    subst e
    have hv : v = .ref p := by
      have := S1.pi (.raw (.ref p)) v (by simp)
      cases this
      rfl
    subst hv
    obtain ⟨B2, S2, e2, d2⟩ := nest_go (S1.perm hp)
    obtain ⟨g1, g2, vs, g3, g4⟩ := S2.ow p _ List.mem_cons_self
    have ev := den_raws g4
    subst ev
    have S3 : Sat K w Γ ((p, .lst (ps.map fun p => .lst p.2)) :: O2) ((.raw (.ref p), .ref p) :: P) σ H1 B2 := ⟨S2.b0, S2.bh, S2.kh, S2.fr, S2.len, S2.sl, fun q c hq => by
      rcases List.mem_cons.mp hq with e | hq
      · cases e
        exact ⟨g1, g2, _, g3, d2⟩
      · exact S2.ow q c (List.mem_cons_of_mem _ hq), S2.nd, S2.pi⟩
    obtain ⟨us, S4, d4⟩ := S3.freeze
    exact q _ _ O2 _ _ p1 ((S4.pins fun z hz => by simp [hz]).pin d4)
theorem rw_isB {Post : Dt → Own → Prop} {a b : Bool} (k : Post (.bl (decide (a = b))) O) : RW K rIsB (.bl a) (.bl b) O Post := fun w Γ P σ H B x y S hx hy Q q => by
  cases hx
  cases hy
  exact ⟨a, b, rfl, rfl, q _ _ O H B k (S.pin (.bl _))⟩
theorem rw_notB {Post : Dt → Own → Prop} {a b : Bool} (k : Post (.bl (!decide (a = b))) O) : RW K rNotB (.bl a) (.bl b) O Post := fun w Γ P σ H B x y S hx hy Q q => by
  cases hx
  cases hy
  exact ⟨a, b, rfl, rfl, q _ _ O H B k (S.pin (.bl _))⟩
end
theorem getK_put {kvs : KD} {k j : Key} {v : Dt} : getK (putKD kvs k v) j = if j = k then some v else getK kvs j := by
  have here : ∀ kvs : KD, (kvs.any fun kv => decide (kv.1 = k)) = true → getK (kvs.map fun kv => if kv.1 = k then (kv.1, v) else kv) j = if j = k then some v else getK kvs j := by
    intro kvs
    induction kvs with
    | nil => intro h; cases h
    | cons p r ih =>
      intro h
      by_cases e : p.1 = k
      · by_cases ej : j = k
        · simp [getK, e, ej]
        · have e2 : ¬ k = j := fun z => ej z.symm
          have e3 : ¬ p.1 = j := fun z => e2 (e.symm.trans z)
          have rest : ∀ r : KD, ((r.map fun kv => if kv.1 = k then (kv.1, v) else kv).find? fun kv => decide (kv.1 = j)).map (·.2) = (r.find? fun kv => decide (kv.1 = j)).map (·.2) := by
            intro r
            induction r with
            | nil => rfl
            | cons q r ih =>
              rw [List.map_cons, List.find?_cons, List.find?_cons]
              by_cases eq : q.1 = k
              · have : ¬ q.1 = j := fun z => e2 (eq.symm.trans z)
                simp only [eq, if_true, decide_eq_false e2]
                exact ih
              · rw [if_neg eq]
                by_cases ek : q.1 = j
                · simp [ek]
                · simp only [decide_eq_false ek]
                  exact ih
          rw [if_neg ej]
          unfold getK
          rw [List.map_cons, List.find?_cons, List.find?_cons, if_pos e]
          simp only [decide_eq_false e3]
          exact rest r
      · have h' : (r.any fun kv => decide (kv.1 = k)) = true := by simpa [e] using h
        have := ih h'
        unfold getK at this ⊢
        rw [List.map_cons, List.find?_cons, List.find?_cons, if_neg e]
        by_cases ek : p.1 = j
        · have ej : ¬ j = k := fun z => e (ek.trans z)
          simp [ek, ej]
        · simp only [decide_eq_false ek]
          exact this
  have no : ∀ kvs : KD, (kvs.any fun kv => decide (kv.1 = k)) = false → getK (kvs ++ [(k, v)]) j = if j = k then some v else getK kvs j := by
    intro kvs
    induction kvs with
    | nil =>
      intro _
      by_cases ej : j = k
      · simp [getK, ej]
      · have : ¬ k = j := fun z => ej z.symm
        simp [getK, ej, this]
    | cons p r ih =>
      intro h
      have h1 : ¬ p.1 = k := by
        intro e
        simp [e] at h
      have h2 : (r.any fun kv => decide (kv.1 = k)) = false := by simpa [h1] using h
      have := ih h2
      unfold getK at this ⊢
      rw [List.cons_append, List.find?_cons, List.find?_cons]
      by_cases ek : p.1 = j
      · have ej : ¬ j = k := fun z => h1 (ek.trans z)
        simp [ek, ej]
      · simp only [decide_eq_false ek]
        exact this
  unfold putKD
  split
  · rename_i h
    exact here kvs h
  · rename_i h
    exact no kvs (Bool.eq_false_iff.mpr h)
theorem put_len (kvs : KD) (k : Key) (v : Dt) : (putKD kvs k v).length ≤ kvs.length + 1 := by
  unfold putKD
  split
  · rw [List.length_map]; omega
  · rw [List.length_append]; exact Nat.le_refl _
end DL
namespace DL
open PySem PySem.Spec PyProof.Rows L2
theorem kbn_of {K : PySem.W.Frag} {x qual : Str} {st : Stmt} {f : Addr} {fd : FuncData} {ps ks : List Str} {n : Nat} (F : Fun K x qual st f fd)
    (h : ∀ (kV doc pm : Value) (an : Option Addr) (cdv ct : Value) (us ws : List Value), us.length = n → ws.length = ks.length → bindArgs (PySem.W.fnOf x qual (defArgs st) (defBody st) (defScope st) .none kV doc pm an cdv ct) ⟨us, ks.zip ws⟩ = pure (ps.zip (us ++ ws))) :
    KBn K fd ps n ks (fun us ws => us ++ ws) (fun vs zs => vs ++ zs) := by
  obtain ⟨oc, od, kV, doc, pm, an, cdv, ct, osl, rfl, lk, hcd⟩ := F.ex
  exact ⟨fun s us ws _ h1 h2 => .of_eq (h kV doc pm an cdv ct us ws h1 h2), fun r1 r2 => r1.append r2⟩
def topS (i : Nat) : Stmt := PySem.Challenge.pw_spokenline_k21_whole_what_is_heard.main.body.getD i (.Pass ⟨0, 0, 0, 0⟩)
abbrev s_is_integer : Stmt := topS 12
theorem sc_is_integer : FnScope ["value", "low", "high"] ["value", "low", "high"] (defScope s_is_integer) := ⟨rfl, rfl, rfl, by decide +kernel, rfl, by decide +kernel, by decide +kernel⟩
abbrev s_is_topic : Stmt := topS 13
theorem sc_is_topic : FnScope ["value", "sign"] ["value"] (defScope s_is_topic) := ⟨rfl, rfl, rfl, by decide +kernel, rfl, by decide +kernel, by decide +kernel⟩
abbrev s_is_announcement : Stmt := topS 14
theorem sc_is_announcement : FnScope ["value", "most"] ["value", "most"] (defScope s_is_announcement) := ⟨rfl, rfl, rfl, by decide +kernel, rfl, by decide +kernel, by decide +kernel⟩
abbrev s_is_log : Stmt := topS 15
theorem sc_is_log : FnScope ["value", "one", "other"] ["value"] (defScope s_is_log) := ⟨rfl, rfl, rfl, by decide +kernel, rfl, by decide +kernel, by decide +kernel⟩
abbrev s_require_log : Stmt := topS 16
theorem sc_require_log : FnScope ["value"] ["value"] (defScope s_require_log) := ⟨rfl, rfl, rfl, by decide +kernel, rfl, by decide +kernel, by decide +kernel⟩
abbrev s_require_rule : Stmt := topS 17
theorem sc_require_rule : FnScope ["value"] ["value"] (defScope s_require_rule) := ⟨rfl, rfl, rfl, by decide +kernel, rfl, by decide +kernel, by decide +kernel⟩
abbrev s_is_heard : Stmt := topS 19
theorem sc_is_heard : FnScope ["value", "one", "other"] ["value"] (defScope s_is_heard) := ⟨rfl, rfl, rfl, by decide +kernel, rfl, by decide +kernel, by decide +kernel⟩
abbrev s_require_heard : Stmt := topS 20
theorem sc_require_heard : FnScope ["value"] ["value"] (defScope s_require_heard) := ⟨rfl, rfl, rfl, by decide +kernel, rfl, by decide +kernel, by decide +kernel⟩
abbrev s_lower_bounds : Stmt := topS 21
theorem sc_lower_bounds : FnScope ["heard", "rule", "found", "start", "end", "begun", "begin", "topic", "length"] ["heard", "rule"] (defScope s_lower_bounds) := ⟨rfl, rfl, rfl, by decide +kernel, rfl, by decide +kernel, by decide +kernel⟩
abbrev s_known_for : Stmt := topS 22
theorem sc_known_for : FnScope ["log", "heard", "found", "bounds", "index", "time", "topic", "length", "good", "row", "at"] ["log", "heard"] (defScope s_known_for) := ⟨rfl, rfl, rfl, by decide +kernel, rfl, by decide +kernel, by decide +kernel⟩
abbrev s_fewest_added : Stmt := topS 23
theorem sc_fewest_added : FnScope ["log", "heard", "known", "total", "last", "place", "rows", "begin", "topic", "length", "bound", "indices", "one"] ["log", "heard"] (defScope s_fewest_added) := ⟨rfl, rfl, rfl, by decide +kernel, rfl, by decide +kernel, by decide +kernel⟩
abbrev s_received : Stmt := topS 26
theorem sc_received : FnScope ["line", "log", "index", "rule", "same", "renewed", "pair"] ["line", "log", "index", "rule"] (defScope s_received) := ⟨rfl, rfl, rfl, by decide +kernel, rfl, by decide +kernel, by decide +kernel⟩
abbrev s_played : Stmt := topS 27
theorem sc_played : FnScope ["log", "rule", "last_begin", "last_time", "line", "done", "found", "free", "now"] ["log", "rule", "last_begin", "last_time"] (defScope s_played) := ⟨rfl, rfl, rfl, by decide +kernel, rfl, by decide +kernel, by decide +kernel⟩
abbrev s_triples : Stmt := topS 28
theorem sc_triples : FnScope ["log", "rule", "begin", "first", "index"] ["log", "rule"] (defScope s_triples) := ⟨rfl, rfl, rfl, by decide +kernel, rfl, by decide +kernel, by decide +kernel⟩
abbrev s_speech : Stmt := topS 29
theorem sc_speech : FnScope ["log", "rule", "begin", "first", "index"] ["log", "rule"] (defScope s_speech) := ⟨rfl, rfl, rfl, by decide +kernel, rfl, by decide +kernel, by decide +kernel⟩
abbrev s_rules_for : Stmt := topS 31
theorem sc_rules_for : FnScope ["log", "heard", "rule"] ["log", "heard"] (defScope s_rules_for) := ⟨rfl, rfl, rfl, by decide +kernel, rfl, by decide +kernel, by decide +kernel⟩
abbrev s__law_source : Stmt := topS 33
theorem sc__law_source : FnScope ["script", "k", "cell", "primes", "seed"] ["script", "k"] (defScope s__law_source) := ⟨rfl, rfl, rfl, by decide +kernel, rfl, by decide +kernel, by decide +kernel⟩
abbrev s__law_pick : Stmt := topS 34
theorem sc__law_pick : FnScope ["source", "size", "drawn"] ["source", "size"] (defScope s__law_pick) := ⟨rfl, rfl, rfl, by decide +kernel, rfl, by decide +kernel, by decide +kernel⟩
abbrev s__law_log : Stmt := topS 35
theorem sc__law_log : FnScope ["source", "most", "names", "time", "long", "found", "wide", "turn", "length"] ["source", "most"] (defScope s__law_log) := ⟨rfl, rfl, rfl, by decide +kernel, rfl, by decide +kernel, by decide +kernel⟩
abbrev s__law_rules : Stmt := topS 36
theorem sc__law_rules : FnScope [] [] (defScope s__law_rules) := ⟨rfl, rfl, rfl, by decide +kernel, rfl, by decide +kernel, by decide +kernel⟩
abbrev s_law : Stmt := topS 37
theorem sc_law : FnScope ["script", "k", "source", "log", "by", "said", "begin", "topic", "length", "row"] ["script"] (defScope s_law) := ⟨rfl, rfl, rfl, by decide +kernel, rfl, by decide +kernel, by decide +kernel⟩
structure Ad where
  a_is_integer : Addr
  d_is_integer : FuncData
  a_is_topic : Addr
  d_is_topic : FuncData
  a_is_announcement : Addr
  d_is_announcement : FuncData
  a_is_log : Addr
  d_is_log : FuncData
  a_require_log : Addr
  d_require_log : FuncData
  a_require_rule : Addr
  d_require_rule : FuncData
  a_is_heard : Addr
  d_is_heard : FuncData
  a_require_heard : Addr
  d_require_heard : FuncData
  a_lower_bounds : Addr
  d_lower_bounds : FuncData
  a_known_for : Addr
  d_known_for : FuncData
  a_fewest_added : Addr
  d_fewest_added : FuncData
  a_received : Addr
  d_received : FuncData
  a_played : Addr
  d_played : FuncData
  a_triples : Addr
  d_triples : FuncData
  a_speech : Addr
  d_speech : FuncData
  a_rules_for : Addr
  d_rules_for : FuncData
  a__law_source : Addr
  d__law_source : FuncData
  a__law_pick : Addr
  d__law_pick : FuncData
  a__law_log : Addr
  d__law_log : FuncData
  a__law_rules : Addr
  d__law_rules : FuncData
  a_law : Addr
  d_law : FuncData
  t_LETTERS : Tok
  a_RULES : Addr
  t_MAX_LOG : Tok
  t_MAX_TIME : Tok
  t_MAX_LENGTH : Tok
  t_MAX_NAME : Tok
  t_FAR : Tok
structure Txt (K : PySem.W.Frag) (mg : Str → Option Value) (A : Ad) : Prop where
  F_is_integer : Fun K "is_integer" "is_integer" s_is_integer A.a_is_integer A.d_is_integer
  g_is_integer : mg "is_integer" = some (.ref A.a_is_integer)
  F_is_topic : Fun K "is_topic" "is_topic" s_is_topic A.a_is_topic A.d_is_topic
  g_is_topic : mg "is_topic" = some (.ref A.a_is_topic)
  F_is_announcement : Fun K "is_announcement" "is_announcement" s_is_announcement A.a_is_announcement A.d_is_announcement
  g_is_announcement : mg "is_announcement" = some (.ref A.a_is_announcement)
  F_is_log : Fun K "is_log" "is_log" s_is_log A.a_is_log A.d_is_log
  g_is_log : mg "is_log" = some (.ref A.a_is_log)
  F_require_log : Fun K "require_log" "require_log" s_require_log A.a_require_log A.d_require_log
  g_require_log : mg "require_log" = some (.ref A.a_require_log)
  F_require_rule : Fun K "require_rule" "require_rule" s_require_rule A.a_require_rule A.d_require_rule
  g_require_rule : mg "require_rule" = some (.ref A.a_require_rule)
  F_is_heard : Fun K "is_heard" "is_heard" s_is_heard A.a_is_heard A.d_is_heard
  g_is_heard : mg "is_heard" = some (.ref A.a_is_heard)
  F_require_heard : Fun K "require_heard" "require_heard" s_require_heard A.a_require_heard A.d_require_heard
  g_require_heard : mg "require_heard" = some (.ref A.a_require_heard)
  F_lower_bounds : Fun K "lower_bounds" "lower_bounds" s_lower_bounds A.a_lower_bounds A.d_lower_bounds
  g_lower_bounds : mg "lower_bounds" = some (.ref A.a_lower_bounds)
  F_known_for : Fun K "known_for" "known_for" s_known_for A.a_known_for A.d_known_for
  g_known_for : mg "known_for" = some (.ref A.a_known_for)
  F_fewest_added : Fun K "fewest_added" "fewest_added" s_fewest_added A.a_fewest_added A.d_fewest_added
  g_fewest_added : mg "fewest_added" = some (.ref A.a_fewest_added)
  F_received : Fun K "received" "received" s_received A.a_received A.d_received
  g_received : mg "received" = some (.ref A.a_received)
  F_played : Fun K "played" "played" s_played A.a_played A.d_played
  g_played : mg "played" = some (.ref A.a_played)
  F_triples : Fun K "triples" "triples" s_triples A.a_triples A.d_triples
  g_triples : mg "triples" = some (.ref A.a_triples)
  F_speech : Fun K "speech" "speech" s_speech A.a_speech A.d_speech
  g_speech : mg "speech" = some (.ref A.a_speech)
  F_rules_for : Fun K "rules_for" "rules_for" s_rules_for A.a_rules_for A.d_rules_for
  g_rules_for : mg "rules_for" = some (.ref A.a_rules_for)
  F__law_source : Fun K "_law_source" "_law_source" s__law_source A.a__law_source A.d__law_source
  g__law_source : mg "_law_source" = some (.ref A.a__law_source)
  F__law_pick : Fun K "_law_pick" "_law_pick" s__law_pick A.a__law_pick A.d__law_pick
  g__law_pick : mg "_law_pick" = some (.ref A.a__law_pick)
  F__law_log : Fun K "_law_log" "_law_log" s__law_log A.a__law_log A.d__law_log
  g__law_log : mg "_law_log" = some (.ref A.a__law_log)
  F__law_rules : Fun K "_law_rules" "_law_rules" s__law_rules A.a__law_rules A.d__law_rules
  g__law_rules : mg "_law_rules" = some (.ref A.a__law_rules)
  F_law : Fun K "law" "law" s_law A.a_law A.d_law
  g_law : mg "law" = some (.ref A.a_law)
  g_LETTERS : mg "LETTERS" = some (.str "abcdefghijklmnopqrstuvwxyz" A.t_LETTERS)
  g_RULES : mg "RULES" = some (.ref A.a_RULES)
  c_RULES : ∀ H, SqT K H A.a_RULES [.str "none", .str "place", .str "end"]
  g_MAX_LOG : mg "MAX_LOG" = some (.int 40 A.t_MAX_LOG)
  g_MAX_TIME : mg "MAX_TIME" = some (.int 10000 A.t_MAX_TIME)
  g_MAX_LENGTH : mg "MAX_LENGTH" = some (.int 99 A.t_MAX_LENGTH)
  g_MAX_NAME : mg "MAX_NAME" = some (.int 6 A.t_MAX_NAME)
  g_FAR : mg "FAR" = some (.int 1000000 A.t_FAR)
  len : mg "len" = none
  all : mg "all" = none
  max : mg "max" = none
  min : mg "min" = none
  isinstance : mg "isinstance" = none
  tuple : mg "tuple" = none
  list : mg "list" = none
  int : mg "int" = none
  bool : mg "bool" = none
  str : mg "str" = none
  range : mg "range" = none
  zip : mg "zip" = none
  enumerate : mg "enumerate" = none
section
variable {K : PySem.W.Frag} {mg : Str → Option Value} {A : Ad}
theorem b_is_integer (T : Txt K mg A) : Binds K A.d_is_integer ["value", "low", "high"] [] := T.F_is_integer.binds fun _ _ _ _ _ _ us hl => match us, hl with | [_, _, _], _ => rfl
theorem b_is_topic (T : Txt K mg A) : Binds K A.d_is_topic ["value"] [] := T.F_is_topic.binds fun _ _ _ _ _ _ us hl => match us, hl with | [_], _ => rfl
theorem b_is_announcement (T : Txt K mg A) : Binds K A.d_is_announcement ["value", "most"] [] := T.F_is_announcement.binds fun _ _ _ _ _ _ us hl => match us, hl with | [_, _], _ => rfl
theorem b_is_log (T : Txt K mg A) : Binds K A.d_is_log ["value"] [] := T.F_is_log.binds fun _ _ _ _ _ _ us hl => match us, hl with | [_], _ => rfl
theorem b_require_log (T : Txt K mg A) : Binds K A.d_require_log ["value"] [] := T.F_require_log.binds fun _ _ _ _ _ _ us hl => match us, hl with | [_], _ => rfl
theorem b_require_rule (T : Txt K mg A) : Binds K A.d_require_rule ["value"] [] := T.F_require_rule.binds fun _ _ _ _ _ _ us hl => match us, hl with | [_], _ => rfl
theorem b_is_heard (T : Txt K mg A) : Binds K A.d_is_heard ["value"] [] := T.F_is_heard.binds fun _ _ _ _ _ _ us hl => match us, hl with | [_], _ => rfl
theorem b_require_heard (T : Txt K mg A) : Binds K A.d_require_heard ["value"] [] := T.F_require_heard.binds fun _ _ _ _ _ _ us hl => match us, hl with | [_], _ => rfl
theorem b_lower_bounds (T : Txt K mg A) : Binds K A.d_lower_bounds ["heard", "rule"] [] := T.F_lower_bounds.binds fun _ _ _ _ _ _ us hl => match us, hl with | [_, _], _ => rfl
theorem b_known_for (T : Txt K mg A) : Binds K A.d_known_for ["log", "heard"] [] := T.F_known_for.binds fun _ _ _ _ _ _ us hl => match us, hl with | [_, _], _ => rfl
theorem b_fewest_added (T : Txt K mg A) : Binds K A.d_fewest_added ["log", "heard"] [] := T.F_fewest_added.binds fun _ _ _ _ _ _ us hl => match us, hl with | [_, _], _ => rfl
theorem b_received (T : Txt K mg A) : Binds K A.d_received ["line", "log", "index", "rule"] [] := T.F_received.binds fun _ _ _ _ _ _ us hl => match us, hl with | [_, _, _, _], _ => rfl
theorem b_played (T : Txt K mg A) : Binds K A.d_played ["log", "rule", "last_begin", "last_time"] [] := T.F_played.binds fun _ _ _ _ _ _ us hl => match us, hl with | [_, _, _, _], _ => rfl
theorem b_triples (T : Txt K mg A) : Binds K A.d_triples ["log", "rule"] [] := T.F_triples.binds fun _ _ _ _ _ _ us hl => match us, hl with | [_, _], _ => rfl
theorem kb_speech (T : Txt K mg A) : KBn K A.d_speech ["log", "rule"] 1 ["rule"] (fun us ws => us ++ ws) (fun vs zs => vs ++ zs) := kbn_of T.F_speech fun _ _ _ _ _ _ us ws hl hm => match us, hl, ws, hm with | [_], _, [_], _ => rfl
theorem b_rules_for (T : Txt K mg A) : Binds K A.d_rules_for ["log", "heard"] [] := T.F_rules_for.binds fun _ _ _ _ _ _ us hl => match us, hl with | [_, _], _ => rfl
theorem b__law_source (T : Txt K mg A) : Binds K A.d__law_source ["script", "k"] [] := T.F__law_source.binds fun _ _ _ _ _ _ us hl => match us, hl with | [_, _], _ => rfl
theorem b__law_pick (T : Txt K mg A) : Binds K A.d__law_pick ["source", "size"] [] := T.F__law_pick.binds fun _ _ _ _ _ _ us hl => match us, hl with | [_, _], _ => rfl
theorem b__law_log (T : Txt K mg A) : Binds K A.d__law_log ["source", "most"] [] := T.F__law_log.binds fun _ _ _ _ _ _ us hl => match us, hl with | [_, _], _ => rfl
theorem b__law_rules (T : Txt K mg A) : Binds K A.d__law_rules [] [] := T.F__law_rules.binds fun _ _ _ _ _ _ us hl => match us, hl with | [], _ => rfl
end
end DL
namespace DL
open PySem PySem.Spec PyProof.Rows L2
local macro_rules | `(tactic| walk_at "dl") => `(tactic| first
  | (with_reducible_and_instances refine sw_seq ?_)
  | (with_reducible_and_instances refine sw_ret ?_)
  | (with_reducible_and_instances refine sw_retN ?_)
  | (with_reducible_and_instances refine sw_set ?_)
  | (with_reducible_and_instances refine sw_par ?_)
  | (with_reducible_and_instances refine sw_drop ?_)
  | (with_reducible_and_instances refine sw_next ?_)
  | (with_reducible_and_instances refine sw_break ?_)
  | (with_reducible_and_instances refine sw_if ?_)
  | (with_reducible_and_instances refine sw_asg ?_)
  | ((with_reducible_and_instances refine' ew_var ?hh ?kk); (case hh => rfl))
  | (with_reducible_and_instances refine ew_int ?_)
  | (with_reducible_and_instances refine ew_str ?_)
  | (with_reducible_and_instances refine ew_bl ?_)
  | (with_reducible_and_instances refine ew_non ?_)
  | (with_reducible_and_instances refine ew_raw (v := .ty _) ?_)
  | (with_reducible_and_instances refine ew_op ?_)
  | (with_reducible_and_instances refine ew_un ?_)
  | (with_reducible_and_instances refine ew_chain ?_)
  | (with_reducible_and_instances refine ew_andV ?_)
  | (with_reducible_and_instances refine ew_orV ?_)
  | (with_reducible_and_instances refine ew_notV ?_)
  | (with_reducible_and_instances refine ew_if ?_)
  | (with_reducible_and_instances refine ew_tup ?_)
  | (with_reducible_and_instances refine ew_cb ?_)
  | (with_reducible_and_instances refine ew_slA ?_)
  | (with_reducible_and_instances refine .inl ⟨_, rfl, ?_⟩)
  | (with_reducible_and_instances refine .inr ⟨_, .same _, ?_⟩)
  | (with_reducible_and_instances refine aw_cons ?_)
  | (with_reducible_and_instances refine aw_nil ?_)
  | (with_reducible_and_instances refine tw_test ?_)
  | (with_reducible_and_instances refine tw_B ?_)
  | (with_reducible_and_instances refine tw_and ?_)
  | (with_reducible_and_instances refine tw_or ?_)
  | (with_reducible_and_instances refine tw_not ?_)
  | (with_reducible_and_instances refine tw_yes ?_)
  | (with_reducible_and_instances refine pw_none ?_)
  | (with_reducible_and_instances refine pw_some ?_)
  | (with_reducible_and_instances refine rw_le ?_)
  | (with_reducible_and_instances refine rw_lt ?_)
  | (with_reducible_and_instances refine rw_gt ?_)
  | (with_reducible_and_instances refine rw_ge ?_)
  | (with_reducible_and_instances refine rw_sub ?_)
  | (with_reducible_and_instances refine uw_neg ?_)
  | (with_reducible_and_instances refine rwp_int ?_)
  | ((with_reducible_and_instances refine gw_name ?hj ?_); (case hj => first | exact trivial | decide))
  | (with_reducible_and_instances refine gsw_cons ?_)
  | (with_reducible_and_instances refine gsw_nil ?_)
  | (with_reducible_and_instances refine gw_tup rfl ?_)
  | (with_reducible_and_instances refine cw_max2 ?_)
  | (with_reducible_and_instances refine cw_min2 ?_)
  | (with_reducible_and_instances refine cw_lenT ?_)
  | (with_reducible_and_instances refine cw_lenR ?_)
  | (with_reducible_and_instances refine cw_lenL (.same _) ?_)
  | (with_reducible_and_instances refine cw_intB ?_)
  | (with_reducible_and_instances refine ⟨_, rfl, ?_⟩)
  | (with_reducible_and_instances refine ⟨_, _, rfl, ?_⟩)
  | (refine ⟨Nat.le_trans (by simp) (Nat.le_of_lt (small1000 (n := 1000) (by decide))), ?_⟩))
local macro_rules | `(tactic| walk_at "dx") => `(tactic| first
  | (with_reducible_and_instances refine sw_seq ?_)
  | (with_reducible_and_instances refine sw_ret ?_)
  | (with_reducible_and_instances refine sw_retN ?_)
  | (with_reducible_and_instances refine sw_set ?_)
  | (with_reducible_and_instances refine sw_par ?_)
  | (with_reducible_and_instances refine sw_drop ?_)
  | (with_reducible_and_instances refine sw_next ?_)
  | (with_reducible_and_instances refine sw_break ?_)
  | (with_reducible_and_instances refine sw_asg ?_)
  | ((with_reducible_and_instances refine' ew_var ?hh ?kk); (case hh => rfl))
  | (with_reducible_and_instances refine ew_int ?_)
  | (with_reducible_and_instances refine ew_str ?_)
  | (with_reducible_and_instances refine ew_bl ?_)
  | (with_reducible_and_instances refine ew_non ?_)
  | (with_reducible_and_instances refine ew_raw (v := .ty _) ?_)
  | (with_reducible_and_instances refine ew_op ?_)
  | (with_reducible_and_instances refine ew_un ?_)
  | (with_reducible_and_instances refine ew_chain ?_)
  | (with_reducible_and_instances refine ew_andV ?_)
  | (with_reducible_and_instances refine ew_orV ?_)
  | (with_reducible_and_instances refine ew_notV ?_)
  | (with_reducible_and_instances refine ew_if ?_)
  | (with_reducible_and_instances refine ew_tup ?_)
  | (with_reducible_and_instances refine ew_cb ?_)
  | (with_reducible_and_instances refine ew_slA ?_)
  | (with_reducible_and_instances refine .inl ⟨_, rfl, ?_⟩)
  | (with_reducible_and_instances refine .inr ⟨_, .same _, ?_⟩)
  | (with_reducible_and_instances refine aw_cons ?_)
  | (with_reducible_and_instances refine aw_nil ?_)
  | (with_reducible_and_instances refine tw_test ?_)
  | (with_reducible_and_instances refine tw_B ?_)
  | (with_reducible_and_instances refine tw_and ?_)
  | (with_reducible_and_instances refine tw_or ?_)
  | (with_reducible_and_instances refine tw_not ?_)
  | (with_reducible_and_instances refine tw_yes ?_)
  | (with_reducible_and_instances refine pw_none ?_)
  | (with_reducible_and_instances refine pw_some ?_)
  | (with_reducible_and_instances refine rw_le ?_)
  | (with_reducible_and_instances refine rw_lt ?_)
  | (with_reducible_and_instances refine rw_gt ?_)
  | (with_reducible_and_instances refine rw_ge ?_)
  | (with_reducible_and_instances refine rw_sub ?_)
  | (with_reducible_and_instances refine uw_neg ?_)
  | (with_reducible_and_instances refine rwp_int ?_)
  | ((with_reducible_and_instances refine gw_name ?hj ?_); (case hj => first | exact trivial | decide))
  | (with_reducible_and_instances refine gsw_cons ?_)
  | (with_reducible_and_instances refine gsw_nil ?_)
  | (with_reducible_and_instances refine gw_tup rfl ?_)
  | (with_reducible_and_instances refine cw_max2 ?_)
  | (with_reducible_and_instances refine cw_min2 ?_)
  | (with_reducible_and_instances refine cw_lenT ?_)
  | (with_reducible_and_instances refine cw_lenR ?_)
  | (with_reducible_and_instances refine cw_lenL (.same _) ?_)
  | (with_reducible_and_instances refine cw_intB ?_)
  | (with_reducible_and_instances refine ⟨_, rfl, ?_⟩)
  | (with_reducible_and_instances refine ⟨_, _, rfl, ?_⟩)
  | (refine ⟨Nat.le_trans (by simp) (Nat.le_of_lt (small1000 (n := 1000) (by decide))), ?_⟩))
local macro_rules | `(tactic| walk_at "dn") => `(tactic| first
  | (with_reducible_and_instances refine sw_ret ?_)
  | (with_reducible_and_instances refine sw_retN ?_)
  | (with_reducible_and_instances refine sw_set ?_)
  | (with_reducible_and_instances refine sw_par ?_)
  | (with_reducible_and_instances refine sw_drop ?_)
  | (with_reducible_and_instances refine sw_next ?_)
  | (with_reducible_and_instances refine sw_break ?_)
  | (with_reducible_and_instances refine sw_asg ?_)
  | ((with_reducible_and_instances refine' ew_var ?hh ?kk); (case hh => rfl))
  | (with_reducible_and_instances refine ew_int ?_)
  | (with_reducible_and_instances refine ew_str ?_)
  | (with_reducible_and_instances refine ew_bl ?_)
  | (with_reducible_and_instances refine ew_non ?_)
  | (with_reducible_and_instances refine ew_raw (v := .ty _) ?_)
  | (with_reducible_and_instances refine ew_op ?_)
  | (with_reducible_and_instances refine ew_un ?_)
  | (with_reducible_and_instances refine ew_chain ?_)
  | (with_reducible_and_instances refine ew_andV ?_)
  | (with_reducible_and_instances refine ew_orV ?_)
  | (with_reducible_and_instances refine ew_notV ?_)
  | (with_reducible_and_instances refine ew_if ?_)
  | (with_reducible_and_instances refine ew_tup ?_)
  | (with_reducible_and_instances refine ew_cb ?_)
  | (with_reducible_and_instances refine ew_slA ?_)
  | (with_reducible_and_instances refine .inl ⟨_, rfl, ?_⟩)
  | (with_reducible_and_instances refine .inr ⟨_, .same _, ?_⟩)
  | (with_reducible_and_instances refine aw_cons ?_)
  | (with_reducible_and_instances refine aw_nil ?_)
  | (with_reducible_and_instances refine tw_test ?_)
  | (with_reducible_and_instances refine tw_B ?_)
  | (with_reducible_and_instances refine tw_and ?_)
  | (with_reducible_and_instances refine tw_or ?_)
  | (with_reducible_and_instances refine tw_not ?_)
  | (with_reducible_and_instances refine tw_yes ?_)
  | (with_reducible_and_instances refine pw_none ?_)
  | (with_reducible_and_instances refine pw_some ?_)
  | (with_reducible_and_instances refine rw_le ?_)
  | (with_reducible_and_instances refine rw_lt ?_)
  | (with_reducible_and_instances refine rw_gt ?_)
  | (with_reducible_and_instances refine rw_ge ?_)
  | (with_reducible_and_instances refine rw_sub ?_)
  | (with_reducible_and_instances refine uw_neg ?_)
  | (with_reducible_and_instances refine rwp_int ?_)
  | ((with_reducible_and_instances refine gw_name ?hj ?_); (case hj => first | exact trivial | decide))
  | (with_reducible_and_instances refine gsw_cons ?_)
  | (with_reducible_and_instances refine gsw_nil ?_)
  | (with_reducible_and_instances refine gw_tup rfl ?_)
  | (with_reducible_and_instances refine cw_max2 ?_)
  | (with_reducible_and_instances refine cw_min2 ?_)
  | (with_reducible_and_instances refine cw_lenT ?_)
  | (with_reducible_and_instances refine cw_lenR ?_)
  | (with_reducible_and_instances refine cw_lenL (.same _) ?_)
  | (with_reducible_and_instances refine cw_intB ?_)
  | (with_reducible_and_instances refine ⟨_, rfl, ?_⟩)
  | (with_reducible_and_instances refine ⟨_, _, rfl, ?_⟩)
  | (refine ⟨Nat.le_trans (by simp) (Nat.le_of_lt (small1000 (n := 1000) (by decide))), ?_⟩))
/-! ### logs.py -/
def isInt : Dt → Int → Int → Bool
  | .int i, lo, hi => decide (lo ≤ i) && decide (i ≤ hi)
  | _, _, _ => false
def S_is_integer : SpT := fun ds Oc Post => ∃ d lo hi, ds = [d, .int lo, .int hi] ∧ isRaw d = false ∧ Post (.bl (isInt d lo hi)) Oc
def letters : Str := "abcdefghijklmnopqrstuvwxyz"
def topicS (z : Str) : Bool := decide (1 ≤ z.length) && decide (z.length ≤ 6) && z.cps.toList.all fun c => decide (c ∈ letters.cps.toList)
def isTopic : Dt → Bool
  | .str z => topicS z
  | _ => false
/-! small texts within, no reference -/
mutual
def gd : Nat → Dt → Bool
  | _, .non => true
  | _, .bl _ => true
  | _, .int _ => true
  | _, .str x => decide (x.length ≤ 1000)
  | 0, .tup _ => false
  | 0, .lst _ => false
  | n + 1, .tup xs => gdL n xs
  | n + 1, .lst xs => gdL n xs
  | _, .ro _ => false
  | _, .raw _ => false
def gdL : Nat → List Dt → Bool
  | _, [] => true
  | n, x :: xs => gd n x && gdL n xs
end
theorem gdL_iff {n : Nat} : ∀ {xs : List Dt}, gdL n xs = true ↔ ∀ x ∈ xs, gd n x = true
  | [] => by simp [gdL]
  | x :: xs => by simp [gdL, gdL_iff (n := n) (xs := xs)]
theorem gd_raw {n : Nat} {d : Dt} (h : gd n d = true) : isRaw d = false := by
  cases d <;> first | rfl | (exfalso; revert h; cases n <;> simp [gd])
theorem gd_tup {n : Nat} {xs : List Dt} (h : gd n (.tup xs) = true) : ∃ m, ∀ x ∈ xs, gd m x = true := by
  cases n with
  | zero => simp [gd] at h
  | succ n => exact ⟨n, gdL_iff.mp (by simpa [gd] using h)⟩
def S_is_topic : SpT := fun ds Oc Post => ∃ d n, ds = [d] ∧ gd n d = true ∧ Post (.bl (isTopic d)) Oc
def isAnn : Dt → Int → Bool
  | .tup [a, b, c], m => isInt a 0 m && isTopic b && isInt c 1 99
  | _, _ => false
def S_is_announcement : SpT := fun ds Oc Post => ∃ d m n, ds = [d, .int m] ∧ gd n d = true ∧ Post (.bl (isAnn d m)) Oc
def timeD : Dt → Int
  | .tup (.int t :: _) => t
  | _ => 0
def lenD : Dt → Int
  | .tup [_, _, .int t] => t
  | _ => 0
def pairsD (f : Dt → Dt → Bool) : List Dt → Bool
  | x :: y :: r => f x y && pairsD f (y :: r)
  | _ => true
def isLog : Dt → Bool
  | .tup xs => decide (xs.length ≤ 40) && xs.all (fun d => isAnn d 10000) && pairsD (fun x y => decide (timeD x ≤ timeD y)) xs
  | _ => false
def S_is_log : SpT := fun ds Oc Post => ∃ d n, ds = [d] ∧ gd n d = true ∧ Post (.bl (isLog d)) Oc
theorem inst_int {d : Dt} (h : instD d "int" = true) (h2 : instD d "bool" = false) : ∃ i, d = .int i := by
  cases d <;> first | exact ⟨_, rfl⟩ | (revert h h2; simp [instD, tyD])
theorem inst_str {d : Dt} (h : instD d "str" = true) : ∃ i, d = .str i := by
  cases d <;> first | exact ⟨_, rfl⟩ | (revert h; simp [instD, tyD])
theorem inst_tup {d : Dt} (h : instD d "tuple" = true) (hr : isRaw d = false) : ∃ i, d = .tup i := by
  cases d <;> first | exact ⟨_, rfl⟩ | (revert h hr; simp [instD, tyD, isRaw])
section
variable {P : Program} {w : World} {K : PySem.W.Frag} {mg : Str → Option Value} {base : Heap} {A : Ad}
theorem ok_is_integer (T : Txt K mg A) : FnOk P w K mg base CX0 1 A.a_is_integer A.d_is_integer ["value", "low", "high"] (SpD K S_is_integer) := by
  refine fn_ok T.F_is_integer sc_is_integer (fun ds Oc Post h => by obtain ⟨_, _, _, rfl, _⟩ := h; rfl) (fun cdv AA outer s H E hr => ?_)
  refine ⟨_, (pss_one (ps_ret (pe_and (pe_callB (isiK (K := K)) (by rfl) T.isinstance (by decide +kernel) (pa_cons (pv 0) (pa_cons (pe_bltn (v := .ty "int") (u := .type "int") (by rfl) T.int (by decide +kernel) rfl) pa_nil))) (pe_and (pe_not (pe_callB (isiK (K := K)) (by rfl) T.isinstance (by decide +kernel) (pa_cons (pv 0) (pa_cons (pe_bltn (v := .ty "bool") (u := .type "bool") (by rfl) T.bool (by decide +kernel) rfl) pa_nil)))) (pe_one (pe_chain op_le op_le (pv 1) (pv 0) (pv 2))))))), fun ds Oc Post h => ?_⟩
  obtain ⟨d, lo, hi, rfl, hr, hp⟩ := h
  repeat walk_at "dl"
  refine cw_isi (.same _) hr (.inl rfl) ?_
  repeat walk_at "dl"
  refine ⟨fun h1 => ?_, fun h1 => ?_⟩
  · repeat walk_at "dl"
    refine cw_isi (.same _) hr (.inr (.inl rfl)) ?_
    repeat walk_at "dl"
    refine ⟨fun h2 => ?_, fun h2 => ?_⟩
    · obtain ⟨i, rfl⟩ := inst_int h1 (by simpa using h2)
      repeat walk_at "dl"
      refine ⟨fun h3 => ?_, fun h3 => ?_⟩
      · repeat walk_at "dl"
        have e : isInt (.int i) lo hi = decide (i ≤ hi) := by simp only [isInt, h3, Bool.true_and]
        rw [e] at hp
        exact hp
      · have e : isInt (.int i) lo hi = false := by simp only [isInt, h3, Bool.false_and]
        rw [e] at hp
        exact hp
    · have e : isInt d lo hi = false := by
        cases d <;> first | rfl | (revert h2; simp [instD, tyD])
      rw [e] at hp
      exact hp
  · have e : isInt d lo hi = false := by
      cases d <;> first | rfl | (revert h1; simp [instD, tyD])
    rw [e] at hp
    exact hp
theorem ok_is_topic (T : Txt K mg A) : FnOk P w K mg base CX0 1 A.a_is_topic A.d_is_topic ["value"] (SpD K S_is_topic) := by
  refine fn_ok T.F_is_topic sc_is_topic (fun ds Oc Post h => by obtain ⟨_, _, rfl, _⟩ := h; rfl) (fun cdv AA outer s H E hr => ?_)
  refine ⟨_, (pss_one (ps_ret (pe_and (pe_callB (isiK (K := K)) (by rfl) T.isinstance (by decide +kernel) (pa_cons (pv 0) (pa_cons (pe_bltn (v := .ty "str") (u := .type "str") (by rfl) T.str (by decide +kernel) rfl) pa_nil))) (pe_and (pe_chain op_le op_le pe_int (pe_callB (lenK (K := K)) (by rfl) T.len (by decide +kernel) (pa_cons (pv 0) pa_nil)) (pe_glob (v := .int 6) rfl T.g_MAX_NAME ⟨_, rfl⟩)) (pe_one (pe_callB (allK (K := K)) (by rfl) T.all (by decide +kernel) (pa_cons (pe_lc (own := [("sign", 1)]) rfl sc_is_topic.nd (seqK (K := K) (pv 0)) (blkOk_by (N := ["value", "sign"]) (sc := defScope s_is_topic) (by decide +kernel)) (fun _ _ _ _ _ => (pg_name (i := 1) sc_is_topic.nd rfl (.inl rfl))) (fun _ _ _ _ _ => pts_nil) (fun _ _ _ _ _ => (pe_cmpR (inK (K := K) hr.units) (pv 1) (pe_glob (v := .str "abcdefghijklmnopqrstuvwxyz") rfl T.g_LETTERS ⟨_, rfl⟩) (by rfl)))) pa_nil))))))), fun ds Oc Post h => ?_⟩
  obtain ⟨d, n, rfl, hg, hp⟩ := h
  repeat walk_at "dl"
  refine cw_isi (.same _) (gd_raw hg) (.inr (.inr (.inl rfl))) ?_
  repeat walk_at "dl"
  refine ⟨fun h1 => ?_, fun h1 => ?_⟩
  · obtain ⟨z, rfl⟩ := inst_str h1
    have hz : z.length ≤ 1000 := by cases n <;> simpa [gd] using hg
    repeat walk_at "dl"
    refine cw_lenS (Nat.le_of_lt (small1000 hz)) ?_
    repeat walk_at "dl"
    refine ⟨fun h2 => ?_, fun h2 => ?_⟩
    · repeat walk_at "dl"
      refine ⟨fun h3 => ?_, fun h3 => ?_⟩
      · repeat walk_at "dl"
        refine ew_lcM (α := Nat) (iws_str ?_)
        repeat walk_at "dl"
        refine ⟨fun c => .str ⟨#[c]⟩, z.cps.toList, fun c => .bl (decide (c ∈ letters.cps.toList)), rfl, fun p e => (nomatch e), ?_, fun c hc => ?_, ?_⟩
        · have : z.cps.toList.length = z.length := rfl
          omega
        · repeat walk_at "dl"
          refine rwi_c ?_
          exact ⟨rfl, rfl⟩
        · repeat walk_at "dl"
          refine cw_all (bs := z.cps.toList.map fun c => decide (c ∈ letters.cps.toList)) (.same _) (by rw [List.map_map] <;> rfl) ?_
          have e : isTopic (.str z) = (z.cps.toList.map fun c => decide (c ∈ letters.cps.toList)).all id := by
            have h2' := of_decide_eq_true h2
            have h3' := of_decide_eq_true h3
            have a1 : decide (1 ≤ z.length) = true := decide_eq_true (by omega)
            have a2 : decide (z.length ≤ 6) = true := decide_eq_true (by omega)
            simp only [isTopic, topicS, a1, a2, Bool.true_and, List.all_map]
            rfl
          rw [← e]
          exact hp
      · have e : isTopic (.str z) = false := by
          have h3' := of_decide_eq_false h3
          have a2 : decide (z.length ≤ 6) = false := decide_eq_false (by omega)
          simp only [isTopic, topicS, a2, Bool.and_false, Bool.false_and]
        rw [e] at hp
        exact hp
    · have e : isTopic (.str z) = false := by
        have h2' := of_decide_eq_false h2
        have a2 : decide (1 ≤ z.length) = false := decide_eq_false (by omega)
        simp only [isTopic, topicS, a2, Bool.false_and]
      rw [e] at hp
      exact ⟨_, rfl, fun z => (by cases z), fun _ => hp⟩
  · have e : isTopic d = false := by
      cases d <;> first | rfl | (revert h1; simp [instD, tyD])
    rw [e] at hp
    exact hp
end
end DL
namespace DL
open PySem PySem.Spec PyProof.Rows L2
local macro_rules | `(tactic| walk_at "dl") => `(tactic| first
  | (with_reducible_and_instances refine sw_seq ?_)
  | (with_reducible_and_instances refine sw_ret ?_)
  | (with_reducible_and_instances refine sw_retN ?_)
  | (with_reducible_and_instances refine sw_set ?_)
  | (with_reducible_and_instances refine sw_par ?_)
  | (with_reducible_and_instances refine sw_drop ?_)
  | (with_reducible_and_instances refine sw_next ?_)
  | (with_reducible_and_instances refine sw_break ?_)
  | (with_reducible_and_instances refine sw_if ?_)
  | (with_reducible_and_instances refine sw_asg ?_)
  | ((with_reducible_and_instances refine' ew_var ?hh ?kk); (case hh => rfl))
  | (with_reducible_and_instances refine ew_int ?_)
  | (with_reducible_and_instances refine ew_str ?_)
  | (with_reducible_and_instances refine ew_bl ?_)
  | (with_reducible_and_instances refine ew_non ?_)
  | (with_reducible_and_instances refine ew_raw (v := .ty _) ?_)
  | (with_reducible_and_instances refine ew_op ?_)
  | (with_reducible_and_instances refine ew_un ?_)
  | (with_reducible_and_instances refine ew_chain ?_)
  | (with_reducible_and_instances refine ew_andV ?_)
  | (with_reducible_and_instances refine ew_orV ?_)
  | (with_reducible_and_instances refine ew_notV ?_)
  | (with_reducible_and_instances refine ew_if ?_)
  | (with_reducible_and_instances refine ew_tup ?_)
  | (with_reducible_and_instances refine ew_cb ?_)
  | (with_reducible_and_instances refine ew_slA ?_)
  | (with_reducible_and_instances refine .inl ⟨_, rfl, ?_⟩)
  | (with_reducible_and_instances refine .inr ⟨_, .same _, ?_⟩)
  | (with_reducible_and_instances refine aw_cons ?_)
  | (with_reducible_and_instances refine aw_nil ?_)
  | (with_reducible_and_instances refine tw_test ?_)
  | (with_reducible_and_instances refine tw_B ?_)
  | (with_reducible_and_instances refine tw_and ?_)
  | (with_reducible_and_instances refine tw_or ?_)
  | (with_reducible_and_instances refine tw_not ?_)
  | (with_reducible_and_instances refine tw_yes ?_)
  | (with_reducible_and_instances refine pw_none ?_)
  | (with_reducible_and_instances refine pw_some ?_)
  | (with_reducible_and_instances refine rw_le ?_)
  | (with_reducible_and_instances refine rw_lt ?_)
  | (with_reducible_and_instances refine rw_gt ?_)
  | (with_reducible_and_instances refine rw_ge ?_)
  | (with_reducible_and_instances refine rw_sub ?_)
  | (with_reducible_and_instances refine uw_neg ?_)
  | (with_reducible_and_instances refine rwp_int ?_)
  | ((with_reducible_and_instances refine gw_name ?hj ?_); (case hj => first | exact trivial | decide))
  | (with_reducible_and_instances refine gsw_cons ?_)
  | (with_reducible_and_instances refine gsw_nil ?_)
  | (with_reducible_and_instances refine gw_tup rfl ?_)
  | (with_reducible_and_instances refine cw_max2 ?_)
  | (with_reducible_and_instances refine cw_min2 ?_)
  | (with_reducible_and_instances refine cw_lenT ?_)
  | (with_reducible_and_instances refine cw_lenR ?_)
  | (with_reducible_and_instances refine cw_lenL (.same _) ?_)
  | (with_reducible_and_instances refine cw_intB ?_)
  | (with_reducible_and_instances refine ⟨_, rfl, ?_⟩)
  | (with_reducible_and_instances refine ⟨_, _, rfl, ?_⟩)
  | (refine ⟨Nat.le_trans (by simp) (Nat.le_of_lt (small1000 (n := 1000) (by decide))), ?_⟩))
local macro_rules | `(tactic| walk_at "dx") => `(tactic| first
  | (with_reducible_and_instances refine sw_seq ?_)
  | (with_reducible_and_instances refine sw_ret ?_)
  | (with_reducible_and_instances refine sw_retN ?_)
  | (with_reducible_and_instances refine sw_set ?_)
  | (with_reducible_and_instances refine sw_par ?_)
  | (with_reducible_and_instances refine sw_drop ?_)
  | (with_reducible_and_instances refine sw_next ?_)
  | (with_reducible_and_instances refine sw_break ?_)
  | (with_reducible_and_instances refine sw_asg ?_)
  | ((with_reducible_and_instances refine' ew_var ?hh ?kk); (case hh => rfl))
  | (with_reducible_and_instances refine ew_int ?_)
  | (with_reducible_and_instances refine ew_str ?_)
  | (with_reducible_and_instances refine ew_bl ?_)
  | (with_reducible_and_instances refine ew_non ?_)
  | (with_reducible_and_instances refine ew_raw (v := .ty _) ?_)
  | (with_reducible_and_instances refine ew_op ?_)
  | (with_reducible_and_instances refine ew_un ?_)
  | (with_reducible_and_instances refine ew_chain ?_)
  | (with_reducible_and_instances refine ew_andV ?_)
  | (with_reducible_and_instances refine ew_orV ?_)
  | (with_reducible_and_instances refine ew_notV ?_)
  | (with_reducible_and_instances refine ew_if ?_)
  | (with_reducible_and_instances refine ew_tup ?_)
  | (with_reducible_and_instances refine ew_cb ?_)
  | (with_reducible_and_instances refine ew_slA ?_)
  | (with_reducible_and_instances refine .inl ⟨_, rfl, ?_⟩)
  | (with_reducible_and_instances refine .inr ⟨_, .same _, ?_⟩)
  | (with_reducible_and_instances refine aw_cons ?_)
  | (with_reducible_and_instances refine aw_nil ?_)
  | (with_reducible_and_instances refine tw_test ?_)
  | (with_reducible_and_instances refine tw_B ?_)
  | (with_reducible_and_instances refine tw_and ?_)
  | (with_reducible_and_instances refine tw_or ?_)
  | (with_reducible_and_instances refine tw_not ?_)
  | (with_reducible_and_instances refine tw_yes ?_)
  | (with_reducible_and_instances refine pw_none ?_)
  | (with_reducible_and_instances refine pw_some ?_)
  | (with_reducible_and_instances refine rw_le ?_)
  | (with_reducible_and_instances refine rw_lt ?_)
  | (with_reducible_and_instances refine rw_gt ?_)
  | (with_reducible_and_instances refine rw_ge ?_)
  | (with_reducible_and_instances refine rw_sub ?_)
  | (with_reducible_and_instances refine uw_neg ?_)
  | (with_reducible_and_instances refine rwp_int ?_)
  | ((with_reducible_and_instances refine gw_name ?hj ?_); (case hj => first | exact trivial | decide))
  | (with_reducible_and_instances refine gsw_cons ?_)
  | (with_reducible_and_instances refine gsw_nil ?_)
  | (with_reducible_and_instances refine gw_tup rfl ?_)
  | (with_reducible_and_instances refine cw_max2 ?_)
  | (with_reducible_and_instances refine cw_min2 ?_)
  | (with_reducible_and_instances refine cw_lenT ?_)
  | (with_reducible_and_instances refine cw_lenR ?_)
  | (with_reducible_and_instances refine cw_lenL (.same _) ?_)
  | (with_reducible_and_instances refine cw_intB ?_)
  | (with_reducible_and_instances refine ⟨_, rfl, ?_⟩)
  | (with_reducible_and_instances refine ⟨_, _, rfl, ?_⟩)
  | (refine ⟨Nat.le_trans (by simp) (Nat.le_of_lt (small1000 (n := 1000) (by decide))), ?_⟩))
local macro_rules | `(tactic| walk_at "dn") => `(tactic| first
  | (with_reducible_and_instances refine sw_ret ?_)
  | (with_reducible_and_instances refine sw_retN ?_)
  | (with_reducible_and_instances refine sw_set ?_)
  | (with_reducible_and_instances refine sw_par ?_)
  | (with_reducible_and_instances refine sw_drop ?_)
  | (with_reducible_and_instances refine sw_next ?_)
  | (with_reducible_and_instances refine sw_break ?_)
  | (with_reducible_and_instances refine sw_asg ?_)
  | ((with_reducible_and_instances refine' ew_var ?hh ?kk); (case hh => rfl))
  | (with_reducible_and_instances refine ew_int ?_)
  | (with_reducible_and_instances refine ew_str ?_)
  | (with_reducible_and_instances refine ew_bl ?_)
  | (with_reducible_and_instances refine ew_non ?_)
  | (with_reducible_and_instances refine ew_raw (v := .ty _) ?_)
  | (with_reducible_and_instances refine ew_op ?_)
  | (with_reducible_and_instances refine ew_un ?_)
  | (with_reducible_and_instances refine ew_chain ?_)
  | (with_reducible_and_instances refine ew_andV ?_)
  | (with_reducible_and_instances refine ew_orV ?_)
  | (with_reducible_and_instances refine ew_notV ?_)
  | (with_reducible_and_instances refine ew_if ?_)
  | (with_reducible_and_instances refine ew_tup ?_)
  | (with_reducible_and_instances refine ew_cb ?_)
  | (with_reducible_and_instances refine ew_slA ?_)
  | (with_reducible_and_instances refine .inl ⟨_, rfl, ?_⟩)
  | (with_reducible_and_instances refine .inr ⟨_, .same _, ?_⟩)
  | (with_reducible_and_instances refine aw_cons ?_)
  | (with_reducible_and_instances refine aw_nil ?_)
  | (with_reducible_and_instances refine tw_test ?_)
  | (with_reducible_and_instances refine tw_B ?_)
  | (with_reducible_and_instances refine tw_and ?_)
  | (with_reducible_and_instances refine tw_or ?_)
  | (with_reducible_and_instances refine tw_not ?_)
  | (with_reducible_and_instances refine tw_yes ?_)
  | (with_reducible_and_instances refine pw_none ?_)
  | (with_reducible_and_instances refine pw_some ?_)
  | (with_reducible_and_instances refine rw_le ?_)
  | (with_reducible_and_instances refine rw_lt ?_)
  | (with_reducible_and_instances refine rw_gt ?_)
  | (with_reducible_and_instances refine rw_ge ?_)
  | (with_reducible_and_instances refine rw_sub ?_)
  | (with_reducible_and_instances refine uw_neg ?_)
  | (with_reducible_and_instances refine rwp_int ?_)
  | ((with_reducible_and_instances refine gw_name ?hj ?_); (case hj => first | exact trivial | decide))
  | (with_reducible_and_instances refine gsw_cons ?_)
  | (with_reducible_and_instances refine gsw_nil ?_)
  | (with_reducible_and_instances refine gw_tup rfl ?_)
  | (with_reducible_and_instances refine cw_max2 ?_)
  | (with_reducible_and_instances refine cw_min2 ?_)
  | (with_reducible_and_instances refine cw_lenT ?_)
  | (with_reducible_and_instances refine cw_lenR ?_)
  | (with_reducible_and_instances refine cw_lenL (.same _) ?_)
  | (with_reducible_and_instances refine cw_intB ?_)
  | (with_reducible_and_instances refine ⟨_, rfl, ?_⟩)
  | (with_reducible_and_instances refine ⟨_, _, rfl, ?_⟩)
  | (refine ⟨Nat.le_trans (by simp) (Nat.le_of_lt (small1000 (n := 1000) (by decide))), ?_⟩))
theorem or_t {b : Bool} {A B : Prop} (h : b = true) (k : B) : (b = false → A) ∧ (b = true → B) := ⟨fun z => (by rw [h] at z; cases z), fun _ => k⟩
theorem or_f {b : Bool} {A B : Prop} (h : b = false) (k : A) : (b = false → A) ∧ (b = true → B) := ⟨fun _ => k, fun z => by rw [h] at z; cases z⟩
theorem if_t {b : Bool} {A B : Prop} (h : b = true) (k : A) : (b = true → A) ∧ (b = false → B) := ⟨fun _ => k, fun z => by rw [h] at z; cases z⟩
theorem if_f {b : Bool} {A B : Prop} (h : b = false) (k : B) : (b = true → A) ∧ (b = false → B) := ⟨fun z => (by rw [h] at z; cases z), fun _ => k⟩
theorem not_tup {d : Dt} (h : ∀ xs, d ≠ .tup xs) : instD d "tuple" = false := by
  cases d <;> first | exact absurd rfl (h _) | simp [instD, tyD]
theorem inst_t (xs : List Dt) : instD (.tup xs) "tuple" = true := rfl
theorem isAnn_no {d : Dt} {m : Int} (h : ∀ a b c, d ≠ .tup [a, b, c]) : isAnn d m = false := by
  unfold isAnn
  split
  · exact absurd rfl (h _ _ _)
  · rfl
theorem atI_0 {α : Type} {a : α} {r : List α} : atI (a :: r) 0 = some a := atI_nat (j := 0) rfl
theorem atI_1 {α : Type} {a b : α} {r : List α} : atI (a :: b :: r) 1 = some b := atI_nat (j := 1) rfl
theorem atI_2 {α : Type} {a b c : α} {r : List α} : atI (a :: b :: c :: r) 2 = some c := atI_nat (j := 2) rfl
theorem atI_3 {α : Type} {a b c d : α} {r : List α} : atI (a :: b :: c :: d :: r) 3 = some d := atI_nat (j := 3) rfl
theorem atI_4 {α : Type} {a b c d e : α} {r : List α} : atI (a :: b :: c :: d :: e :: r) 4 = some e := atI_nat (j := 4) rfl
section
variable {P : Program} {w : World} {K : PySem.W.Frag} {mg : Str → Option Value} {base : Heap} {A : Ad}
theorem ok_is_announcement (T : Txt K mg A) : FnOk P w K mg base CX0 2 A.a_is_announcement A.d_is_announcement ["value", "most"] (SpD K S_is_announcement) := by
  refine fn_ok T.F_is_announcement sc_is_announcement (fun ds Oc Post h => by obtain ⟨_, _, _, rfl, _⟩ := h; rfl) (fun cdv AA outer s H E hr => ?_)
  refine ⟨_, (pss_cons (ps_if (PW.pt (pw_or (pt_not (pt_val (pe_callB (isiK (K := K)) (by rfl) T.isinstance (by decide +kernel) (pa_cons (pv 0) (pa_cons (pe_bltn (v := .ty "tuple") (u := .type "tuple") (by rfl) T.tuple (by decide +kernel) rfl) pa_nil))))) (pw_or (pt_cmpR (neK (K := K) hr.units) (pe_callB (lenK (K := K)) (by rfl) T.len (by decide +kernel) (pa_cons (pv 0) pa_nil)) pe_int (nomark _)) (pw_or1 (pt_not (pt_val (pe_call (ok_is_integer T) (hr.mono (by decide)) (by rfl) T.g_is_integer T.F_is_integer.kp (b_is_integer T) .nil pass0 (pa_cons (pe_ix (ixK (K := K)) (pv 0) pe_int (fun _ _ => rfl)) (pa_cons pe_int (pa_cons (pv 1) pa_nil)))))))))) (pss_one (ps_ret pe_bl)) pss_nil)
  (pss_one (ps_ret (pe_and (pe_call (ok_is_topic T) (hr.mono (by decide)) (by rfl) T.g_is_topic T.F_is_topic.kp (b_is_topic T) .nil pass0 (pa_cons (pe_ix (ixK (K := K)) (pv 0) pe_int (fun _ _ => rfl)) pa_nil)) (pe_one (pe_call (ok_is_integer T) (hr.mono (by decide)) (by rfl) T.g_is_integer T.F_is_integer.kp (b_is_integer T) .nil pass0 (pa_cons (pe_ix (ixK (K := K)) (pv 0) pe_int (fun _ _ => rfl)) (pa_cons pe_int (pa_cons (pe_glob (v := .int 99) rfl T.g_MAX_LENGTH ⟨_, rfl⟩) pa_nil))))))))), fun ds Oc Post h => ?_⟩
  obtain ⟨d, m, n, rfl, hg, hp⟩ := h
  repeat walk_at "dl"
  refine cw_isi (.same _) (gd_raw hg) (.inr (.inr (.inr (.inl rfl)))) ?_
  repeat walk_at "dl"
  by_cases hd : ∃ xs, d = .tup xs
  · obtain ⟨xs, rfl⟩ := hd
    obtain ⟨k, hx⟩ := gd_tup hg
    refine or_f rfl ?_
    repeat walk_at "dl"
    refine rw_ne (.same _) (.same _) rfl rfl ?_
    repeat walk_at "dl"
    by_cases hl : xs.length = 3
    · refine or_f (by simp [eqD, hl]) ?_
      obtain ⟨a, b, c, rfl⟩ : ∃ a b c, xs = [a, b, c] := by
        match xs, hl with
        | [a, b, c], _ => exact ⟨a, b, c, rfl⟩
      repeat walk_at "dl"
      refine ew_call0 ?_
      repeat walk_at "dl"
      refine rw_ixT_ atI_0 ?_
      repeat walk_at "dl"
      refine ⟨a, 0, m, rfl, gd_raw (hx a (by simp)), ?_⟩
      repeat walk_at "dl"
      refine ⟨fun h1 => ?_, fun h1 => ?_⟩
      · repeat walk_at "dl"
        have e : isAnn (.tup [a, b, c]) m = false := by
          have h1' : isInt a 0 m = false := by simpa using h1
          simp only [isAnn, h1', Bool.false_and]
        rw [e] at hp
        exact hp
      · have h1' : isInt a 0 m = true := by simpa using h1
        repeat walk_at "dl"
        refine ew_call0 ?_
        repeat walk_at "dl"
        refine rw_ixT_ atI_1 ?_
        repeat walk_at "dl"
        refine ⟨b, k, rfl, hx b (by simp), ?_⟩
        repeat walk_at "dl"
        refine ⟨fun h2 => ?_, fun h2 => ?_⟩
        · repeat walk_at "dl"
          refine ew_call0 ?_
          repeat walk_at "dl"
          refine rw_ixT_ atI_2 ?_
          repeat walk_at "dl"
          refine ⟨c, 1, 99, rfl, gd_raw (hx c (by simp)), ?_⟩
          have e : isAnn (.tup [a, b, c]) m = isInt c 1 99 := by simp only [isAnn, h1', h2, Bool.true_and]
          rw [e] at hp
          exact hp
        · have e : isAnn (.tup [a, b, c]) m = false := by simp only [isAnn, h2, Bool.and_false, Bool.false_and]
          rw [e] at hp
          exact hp
    · refine or_t (by simp only [eqD, Bool.not_eq_true', decide_eq_false_iff_not]; omega) ?_
      repeat walk_at "dl"
      rw [isAnn_no (fun a b c z => hl (by cases z; rfl))] at hp
      refine if_t rfl ?_
      repeat walk_at "dl"
      exact hp
  · refine or_t (by rw [not_tup fun xs z => hd ⟨xs, z⟩]; rfl) ?_
    rw [isAnn_no (fun a b c z => hd ⟨_, z⟩)] at hp
    repeat walk_at "dl"
    refine if_t rfl ?_
    repeat walk_at "dl"
    exact hp
theorem sorted_zip (f : Dt → Dt → Bool) : ∀ xs : List Dt, ((List.zipWith (fun a b => (a, b)) xs (xs.drop 1)).all fun p => f p.1 p.2) = pairsD f xs
  | [] => rfl
  | [x] => rfl
  | x :: y :: r => by
    have ih := sorted_zip f (y :: r)
    simp only [List.drop_succ_cons, List.drop_zero] at ih ⊢
    simp only [List.zipWith_cons_cons, List.all_cons, pairsD, ih]
theorem cut1D (xs : List Dt) : cutD xs (some 1) none = xs.drop 1 := by
  unfold cutD
  rw [show HT.sIx xs.length 0 (some 1) = min 1 xs.length from HT.sIx_nat xs.length 0 1, HT.sIx_none]
  cases xs with
  | nil => rfl
  | cons x r =>
    rw [show min 1 (x :: r).length = 1 by rw [List.length_cons]; omega]
    show (List.take ((x :: r).length - 1) r) = r
    rw [List.length_cons, Nat.add_sub_cancel]
    exact List.take_length
theorem ann_time {d : Dt} {m : Int} (h : isAnn d m = true) : ∃ t c n, d = .tup [.int t, .str c, .int n] ∧ 0 ≤ t ∧ t ≤ m ∧ topicS c = true ∧ 1 ≤ n ∧ n ≤ 99 := by
  match d, h with
  | .tup [a, b, c], h =>
    simp only [isAnn, Bool.and_eq_true] at h
    obtain ⟨⟨h1, h2⟩, h3⟩ := h
    cases a with
    | int t =>
      cases b with
      | str z =>
        cases c with
        | int n =>
          simp only [isInt, Bool.and_eq_true, decide_eq_true_eq] at h1 h3
          exact ⟨_, _, _, rfl, h1.1, h1.2, h2, h3.1, h3.2⟩
        | _ => exact absurd h3 (by simp [isInt])
      | _ => exact absurd h2 (by simp [isTopic])
    | _ => exact absurd h1 (by simp [isInt])
theorem ok_is_log (T : Txt K mg A) : FnOk P w K mg base CX0 3 A.a_is_log A.d_is_log ["value"] (SpD K S_is_log) := by
  refine fn_ok T.F_is_log sc_is_log (fun ds Oc Post h => by obtain ⟨_, _, rfl, _⟩ := h; rfl) (fun cdv AA outer s H E hr => ?_)
  refine ⟨_, (pss_cons (ps_if (PW.pt (pw_or (pt_not (pt_val (pe_callB (isiK (K := K)) (by rfl) T.isinstance (by decide +kernel) (pa_cons (pv 0) (pa_cons (pe_bltn (v := .ty "tuple") (u := .type "tuple") (by rfl) T.tuple (by decide +kernel) rfl) pa_nil))))) (pw_or1 (pt_cmpR op_gt (pe_callB (lenK (K := K)) (by rfl) T.len (by decide +kernel) (pa_cons (pv 0) pa_nil)) (pe_glob (v := .int 40) rfl T.g_MAX_LOG ⟨_, rfl⟩) (nomark _))))) (pss_one (ps_ret pe_bl)) pss_nil)
  (pss_cons (ps_if (pt_not (pt_val (pe_callB (allK (K := K)) (by rfl) T.all (by decide +kernel) (pa_cons (pe_lc (own := [("one", 1)]) rfl sc_is_log.nd (seqK (K := K) (pv 0)) (blkOk_by (N := ["value", "one", "other"]) (sc := defScope s_is_log) (by decide +kernel)) (fun _ _ _ _ _ => (pg_name (i := 1) sc_is_log.nd rfl (.inl rfl))) (fun _ _ _ _ _ => pts_nil) (fun _ _ _ _ _ => (pe_call (ok_is_announcement T) (hr.mono (by decide)) (by rfl) T.g_is_announcement T.F_is_announcement.kp (b_is_announcement T) .nil pass0 (pa_cons (pv 1) (pa_cons (pe_glob (v := .int 10000) rfl T.g_MAX_TIME ⟨_, rfl⟩) pa_nil))))) pa_nil)))) (pss_one (ps_ret pe_bl)) pss_nil)
  (pss_one (ps_ret (pe_callB (allK (K := K)) (by rfl) T.all (by decide +kernel) (pa_cons (pe_lc (own := [("one", 1), ("other", 2)]) rfl sc_is_log.nd (zipK (K := K) (pi_zipG (by rfl) T.zip (pa_cons (pv 0) (pa_cons (pe_slice (slK (K := K)) (pv 0) (po_some pe_int) po_none) pa_nil)))) (blkOk_by (N := ["value", "one", "other"]) (sc := defScope s_is_log) (by decide +kernel)) (fun _ _ _ _ _ => (tupK (K := K) (pg_tup (n := 2) rfl (pgs_cons (pg_name (i := 1) sc_is_log.nd rfl (.inl rfl)) (pgs_cons (pg_name (i := 2) sc_is_log.nd rfl (.inl rfl)) pgs_nil))))) (fun _ _ _ _ _ => pts_nil) (fun _ _ _ _ _ => (pe_cmpR op_le (pe_ix (ixK (K := K)) (pv 1) pe_int (fun _ _ => rfl)) (pe_ix (ixK (K := K)) (pv 2) pe_int (fun _ _ => rfl)) (nomark _)))) pa_nil)))))), fun ds Oc Post h => ?_⟩
  obtain ⟨d, n, rfl, hg, hp⟩ := h
  repeat walk_at "dl"
  refine cw_isi (.same _) (gd_raw hg) (.inr (.inr (.inr (.inl rfl)))) ?_
  repeat walk_at "dl"
  by_cases hd : ∃ xs, d = .tup xs
  · obtain ⟨xs, rfl⟩ := hd
    obtain ⟨k, hx⟩ := gd_tup hg
    refine or_f rfl ?_
    repeat walk_at "dl"
    by_cases hl : xs.length ≤ 40
    · refine if_f (decide_eq_false (by omega)) ?_
      repeat walk_at "dl"
      refine ew_lcM (α := Dt) (iws_tup ?_)
      repeat walk_at "dl"
      refine ⟨id, xs, fun d => .bl (isAnn d 10000), (List.map_id _).symm, fun p e => (nomatch e), by omega, fun d hdm => ?_, ?_⟩
      · repeat walk_at "dl"
        refine ew_call0 ?_
        repeat walk_at "dl"
        exact ⟨d, 10000, k, rfl, hx d hdm, rfl, rfl⟩
      · repeat walk_at "dl"
        refine cw_all (bs := xs.map fun d => isAnn d 10000) (.same _) (by rw [List.map_map] <;> rfl) ?_
        repeat walk_at "dl"
        have ea : (xs.map fun d => isAnn d 10000).all id = xs.all fun d => isAnn d 10000 := by rw [List.all_map]; rfl
        rw [ea]
        by_cases h1 : (xs.all fun d => isAnn d 10000) = true
        · refine if_f (by rw [h1]; rfl) ?_
          repeat walk_at "dl"
          refine ew_lcM (α := Dt × Dt) (iw_zipT ?_)
          repeat walk_at "dl"
          rw [cut1D]
          refine ⟨fun p => .tup [p.1, p.2], List.zipWith (fun a b => (a, b)) xs (xs.drop 1), fun p => .bl (decide (timeD p.1 ≤ timeD p.2)), ?_, fun p e => (nomatch e), ?_, fun p hpm => ?_, ?_⟩
          · rw [List.map_zipWith]
          · rw [List.length_zipWith]; omega
          · obtain ⟨a, b⟩ := p
            have h1' := List.all_eq_true.mp h1
            have hm : a ∈ xs ∧ b ∈ xs := by
              obtain ⟨i, hi⟩ := List.mem_iff_getElem?.mp hpm
              rw [List.getElem?_zipWith] at hi
              cases e1 : xs[i]? with
              | none => rw [e1] at hi; cases hi
              | some a' =>
                cases e2 : (xs.drop 1)[i]? with
                | none => rw [e1, e2] at hi; cases hi
                | some b' =>
                  rw [e1, e2] at hi
                  cases hi
                  exact ⟨List.mem_of_getElem? e1, List.mem_of_mem_drop (List.mem_of_getElem? e2)⟩
            obtain ⟨t1, c1, n1, rfl, _⟩ := ann_time (h1' a hm.1)
            obtain ⟨t2, c2, n2, rfl, _⟩ := ann_time (h1' b hm.2)
            repeat walk_at "dl"
            refine rw_ixT_ atI_0 ?_
            repeat walk_at "dl"
            refine rw_ixT_ atI_0 ?_
            repeat walk_at "dl"
            exact ⟨rfl, rfl⟩
          · repeat walk_at "dl"
            refine cw_all (bs := (List.zipWith (fun a b => (a, b)) xs (xs.drop 1)).map fun p => decide (timeD p.1 ≤ timeD p.2)) (.same _) (by rw [List.map_map] <;> rfl) ?_
            have e : isLog (.tup xs) = ((List.zipWith (fun a b => (a, b)) xs (xs.drop 1)).map fun p => decide (timeD p.1 ≤ timeD p.2)).all id := by
              rw [List.all_map]
              have := sorted_zip (fun x y => decide (timeD x ≤ timeD y)) xs
              simp only [isLog, h1, decide_eq_true hl, Bool.true_and]
              rw [← this]
              rfl
            rw [← e]
            exact hp
        · have h1' : (xs.all fun d => isAnn d 10000) = false := by simpa using h1
          refine if_t (by rw [h1']; rfl) ?_
          have e : isLog (.tup xs) = false := by simp only [isLog, h1', Bool.and_false, Bool.false_and]
          rw [e] at hp
          repeat walk_at "dl"
          exact hp
    · refine if_t (decide_eq_true (by omega)) ?_
      have e : isLog (.tup xs) = false := by simp only [isLog, decide_eq_false hl, Bool.false_and]
      rw [e] at hp
      repeat walk_at "dl"
      exact hp
  · refine or_t (by rw [not_tup fun xs z => hd ⟨xs, z⟩]; rfl) ?_
    have e : isLog d = false := by
      cases d <;> first | rfl | exact absurd ⟨_, rfl⟩ hd
    rw [e] at hp
    repeat walk_at "dl"
    refine if_t rfl ?_
    repeat walk_at "dl"
    exact hp
def S_require_log : SpT := fun ds Oc Post => ∃ d n, ds = [d] ∧ gd n d = true ∧ isLog d = true ∧ Post .non Oc
theorem ok_require_log (T : Txt K mg A) : FnOk P w K mg base CX0 4 A.a_require_log A.d_require_log ["value"] (SpD K S_require_log) := by
  refine fn_ok T.F_require_log sc_require_log (fun ds Oc Post h => by obtain ⟨_, _, rfl, _⟩ := h; rfl) (fun cdv AA outer s H E hr => ?_)
  refine ⟨_, (pss_one (ps_if (pt_not (pt_val (pe_call (ok_is_log T) (hr.mono (by decide)) (by rfl) T.g_is_log T.F_is_log.kp (b_is_log T) .nil pass0 (pa_cons (pv 0) pa_nil)))) (pss_one ps_never) pss_nil)), fun ds Oc Post h => ?_⟩
  obtain ⟨d, n, rfl, hg, hl, hp⟩ := h
  repeat walk_at "dl"
  refine ew_call0 ?_
  repeat walk_at "dl"
  refine ⟨d, n, rfl, hg, ?_⟩
  repeat walk_at "dl"
  refine if_f (by rw [hl]; rfl) ?_
  repeat walk_at "dl"
  exact hp
def rule3 (z : Str) : Prop := z = "none" ∨ z = "place" ∨ z = "end"
def S_require_rule : SpT := fun ds Oc Post => ∃ z, ds = [.str z] ∧ rule3 z ∧ Post .non Oc
theorem ok_require_rule (T : Txt K mg A) : FnOk P w K mg base CX0 1 A.a_require_rule A.d_require_rule ["value"] (SpD K S_require_rule) := by
  refine fn_ok T.F_require_rule sc_require_rule (fun ds Oc Post h => by obtain ⟨_, rfl, _⟩ := h; rfl) (fun cdv AA outer s H E hr => ?_)
  refine ⟨_, (pss_one (ps_if (PW.pt (pw_or (pt_not (pt_val (pe_callB (isiK (K := K)) (by rfl) T.isinstance (by decide +kernel) (pa_cons (pv 0) (pa_cons (pe_bltn (v := .ty "str") (u := .type "str") (by rfl) T.str (by decide +kernel) rfl) pa_nil))))) (pw_or1 (pt_cmpR (notInK (K := K) hr.units) (pv 0) (pe_glob (v := .ref A.a_RULES) rfl T.g_RULES rfl) (by rfl))))) (pss_one ps_never) pss_nil)), fun ds Oc Post h => ?_⟩
  obtain ⟨z, rfl, hz, hp⟩ := h
  repeat walk_at "dl"
  refine cw_isi (.same _) rfl (.inr (.inr (.inl rfl))) ?_
  repeat walk_at "dl"
  refine or_f rfl ?_
  repeat walk_at "dl"
  refine ew_den (d := .tup [.str "none", .str "place", .str "end"]) (fun H B => .tup (T.c_RULES _) (.cons (.str _) (.cons (.str _) (.cons (.str _) .nil)))) ?_
  refine rwi_T rfl rfl ?_
  repeat walk_at "dl"
  refine if_f ?_ ?_
  · rcases hz with rfl | rfl | rfl <;> decide
  repeat walk_at "dl"
  exact hp
end
end DL
namespace DL
open PySem PySem.Spec PyProof.Rows L2
open Enc (enc)
local macro_rules | `(tactic| walk_at "dl") => `(tactic| first
  | (with_reducible_and_instances refine sw_seq ?_)
  | (with_reducible_and_instances refine sw_ret ?_)
  | (with_reducible_and_instances refine sw_retN ?_)
  | (with_reducible_and_instances refine sw_set ?_)
  | (with_reducible_and_instances refine sw_par ?_)
  | (with_reducible_and_instances refine sw_drop ?_)
  | (with_reducible_and_instances refine sw_next ?_)
  | (with_reducible_and_instances refine sw_break ?_)
  | (with_reducible_and_instances refine sw_if ?_)
  | (with_reducible_and_instances refine sw_asg ?_)
  | ((with_reducible_and_instances refine' ew_var ?hh ?kk); (case hh => rfl))
  | (with_reducible_and_instances refine ew_int ?_)
  | (with_reducible_and_instances refine ew_str ?_)
  | (with_reducible_and_instances refine ew_bl ?_)
  | (with_reducible_and_instances refine ew_non ?_)
  | (with_reducible_and_instances refine ew_raw (v := .ty _) ?_)
  | (with_reducible_and_instances refine ew_op ?_)
  | (with_reducible_and_instances refine ew_un ?_)
  | (with_reducible_and_instances refine ew_chain ?_)
  | (with_reducible_and_instances refine ew_andV ?_)
  | (with_reducible_and_instances refine ew_orV ?_)
  | (with_reducible_and_instances refine ew_notV ?_)
  | (with_reducible_and_instances refine ew_if ?_)
  | (with_reducible_and_instances refine ew_tup ?_)
  | (with_reducible_and_instances refine ew_cb ?_)
  | (with_reducible_and_instances refine ew_slA ?_)
  | (with_reducible_and_instances refine .inl ⟨_, rfl, ?_⟩)
  | (with_reducible_and_instances refine .inr ⟨_, .same _, ?_⟩)
  | (with_reducible_and_instances refine aw_cons ?_)
  | (with_reducible_and_instances refine aw_nil ?_)
  | (with_reducible_and_instances refine tw_test ?_)
  | (with_reducible_and_instances refine tw_B ?_)
  | (with_reducible_and_instances refine tw_and ?_)
  | (with_reducible_and_instances refine tw_or ?_)
  | (with_reducible_and_instances refine tw_not ?_)
  | (with_reducible_and_instances refine tw_yes ?_)
  | (with_reducible_and_instances refine pw_none ?_)
  | (with_reducible_and_instances refine pw_some ?_)
  | (with_reducible_and_instances refine rw_le ?_)
  | (with_reducible_and_instances refine rw_lt ?_)
  | (with_reducible_and_instances refine rw_gt ?_)
  | (with_reducible_and_instances refine rw_ge ?_)
  | (with_reducible_and_instances refine rw_sub ?_)
  | (with_reducible_and_instances refine uw_neg ?_)
  | (with_reducible_and_instances refine rwp_int ?_)
  | ((with_reducible_and_instances refine gw_name ?hj ?_); (case hj => first | exact trivial | decide))
  | (with_reducible_and_instances refine gsw_cons ?_)
  | (with_reducible_and_instances refine gsw_nil ?_)
  | (with_reducible_and_instances refine gw_tup rfl ?_)
  | (with_reducible_and_instances refine cw_max2 ?_)
  | (with_reducible_and_instances refine cw_min2 ?_)
  | (with_reducible_and_instances refine cw_lenT ?_)
  | (with_reducible_and_instances refine cw_lenR ?_)
  | (with_reducible_and_instances refine cw_lenL (.same _) ?_)
  | (with_reducible_and_instances refine cw_intB ?_)
  | (with_reducible_and_instances refine ⟨_, rfl, ?_⟩)
  | (with_reducible_and_instances refine ⟨_, _, rfl, ?_⟩)
  | (refine ⟨Nat.le_trans (by simp) (Nat.le_of_lt (small1000 (n := 1000) (by decide))), ?_⟩))
local macro_rules | `(tactic| walk_at "dx") => `(tactic| first
  | (with_reducible_and_instances refine sw_seq ?_)
  | (with_reducible_and_instances refine sw_ret ?_)
  | (with_reducible_and_instances refine sw_retN ?_)
  | (with_reducible_and_instances refine sw_set ?_)
  | (with_reducible_and_instances refine sw_par ?_)
  | (with_reducible_and_instances refine sw_drop ?_)
  | (with_reducible_and_instances refine sw_next ?_)
  | (with_reducible_and_instances refine sw_break ?_)
  | (with_reducible_and_instances refine sw_asg ?_)
  | ((with_reducible_and_instances refine' ew_var ?hh ?kk); (case hh => rfl))
  | (with_reducible_and_instances refine ew_int ?_)
  | (with_reducible_and_instances refine ew_str ?_)
  | (with_reducible_and_instances refine ew_bl ?_)
  | (with_reducible_and_instances refine ew_non ?_)
  | (with_reducible_and_instances refine ew_raw (v := .ty _) ?_)
  | (with_reducible_and_instances refine ew_op ?_)
  | (with_reducible_and_instances refine ew_un ?_)
  | (with_reducible_and_instances refine ew_chain ?_)
  | (with_reducible_and_instances refine ew_andV ?_)
  | (with_reducible_and_instances refine ew_orV ?_)
  | (with_reducible_and_instances refine ew_notV ?_)
  | (with_reducible_and_instances refine ew_if ?_)
  | (with_reducible_and_instances refine ew_tup ?_)
  | (with_reducible_and_instances refine ew_cb ?_)
  | (with_reducible_and_instances refine ew_slA ?_)
  | (with_reducible_and_instances refine .inl ⟨_, rfl, ?_⟩)
  | (with_reducible_and_instances refine .inr ⟨_, .same _, ?_⟩)
  | (with_reducible_and_instances refine aw_cons ?_)
  | (with_reducible_and_instances refine aw_nil ?_)
  | (with_reducible_and_instances refine tw_test ?_)
  | (with_reducible_and_instances refine tw_B ?_)
  | (with_reducible_and_instances refine tw_and ?_)
  | (with_reducible_and_instances refine tw_or ?_)
  | (with_reducible_and_instances refine tw_not ?_)
  | (with_reducible_and_instances refine tw_yes ?_)
  | (with_reducible_and_instances refine pw_none ?_)
  | (with_reducible_and_instances refine pw_some ?_)
  | (with_reducible_and_instances refine rw_le ?_)
  | (with_reducible_and_instances refine rw_lt ?_)
  | (with_reducible_and_instances refine rw_gt ?_)
  | (with_reducible_and_instances refine rw_ge ?_)
  | (with_reducible_and_instances refine rw_sub ?_)
  | (with_reducible_and_instances refine uw_neg ?_)
  | (with_reducible_and_instances refine rwp_int ?_)
  | ((with_reducible_and_instances refine gw_name ?hj ?_); (case hj => first | exact trivial | decide))
  | (with_reducible_and_instances refine gsw_cons ?_)
  | (with_reducible_and_instances refine gsw_nil ?_)
  | (with_reducible_and_instances refine gw_tup rfl ?_)
  | (with_reducible_and_instances refine cw_max2 ?_)
  | (with_reducible_and_instances refine cw_min2 ?_)
  | (with_reducible_and_instances refine cw_lenT ?_)
  | (with_reducible_and_instances refine cw_lenR ?_)
  | (with_reducible_and_instances refine cw_lenL (.same _) ?_)
  | (with_reducible_and_instances refine cw_intB ?_)
  | (with_reducible_and_instances refine ⟨_, rfl, ?_⟩)
  | (with_reducible_and_instances refine ⟨_, _, rfl, ?_⟩)
  | (refine ⟨Nat.le_trans (by simp) (Nat.le_of_lt (small1000 (n := 1000) (by decide))), ?_⟩))
local macro_rules | `(tactic| walk_at "dn") => `(tactic| first
  | (with_reducible_and_instances refine sw_ret ?_)
  | (with_reducible_and_instances refine sw_retN ?_)
  | (with_reducible_and_instances refine sw_set ?_)
  | (with_reducible_and_instances refine sw_par ?_)
  | (with_reducible_and_instances refine sw_drop ?_)
  | (with_reducible_and_instances refine sw_next ?_)
  | (with_reducible_and_instances refine sw_break ?_)
  | (with_reducible_and_instances refine sw_asg ?_)
  | ((with_reducible_and_instances refine' ew_var ?hh ?kk); (case hh => rfl))
  | (with_reducible_and_instances refine ew_int ?_)
  | (with_reducible_and_instances refine ew_str ?_)
  | (with_reducible_and_instances refine ew_bl ?_)
  | (with_reducible_and_instances refine ew_non ?_)
  | (with_reducible_and_instances refine ew_raw (v := .ty _) ?_)
  | (with_reducible_and_instances refine ew_op ?_)
  | (with_reducible_and_instances refine ew_un ?_)
  | (with_reducible_and_instances refine ew_chain ?_)
  | (with_reducible_and_instances refine ew_andV ?_)
  | (with_reducible_and_instances refine ew_orV ?_)
  | (with_reducible_and_instances refine ew_notV ?_)
  | (with_reducible_and_instances refine ew_if ?_)
  | (with_reducible_and_instances refine ew_tup ?_)
  | (with_reducible_and_instances refine ew_cb ?_)
  | (with_reducible_and_instances refine ew_slA ?_)
  | (with_reducible_and_instances refine .inl ⟨_, rfl, ?_⟩)
  | (with_reducible_and_instances refine .inr ⟨_, .same _, ?_⟩)
  | (with_reducible_and_instances refine aw_cons ?_)
  | (with_reducible_and_instances refine aw_nil ?_)
  | (with_reducible_and_instances refine tw_test ?_)
  | (with_reducible_and_instances refine tw_B ?_)
  | (with_reducible_and_instances refine tw_and ?_)
  | (with_reducible_and_instances refine tw_or ?_)
  | (with_reducible_and_instances refine tw_not ?_)
  | (with_reducible_and_instances refine tw_yes ?_)
  | (with_reducible_and_instances refine pw_none ?_)
  | (with_reducible_and_instances refine pw_some ?_)
  | (with_reducible_and_instances refine rw_le ?_)
  | (with_reducible_and_instances refine rw_lt ?_)
  | (with_reducible_and_instances refine rw_gt ?_)
  | (with_reducible_and_instances refine rw_ge ?_)
  | (with_reducible_and_instances refine rw_sub ?_)
  | (with_reducible_and_instances refine uw_neg ?_)
  | (with_reducible_and_instances refine rwp_int ?_)
  | ((with_reducible_and_instances refine gw_name ?hj ?_); (case hj => first | exact trivial | decide))
  | (with_reducible_and_instances refine gsw_cons ?_)
  | (with_reducible_and_instances refine gsw_nil ?_)
  | (with_reducible_and_instances refine gw_tup rfl ?_)
  | (with_reducible_and_instances refine cw_max2 ?_)
  | (with_reducible_and_instances refine cw_min2 ?_)
  | (with_reducible_and_instances refine cw_lenT ?_)
  | (with_reducible_and_instances refine cw_lenR ?_)
  | (with_reducible_and_instances refine cw_lenL (.same _) ?_)
  | (with_reducible_and_instances refine cw_intB ?_)
  | (with_reducible_and_instances refine ⟨_, rfl, ?_⟩)
  | (with_reducible_and_instances refine ⟨_, _, rfl, ?_⟩)
  | (refine ⟨Nat.le_trans (by simp) (Nat.le_of_lt (small1000 (n := 1000) (by decide))), ?_⟩))
/-! ### speaking.py: what the program reckons -/
abbrev An := T3 Int Str Int
abbrev Pr := T2 Nat Nat
def topAt (L : List An) (k : Nat) : Str := match L[k]? with
  | some a => a.b
  | none => ""
def timAt (L : List An) (k : Nat) : Int := match L[k]? with
  | some a => a.a
  | none => 0
def lnAt (L : List An) (k : Nat) : Int := match L[k]? with
  | some a => a.c
  | none => 0
def rcv (r : Str) (L : List An) (line : List Pr) (k : Nat) : List Pr :=
  match line.filter fun p => decide (topAt L p.b = topAt L k) with
  | [] => line ++ [⟨k, k⟩]
  | p0 :: _ =>
    if r = "none" then line ++ [⟨k, k⟩]
    else if r = "place" then line.map fun p => if p = p0 then ⟨p0.a, k⟩ else p
    else line.filter (fun p => !decide (p = p0)) ++ [⟨p0.a, k⟩]
theorem topAt_get {L : List An} {k : Nat} (h : k < L.length) : topAt L k = L[k].b := by unfold topAt; rw [List.getElem?_eq_getElem h]
theorem timAt_get {L : List An} {k : Nat} (h : k < L.length) : timAt L k = L[k].a := by unfold timAt; rw [List.getElem?_eq_getElem h]
theorem lnAt_get {L : List An} {k : Nat} (h : k < L.length) : lnAt L k = L[k].c := by unfold lnAt; rw [List.getElem?_eq_getElem h]
def Fits (L : List An) (line : List Pr) : Prop := ∀ p ∈ line, p.a < L.length ∧ p.b < L.length
def S_received : SpT := fun ds Oc Post => ∃ (line : List Pr) (L : List An) (k : Nat) (r : Str), ds = [encL line, encU L, enc k, enc r] ∧ k < L.length ∧ Fits L line ∧ line.length ≤ 1000 ∧ Post (encL (rcv r L line k)) Oc
section
variable {P : Program} {w : World} {K : PySem.W.Frag} {mg : Str → Option Value} {base : Heap} {A : Ad}
theorem ok_received (T : Txt K mg A) : FnOk P w K mg base CX0 1 A.a_received A.d_received ["line", "log", "index", "rule"] (SpD K S_received) := by
  refine fn_ok T.F_received sc_received (fun ds Oc Post h => by obtain ⟨_, _, _, _, rfl, _⟩ := h; rfl) (fun cdv AA outer s H E hr => ?_)
  refine ⟨_, (pss_cons (ps_set (i := 4) sc_received.nd rfl (.inr rfl) (pe_lc (own := [("pair", 6)]) rfl sc_received.nd (seqK (K := K) (pv 0)) (blkOk_by (N := ["line", "log", "index", "rule", "same", "renewed", "pair"]) (sc := defScope s_received) (by decide +kernel)) (fun _ _ _ _ _ => (pg_name (i := 6) sc_received.nd rfl (.inl rfl))) (fun _ _ _ _ _ => (pts_one (pt_cmpR (eqK (K := K) hr.units) (pe_ix (ixK (K := K)) (pe_ix (ixK (K := K)) (pv 1) (pe_ix (ixK (K := K)) (pv 6) pe_int (fun _ _ => rfl)) (fun _ _ => rfl)) pe_int (fun _ _ => rfl)) (pe_ix (ixK (K := K)) (pe_ix (ixK (K := K)) (pv 1) (pv 2) (fun _ _ => rfl)) pe_int (fun _ _ => rfl)) (nomark _)))) (fun _ _ _ _ _ => (pv 6))))
  (pss_cons (ps_if (PW.pt (pw_or (pt_cmpR (eqK (K := K) hr.units) (pv 3) pe_str (nomark _)) (pw_or1 (pt_cmpR (eqK (K := K) hr.units) (pv 4) (pe_lst pa_nil) (nomark _))))) (pss_one (ps_ret (pe_op (plusK (K := K)) (pv 0) (pe_lst (pa_cons (pe_tup (pa_cons (pv 2) (pa_cons (pv 2) pa_nil))) pa_nil))))) pss_nil)
  (pss_cons (ps_set (i := 5) sc_received.nd rfl (.inr rfl) (pe_tup (pa_cons (pe_ix (ixK (K := K)) (pe_ix (ixK (K := K)) (pv 4) pe_int (fun _ _ => rfl)) pe_int (fun _ _ => rfl)) (pa_cons (pv 2) pa_nil))))
  (pss_cons (ps_if (pt_cmpR (eqK (K := K) hr.units) (pv 3) pe_str (nomark _)) (pss_one (ps_ret (pe_lc (own := [("pair", 6)]) rfl sc_received.nd (seqK (K := K) (pv 0)) (blkOk_by (N := ["line", "log", "index", "rule", "same", "renewed", "pair"]) (sc := defScope s_received) (by decide +kernel)) (fun _ _ _ _ _ => (pg_name (i := 6) sc_received.nd rfl (.inl rfl))) (fun _ _ _ _ _ => pts_nil) (fun _ _ _ _ _ => (pe_ifExp (pt_cmpR (eqK (K := K) hr.units) (pv 6) (pe_ix (ixK (K := K)) (pv 4) pe_int (fun _ _ => rfl)) (nomark _)) (pv 5) (pv 6)))))) pss_nil)
  (pss_one (ps_ret (pe_op (plusK (K := K)) (pe_lc (own := [("pair", 6)]) rfl sc_received.nd (seqK (K := K) (pv 0)) (blkOk_by (N := ["line", "log", "index", "rule", "same", "renewed", "pair"]) (sc := defScope s_received) (by decide +kernel)) (fun _ _ _ _ _ => (pg_name (i := 6) sc_received.nd rfl (.inl rfl))) (fun _ _ _ _ _ => (pts_one (pt_cmpR (neK (K := K) hr.units) (pv 6) (pe_ix (ixK (K := K)) (pv 4) pe_int (fun _ _ => rfl)) (nomark _)))) (fun _ _ _ _ _ => (pv 6))) (pe_lst (pa_cons (pv 5) pa_nil))))))))), fun ds Oc Post h => ?_⟩
  obtain ⟨line, L, k, r, rfl, hk, hf, hl, hp⟩ := h
  repeat walk_at "dl"
  refine ew_lcP (α := Pr) (iws_lst ?_)
  repeat walk_at "dl"
  refine ⟨enc, line, fun p => decide (topAt L p.b = topAt L k), enc, rfl, fun p e => (nomatch e), by omega, fun p hpm => ?_, ?_⟩
  · obtain ⟨h1, h2⟩ := hf p hpm
    repeat walk_at "dl"
    refine rw_ixT_ atI_1 ?_
    refine rw_ixT_ (atI_map h2) ?_
    repeat walk_at "dl"
    refine rw_ixT_ atI_1 ?_
    repeat walk_at "dl"
    refine rw_ixT_ (atI_map hk) ?_
    repeat walk_at "dl"
    refine rw_ixT_ atI_1 ?_
    refine rw_eqE (L[p.b].b) (L[k].b) (.same _) (.same _) ?_
    repeat walk_at "dl"
    have e : decide (L[p.b].b = L[k].b) = decide (topAt L p.b = topAt L k) := by rw [topAt_get h2, topAt_get hk]
    rw [e]
    refine ⟨fun z => ?_, fun z => ⟨rfl, z⟩⟩
    repeat walk_at "dl"
    exact ⟨rfl, z, rfl⟩
  · unfold rcv at hp
    have hbig : line.length + 1 ≤ sizeLine := Nat.le_of_lt (Nat.lt_of_le_of_lt (Nat.succ_le_succ hl) (by decide))
    -- return line + [(index, index)]
    have fin : ∀ Γ : Gm, Γ[0]? = some (some (encL line)) → Γ[2]? = some (some (enc k)) → Post (encL (line ++ [⟨k, k⟩])) Oc → EW K (tOp (rPlus K) (tVar 0) (tLst (tCons (tTup (tCons (tVar 2) (tCons (tVar 2) tNil))) tNil))) Γ Oc Post := fun Γ g0 g2 hp => by
      refine ew_op (ew_var g0 ?_)
      refine ew_lst ?_
      repeat walk_at "dl"
      refine ew_var g2 ?_
      repeat walk_at "dl"
      refine ew_var g2 ?_
      repeat walk_at "dl"
      refine rwp_lst (.same _) (.same _) (by simpa using hbig) ?_
      have e : Dt.lst (line.map enc ++ [Dt.tup [enc k, enc k]]) = encL (line ++ [⟨k, k⟩]) := by unfold encL; rw [List.map_append]; rfl
      rw [e]
      exact hp
    cases hq : line.filter fun p => decide (topAt L p.b = topAt L k) with
    | nil =>
      rw [hq] at hp
      have hp : Post (encL (line ++ [⟨k, k⟩])) Oc := hp
      repeat walk_at "dl"
      refine rw_eqE r "none" (.same _) (.same _) ?_
      repeat walk_at "dl"
      by_cases hn : r = "none"
      · refine or_t (decide_eq_true hn) (if_t rfl ?_)
        exact sw_ret (fin _ rfl rfl hp)
      · refine or_f (decide_eq_false hn) ?_
        repeat walk_at "dl"
        refine ew_lst ?_
        repeat walk_at "dl"
        refine rw_eqE ([] : List Pr) [] (.same _) (.same _) ?_
        refine ⟨_, rfl, if_t rfl ?_⟩
        exact sw_ret (fin _ rfl rfl hp)
    | cons p0 ps =>
      rw [hq] at hp
      have hp : Post (encL (if r = "none" then line ++ [⟨k, k⟩] else if r = "place" then line.map fun p => if p = p0 then ⟨p0.a, k⟩ else p else line.filter (fun p => !decide (p = p0)) ++ [⟨p0.a, k⟩])) Oc := hp
      repeat walk_at "dl"
      refine rw_eqE r "none" (.same _) (.same _) ?_
      repeat walk_at "dl"
      by_cases hn : r = "none"
      · rw [if_pos hn] at hp
        refine or_t (decide_eq_true hn) (if_t rfl ?_)
        exact sw_ret (fin _ rfl rfl hp)
      · rw [if_neg hn] at hp
        refine or_f (decide_eq_false hn) ?_
        repeat walk_at "dl"
        refine ew_lst ?_
        repeat walk_at "dl"
        refine rw_eqE (p0 :: ps) [] (.same _) (.same _) ?_
        refine ⟨_, rfl, if_f rfl ?_⟩
        repeat walk_at "dl"
        refine rw_ixL (.same _) atI_0 ?_
        repeat walk_at "dl"
        refine rw_ixT_ atI_0 ?_
        repeat walk_at "dl"
        refine rw_eqE r "place" (.same _) (.same _) ?_
        refine ⟨_, rfl, ?_⟩
        by_cases hpl : r = "place"
        · rw [if_pos hpl] at hp
          refine if_t (decide_eq_true hpl) ?_
          refine sw_ret ?_
          refine ew_lcM (α := Pr) (iws_lst ?_)
          repeat walk_at "dl"
          refine ⟨enc, line, fun p => enc (if p = p0 then (⟨p0.a, k⟩ : Pr) else p), rfl, fun p e => (nomatch e), by omega, fun p hpm => ?_, ?_⟩
          · repeat walk_at "dl"
            refine rw_ixL (.same _) atI_0 ?_
            refine rw_eqE p p0 (.same _) (.same _) ?_
            refine ⟨_, rfl, ⟨fun z => ?_, fun z => ?_⟩⟩
            · repeat walk_at "dl"
              refine ⟨rfl, ?_⟩
              show _ = enc (if p = p0 then (⟨p0.a, k⟩ : Pr) else p)
              rw [if_pos (of_decide_eq_true z)] <;> rfl
            · repeat walk_at "dl"
              refine ⟨rfl, ?_⟩
              show _ = enc (if p = p0 then (⟨p0.a, k⟩ : Pr) else p)
              rw [if_neg (of_decide_eq_false z)]
          · have e : Dt.lst (line.map fun p => enc (if p = p0 then (⟨p0.a, k⟩ : Pr) else p)) = encL (line.map fun p => if p = p0 then (⟨p0.a, k⟩ : Pr) else p) := by unfold encL; rw [List.map_map]; rfl
            rw [e]
            exact hp
        · rw [if_neg hpl] at hp
          refine if_f (decide_eq_false hpl) ?_
          repeat walk_at "dl"
          refine ew_lcP (α := Pr) (iws_lst ?_)
          repeat walk_at "dl"
          refine ⟨enc, line, fun p => !decide (p = p0), enc, rfl, fun p e => (nomatch e), by omega, fun p hpm => ?_, ?_⟩
          · repeat walk_at "dl"
            refine rw_ixL (.same _) atI_0 ?_
            refine rw_neE p p0 (.same _) (.same _) ?_
            refine ⟨_, rfl, ⟨fun z => ?_, fun z => ⟨rfl, z⟩⟩⟩
            repeat walk_at "dl"
            exact ⟨rfl, z, rfl⟩
          · refine ew_lst ?_
            repeat walk_at "dl"
            refine rwp_lst (.same _) (.same _) ?_ ?_
            · have h1 := List.length_filter_le (fun p => !decide (p = p0)) line
              simp only [List.length_map, List.length_cons, List.length_nil]
              omega
            · have e : Dt.lst ((line.filter fun p => !decide (p = p0)).map enc ++ [Dt.tup [enc p0.a, enc k]]) = encL (line.filter (fun p => !decide (p = p0)) ++ [⟨p0.a, k⟩]) := by unfold encL; rw [List.map_append]; rfl
              rw [← e] at hp
              exact hp
end
end DL
namespace DL
open PySem PySem.Spec PyProof.Rows L2
open Enc (enc)
local macro_rules | `(tactic| walk_at "dl") => `(tactic| first
  | (with_reducible_and_instances refine sw_seq ?_)
  | (with_reducible_and_instances refine sw_ret ?_)
  | (with_reducible_and_instances refine sw_retN ?_)
  | (with_reducible_and_instances refine sw_set ?_)
  | (with_reducible_and_instances refine sw_par ?_)
  | (with_reducible_and_instances refine sw_drop ?_)
  | (with_reducible_and_instances refine sw_next ?_)
  | (with_reducible_and_instances refine sw_break ?_)
  | (with_reducible_and_instances refine sw_if ?_)
  | (with_reducible_and_instances refine sw_asg ?_)
  | ((with_reducible_and_instances refine' ew_var ?hh ?kk); (case hh => rfl))
  | (with_reducible_and_instances refine ew_int ?_)
  | (with_reducible_and_instances refine ew_str ?_)
  | (with_reducible_and_instances refine ew_bl ?_)
  | (with_reducible_and_instances refine ew_non ?_)
  | (with_reducible_and_instances refine ew_raw (v := .ty _) ?_)
  | (with_reducible_and_instances refine ew_op ?_)
  | (with_reducible_and_instances refine ew_un ?_)
  | (with_reducible_and_instances refine ew_chain ?_)
  | (with_reducible_and_instances refine ew_andV ?_)
  | (with_reducible_and_instances refine ew_orV ?_)
  | (with_reducible_and_instances refine ew_notV ?_)
  | (with_reducible_and_instances refine ew_if ?_)
  | (with_reducible_and_instances refine ew_tup ?_)
  | (with_reducible_and_instances refine ew_cb ?_)
  | (with_reducible_and_instances refine ew_slA ?_)
  | (with_reducible_and_instances refine .inl ⟨_, rfl, ?_⟩)
  | (with_reducible_and_instances refine .inr ⟨_, .same _, ?_⟩)
  | (with_reducible_and_instances refine aw_cons ?_)
  | (with_reducible_and_instances refine aw_nil ?_)
  | (with_reducible_and_instances refine tw_test ?_)
  | (with_reducible_and_instances refine tw_B ?_)
  | (with_reducible_and_instances refine tw_and ?_)
  | (with_reducible_and_instances refine tw_or ?_)
  | (with_reducible_and_instances refine tw_not ?_)
  | (with_reducible_and_instances refine tw_yes ?_)
  | (with_reducible_and_instances refine pw_none ?_)
  | (with_reducible_and_instances refine pw_some ?_)
  | (with_reducible_and_instances refine rw_le ?_)
  | (with_reducible_and_instances refine rw_lt ?_)
  | (with_reducible_and_instances refine rw_gt ?_)
  | (with_reducible_and_instances refine rw_ge ?_)
  | (with_reducible_and_instances refine rw_sub ?_)
  | (with_reducible_and_instances refine uw_neg ?_)
  | (with_reducible_and_instances refine rwp_int ?_)
  | ((with_reducible_and_instances refine gw_name ?hj ?_); (case hj => first | exact trivial | decide))
  | (with_reducible_and_instances refine gsw_cons ?_)
  | (with_reducible_and_instances refine gsw_nil ?_)
  | (with_reducible_and_instances refine gw_tup rfl ?_)
  | (with_reducible_and_instances refine cw_max2 ?_)
  | (with_reducible_and_instances refine cw_min2 ?_)
  | (with_reducible_and_instances refine cw_lenT ?_)
  | (with_reducible_and_instances refine cw_lenR ?_)
  | (with_reducible_and_instances refine cw_lenL (.same _) ?_)
  | (with_reducible_and_instances refine cw_intB ?_)
  | (with_reducible_and_instances refine ⟨_, rfl, ?_⟩)
  | (with_reducible_and_instances refine ⟨_, _, rfl, ?_⟩)
  | (refine ⟨Nat.le_trans (by simp) (Nat.le_of_lt (small1000 (n := 1000) (by decide))), ?_⟩))
local macro_rules | `(tactic| walk_at "dx") => `(tactic| first
  | (with_reducible_and_instances refine sw_seq ?_)
  | (with_reducible_and_instances refine sw_ret ?_)
  | (with_reducible_and_instances refine sw_retN ?_)
  | (with_reducible_and_instances refine sw_set ?_)
  | (with_reducible_and_instances refine sw_par ?_)
  | (with_reducible_and_instances refine sw_drop ?_)
  | (with_reducible_and_instances refine sw_next ?_)
  | (with_reducible_and_instances refine sw_break ?_)
  | (with_reducible_and_instances refine sw_asg ?_)
  | ((with_reducible_and_instances refine' ew_var ?hh ?kk); (case hh => rfl))
  | (with_reducible_and_instances refine ew_int ?_)
  | (with_reducible_and_instances refine ew_str ?_)
  | (with_reducible_and_instances refine ew_bl ?_)
  | (with_reducible_and_instances refine ew_non ?_)
  | (with_reducible_and_instances refine ew_raw (v := .ty _) ?_)
  | (with_reducible_and_instances refine ew_op ?_)
  | (with_reducible_and_instances refine ew_un ?_)
  | (with_reducible_and_instances refine ew_chain ?_)
  | (with_reducible_and_instances refine ew_andV ?_)
  | (with_reducible_and_instances refine ew_orV ?_)
  | (with_reducible_and_instances refine ew_notV ?_)
  | (with_reducible_and_instances refine ew_if ?_)
  | (with_reducible_and_instances refine ew_tup ?_)
  | (with_reducible_and_instances refine ew_cb ?_)
  | (with_reducible_and_instances refine ew_slA ?_)
  | (with_reducible_and_instances refine .inl ⟨_, rfl, ?_⟩)
  | (with_reducible_and_instances refine .inr ⟨_, .same _, ?_⟩)
  | (with_reducible_and_instances refine aw_cons ?_)
  | (with_reducible_and_instances refine aw_nil ?_)
  | (with_reducible_and_instances refine tw_test ?_)
  | (with_reducible_and_instances refine tw_B ?_)
  | (with_reducible_and_instances refine tw_and ?_)
  | (with_reducible_and_instances refine tw_or ?_)
  | (with_reducible_and_instances refine tw_not ?_)
  | (with_reducible_and_instances refine tw_yes ?_)
  | (with_reducible_and_instances refine pw_none ?_)
  | (with_reducible_and_instances refine pw_some ?_)
  | (with_reducible_and_instances refine rw_le ?_)
  | (with_reducible_and_instances refine rw_lt ?_)
  | (with_reducible_and_instances refine rw_gt ?_)
  | (with_reducible_and_instances refine rw_ge ?_)
  | (with_reducible_and_instances refine rw_sub ?_)
  | (with_reducible_and_instances refine uw_neg ?_)
  | (with_reducible_and_instances refine rwp_int ?_)
  | ((with_reducible_and_instances refine gw_name ?hj ?_); (case hj => first | exact trivial | decide))
  | (with_reducible_and_instances refine gsw_cons ?_)
  | (with_reducible_and_instances refine gsw_nil ?_)
  | (with_reducible_and_instances refine gw_tup rfl ?_)
  | (with_reducible_and_instances refine cw_max2 ?_)
  | (with_reducible_and_instances refine cw_min2 ?_)
  | (with_reducible_and_instances refine cw_lenT ?_)
  | (with_reducible_and_instances refine cw_lenR ?_)
  | (with_reducible_and_instances refine cw_lenL (.same _) ?_)
  | (with_reducible_and_instances refine cw_intB ?_)
  | (with_reducible_and_instances refine ⟨_, rfl, ?_⟩)
  | (with_reducible_and_instances refine ⟨_, _, rfl, ?_⟩)
  | (refine ⟨Nat.le_trans (by simp) (Nat.le_of_lt (small1000 (n := 1000) (by decide))), ?_⟩))
local macro_rules | `(tactic| walk_at "dn") => `(tactic| first
  | (with_reducible_and_instances refine sw_ret ?_)
  | (with_reducible_and_instances refine sw_retN ?_)
  | (with_reducible_and_instances refine sw_set ?_)
  | (with_reducible_and_instances refine sw_par ?_)
  | (with_reducible_and_instances refine sw_drop ?_)
  | (with_reducible_and_instances refine sw_next ?_)
  | (with_reducible_and_instances refine sw_break ?_)
  | (with_reducible_and_instances refine sw_asg ?_)
  | ((with_reducible_and_instances refine' ew_var ?hh ?kk); (case hh => rfl))
  | (with_reducible_and_instances refine ew_int ?_)
  | (with_reducible_and_instances refine ew_str ?_)
  | (with_reducible_and_instances refine ew_bl ?_)
  | (with_reducible_and_instances refine ew_non ?_)
  | (with_reducible_and_instances refine ew_raw (v := .ty _) ?_)
  | (with_reducible_and_instances refine ew_op ?_)
  | (with_reducible_and_instances refine ew_un ?_)
  | (with_reducible_and_instances refine ew_chain ?_)
  | (with_reducible_and_instances refine ew_andV ?_)
  | (with_reducible_and_instances refine ew_orV ?_)
  | (with_reducible_and_instances refine ew_notV ?_)
  | (with_reducible_and_instances refine ew_if ?_)
  | (with_reducible_and_instances refine ew_tup ?_)
  | (with_reducible_and_instances refine ew_cb ?_)
  | (with_reducible_and_instances refine ew_slA ?_)
  | (with_reducible_and_instances refine .inl ⟨_, rfl, ?_⟩)
  | (with_reducible_and_instances refine .inr ⟨_, .same _, ?_⟩)
  | (with_reducible_and_instances refine aw_cons ?_)
  | (with_reducible_and_instances refine aw_nil ?_)
  | (with_reducible_and_instances refine tw_test ?_)
  | (with_reducible_and_instances refine tw_B ?_)
  | (with_reducible_and_instances refine tw_and ?_)
  | (with_reducible_and_instances refine tw_or ?_)
  | (with_reducible_and_instances refine tw_not ?_)
  | (with_reducible_and_instances refine tw_yes ?_)
  | (with_reducible_and_instances refine pw_none ?_)
  | (with_reducible_and_instances refine pw_some ?_)
  | (with_reducible_and_instances refine rw_le ?_)
  | (with_reducible_and_instances refine rw_lt ?_)
  | (with_reducible_and_instances refine rw_gt ?_)
  | (with_reducible_and_instances refine rw_ge ?_)
  | (with_reducible_and_instances refine rw_sub ?_)
  | (with_reducible_and_instances refine uw_neg ?_)
  | (with_reducible_and_instances refine rwp_int ?_)
  | ((with_reducible_and_instances refine gw_name ?hj ?_); (case hj => first | exact trivial | decide))
  | (with_reducible_and_instances refine gsw_cons ?_)
  | (with_reducible_and_instances refine gsw_nil ?_)
  | (with_reducible_and_instances refine gw_tup rfl ?_)
  | (with_reducible_and_instances refine cw_max2 ?_)
  | (with_reducible_and_instances refine cw_min2 ?_)
  | (with_reducible_and_instances refine cw_lenT ?_)
  | (with_reducible_and_instances refine cw_lenR ?_)
  | (with_reducible_and_instances refine cw_lenL (.same _) ?_)
  | (with_reducible_and_instances refine cw_intB ?_)
  | (with_reducible_and_instances refine ⟨_, rfl, ?_⟩)
  | (with_reducible_and_instances refine ⟨_, _, rfl, ?_⟩)
  | (refine ⟨Nat.le_trans (by simp) (Nat.le_of_lt (small1000 (n := 1000) (by decide))), ?_⟩))
/-! ### played: what it reckons -/
abbrev Bg := T3 Int Nat Nat
def rcvTo (r : Str) (L : List An) (now : Int) : Nat → List Pr → Nat → List Pr × Nat
  | 0, line, done => (line, done)
  | f + 1, line, done => if done < L.length ∧ timAt L done ≤ now then rcvTo r L now f (rcv r L line done) (done + 1) else (line, done)
def rcvAll (r : Str) (L : List An) (now : Int) (line : List Pr) (done : Nat) : List Pr × Nat := rcvTo r L now (L.length - done) line done
theorem rcvAll_go {r : Str} {L : List An} {now : Int} {line : List Pr} {done : Nat} (h1 : done < L.length) (h2 : timAt L done ≤ now) : rcvAll r L now line done = rcvAll r L now (rcv r L line done) (done + 1) := by
  unfold rcvAll
  obtain ⟨f, hf⟩ : ∃ f, L.length - done = f + 1 := ⟨L.length - done - 1, by omega⟩
  rw [hf, show L.length - (done + 1) = f by omega]
  show (if _ then _ else _) = _
  rw [if_pos ⟨h1, h2⟩]
theorem rcvAll_stop {r : Str} {L : List An} {now : Int} {line : List Pr} {done : Nat} (h : ¬ (done < L.length ∧ timAt L done ≤ now)) : rcvAll r L now line done = (line, done) := by
  unfold rcvAll
  cases hf : L.length - done with
  | zero => rfl
  | succ f =>
    show (if _ then _ else _) = _
    rw [if_neg h]
theorem rcv_len (r : Str) (L : List An) (line : List Pr) (k : Nat) : (rcv r L line k).length ≤ line.length + 1 := by
  unfold rcv
  split
  · simp
  · split
    · simp
    · split
      · simp
      · rename_i p0 _ _ _ _
        have := List.length_filter_le (fun p => !decide (p = p0)) line
        simp only [List.length_append, List.length_cons, List.length_nil]
        exact Nat.succ_le_succ (List.length_filter_le _ _)
theorem rcv_ne (r : Str) (L : List An) (line : List Pr) (k : Nat) : rcv r L line k ≠ [] := by
  unfold rcv
  split
  · simp
  · rename_i p0 ps hq
    have hm : p0 ∈ line := (List.mem_filter.mp (by rw [hq]; exact List.mem_cons_self)).1
    split
    · simp
    · split
      · intro e
        rw [List.map_eq_nil_iff] at e
        rw [e] at hm
        cases hm
      · simp
theorem rcv_fits {r : Str} {L : List An} {line : List Pr} {k : Nat} (hk : k < L.length) (h : Fits L line) : Fits L (rcv r L line k) := by
  unfold rcv
  split
  · intro p hp
    rcases List.mem_append.mp hp with hp | hp
    · exact h p hp
    · simp at hp; subst hp; exact ⟨hk, hk⟩
  · rename_i p0 ps hq
    have hm : p0 ∈ line := (List.mem_filter.mp (by rw [hq]; exact List.mem_cons_self)).1
    split
    · intro p hp
      rcases List.mem_append.mp hp with hp | hp
      · exact h p hp
      · simp at hp; subst hp; exact ⟨hk, hk⟩
    · split
      · intro p hp
        obtain ⟨q, hq, rfl⟩ := List.mem_map.mp hp
        split
        · exact ⟨(h p0 hm).1, hk⟩
        · exact h q hq
      · intro p hp
        rcases List.mem_append.mp hp with hp | hp
        · exact h p (List.mem_filter.mp hp).1
        · simp at hp; subst hp; exact ⟨(h p0 hm).1, hk⟩
/-- what the inner loop keeps -/
structure Rk (L : List An) (line : List Pr) (done : Nat) (line' : List Pr) (done' : Nat) : Prop where
  fits : Fits L line'
  le : done ≤ done'
  top : done' ≤ L.length
  mu : line'.length + (L.length - done') ≤ line.length + (L.length - done)
  len : line'.length + done ≤ line.length + done'
  ne : line ≠ [] → line' ≠ []
theorem Rk.refl {L : List An} {line : List Pr} {done : Nat} (h : Fits L line) (hd : done ≤ L.length) : Rk L line done line done := ⟨h, Nat.le_refl _, hd, Nat.le_refl _, Nat.le_refl _, id⟩
theorem Rk.step {r : Str} {L : List An} {line : List Pr} {done : Nat} (h : Fits L line) (hd : done < L.length) : Rk L line done (rcv r L line done) (done + 1) := by
  have := rcv_len r L line done
  exact ⟨rcv_fits hd h, Nat.le_succ _, hd, by omega, by omega, fun _ => rcv_ne r L line done⟩
theorem Rk.trans {L : List An} {l1 l2 l3 : List Pr} {d1 d2 d3 : Nat} (a : Rk L l1 d1 l2 d2) (b : Rk L l2 d2 l3 d3) : Rk L l1 d1 l3 d3 :=
  ⟨b.fits, Nat.le_trans a.le b.le, b.top, Nat.le_trans b.mu a.mu, by have := a.len; have := b.len; omega, fun h => b.ne (a.ne h)⟩
theorem rcvTo_rk {r : Str} {L : List An} {now : Int} : ∀ (f : Nat) (line : List Pr) (done : Nat), Fits L line → done ≤ L.length → Rk L line done (rcvTo r L now f line done).1 (rcvTo r L now f line done).2
  | 0, line, done, h, hd => Rk.refl h hd
  | f + 1, line, done, h, hd => by
    show Rk L line done (if _ then _ else _ : List Pr × Nat).1 (if _ then _ else _ : List Pr × Nat).2
    split
    · rename_i hc
      exact (Rk.step h hc.1).trans (rcvTo_rk f _ _ (rcv_fits hc.1 h) hc.1)
    · exact Rk.refl h hd
theorem rcvAll_rk {r : Str} {L : List An} {now : Int} {line : List Pr} {done : Nat} (h : Fits L line) (hd : done ≤ L.length) : Rk L line done (rcvAll r L now line done).1 (rcvAll r L now line done).2 := rcvTo_rk _ _ _ h hd
abbrev PlR := List Bg × List Pr × Nat
def nowOf (L : List An) (line : List Pr) (done : Nat) (free : Int) : Int := if line ≠ [] then free else max free (timAt L done)
def playF (r : Str) (L : List An) (lb : Int) : Nat → List Pr → Nat → List Bg → Int → PlR
  | 0, line, done, found, _ => (found, line, done)
  | f + 1, line, done, found, free =>
    if line = [] ∧ ¬ done < L.length then (found, line, done)
    else if lb < nowOf L line done free then (found, line, done)
    else match rcvAll r L (nowOf L line done free) line done with
      | ([], d) => (found, [], d)
      | (p :: ps, d) => playF r L lb f ps d (found ++ [⟨nowOf L line done free, p.a, p.b⟩]) (nowOf L line done free + lnAt L p.b)
def muP (L : List An) (line : List Pr) (done : Nat) : Nat := line.length + (L.length - done)
theorem rcvAll_cons {r : Str} {L : List An} {line : List Pr} {done : Nat} {free : Int} (h : ¬ (line = [] ∧ ¬ done < L.length)) (hf : Fits L line) (hd : done ≤ L.length) : ∃ p ps d, rcvAll r L (nowOf L line done free) line done = (p :: ps, d) ∧ Rk L line done (p :: ps) d := by
  have rk := rcvAll_rk (r := r) (now := nowOf L line done free) hf hd
  cases e : rcvAll r L (nowOf L line done free) line done with
  | mk l d =>
    rw [e] at rk
    cases l with
    | cons p ps => exact ⟨p, ps, d, rfl, rk⟩
    | nil =>
      exfalso
      by_cases hl : line = []
      · subst hl
        have hdl : done < L.length := Classical.byContradiction fun z => h ⟨rfl, z⟩
        have hle : timAt L done ≤ nowOf L [] done free := by
          unfold nowOf
          rw [if_neg (by simp)]
          omega
        rw [rcvAll_go hdl hle] at e
        have rk2 := rcvAll_rk (r := r) (now := nowOf L [] done free) (rcv_fits (r := r) hdl hf) (Nat.succ_le_of_lt hdl)
        rw [e] at rk2
        exact rk2.ne (rcv_ne r L [] done) rfl
      · exact rk.ne hl rfl
theorem playF_any {r : Str} {L : List An} {lb : Int} : ∀ (f g : Nat) (line : List Pr) (done : Nat) (found : List Bg) (free : Int), Fits L line → done ≤ L.length → muP L line done < f → muP L line done < g → playF r L lb f line done found free = playF r L lb g line done found free
  | 0, _, _, _, _, _, _, _, h, _ => absurd h (Nat.not_lt_zero _)
  | _ + 1, 0, _, _, _, _, _, _, _, h => absurd h (Nat.not_lt_zero _)
  | f + 1, g + 1, line, done, found, free, hf, hd, h1, h2 => by
    show (if _ then _ else _) = (if _ then _ else _)
    by_cases hc : line = [] ∧ ¬ done < L.length
    · rw [if_pos hc, if_pos hc]
    · rw [if_neg hc, if_neg hc]
      by_cases hb : lb < nowOf L line done free
      · rw [if_pos hb, if_pos hb]
      · rw [if_neg hb, if_neg hb]
        obtain ⟨p, ps, d, e, rk⟩ := rcvAll_cons (r := r) (free := free) hc hf hd
        rw [e]
        have hmu := rk.mu
        unfold muP at h1 h2
        rw [List.length_cons] at hmu
        exact playF_any f g ps d _ _ (fun q hq => rk.fits q (List.mem_cons_of_mem _ hq)) rk.top (by unfold muP; omega) (by unfold muP; omega)
def playR (r : Str) (L : List An) (lb : Int) : PlR := playF r L lb (L.length + 1) [] 0 [] 0
def played (r : Str) (L : List An) (lb lt : Int) : List Bg × List Pr := ((playR r L lb).1, (rcvAll r L lt (playR r L lb).2.1 (playR r L lb).2.2).1)
def S_played : SpT := fun ds Oc Post => ∃ (L : List An) (r : Str) (lb lt : Int), ds = [encU L, enc r, .int lb, .int lt] ∧ L.length ≤ 500 ∧ Post (.tup [encL (played r L lb lt).1, encL (played r L lb lt).2]) Oc
/-- the slots of played -/
def gPl (L : List An) (r : Str) (lb lt : Int) (line : List Pr) (done : Nat) (p : Addr) (free : Int) (now : Option Dt) : Gm := [some (encU L), some (enc r), some (.int lb), some (.int lt), some (encL line), some (.int (done : Int)), some (.raw (.ref p)), some (.int free), now]
theorem inner_played {K : PySem.W.Frag} {L : List An} {r : Str} {lb lt : Int} {p : Addr} {free : Int} {O : Own} {E : De} (hL : L.length ≤ 500) (j : Nat) (lim : Int) (now : Option Dt) (hj : ∀ line done, (gPl L r lb lt line done p free now)[j]? = some (some (.int lim)))
    (line : List Pr) (done : Nat) (hf : Fits L line) (hd : done ≤ L.length) (hld : line.length ≤ done) (h : E.nx (gPl L r lb lt (rcvAll r L lim line done).1 (rcvAll r L lim line done).2 p free now) O) :
    SW K (tWhile (tAnd (tTest (tOp (rI0 fun i j => V.bl (decide (i < j))) (tVar 5) (tCB (rLen K) (tCons (tVar 0) tNil)))) (tTest (tOp (rI0 fun i j => V.bl (decide (i ≤ j))) (tOp (rIx K) (tOp (rIx K) (tVar 0) (tVar 5)) (tC (V.int 0))) (tVar j))))
      (tSeq (tAsg (tCall (SpD K S_received) [] E0 (tCons (tVar 4) (tCons (tVar 0) (tCons (tVar 5) (tCons (tVar 1) tNil))))) (gName 4)) (tAsg (tOp (rPlus K) (tVar 5) (tC (V.int 1))) (gName 5)))) (gPl L r lb lt line done p free now) O E := by
  refine sw_while (fun m Γ O' => O' = O ∧ ∃ line1 done1, Γ = gPl L r lb lt line1 done1 p free now ∧ Fits L line1 ∧ done1 ≤ L.length ∧ line1.length ≤ done1 ∧ m = L.length - done1 ∧ rcvAll r L lim line done = rcvAll r L lim line1 done1) (L.length - done) ⟨rfl, line, done, rfl, hf, hd, hld, rfl, rfl⟩ ?_
  rintro m Γ O' ⟨rfl, line1, done1, rfl, hf1, hd1, hld1, rfl, hR⟩
  repeat walk_at "dl"
  rw [List.length_map]
  by_cases hlt : done1 < L.length
  · refine if_t (decide_eq_true (by omega)) ?_
    repeat walk_at "dl"
    refine rw_ixT_ (atI_map hlt) ?_
    repeat walk_at "dl"
    refine rw_ixT_ atI_0 ?_
    refine ew_var (hj line1 done1) ?_
    repeat walk_at "dl"
    by_cases hle : timAt L done1 ≤ lim
    · refine if_t ?hh ?_
      case hh => exact decide_eq_true (by rw [← timAt_get hlt]; exact hle)
      repeat walk_at "dl"
      refine ew_call0 ?_
      repeat walk_at "dl"
      refine ⟨line1, L, done1, r, rfl, hlt, hf1, by omega, ?_⟩
      repeat walk_at "dl"
      have st := Rk.step (r := r) hf1 hlt
      have hlen := rcv_len r L line1 done1
      refine ⟨L.length - (done1 + 1), by omega, rfl, rcv r L line1 done1, done1 + 1, rfl, st.fits, hlt, by omega, rfl, ?_⟩
      rw [hR, rcvAll_go hlt hle]
    · refine if_f ?hh ?_
      case hh => exact decide_eq_false (by rw [← timAt_get hlt]; exact hle)
      rw [hR, rcvAll_stop (fun z => hle z.2)] at h
      exact h
  · refine if_f (decide_eq_false (by omega)) ?_
    rw [hR, rcvAll_stop (fun z => hlt z.1)] at h
    exact if_f rfl h
section
variable {P : Program} {w : World} {K : PySem.W.Frag} {mg : Str → Option Value} {base : Heap} {A : Ad}
theorem ok_played (T : Txt K mg A) : FnOk P w K mg base CX0 2 A.a_played A.d_played ["log", "rule", "last_begin", "last_time"] (SpD K S_played) := by
  refine fn_ok T.F_played sc_played (fun ds Oc Post h => by obtain ⟨_, _, _, _, rfl, _⟩ := h; rfl) (fun cdv AA outer s H E hr => ?_)
  refine ⟨_, (pss_cons (ps_asg (pe_tup (pa_cons (pe_lst pa_nil) (pa_cons pe_int (pa_cons (pe_lst pa_nil) (pa_cons pe_int pa_nil))))) (tupK (K := K) (pg_tup (n := 4) rfl (pgs_cons (pg_name (i := 4) sc_played.nd rfl (.inl rfl)) (pgs_cons (pg_name (i := 5) sc_played.nd rfl (.inl rfl)) (pgs_cons (pg_name (i := 6) sc_played.nd rfl (.inl rfl)) (pgs_cons (pg_name (i := 7) sc_played.nd rfl (.inl rfl)) pgs_nil)))))))
  (pss_cons (ps_while PassesOwn.never (PW.pt (pw_or (pt_cmpR (neK (K := K) hr.units) (pv 4) (pe_lst pa_nil) (nomark _)) (pw_or1 (pt_cmpR op_lt (pv 5) (pe_callB (lenK (K := K)) (by rfl) T.len (by decide +kernel) (pa_cons (pv 0) pa_nil)) (nomark _))))) (pss_cons (ps_set (i := 8) sc_played.nd rfl (.inl rfl) (pe_ifExp (pt_cmpR (neK (K := K) hr.units) (pv 4) (pe_lst pa_nil) (nomark _)) (pv 7) (pe_callB (call_max2 rfl) (by rfl) T.max (by decide +kernel) (pa_cons (pv 7) (pa_cons (pe_ix (ixK (K := K)) (pe_ix (ixK (K := K)) (pv 0) (pv 5) (fun _ _ => rfl)) pe_int (fun _ _ => rfl)) pa_nil)))))
    (pss_cons (ps_if (pt_cmpR op_gt (pv 8) (pv 2) (nomark _)) (pss_one ps_break) pss_nil)
    (pss_cons (ps_while PassesOwn.never (PW.pt (pw_and (pt_cmpR op_lt (pv 5) (pe_callB (lenK (K := K)) (by rfl) T.len (by decide +kernel) (pa_cons (pv 0) pa_nil)) (nomark _)) (pw_and1 (pt_cmpR op_le (pe_ix (ixK (K := K)) (pe_ix (ixK (K := K)) (pv 0) (pv 5) (fun _ _ => rfl)) pe_int (fun _ _ => rfl)) (pv 8) (nomark _))))) (pss_cons (ps_set (i := 4) sc_played.nd rfl (.inl rfl) (pe_call (ok_received T) (hr.mono (by decide)) (by rfl) T.g_received T.F_received.kp (b_received T) .nil pass0 (pa_cons (pv 4) (pa_cons (pv 0) (pa_cons (pv 5) (pa_cons (pv 1) pa_nil))))))
      (pss_one (ps_set (i := 5) sc_played.nd rfl (.inl rfl) (pe_op (plusK (K := K)) (pv 5) pe_int)))))
    (pss_cons (ps_expr (bmK (K := K) (pe_bm PySem.F.plainAttrs_list PySem.F.slot_list_append PySem.F.type_list_append mt_append (pv 6) (pa_cons (pe_op (plusK (K := K)) (pe_tup (pa_cons (pv 8) pa_nil)) (pe_ix (ixK (K := K)) (pv 4) pe_int (fun _ _ => rfl))) pa_nil))))
    (pss_one (ps_par (i := 7) (j := 4) rfl sc_played.nd rfl rfl (by decide) rfl rfl (pa_cons (pe_op (plusK (K := K)) (pv 8) (pe_ix (ixK (K := K)) (pe_ix (ixK (K := K)) (pv 0) (pe_ix (ixK (K := K)) (pe_ix (ixK (K := K)) (pv 4) pe_int (fun _ _ => rfl)) pe_int (fun _ _ => rfl)) (fun _ _ => rfl)) pe_int (fun _ _ => rfl))) (pa_cons (pe_slice (slK (K := K)) (pv 4) (po_some pe_int) po_none) pa_nil)) (by rfl))))))))
  (pss_cons (ps_while PassesOwn.never (PW.pt (pw_and (pt_cmpR op_lt (pv 5) (pe_callB (lenK (K := K)) (by rfl) T.len (by decide +kernel) (pa_cons (pv 0) pa_nil)) (nomark _)) (pw_and1 (pt_cmpR op_le (pe_ix (ixK (K := K)) (pe_ix (ixK (K := K)) (pv 0) (pv 5) (fun _ _ => rfl)) pe_int (fun _ _ => rfl)) (pv 3) (nomark _))))) (pss_cons (ps_set (i := 4) sc_played.nd rfl (.inl rfl) (pe_call (ok_received T) (hr.mono (by decide)) (by rfl) T.g_received T.F_received.kp (b_received T) .nil pass0 (pa_cons (pv 4) (pa_cons (pv 0) (pa_cons (pv 5) (pa_cons (pv 1) pa_nil))))))
    (pss_one (ps_set (i := 5) sc_played.nd rfl (.inl rfl) (pe_op (plusK (K := K)) (pv 5) pe_int)))))
  (pss_one (ps_ret (pe_tup (pa_cons (pv 6) (pa_cons (pv 4) pa_nil)))))))), fun ds Oc Post h => ?_⟩
  obtain ⟨L, r, lb, lt, rfl, hL, hp⟩ := h
  repeat walk_at "dl"
  refine ew_lst ?_
  repeat walk_at "dl"
  refine ew_lstO ?_
  repeat walk_at "dl"
  intro p
  repeat walk_at "dl"
  -- the loop
  refine sw_mid (fun Γ O => ∃ line done found free now, Γ = gPl L r lb lt line done p free now ∧ O = (p, .lst (found.map enc)) :: Oc ∧ Fits L line ∧ done ≤ L.length ∧ line.length + found.length ≤ done ∧ playR r L lb = (found, line, done)) ?_ ?_
  · refine sw_while (fun m Γ O => ∃ line done found free now, Γ = gPl L r lb lt line done p free now ∧ O = (p, .lst (found.map enc)) :: Oc ∧ Fits L line ∧ done ≤ L.length ∧ line.length + found.length ≤ done ∧ m = muP L line done ∧ playR r L lb = playF r L lb (m + 1) line done found free)
      (muP L [] 0) ⟨[], 0, [], 0, none, rfl, rfl, (fun q hq => by cases hq), Nat.zero_le _, Nat.le_refl _, rfl, (by unfold muP playR; simp)⟩ ?_
    rintro m Γ O ⟨line, done, found, free, now0, rfl, rfl, hf, hd, hlen, rfl, hR⟩
    repeat walk_at "dl"
    refine ew_lst ?_
    repeat walk_at "dl"
    refine rw_neE line [] (.same _) (.same _) ?_
    repeat walk_at "dl"
    -- what a turn does, and what stands behind the loop
    have quit : ∀ now' : Option Dt, (line = [] ∧ ¬ done < L.length) ∨ (¬ (line = [] ∧ ¬ done < L.length) ∧ lb < nowOf L line done free) → ∃ line1 done1 found1 free1 now1, gPl L r lb lt line done p free now' = gPl L r lb lt line1 done1 p free1 now1 ∧ (p, Cell.lst (found.map enc)) :: Oc = (p, .lst (found1.map enc)) :: Oc ∧ Fits L line1 ∧ done1 ≤ L.length ∧ line1.length + found1.length ≤ done1 ∧ playR r L lb = (found1, line1, done1) := fun now' hq => by
      refine ⟨line, done, found, free, now', rfl, rfl, hf, hd, hlen, ?_⟩
      rw [hR]
      show (if _ then _ else _) = _
      rcases hq with hq | ⟨hq1, hq2⟩
      · rw [if_pos hq]
      · rw [if_neg hq1, if_pos hq2]
    have turn : ¬ (line = [] ∧ ¬ done < L.length) → ∀ E : De, E.bk = (fun Γ O => ∃ line done found free now, Γ = gPl L r lb lt line done p free now ∧ O = (p, .lst (found.map enc)) :: Oc ∧ Fits L line ∧ done ≤ L.length ∧ line.length + found.length ≤ done ∧ playR r L lb = (found, line, done)) →
        E.nx = (fun Γ' O' => ∃ m', m' < muP L line done ∧ ∃ line done found free now, Γ' = gPl L r lb lt line done p free now ∧ O' = (p, .lst (found.map enc)) :: Oc ∧ Fits L line ∧ done ≤ L.length ∧ line.length + found.length ≤ done ∧ m' = muP L line done ∧ playR r L lb = playF r L lb (m' + 1) line done found free) →
        SW K (tSeq (tAsg (tIf (tTest (tOp (rNeG K) (tVar 4) (tLst tNil))) (tVar 7) (tCB rMax2 (tCons (tVar 7) (tCons (tOp (rIx K) (tOp (rIx K) (tVar 0) (tVar 5)) (tC (V.int 0))) tNil)))) (gName 8))
          (tSeq (tIfS (tTest (tOp (rI0 fun i j => V.bl (decide (j < i))) (tVar 8) (tVar 2))) tBreak tNext)
          (tSeq (tWhile (tAnd (tTest (tOp (rI0 fun i j => V.bl (decide (i < j))) (tVar 5) (tCB (rLen K) (tCons (tVar 0) tNil)))) (tTest (tOp (rI0 fun i j => V.bl (decide (i ≤ j))) (tOp (rIx K) (tOp (rIx K) (tVar 0) (tVar 5)) (tC (V.int 0))) (tVar 8))))
            (tSeq (tAsg (tCall (SpD K S_received) [] E0 (tCons (tVar 4) (tCons (tVar 0) (tCons (tVar 5) (tCons (tVar 1) tNil))))) (gName 4)) (tAsg (tOp (rPlus K) (tVar 5) (tC (V.int 1))) (gName 5))))
          (tSeq (tDrop (tBM K "list" rAppend (tVar 6) (tCons (tOp (rPlus K) (tTup (tCons (tVar 8) tNil)) (tOp (rIx K) (tVar 4) (tC (V.int 0)))) tNil)))
            (tPar 7 4 (tCons (tOp (rPlus K) (tVar 8) (tOp (rIx K) (tOp (rIx K) (tVar 0) (tOp (rIx K) (tOp (rIx K) (tVar 4) (tC (V.int 0))) (tC (V.int 1)))) (tC (V.int 2)))) (tCons (tSl (rSl K) (tVar 4) (tPart (tC (V.int 1))) tNoPart) tNil)))))))
          (gPl L r lb lt line done p free now0) ((p, .lst (found.map enc)) :: Oc) E := fun hc E eb en => by
      refine sw_seq (sw_mid (fun Γ O => Γ = gPl L r lb lt line done p free (some (.int (nowOf L line done free))) ∧ O = (p, .lst (found.map enc)) :: Oc) ?_ ?_)
      · repeat walk_at "dl"
        refine ew_lst ?_
        repeat walk_at "dl"
        refine rw_neE line [] (.same _) (.same _) ?_
        repeat walk_at "dl"
        by_cases hl : line = []
        · have hdl : done < L.length := Classical.byContradiction fun z => hc ⟨hl, z⟩
          refine if_f (by rw [decide_eq_true hl]; rfl) ?_
          repeat walk_at "dl"
          refine rw_ixT_ (atI_map hdl) ?_
          repeat walk_at "dl"
          refine rw_ixT_ atI_0 ?_
          repeat walk_at "dl"
          refine ⟨?_, rfl⟩
          have e : nowOf L line done free = max free L[done].a := by unfold nowOf; rw [if_neg (fun z => z hl), timAt_get hdl]
          rw [e]
          rfl
        · refine if_t (by rw [decide_eq_false hl]; rfl) ?_
          repeat walk_at "dl"
          refine ⟨?_, rfl⟩
          have e : nowOf L line done free = free := by unfold nowOf; rw [if_pos hl]
          rw [e]
          rfl
      · rintro Γ O ⟨rfl, rfl⟩
        repeat walk_at "dl"
        by_cases hb : lb < nowOf L line done free
        · refine if_t (decide_eq_true hb) ?_
          refine sw_break ?_
          show E.bk _ _
          rw [eb]
          exact quit _ (.inr ⟨hc, hb⟩)
        · refine if_f (decide_eq_false hb) ?_
          repeat walk_at "dl"
          obtain ⟨q, qs, d, eq, rk⟩ := rcvAll_cons (r := r) (free := free) hc hf hd
          refine inner_played hL 8 (nowOf L line done free) _ (fun _ _ => rfl) line done hf hd (by omega) ?_
          rw [eq]
          have hq := rk.fits q List.mem_cons_self
          have hlen2 := rk.len
          have htop := rk.top
          have hmu := rk.mu
          rw [List.length_cons] at hlen2 hmu
          repeat walk_at "dl"
          refine ew_append (p := p) (ds := found.map enc) (O2 := Oc) ?_
          repeat walk_at "dl"
          refine ⟨rfl, ⟨_, List.mem_cons_self⟩, ?_⟩
          repeat walk_at "dl"
          refine rw_ixL (.same _) atI_0 ?_
          refine rwp_tup (show 1 + 2 ≤ sizeLine by decide) ?_
          refine ⟨.refl _, ?_, ?_⟩
          · rw [List.length_map]
            exact Nat.lt_of_le_of_lt (m := 500) (by omega) (by decide)
          repeat walk_at "dl"
          refine rw_ixL (.same _) atI_0 ?_
          repeat walk_at "dl"
          refine rw_ixT_ atI_1 ?_
          refine rw_ixT_ (atI_map hq.2) ?_
          repeat walk_at "dl"
          refine rw_ixT_ atI_2 ?_
          repeat walk_at "dl"
          rw [cut1D]
          show E.nx _ _
          rw [en]
          refine ⟨muP L qs d, by unfold muP; omega, qs, d, found ++ [⟨nowOf L line done free, q.a, q.b⟩], nowOf L line done free + lnAt L q.b, some (.int (nowOf L line done free)), ?_, ?_, (fun x hx => rk.fits x (List.mem_cons_of_mem _ hx)), htop, ?_, rfl, ?_⟩
          · rw [lnAt_get hq.2]
            rfl
          · rw [List.map_append]
            rfl
          · rw [List.length_append, List.length_singleton]
            omega
          · rw [hR]
            show (if _ then _ else _) = _
            rw [if_neg hc, if_neg hb, eq]
            exact playF_any _ _ _ _ _ _ (fun x hx => rk.fits x (List.mem_cons_of_mem _ hx)) htop (by unfold muP; omega) (by omega)
    by_cases hl : line = []
    · refine or_f (by rw [decide_eq_true hl]; rfl) ?_
      repeat walk_at "dl"
      rw [List.length_map]
      by_cases hdl : done < L.length
      · refine if_t (decide_eq_true (by omega)) ?_
        exact turn (fun z => z.2 hdl) _ rfl rfl
      · refine if_f (decide_eq_false (by omega)) ?_
        exact quit _ (.inl ⟨hl, hdl⟩)
    · refine or_t (by rw [decide_eq_false hl]; rfl) ?_
      refine if_t rfl ?_
      exact turn (fun z => hl z.1) _ rfl rfl
  · rintro Γ O ⟨line, done, found, free, now0, rfl, rfl, hf, hd, hlen, hR⟩
    repeat walk_at "dl"
    refine inner_played hL 3 lt _ (fun _ _ => rfl) line done hf hd (by omega) ?_
    refine sw_ret (ew_tup (aw_cons (ew_freeze (p := p) (ds := found.map enc) (ew_var rfl ⟨rfl, Oc, .refl _, ?_⟩))))
    repeat walk_at "dl"
    have e : played r L lb lt = (found, (rcvAll r L lt line done).1) := by unfold played; rw [hR]
    rw [e] at hp
    exact hp
end
end DL
namespace DL
open PySem PySem.Spec PyProof.Rows L2
open Enc (enc)
local macro_rules | `(tactic| walk_at "dl") => `(tactic| first
  | (with_reducible_and_instances refine sw_seq ?_)
  | (with_reducible_and_instances refine sw_ret ?_)
  | (with_reducible_and_instances refine sw_retN ?_)
  | (with_reducible_and_instances refine sw_set ?_)
  | (with_reducible_and_instances refine sw_par ?_)
  | (with_reducible_and_instances refine sw_drop ?_)
  | (with_reducible_and_instances refine sw_next ?_)
  | (with_reducible_and_instances refine sw_break ?_)
  | (with_reducible_and_instances refine sw_if ?_)
  | (with_reducible_and_instances refine sw_asg ?_)
  | ((with_reducible_and_instances refine' ew_var ?hh ?kk); (case hh => rfl))
  | (with_reducible_and_instances refine ew_int ?_)
  | (with_reducible_and_instances refine ew_str ?_)
  | (with_reducible_and_instances refine ew_bl ?_)
  | (with_reducible_and_instances refine ew_non ?_)
  | (with_reducible_and_instances refine ew_raw (v := .ty _) ?_)
  | (with_reducible_and_instances refine ew_op ?_)
  | (with_reducible_and_instances refine ew_un ?_)
  | (with_reducible_and_instances refine ew_chain ?_)
  | (with_reducible_and_instances refine ew_andV ?_)
  | (with_reducible_and_instances refine ew_orV ?_)
  | (with_reducible_and_instances refine ew_notV ?_)
  | (with_reducible_and_instances refine ew_if ?_)
  | (with_reducible_and_instances refine ew_tup ?_)
  | (with_reducible_and_instances refine ew_cb ?_)
  | (with_reducible_and_instances refine ew_slA ?_)
  | (with_reducible_and_instances refine .inl ⟨_, rfl, ?_⟩)
  | (with_reducible_and_instances refine .inr ⟨_, .same _, ?_⟩)
  | (with_reducible_and_instances refine aw_cons ?_)
  | (with_reducible_and_instances refine aw_nil ?_)
  | (with_reducible_and_instances refine tw_test ?_)
  | (with_reducible_and_instances refine tw_B ?_)
  | (with_reducible_and_instances refine tw_and ?_)
  | (with_reducible_and_instances refine tw_or ?_)
  | (with_reducible_and_instances refine tw_not ?_)
  | (with_reducible_and_instances refine tw_yes ?_)
  | (with_reducible_and_instances refine pw_none ?_)
  | (with_reducible_and_instances refine pw_some ?_)
  | (with_reducible_and_instances refine rw_le ?_)
  | (with_reducible_and_instances refine rw_lt ?_)
  | (with_reducible_and_instances refine rw_gt ?_)
  | (with_reducible_and_instances refine rw_ge ?_)
  | (with_reducible_and_instances refine rw_sub ?_)
  | (with_reducible_and_instances refine uw_neg ?_)
  | (with_reducible_and_instances refine rwp_int ?_)
  | ((with_reducible_and_instances refine gw_name ?hj ?_); (case hj => first | exact trivial | decide))
  | (with_reducible_and_instances refine gsw_cons ?_)
  | (with_reducible_and_instances refine gsw_nil ?_)
  | (with_reducible_and_instances refine gw_tup rfl ?_)
  | (with_reducible_and_instances refine cw_max2 ?_)
  | (with_reducible_and_instances refine cw_min2 ?_)
  | (with_reducible_and_instances refine cw_lenT ?_)
  | (with_reducible_and_instances refine cw_lenR ?_)
  | (with_reducible_and_instances refine cw_lenL (.same _) ?_)
  | (with_reducible_and_instances refine cw_intB ?_)
  | (with_reducible_and_instances refine ⟨_, rfl, ?_⟩)
  | (with_reducible_and_instances refine ⟨_, _, rfl, ?_⟩)
  | (refine ⟨Nat.le_trans (by simp) (Nat.le_of_lt (small1000 (n := 1000) (by decide))), ?_⟩))
local macro_rules | `(tactic| walk_at "dx") => `(tactic| first
  | (with_reducible_and_instances refine sw_seq ?_)
  | (with_reducible_and_instances refine sw_ret ?_)
  | (with_reducible_and_instances refine sw_retN ?_)
  | (with_reducible_and_instances refine sw_set ?_)
  | (with_reducible_and_instances refine sw_par ?_)
  | (with_reducible_and_instances refine sw_drop ?_)
  | (with_reducible_and_instances refine sw_next ?_)
  | (with_reducible_and_instances refine sw_break ?_)
  | (with_reducible_and_instances refine sw_asg ?_)
  | ((with_reducible_and_instances refine' ew_var ?hh ?kk); (case hh => rfl))
  | (with_reducible_and_instances refine ew_int ?_)
  | (with_reducible_and_instances refine ew_str ?_)
  | (with_reducible_and_instances refine ew_bl ?_)
  | (with_reducible_and_instances refine ew_non ?_)
  | (with_reducible_and_instances refine ew_raw (v := .ty _) ?_)
  | (with_reducible_and_instances refine ew_op ?_)
  | (with_reducible_and_instances refine ew_un ?_)
  | (with_reducible_and_instances refine ew_chain ?_)
  | (with_reducible_and_instances refine ew_andV ?_)
  | (with_reducible_and_instances refine ew_orV ?_)
  | (with_reducible_and_instances refine ew_notV ?_)
  | (with_reducible_and_instances refine ew_if ?_)
  | (with_reducible_and_instances refine ew_tup ?_)
  | (with_reducible_and_instances refine ew_cb ?_)
  | (with_reducible_and_instances refine ew_slA ?_)
  | (with_reducible_and_instances refine .inl ⟨_, rfl, ?_⟩)
  | (with_reducible_and_instances refine .inr ⟨_, .same _, ?_⟩)
  | (with_reducible_and_instances refine aw_cons ?_)
  | (with_reducible_and_instances refine aw_nil ?_)
  | (with_reducible_and_instances refine tw_test ?_)
  | (with_reducible_and_instances refine tw_B ?_)
  | (with_reducible_and_instances refine tw_and ?_)
  | (with_reducible_and_instances refine tw_or ?_)
  | (with_reducible_and_instances refine tw_not ?_)
  | (with_reducible_and_instances refine tw_yes ?_)
  | (with_reducible_and_instances refine pw_none ?_)
  | (with_reducible_and_instances refine pw_some ?_)
  | (with_reducible_and_instances refine rw_le ?_)
  | (with_reducible_and_instances refine rw_lt ?_)
  | (with_reducible_and_instances refine rw_gt ?_)
  | (with_reducible_and_instances refine rw_ge ?_)
  | (with_reducible_and_instances refine rw_sub ?_)
  | (with_reducible_and_instances refine uw_neg ?_)
  | (with_reducible_and_instances refine rwp_int ?_)
  | ((with_reducible_and_instances refine gw_name ?hj ?_); (case hj => first | exact trivial | decide))
  | (with_reducible_and_instances refine gsw_cons ?_)
  | (with_reducible_and_instances refine gsw_nil ?_)
  | (with_reducible_and_instances refine gw_tup rfl ?_)
  | (with_reducible_and_instances refine cw_max2 ?_)
  | (with_reducible_and_instances refine cw_min2 ?_)
  | (with_reducible_and_instances refine cw_lenT ?_)
  | (with_reducible_and_instances refine cw_lenR ?_)
  | (with_reducible_and_instances refine cw_lenL (.same _) ?_)
  | (with_reducible_and_instances refine cw_intB ?_)
  | (with_reducible_and_instances refine ⟨_, rfl, ?_⟩)
  | (with_reducible_and_instances refine ⟨_, _, rfl, ?_⟩)
  | (refine ⟨Nat.le_trans (by simp) (Nat.le_of_lt (small1000 (n := 1000) (by decide))), ?_⟩))
local macro_rules | `(tactic| walk_at "dn") => `(tactic| first
  | (with_reducible_and_instances refine sw_ret ?_)
  | (with_reducible_and_instances refine sw_retN ?_)
  | (with_reducible_and_instances refine sw_set ?_)
  | (with_reducible_and_instances refine sw_par ?_)
  | (with_reducible_and_instances refine sw_drop ?_)
  | (with_reducible_and_instances refine sw_next ?_)
  | (with_reducible_and_instances refine sw_break ?_)
  | (with_reducible_and_instances refine sw_asg ?_)
  | ((with_reducible_and_instances refine' ew_var ?hh ?kk); (case hh => rfl))
  | (with_reducible_and_instances refine ew_int ?_)
  | (with_reducible_and_instances refine ew_str ?_)
  | (with_reducible_and_instances refine ew_bl ?_)
  | (with_reducible_and_instances refine ew_non ?_)
  | (with_reducible_and_instances refine ew_raw (v := .ty _) ?_)
  | (with_reducible_and_instances refine ew_op ?_)
  | (with_reducible_and_instances refine ew_un ?_)
  | (with_reducible_and_instances refine ew_chain ?_)
  | (with_reducible_and_instances refine ew_andV ?_)
  | (with_reducible_and_instances refine ew_orV ?_)
  | (with_reducible_and_instances refine ew_notV ?_)
  | (with_reducible_and_instances refine ew_if ?_)
  | (with_reducible_and_instances refine ew_tup ?_)
  | (with_reducible_and_instances refine ew_cb ?_)
  | (with_reducible_and_instances refine ew_slA ?_)
  | (with_reducible_and_instances refine .inl ⟨_, rfl, ?_⟩)
  | (with_reducible_and_instances refine .inr ⟨_, .same _, ?_⟩)
  | (with_reducible_and_instances refine aw_cons ?_)
  | (with_reducible_and_instances refine aw_nil ?_)
  | (with_reducible_and_instances refine tw_test ?_)
  | (with_reducible_and_instances refine tw_B ?_)
  | (with_reducible_and_instances refine tw_and ?_)
  | (with_reducible_and_instances refine tw_or ?_)
  | (with_reducible_and_instances refine tw_not ?_)
  | (with_reducible_and_instances refine tw_yes ?_)
  | (with_reducible_and_instances refine pw_none ?_)
  | (with_reducible_and_instances refine pw_some ?_)
  | (with_reducible_and_instances refine rw_le ?_)
  | (with_reducible_and_instances refine rw_lt ?_)
  | (with_reducible_and_instances refine rw_gt ?_)
  | (with_reducible_and_instances refine rw_ge ?_)
  | (with_reducible_and_instances refine rw_sub ?_)
  | (with_reducible_and_instances refine uw_neg ?_)
  | (with_reducible_and_instances refine rwp_int ?_)
  | ((with_reducible_and_instances refine gw_name ?hj ?_); (case hj => first | exact trivial | decide))
  | (with_reducible_and_instances refine gsw_cons ?_)
  | (with_reducible_and_instances refine gsw_nil ?_)
  | (with_reducible_and_instances refine gw_tup rfl ?_)
  | (with_reducible_and_instances refine cw_max2 ?_)
  | (with_reducible_and_instances refine cw_min2 ?_)
  | (with_reducible_and_instances refine cw_lenT ?_)
  | (with_reducible_and_instances refine cw_lenR ?_)
  | (with_reducible_and_instances refine cw_lenL (.same _) ?_)
  | (with_reducible_and_instances refine cw_intB ?_)
  | (with_reducible_and_instances refine ⟨_, rfl, ?_⟩)
  | (with_reducible_and_instances refine ⟨_, _, rfl, ?_⟩)
  | (refine ⟨Nat.le_trans (by simp) (Nat.le_of_lt (small1000 (n := 1000) (by decide))), ?_⟩))
/-! ### speech, unheard -/
/-- a log, as data the program takes -/
structure VLog (L : List An) : Prop where
  len : L.length ≤ 40
  ann : ∀ a ∈ L, 0 ≤ a.a ∧ a.a ≤ 10000 ∧ topicS a.b = true ∧ 1 ≤ a.c ∧ a.c ≤ 99
  ord : L.Pairwise fun x y => x.a ≤ y.a
theorem VLog.isLog {L : List An} (h : VLog L) : isLog (encU L) = true := by
  have h1 : decide ((L.map (enc : An → Dt)).length ≤ 40) = true := decide_eq_true (by rw [List.length_map]; exact h.len)
  have h2 : ((L.map (enc : An → Dt)).all fun d => isAnn d 10000) = true := by
    rw [List.all_eq_true]
    intro d hd
    obtain ⟨a, ha, rfl⟩ := List.mem_map.mp hd
    obtain ⟨a1, a2, a3, a4, a5⟩ := h.ann a ha
    show isAnn (.tup [.int a.a, .str a.b, .int a.c]) 10000 = true
    simp [isAnn, isInt, isTopic, a1, a2, a3, a4, a5]
  have h3 : ∀ L : List An, L.Pairwise (fun x y => x.a ≤ y.a) → pairsD (fun x y => decide (timeD x ≤ timeD y)) (L.map enc) = true := by
    intro L
    induction L with
    | nil => intro _; rfl
    | cons x r ih =>
      intro hp
      cases r with
      | nil => rfl
      | cons y r =>
        rw [List.pairwise_cons] at hp
        have e := ih hp.2
        have h4 := hp.1 y List.mem_cons_self
        show (decide (x.a ≤ y.a) && pairsD _ ((y :: r).map enc)) = true
        rw [e, decide_eq_true h4]
        rfl
  show (decide _ && _ && _) = true
  rw [h1, h2, h3 L h.ord]
  rfl
theorem topic_len {z : Str} (h : topicS z = true) : z.length ≤ 6 := by
  simp only [topicS, Bool.and_eq_true, decide_eq_true_eq] at h
  exact h.1.2
theorem VLog.gd {L : List An} (h : VLog L) : gd 5 (encU L) = true := by
  show gdL 4 (L.map enc) = true
  rw [gdL_iff]
  intro d hd
  obtain ⟨a, ha, rfl⟩ := List.mem_map.mp hd
  have := topic_len (h.ann a ha).2.2.1
  show DL.gd 4 (.tup [.int a.a, .str a.b, .int a.c]) = true
  simp only [DL.gd, DL.gdL, Bool.true_and, Bool.and_true, decide_eq_true_eq]
  omega
theorem playF_fits {r : Str} {L : List An} {lb : Int} : ∀ (f : Nat) (line : List Pr) (done : Nat) (found : List Bg) (free : Int), Fits L line → done ≤ L.length → (∀ g ∈ found, g.b < L.length ∧ g.c < L.length) → line.length + found.length ≤ done →
    (∀ g ∈ (playF r L lb f line done found free).1, g.b < L.length ∧ g.c < L.length) ∧ Fits L (playF r L lb f line done found free).2.1 ∧ (playF r L lb f line done found free).2.2 ≤ L.length ∧ (playF r L lb f line done found free).2.1.length + (playF r L lb f line done found free).1.length ≤ (playF r L lb f line done found free).2.2
  | 0, line, done, found, free, hf, hd, hg, hl => ⟨hg, hf, hd, hl⟩
  | f + 1, line, done, found, free, hf, hd, hg, hl => by
    by_cases hc : line = [] ∧ ¬ done < L.length
    · have e : playF r L lb (f + 1) line done found free = (found, line, done) := by
        show (if _ then _ else _) = _
        rw [if_pos hc]
      rw [e]
      exact ⟨hg, hf, hd, hl⟩
    · by_cases hb : lb < nowOf L line done free
      · have e : playF r L lb (f + 1) line done found free = (found, line, done) := by
          show (if _ then _ else _) = _
          rw [if_neg hc, if_pos hb]
        rw [e]
        exact ⟨hg, hf, hd, hl⟩
      · obtain ⟨p, ps, d, eq, rk⟩ := rcvAll_cons (r := r) (free := free) hc hf hd
        have e : playF r L lb (f + 1) line done found free = playF r L lb f ps d (found ++ [⟨nowOf L line done free, p.a, p.b⟩]) (nowOf L line done free + lnAt L p.b) := by
          show (if _ then _ else _) = _
          rw [if_neg hc, if_neg hb, eq]
        rw [e]
        have hlen := rk.len
        rw [List.length_cons] at hlen
        refine playF_fits f ps d _ _ (fun q hq => rk.fits q (List.mem_cons_of_mem _ hq)) rk.top (fun g hm => ?_) (by rw [List.length_append, List.length_singleton]; omega)
        rcases List.mem_append.mp hm with hm | hm
        · exact hg g hm
        · simp at hm
          subst hm
          exact rk.fits p List.mem_cons_self
theorem played_fits {r : Str} {L : List An} {lb lt : Int} : (∀ g ∈ (played r L lb lt).1, g.b < L.length ∧ g.c < L.length) ∧ (played r L lb lt).1.length ≤ L.length := by
  have h := playF_fits (r := r) (L := L) (lb := lb) (L.length + 1) [] 0 [] 0 (fun _ h => by cases h) (Nat.zero_le _) (fun _ h => by cases h) (Nat.le_refl _)
  exact ⟨h.1, Nat.le_trans (Nat.le_trans (Nat.le_add_left _ _) h.2.2.2) h.2.2.1⟩
abbrev Row := T4 Int Str Int Nat
def spoken (r : Str) (L : List An) : List Bg := (played r L 1000000 1000000).1
def speechOf (r : Str) (L : List An) : List Row := (spoken r L).map fun g => ⟨g.a, topAt L g.c, lnAt L g.c, g.c⟩
def unheardOf (r : Str) (L : List An) : List Nat := (List.range L.length).filter fun k => !decide (k ∈ (spoken r L).map fun g => g.c)
def S_speech : SpT := fun ds Oc Post => ∃ (L : List An) (r : Str), ds = [encU L, .str r] ∧ VLog L ∧ rule3 r ∧ ∀ p, Post (.raw (.ref p)) ((p, .lst ((speechOf r L).map enc)) :: Oc)
def S_unheard : SpT := fun ds Oc Post => ∃ (L : List An) (r : Str), ds = [encU L, .str r] ∧ VLog L ∧ rule3 r ∧ ∀ p, Post (.raw (.ref p)) ((p, .lst ((unheardOf r L).map enc)) :: Oc)
section
variable {P : Program} {w : World} {K : PySem.W.Frag} {mg : Str → Option Value} {base : Heap} {A : Ad}
theorem ok_speech (T : Txt K mg A) : FnOk P w K mg base CX0 5 A.a_speech A.d_speech ["log", "rule"] (SpD K S_speech) := by
  refine fn_ok T.F_speech sc_speech (fun ds Oc Post h => by obtain ⟨_, _, rfl, _⟩ := h; rfl) (fun cdv AA outer s H E hr => ?_)
  refine ⟨_, (pss_cons (ps_expr (pe_call (ok_require_log T) (hr.mono (by decide)) (by rfl) T.g_require_log T.F_require_log.kp (b_require_log T) .nil pass0 (pa_cons (pv 0) pa_nil)))
  (pss_cons (ps_expr (pe_call (ok_require_rule T) (hr.mono (by decide)) (by rfl) T.g_require_rule T.F_require_rule.kp (b_require_rule T) .nil pass0 (pa_cons (pv 1) pa_nil)))
  (pss_one (ps_ret (pe_lc (own := [("begin", 2), ("first", 3), ("index", 4)]) rfl sc_speech.nd (seqK (K := K) (pe_ix (ixK (K := K)) (pe_call (ok_played T) (hr.mono (by decide)) (by rfl) T.g_played T.F_played.kp (b_played T) .nil pass0 (pa_cons (pv 0) (pa_cons (pv 1) (pa_cons (pe_glob (v := .int 1000000) rfl T.g_FAR ⟨_, rfl⟩) (pa_cons (pe_glob (v := .int 1000000) rfl T.g_FAR ⟨_, rfl⟩) pa_nil))))) pe_int (fun _ _ => rfl))) (blkOk_by (N := ["log", "rule", "begin", "first", "index"]) (sc := defScope s_speech) (by decide +kernel)) (fun _ _ _ _ _ => (tupK (K := K) (pg_tup (n := 3) rfl (pgs_cons (pg_name (i := 2) sc_speech.nd rfl (.inl rfl)) (pgs_cons (pg_name (i := 3) sc_speech.nd rfl (.inl rfl)) (pgs_cons (pg_name (i := 4) sc_speech.nd rfl (.inl rfl)) pgs_nil)))))) (fun _ _ _ _ _ => pts_nil) (fun _ _ _ _ _ => (pe_op (plusK (K := K)) (pe_op (plusK (K := K)) (pe_tup (pa_cons (pv 2) pa_nil)) (pe_slice (slK (K := K)) (pe_ix (ixK (K := K)) (pv 0) (pv 4) (fun _ _ => rfl)) (po_some pe_int) po_none)) (pe_tup (pa_cons (pv 4) pa_nil))))))))), fun ds Oc Post h => ?_⟩
  obtain ⟨L, r, rfl, hL, hr3, hp⟩ := h
  repeat walk_at "dl"
  refine ew_call0 ?_
  repeat walk_at "dl"
  refine ⟨_, 5, rfl, hL.gd, hL.isLog, ?_⟩
  repeat walk_at "dl"
  refine ew_call0 ?_
  repeat walk_at "dl"
  refine ⟨_, rfl, hr3, ?_⟩
  repeat walk_at "dl"
  refine ew_lcMO (α := Bg) (iws_lst ?_)
  repeat walk_at "dl"
  refine ew_call0 ?_
  repeat walk_at "dl"
  refine ⟨L, r, _, _, rfl, Nat.le_trans hL.len (by decide), ?_⟩
  repeat walk_at "dl"
  refine rw_ixT_ atI_0 ?_
  repeat walk_at "dl"
  obtain ⟨hfit, hlen⟩ := played_fits (r := r) (L := L) (lb := 1000000) (lt := 1000000)
  have := hL.len
  refine ⟨enc, spoken r L, fun g => enc (⟨g.a, topAt L g.c, lnAt L g.c, g.c⟩ : Row), rfl, (fun p e => by cases e), (show (played r L 1000000 1000000).1.length ≤ _ by omega), fun g hg => ?_, fun p => ?_⟩
  · obtain ⟨g1, g2⟩ := hfit g hg
    repeat walk_at "dl"
    refine rw_ixT_ (atI_map g2) ?_
    repeat walk_at "dl"
    rw [cut1D]
    refine rwp_tup (show 1 + 2 ≤ sizeLine by decide) ?_
    repeat walk_at "dl"
    refine rwp_tup (show 3 + 1 ≤ sizeLine by decide) ?_
    refine ⟨rfl, ?_⟩
    show _ = Dt.tup [.int g.a, .str (topAt L g.c), .int (lnAt L g.c), .int (g.c : Int)]
    rw [topAt_get g2, lnAt_get g2]
    rfl
  · have e : (speechOf r L).map enc = (spoken r L).map fun g => enc (⟨g.a, topAt L g.c, lnAt L g.c, g.c⟩ : Row) := by unfold speechOf; rw [List.map_map]; rfl
    have := hp p
    rw [e] at this
    exact this
theorem rngD_nat (n : Nat) : rngD 0 n = (List.range n).map (enc : Nat → Dt) := by
  unfold rngD
  refine List.map_congr_left fun i _ => ?_
  show Dt.int (0 + (i : Int)) = .int (i : Int)
  rw [Int.zero_add]
end
end DL
namespace DL
open PySem PySem.Spec PyProof.Rows L2
open Enc (enc)
local macro_rules | `(tactic| walk_at "dl") => `(tactic| first
  | (with_reducible_and_instances refine sw_seq ?_)
  | (with_reducible_and_instances refine sw_ret ?_)
  | (with_reducible_and_instances refine sw_retN ?_)
  | (with_reducible_and_instances refine sw_set ?_)
  | (with_reducible_and_instances refine sw_par ?_)
  | (with_reducible_and_instances refine sw_drop ?_)
  | (with_reducible_and_instances refine sw_next ?_)
  | (with_reducible_and_instances refine sw_break ?_)
  | (with_reducible_and_instances refine sw_if ?_)
  | (with_reducible_and_instances refine sw_asg ?_)
  | ((with_reducible_and_instances refine' ew_var ?hh ?kk); (case hh => rfl))
  | (with_reducible_and_instances refine ew_int ?_)
  | (with_reducible_and_instances refine ew_str ?_)
  | (with_reducible_and_instances refine ew_bl ?_)
  | (with_reducible_and_instances refine ew_non ?_)
  | (with_reducible_and_instances refine ew_raw (v := .ty _) ?_)
  | (with_reducible_and_instances refine ew_op ?_)
  | (with_reducible_and_instances refine ew_un ?_)
  | (with_reducible_and_instances refine ew_chain ?_)
  | (with_reducible_and_instances refine ew_andV ?_)
  | (with_reducible_and_instances refine ew_orV ?_)
  | (with_reducible_and_instances refine ew_notV ?_)
  | (with_reducible_and_instances refine ew_if ?_)
  | (with_reducible_and_instances refine ew_tup ?_)
  | (with_reducible_and_instances refine ew_cb ?_)
  | (with_reducible_and_instances refine ew_slA ?_)
  | (with_reducible_and_instances refine .inl ⟨_, rfl, ?_⟩)
  | (with_reducible_and_instances refine .inr ⟨_, .same _, ?_⟩)
  | (with_reducible_and_instances refine aw_cons ?_)
  | (with_reducible_and_instances refine aw_nil ?_)
  | (with_reducible_and_instances refine tw_test ?_)
  | (with_reducible_and_instances refine tw_B ?_)
  | (with_reducible_and_instances refine tw_and ?_)
  | (with_reducible_and_instances refine tw_or ?_)
  | (with_reducible_and_instances refine tw_not ?_)
  | (with_reducible_and_instances refine tw_yes ?_)
  | (with_reducible_and_instances refine pw_none ?_)
  | (with_reducible_and_instances refine pw_some ?_)
  | (with_reducible_and_instances refine rw_le ?_)
  | (with_reducible_and_instances refine rw_lt ?_)
  | (with_reducible_and_instances refine rw_gt ?_)
  | (with_reducible_and_instances refine rw_ge ?_)
  | (with_reducible_and_instances refine rw_sub ?_)
  | (with_reducible_and_instances refine uw_neg ?_)
  | (with_reducible_and_instances refine rwp_int ?_)
  | ((with_reducible_and_instances refine gw_name ?hj ?_); (case hj => first | exact trivial | decide))
  | (with_reducible_and_instances refine gsw_cons ?_)
  | (with_reducible_and_instances refine gsw_nil ?_)
  | (with_reducible_and_instances refine gw_tup rfl ?_)
  | (with_reducible_and_instances refine cw_max2 ?_)
  | (with_reducible_and_instances refine cw_min2 ?_)
  | (with_reducible_and_instances refine cw_lenT ?_)
  | (with_reducible_and_instances refine cw_lenR ?_)
  | (with_reducible_and_instances refine cw_lenL (.same _) ?_)
  | (with_reducible_and_instances refine cw_intB ?_)
  | (with_reducible_and_instances refine ⟨_, rfl, ?_⟩)
  | (with_reducible_and_instances refine ⟨_, _, rfl, ?_⟩)
  | (refine ⟨Nat.le_trans (by simp) (Nat.le_of_lt (small1000 (n := 1000) (by decide))), ?_⟩))
local macro_rules | `(tactic| walk_at "dx") => `(tactic| first
  | (with_reducible_and_instances refine sw_seq ?_)
  | (with_reducible_and_instances refine sw_ret ?_)
  | (with_reducible_and_instances refine sw_retN ?_)
  | (with_reducible_and_instances refine sw_set ?_)
  | (with_reducible_and_instances refine sw_par ?_)
  | (with_reducible_and_instances refine sw_drop ?_)
  | (with_reducible_and_instances refine sw_next ?_)
  | (with_reducible_and_instances refine sw_break ?_)
  | (with_reducible_and_instances refine sw_asg ?_)
  | ((with_reducible_and_instances refine' ew_var ?hh ?kk); (case hh => rfl))
  | (with_reducible_and_instances refine ew_int ?_)
  | (with_reducible_and_instances refine ew_str ?_)
  | (with_reducible_and_instances refine ew_bl ?_)
  | (with_reducible_and_instances refine ew_non ?_)
  | (with_reducible_and_instances refine ew_raw (v := .ty _) ?_)
  | (with_reducible_and_instances refine ew_op ?_)
  | (with_reducible_and_instances refine ew_un ?_)
  | (with_reducible_and_instances refine ew_chain ?_)
  | (with_reducible_and_instances refine ew_andV ?_)
  | (with_reducible_and_instances refine ew_orV ?_)
  | (with_reducible_and_instances refine ew_notV ?_)
  | (with_reducible_and_instances refine ew_if ?_)
  | (with_reducible_and_instances refine ew_tup ?_)
  | (with_reducible_and_instances refine ew_cb ?_)
  | (with_reducible_and_instances refine ew_slA ?_)
  | (with_reducible_and_instances refine .inl ⟨_, rfl, ?_⟩)
  | (with_reducible_and_instances refine .inr ⟨_, .same _, ?_⟩)
  | (with_reducible_and_instances refine aw_cons ?_)
  | (with_reducible_and_instances refine aw_nil ?_)
  | (with_reducible_and_instances refine tw_test ?_)
  | (with_reducible_and_instances refine tw_B ?_)
  | (with_reducible_and_instances refine tw_and ?_)
  | (with_reducible_and_instances refine tw_or ?_)
  | (with_reducible_and_instances refine tw_not ?_)
  | (with_reducible_and_instances refine tw_yes ?_)
  | (with_reducible_and_instances refine pw_none ?_)
  | (with_reducible_and_instances refine pw_some ?_)
  | (with_reducible_and_instances refine rw_le ?_)
  | (with_reducible_and_instances refine rw_lt ?_)
  | (with_reducible_and_instances refine rw_gt ?_)
  | (with_reducible_and_instances refine rw_ge ?_)
  | (with_reducible_and_instances refine rw_sub ?_)
  | (with_reducible_and_instances refine uw_neg ?_)
  | (with_reducible_and_instances refine rwp_int ?_)
  | ((with_reducible_and_instances refine gw_name ?hj ?_); (case hj => first | exact trivial | decide))
  | (with_reducible_and_instances refine gsw_cons ?_)
  | (with_reducible_and_instances refine gsw_nil ?_)
  | (with_reducible_and_instances refine gw_tup rfl ?_)
  | (with_reducible_and_instances refine cw_max2 ?_)
  | (with_reducible_and_instances refine cw_min2 ?_)
  | (with_reducible_and_instances refine cw_lenT ?_)
  | (with_reducible_and_instances refine cw_lenR ?_)
  | (with_reducible_and_instances refine cw_lenL (.same _) ?_)
  | (with_reducible_and_instances refine cw_intB ?_)
  | (with_reducible_and_instances refine ⟨_, rfl, ?_⟩)
  | (with_reducible_and_instances refine ⟨_, _, rfl, ?_⟩)
  | (refine ⟨Nat.le_trans (by simp) (Nat.le_of_lt (small1000 (n := 1000) (by decide))), ?_⟩))
local macro_rules | `(tactic| walk_at "dn") => `(tactic| first
  | (with_reducible_and_instances refine sw_ret ?_)
  | (with_reducible_and_instances refine sw_retN ?_)
  | (with_reducible_and_instances refine sw_set ?_)
  | (with_reducible_and_instances refine sw_par ?_)
  | (with_reducible_and_instances refine sw_drop ?_)
  | (with_reducible_and_instances refine sw_next ?_)
  | (with_reducible_and_instances refine sw_break ?_)
  | (with_reducible_and_instances refine sw_asg ?_)
  | ((with_reducible_and_instances refine' ew_var ?hh ?kk); (case hh => rfl))
  | (with_reducible_and_instances refine ew_int ?_)
  | (with_reducible_and_instances refine ew_str ?_)
  | (with_reducible_and_instances refine ew_bl ?_)
  | (with_reducible_and_instances refine ew_non ?_)
  | (with_reducible_and_instances refine ew_raw (v := .ty _) ?_)
  | (with_reducible_and_instances refine ew_op ?_)
  | (with_reducible_and_instances refine ew_un ?_)
  | (with_reducible_and_instances refine ew_chain ?_)
  | (with_reducible_and_instances refine ew_andV ?_)
  | (with_reducible_and_instances refine ew_orV ?_)
  | (with_reducible_and_instances refine ew_notV ?_)
  | (with_reducible_and_instances refine ew_if ?_)
  | (with_reducible_and_instances refine ew_tup ?_)
  | (with_reducible_and_instances refine ew_cb ?_)
  | (with_reducible_and_instances refine ew_slA ?_)
  | (with_reducible_and_instances refine .inl ⟨_, rfl, ?_⟩)
  | (with_reducible_and_instances refine .inr ⟨_, .same _, ?_⟩)
  | (with_reducible_and_instances refine aw_cons ?_)
  | (with_reducible_and_instances refine aw_nil ?_)
  | (with_reducible_and_instances refine tw_test ?_)
  | (with_reducible_and_instances refine tw_B ?_)
  | (with_reducible_and_instances refine tw_and ?_)
  | (with_reducible_and_instances refine tw_or ?_)
  | (with_reducible_and_instances refine tw_not ?_)
  | (with_reducible_and_instances refine tw_yes ?_)
  | (with_reducible_and_instances refine pw_none ?_)
  | (with_reducible_and_instances refine pw_some ?_)
  | (with_reducible_and_instances refine rw_le ?_)
  | (with_reducible_and_instances refine rw_lt ?_)
  | (with_reducible_and_instances refine rw_gt ?_)
  | (with_reducible_and_instances refine rw_ge ?_)
  | (with_reducible_and_instances refine rw_sub ?_)
  | (with_reducible_and_instances refine uw_neg ?_)
  | (with_reducible_and_instances refine rwp_int ?_)
  | ((with_reducible_and_instances refine gw_name ?hj ?_); (case hj => first | exact trivial | decide))
  | (with_reducible_and_instances refine gsw_cons ?_)
  | (with_reducible_and_instances refine gsw_nil ?_)
  | (with_reducible_and_instances refine gw_tup rfl ?_)
  | (with_reducible_and_instances refine cw_max2 ?_)
  | (with_reducible_and_instances refine cw_min2 ?_)
  | (with_reducible_and_instances refine cw_lenT ?_)
  | (with_reducible_and_instances refine cw_lenR ?_)
  | (with_reducible_and_instances refine cw_lenL (.same _) ?_)
  | (with_reducible_and_instances refine cw_intB ?_)
  | (with_reducible_and_instances refine ⟨_, rfl, ?_⟩)
  | (with_reducible_and_instances refine ⟨_, _, rfl, ?_⟩)
  | (refine ⟨Nat.le_trans (by simp) (Nat.le_of_lt (small1000 (n := 1000) (by decide))), ?_⟩))
/-! ### the law's drawn logs -/
structure SrcOk (a b c : Int) : Prop where
  a0 : 0 ≤ a
  b0 : 0 ≤ b
  b1 : b < 4294967296
  c0 : 2147483497 ≤ c
  c1 : c ≤ 2147483647
abbrev src (a b c : Int) : Cell := .lst [.int a, .int b, .int c]
def S__law_source : SpT := fun ds Oc Post => ∃ (ns : List Int) (k : Nat), ds = [.ro (ns.map .int), .int (k : Int)] ∧ k ≤ 1000 ∧ ∀ p a b c, SrcOk a b c → Post (.raw (.ref p)) ((p, src a b c) :: Oc)
def S__law_pick : SpT := fun ds Oc Post => ∃ p a b c n, ds = [.raw (.ref p), .int n] ∧ Oc = [(p, src a b c)] ∧ SrcOk a b c ∧ 0 < n ∧ n < 1073741824 ∧ ∀ r a' b', 0 ≤ r → r < n → SrcOk a' b' c → Post (.int r) [(p, src a' b' c)]
def names4 : List Str := ["a", "b", "zz", "news"]
structure DLog (L : List An) : Prop where
  v : VLog L
  t : ∀ x ∈ L, x.a ≤ 9600
  n : ∀ x ∈ L, x.b ∈ names4
def S__law_log : SpT := fun ds Oc Post => ∃ p a b c m, ds = [.raw (.ref p), .int m] ∧ Oc = [(p, src a b c)] ∧ SrcOk a b c ∧ 0 ≤ m ∧ m ≤ 40 ∧ ∀ L a' b', DLog L → (L.length : Int) ≤ m → SrcOk a' b' c → Post (encU L) [(p, src a' b' c)]
theorem atI_some {α : Type} {xs : List α} {i : Int} (h0 : 0 ≤ i) (h1 : i < xs.length) : ∃ x, x ∈ xs ∧ atI xs i = some x := by
  obtain ⟨j, rfl⟩ := Int.eq_ofNat_of_zero_le h0
  have hj : j < xs.length := by omega
  exact ⟨xs[j], List.getElem_mem hj, atI_nat (List.getElem?_eq_getElem hj)⟩
theorem atI_someE {α : Type} [DecidableEq α] [Enc α] {xs : List α} {i : Int} (h0 : 0 ≤ i) (h1 : i < xs.length) : ∃ x, x ∈ xs ∧ atI (xs.map enc) i = some (enc x) := by
  obtain ⟨j, rfl⟩ := Int.eq_ofNat_of_zero_le h0
  have hj : j < xs.length := by omega
  exact ⟨xs[j], List.getElem_mem hj, atI_map hj⟩
section
variable {P : Program} {w : World} {K : PySem.W.Frag} {mg : Str → Option Value} {base : Heap} {A : Ad}
theorem ok__law_source (T : Txt K mg A) : FnOk P w K mg base CX0 1 A.a__law_source A.d__law_source ["script", "k"] (SpD K S__law_source) := by
  refine fn_ok T.F__law_source sc__law_source (fun ds Oc Post h => by obtain ⟨_, _, rfl, _⟩ := h; rfl) (fun cdv AA outer s H E hr => ?_)
  refine ⟨_, (pss_cons (ps_set (i := 2) sc__law_source.nd rfl (.inl rfl) pe_int)
  (pss_cons (ps_if (pt_cmpR op_lt (pv 1) (pe_callB (lenK (K := K)) (by rfl) T.len (by decide +kernel) (pa_cons (pv 0) pa_nil)) (nomark _)) (pss_one (ps_set (i := 2) sc__law_source.nd rfl (.inl rfl) (pe_ix (ixK (K := K)) (pv 0) (pv 1) (fun _ _ => rfl)))) pss_nil)
  (pss_cons (ps_set (i := 3) sc__law_source.nd rfl (.inl rfl) (pe_lst (pa_cons pe_int (pa_cons pe_int (pa_cons pe_int (pa_cons pe_int (pa_cons pe_int (pa_cons pe_int (pa_cons pe_int (pa_cons pe_int pa_nil))))))))))
  (pss_cons (ps_set (i := 4) sc__law_source.nd rfl (.inl rfl) (pe_op op_mod (pe_op (timesK (K := K)) (pe_op (plusK (K := K)) (pe_op op_mod (pv 2) pe_int) pe_int) (pe_op (plusK (K := K)) pe_int (pe_op (timesK (K := K)) pe_int (pv 1)))) pe_int))
  (pss_cons (ps_set (i := 4) sc__law_source.nd rfl (.inl rfl) (pe_op (plusK (K := K)) (pe_op (plusK (K := K)) (pe_op op_mod (pe_op (timesK (K := K)) (pv 4) (pv 4)) pe_int) (pv 1)) pe_int))
  (pss_cons (ps_if (pt_cmpR op_ge (pv 2) (pe_op op_pow pe_int pe_int) (nomark _)) (pss_one (ps_ret (pe_lst (pa_cons (pv 2) (pa_cons (pv 4) (pa_cons (pe_ix (ixK (K := K)) (pv 3) (pe_op op_mod (pv 1) pe_int) (fun _ _ => rfl)) pa_nil)))))) pss_nil)
  (pss_one (ps_ret (pe_lst (pa_cons pe_int (pa_cons (pv 4) (pa_cons (pe_ix (ixK (K := K)) (pv 3) (pe_op op_mod (pv 1) pe_int) (fun _ _ => rfl)) pa_nil)))))))))))), fun ds Oc Post h => ?_⟩
  obtain ⟨ns, k, rfl, hk, hp⟩ := h
  repeat walk_at "dx"
  refine sw_mid (fun Γ O => O = Oc ∧ ∃ cell : Int, Γ = [some (.ro (ns.map .int)), some (.int k), some (.int cell), none, none]) ?_ ?_
  · repeat walk_at "dl"
    refine ⟨fun hb => ?_, fun hb => ?_⟩
    · have hb' := of_decide_eq_true hb
      rw [List.length_map] at hb'
      have hlt : k < ns.length := by omega
      repeat walk_at "dl"
      refine rw_ixR (atI_nat (v := .int ns[k]) (by rw [List.getElem?_map, List.getElem?_eq_getElem hlt]; rfl)) ?_
      exact ⟨rfl, _, rfl⟩
    · exact sw_next ⟨rfl, _, rfl⟩
  · rintro Γ O ⟨rfl, cell, rfl⟩
    repeat walk_at "dl"
    refine ew_lst ?_
    repeat walk_at "dl"
    refine rw_mod (by decide) ?_
    repeat walk_at "dl"
    refine rwt_int (.inr (by omega)) ?_
    repeat walk_at "dl"
    refine rwt_int (.inr (by omega)) ?_
    repeat walk_at "dl"
    refine rw_mod (by decide) ?_
    repeat walk_at "dl"
    generalize hs : (cell % 2147483489 + 1) * (48271 + 2 * (k : Int)) % 2147483489 = sd
    have hs0 : 0 ≤ sd := by rw [← hs]; exact Int.emod_nonneg _ (by decide)
    have hs1 : sd < 2147483489 := by rw [← hs]; exact Int.emod_lt_of_pos _ (by decide)
    refine rwt_int (.inr ⟨by omega, by omega⟩) ?_
    repeat walk_at "dl"
    refine rw_mod (by decide) ?_
    repeat walk_at "dl"
    generalize ht : sd * sd % 2147483477 = td
    have ht0 : 0 ≤ td := by rw [← ht]; exact Int.emod_nonneg _ (by decide)
    have ht1 : td < 2147483477 := by rw [← ht]; exact Int.emod_lt_of_pos _ (by decide)
    refine rw_pow ⟨by decide, by decide, by decide⟩ ?_
    repeat walk_at "dl"
    have hm0 : 0 ≤ (k : Int) % 8 := Int.emod_nonneg _ (by decide)
    have hm1 : (k : Int) % 8 < 8 := Int.emod_lt_of_pos _ (by decide)
    obtain ⟨c, hc, hat⟩ := atI_someE (xs := [(2147483647 : Int), 2147483629, 2147483587, 2147483579, 2147483563, 2147483549, 2147483543, 2147483497]) hm0 hm1
    have hc2 : 2147483497 ≤ c ∧ c ≤ 2147483647 := by
      simp only [List.mem_cons, List.mem_nil_iff, or_false] at hc
      omega
    refine ⟨fun hb => ?_, fun hb => ?_⟩
    · have hb' : (10 : Int) ^ (18 : Int).toNat ≤ cell := of_decide_eq_true hb
      repeat walk_at "dl"
      refine ew_lstO ?_
      repeat walk_at "dl"
      refine rw_mod (by decide) ?_
      refine rw_ixL (.same _) hat ?_
      repeat walk_at "dl"
      intro p
      exact hp p cell (td + k + 1) c ⟨Int.le_trans (by decide) hb', by omega, by omega, hc2.1, hc2.2⟩
    · repeat walk_at "dl"
      refine ew_lstO ?_
      repeat walk_at "dl"
      refine rw_mod (by decide) ?_
      refine rw_ixL (.same _) hat ?_
      repeat walk_at "dl"
      intro p
      exact hp p 0 (td + k + 1) c ⟨by decide, by omega, by omega, hc2.1, hc2.2⟩
theorem ok__law_pick (T : Txt K mg A) : FnOk P w K mg base CX0 1 A.a__law_pick A.d__law_pick ["source", "size"] (SpD K S__law_pick) := by
  refine fn_ok T.F__law_pick sc__law_pick (fun ds Oc Post h => by obtain ⟨_, _, _, _, _, rfl, _⟩ := h; rfl) (fun cdv AA outer s H E hr => ?_)
  refine ⟨_, (pss_cons (ps_if (pt_cmpR op_gt (pe_ix (ixK (K := K)) (pv 0) pe_int (fun _ _ => rfl)) pe_int (nomark _)) (pss_cons (ps_set (i := 2) sc__law_pick.nd rfl (.inl rfl) (pe_op op_mod (pe_ix (ixK (K := K)) (pv 0) pe_int (fun _ _ => rfl)) (pv 1)))
    (pss_cons (ps_asg (pe_op op_fdiv (pe_ix (ixK (K := K)) (pv 0) pe_int (fun _ _ => rfl)) (pv 1)) (pg_sub (pv 0) pe_int set_list))
    (pss_one (ps_ret (pv 2))))) pss_nil)
  (pss_cons (ps_asg (pe_op (plusK (K := K)) (pe_op op_mod (pe_op (timesK (K := K)) (pe_ix (ixK (K := K)) (pv 0) pe_int (fun _ _ => rfl)) pe_int) (pe_ix (ixK (K := K)) (pv 0) pe_int (fun _ _ => rfl))) pe_int) (pg_sub (pv 0) pe_int set_list))
  (pss_one (ps_ret (pe_op op_mod (pe_op op_fdiv (pe_op op_mod (pe_op (timesK (K := K)) (pe_ix (ixK (K := K)) (pv 0) pe_int (fun _ _ => rfl)) (pe_ix (ixK (K := K)) (pv 0) pe_int (fun _ _ => rfl))) pe_int) pe_int) (pv 1)))))), fun ds Oc Post h => ?_⟩
  obtain ⟨p, a, b, c, n, rfl, rfl, hs, hn, hn2, hp⟩ := h
  have own : ∀ a b c : Int, View [(p, src a b c)] (.raw (.ref p)) (.lst [.int a, .int b, .int c]) := fun a b c => .own List.mem_cons_self
  repeat walk_at "dl"
  refine rw_ixL (own a b c) atI_0 ?_
  repeat walk_at "dl"
  refine ⟨fun hb => ?_, fun hb => ?_⟩
  · have hb' : 0 < a := of_decide_eq_true hb
    repeat walk_at "dl"
    refine rw_ixL (own a b c) atI_0 ?_
    repeat walk_at "dl"
    refine rw_mod hn ?_
    repeat walk_at "dl"
    refine rw_ixL (own a b c) atI_0 ?_
    repeat walk_at "dl"
    refine rw_fdiv ⟨hn, hn2⟩ ?_
    refine gw_setL (p := p) (es := [.int a, .int b, .int c]) (i := 0) (j := 0) (O2 := []) ?_
    repeat walk_at "dl"
    refine ⟨rfl, ?_⟩
    repeat walk_at "dl"
    refine ⟨rfl, .refl _, rfl, ?_⟩
    repeat walk_at "dl"
    exact hp _ _ _ (Int.emod_nonneg _ (by omega)) (Int.emod_lt_of_pos _ hn) ⟨Int.ediv_nonneg hs.a0 (by omega), hs.b0, hs.b1, hs.c0, hs.c1⟩
  · repeat walk_at "dl"
    refine rw_ixL (own a b c) atI_1 ?_
    repeat walk_at "dl"
    have := hs.b0
    have := hs.b1
    have hc0 := hs.c0
    have hc1 := hs.c1
    refine rwt_int (.inl ⟨by omega, by omega⟩) ?_
    repeat walk_at "dl"
    refine rw_ixL (own a b c) atI_2 ?_
    refine rw_mod (by omega) ?_
    repeat walk_at "dl"
    generalize ht : b * 48271 % c = t
    have ht0 : 0 ≤ t := by rw [← ht]; exact Int.emod_nonneg _ (by omega)
    have ht1 : t < c := by rw [← ht]; exact Int.emod_lt_of_pos _ (by omega)
    refine gw_setL (p := p) (es := [.int a, .int b, .int c]) (i := 1) (j := 1) (O2 := []) ?_
    repeat walk_at "dl"
    refine ⟨rfl, ?_⟩
    repeat walk_at "dl"
    refine ⟨rfl, .refl _, rfl, ?_⟩
    repeat walk_at "dl"
    refine rw_ixL (own a (t + 1) c) atI_1 ?_
    repeat walk_at "dl"
    refine rw_ixL (own a (t + 1) c) atI_1 ?_
    refine rwt_int (.inl ⟨by omega, by omega⟩) ?_
    repeat walk_at "dl"
    refine rw_mod (by decide) ?_
    repeat walk_at "dl"
    refine rw_fdiv ⟨by decide, by decide⟩ ?_
    repeat walk_at "dl"
    refine rw_mod hn ?_
    exact hp _ _ _ (Int.emod_nonneg _ (by omega)) (Int.emod_lt_of_pos _ hn) ⟨hs.a0, by omega, by omega, hs.c0, hs.c1⟩
theorem ok__law_log (T : Txt K mg A) : FnOk P w K mg base CX0 2 A.a__law_log A.d__law_log ["source", "most"] (SpD K S__law_log) := by
  refine fn_ok T.F__law_log sc__law_log (fun ds Oc Post h => by obtain ⟨_, _, _, _, _, rfl, _⟩ := h; rfl) (fun cdv AA outer s H E hr => ?_)
  refine ⟨_, (pss_cons (ps_set (i := 2) sc__law_log.nd rfl (.inl rfl) (pe_ix (ixK (K := K)) (pe_lst (pa_cons (pe_lst (pa_cons pe_str pa_nil)) (pa_cons (pe_lst (pa_cons pe_str (pa_cons pe_str pa_nil))) (pa_cons (pe_lst (pa_cons pe_str (pa_cons pe_str (pa_cons pe_str pa_nil)))) (pa_cons (pe_lst (pa_cons pe_str (pa_cons pe_str (pa_cons pe_str (pa_cons pe_str pa_nil))))) pa_nil))))) (pe_call (ok__law_pick T) (hr.mono (by decide)) (by rfl) T.g__law_pick T.F__law_pick.kp (b__law_pick T) .nil pass0 (pa_cons (pv 0) (pa_cons pe_int pa_nil))) (fun _ _ => rfl)))
  (pss_cons (ps_par (i := 3) (j := 4) rfl sc__law_log.nd rfl rfl (by decide) rfl rfl (pa_cons (pe_call (ok__law_pick T) (hr.mono (by decide)) (by rfl) T.g__law_pick T.F__law_pick.kp (b__law_pick T) .nil pass0 (pa_cons (pv 0) (pa_cons (pe_ix (ixK (K := K)) (pe_lst (pa_cons pe_int (pa_cons pe_int (pa_cons pe_int pa_nil)))) (pe_call (ok__law_pick T) (hr.mono (by decide)) (by rfl) T.g__law_pick T.F__law_pick.kp (b__law_pick T) .nil pass0 (pa_cons (pv 0) (pa_cons pe_int pa_nil))) (fun _ _ => rfl)) pa_nil))) (pa_cons (pe_ix (ixK (K := K)) (pe_lst (pa_cons pe_int (pa_cons pe_int (pa_cons pe_int (pa_cons pe_int pa_nil))))) (pe_call (ok__law_pick T) (hr.mono (by decide)) (by rfl) T.g__law_pick T.F__law_pick.kp (b__law_pick T) .nil pass0 (pa_cons (pv 0) (pa_cons pe_int pa_nil))) (fun _ _ => rfl)) pa_nil)) (by rfl))
  (pss_cons (ps_par (i := 5) (j := 6) rfl sc__law_log.nd rfl rfl (by decide) rfl rfl (pa_cons (pe_tup pa_nil) (pa_cons (pe_ix (ixK (K := K)) (pe_lst (pa_cons pe_int (pa_cons pe_int (pa_cons pe_int (pa_cons pe_int pa_nil))))) (pe_call (ok__law_pick T) (hr.mono (by decide)) (by rfl) T.g__law_pick T.F__law_pick.kp (b__law_pick T) .nil pass0 (pa_cons (pv 0) (pa_cons pe_int pa_nil))) (fun _ _ => rfl)) pa_nil)) (by rfl))
  (pss_cons (ps_for PassesOwn.never rfl (pi_range1 (by rfl) T.range (pa_cons (pe_call (ok__law_pick T) (hr.mono (by decide)) (by rfl) T.g__law_pick T.F__law_pick.kp (b__law_pick T) .nil pass0 (pa_cons (pv 0) (pa_cons (pe_op (plusK (K := K)) (pv 1) pe_int) pa_nil))) pa_nil)) (pg_name (i := 7) sc__law_log.nd rfl (.inl rfl)) (pss_cons (ps_set (i := 3) sc__law_log.nd rfl (.inl rfl) (pe_op (plusK (K := K)) (pv 3) (pe_call (ok__law_pick T) (hr.mono (by decide)) (by rfl) T.g__law_pick T.F__law_pick.kp (b__law_pick T) .nil pass0 (pa_cons (pv 0) (pa_cons (pe_op (plusK (K := K)) (pv 6) pe_int) pa_nil)))))
    (pss_cons (ps_set (i := 8) sc__law_log.nd rfl (.inl rfl) (pe_op (plusK (K := K)) pe_int (pe_call (ok__law_pick T) (hr.mono (by decide)) (by rfl) T.g__law_pick T.F__law_pick.kp (b__law_pick T) .nil pass0 (pa_cons (pv 0) (pa_cons (pv 4) pa_nil)))))
    (pss_one (ps_set (i := 5) sc__law_log.nd rfl (.inl rfl) (pe_op (plusK (K := K)) (pv 5) (pe_tup (pa_cons (pe_tup (pa_cons (pv 3) (pa_cons (pe_ix (ixK (K := K)) (pv 2) (pe_call (ok__law_pick T) (hr.mono (by decide)) (by rfl) T.g__law_pick T.F__law_pick.kp (b__law_pick T) .nil pass0 (pa_cons (pv 0) (pa_cons (pe_callB (lenK (K := K)) (by rfl) T.len (by decide +kernel) (pa_cons (pv 2) pa_nil)) pa_nil))) (fun _ _ => rfl)) (pa_cons (pv 8) pa_nil)))) pa_nil))))))))
  (pss_one (ps_ret (pv 5))))))), fun ds Oc Post h => ?_⟩
  obtain ⟨p, a, b, c, m, rfl, rfl, hs, hm0, hm1, hp⟩ := h
  repeat (first | walk_at "dl" | refine ew_lst ?_)
  refine ew_call ?_
  repeat walk_at "dl"
  refine ⟨[(p, src a b c)], [], .refl _, p, a, b, c, 4, rfl, rfl, hs, by decide, by decide, fun i a b i0 i1 hs => ?_⟩
  obtain ⟨ss, hss, hat⟩ := atI_someE (xs := [(["a"] : List Str), ["a", "b"], ["b", "a", "zz"], ["news", "b", "a", "zz"]]) i0 i1
  refine rw_ixL (.same _) hat ?_
  have hn : 0 < ss.length ∧ ss.length ≤ 4 ∧ ∀ x ∈ ss, x ∈ names4 := by
    simp only [List.mem_cons, List.mem_nil_iff, or_false] at hss
    rcases hss with rfl | rfl | rfl | rfl <;> decide
  clear hat hss i0 i1
  repeat (first | walk_at "dl" | refine ew_lst ?_)
  refine ew_call ?_
  repeat (first | walk_at "dl" | refine ew_lst ?_)
  refine ew_call ?_
  repeat walk_at "dl"
  refine ⟨[(p, src a b c)], [], .refl _, p, a, b, c, 3, rfl, rfl, hs, by decide, by decide, fun i a b i0 i1 hs => ?_⟩
  obtain ⟨t0, ht0, hat⟩ := atI_someE (xs := [(1 : Int), 30, 6000]) i0 i1
  refine rw_ixL (.same _) hat ?_
  have ht0 : 0 < t0 ∧ t0 ≤ 6000 := by
    simp only [List.mem_cons, List.mem_nil_iff, or_false] at ht0
    omega
  clear hat i0 i1
  repeat walk_at "dl"
  refine ⟨[(p, src a b c)], [], .refl _, p, a, b, c, t0, rfl, rfl, hs, by omega, by omega, fun t a b i0 i1 hs => ?_⟩
  have htt : 0 ≤ t ∧ t ≤ 6000 := by omega
  clear i0 i1
  repeat (first | walk_at "dl" | refine ew_lst ?_)
  refine ew_call ?_
  repeat walk_at "dl"
  refine ⟨[(p, src a b c)], [], .refl _, p, a, b, c, 4, rfl, rfl, hs, by decide, by decide, fun i a b i0 i1 hs => ?_⟩
  obtain ⟨lg, hlg, hat⟩ := atI_someE (xs := [(3 : Int), 9, 40, 99]) i0 i1
  refine rw_ixL (.same _) hat ?_
  have hlg : 0 < lg ∧ lg ≤ 99 := by
    simp only [List.mem_cons, List.mem_nil_iff, or_false] at hlg
    omega
  clear hat i0 i1
  repeat (first | walk_at "dl" | refine ew_lst ?_)
  refine ew_call ?_
  repeat walk_at "dl"
  refine ⟨[(p, src a b c)], [], .refl _, p, a, b, c, 4, rfl, rfl, hs, by decide, by decide, fun i a b i0 i1 hs => ?_⟩
  obtain ⟨wd, hwd, hat⟩ := atI_someE (xs := [(1 : Int), 3, 12, 90]) i0 i1
  refine rw_ixL (.same _) hat ?_
  have hwd : 0 < wd ∧ wd ≤ 90 := by
    simp only [List.mem_cons, List.mem_nil_iff, or_false] at hwd
    omega
  clear hat i0 i1
  repeat walk_at "dl"
  refine sw_for (iw_rng1 ?_)
  repeat walk_at "dl"
  refine ew_call ?_
  repeat walk_at "dl"
  refine ⟨[(p, src a b c)], [], .refl _, p, a, b, c, m + 1, rfl, rfl, hs, by omega, by omega, fun n a0 b0 n0 n1 hs0 => ?_⟩
  repeat walk_at "dl"
  refine ⟨by omega, by omega, fun i Γ O => ∃ (L : List An) (time a b : Int) (x7 x8 : Option Dt), Γ = [some (.raw (.ref p)), some (.int m), some (encL ss), some (.int time), some (.int lg), some (encU L), some (.int wd), x7, x8] ∧ O = [(p, src a b c)] ∧ SrcOk a b c ∧
    0 ≤ time ∧ time ≤ 6000 + 90 * (i : Int) ∧ DLog L ∧ L.length = i ∧ ∀ x ∈ L, x.a ≤ time, ?_, ?_, ?_, ?_⟩
  · exact ⟨[], t, a0, b0, none, none, rfl, rfl, hs0, htt.1, by omega, ⟨⟨by decide, fun x hx => (nomatch hx), .nil⟩, fun x hx => (nomatch hx), fun x hx => (nomatch hx)⟩, rfl, fun x hx => (nomatch hx)⟩
  · intro q e
    cases e
  · rintro i d Γ O hd ⟨L, time, a, b, x7, x8, rfl, rfl, hs, h0, h1, hL, hlen, hlast⟩
    obtain ⟨hi, rfl⟩ := rngD_get hd
    have hi' : (i : Int) < n := by omega
    repeat walk_at "dl"
    refine ew_call ?_
    repeat walk_at "dl"
    refine ⟨[(p, src a b c)], [], .refl _, p, a, b, c, wd + 1, rfl, rfl, hs, by omega, by omega, fun st a b s0 s1 hs => ?_⟩
    repeat walk_at "dl"
    refine ew_call ?_
    repeat walk_at "dl"
    refine ⟨[(p, src a b c)], [], .refl _, p, a, b, c, lg, rfl, rfl, hs, by omega, by omega, fun ln a b l0 l1 hs => ?_⟩
    repeat walk_at "dl"
    refine ew_call ?_
    repeat walk_at "dl"
    refine ⟨[(p, src a b c)], [], .refl _, p, a, b, c, _, rfl, rfl, hs, ?_, ?_, fun j a b j0 j1 hs => ?_⟩
    · rw [List.length_map]; omega
    · rw [List.length_map]; omega
    rw [List.length_map] at j1
    obtain ⟨z, hz, hat⟩ := atI_someE (xs := ss) j0 j1
    refine rw_ixL (.same _) hat ?_
    repeat walk_at "dl"
    refine rwp_tup ?_ ?_
    · rw [List.length_map]
      exact Nat.le_trans (m := 500) (show L.length + 1 ≤ 500 by omega) (by decide)
    have hz4 := hn.2.2 z hz
    have ht : topicS z = true := by
      have : ∀ z ∈ names4, topicS z = true := by decide +kernel
      exact this z hz4
    refine ⟨L ++ [⟨time + st, z, 1 + ln⟩], time + st, a, b, some (.int (0 + (i : Int))), some (.int (1 + ln)), ?_, rfl, hs, by omega, by omega, ⟨⟨?_, ?_, ?_⟩, ?_, ?_⟩, ?_, ?_⟩
    · show _ = [some (.raw (.ref p)), some (.int m), some (encL ss), some (.int (time + st)), some (.int lg), some (.tup ((L ++ [(⟨time + st, z, 1 + ln⟩ : An)]).map enc)), some (.int wd), some (.int (0 + (i : Int))), some (.int (1 + ln))]
      rw [List.map_append]
      rfl
    · rw [List.length_append, List.length_singleton]; omega
    · intro x hx
      rcases List.mem_append.mp hx with hx | hx
      · exact hL.v.ann x hx
      · simp at hx
        subst hx
        exact ⟨by show 0 ≤ time + st; omega, by show time + st ≤ 10000; omega, ht, by show 1 ≤ 1 + ln; omega, by show 1 + ln ≤ 99; omega⟩
    · rw [List.pairwise_append]
      refine ⟨hL.v.ord, List.pairwise_singleton _ _, fun x hx y hy => ?_⟩
      simp at hy
      subst hy
      have := hlast x hx
      show x.a ≤ time + st
      omega
    · intro x hx
      rcases List.mem_append.mp hx with hx | hx
      · exact hL.t x hx
      · simp at hx
        subst hx
        show time + st ≤ 9600
        omega
    · intro x hx
      rcases List.mem_append.mp hx with hx | hx
      · exact hL.n x hx
      · simp at hx
        subst hx
        exact hz4
    · rw [List.length_append, List.length_singleton, hlen]
    · intro x hx
      rcases List.mem_append.mp hx with hx | hx
      · have := hlast x hx; omega
      · simp at hx
        subst hx
        exact Int.le_refl _
  · rintro Γ O ⟨L, time, a, b, x7, x8, rfl, rfl, hs, h0, h1, hL, hlen, hlast⟩
    repeat walk_at "dl"
    refine hp L a b hL ?_ hs
    rw [hlen, rngD_length]
    omega
def rules3 : List Str := ["none", "place", "end"]
def S__law_rules : SpT := fun ds Oc Post => ds = [] ∧ Post (encL rules3) Oc
theorem ok__law_rules (T : Txt K mg A) : FnOk P w K mg base CX0 1 A.a__law_rules A.d__law_rules [] (SpD K S__law_rules) := by
  refine fn_ok T.F__law_rules sc__law_rules (fun ds Oc Post h => by obtain ⟨rfl, _⟩ := h; rfl) (fun cdv AA outer s H E hr => ?_)
  refine ⟨_, (pss_one (ps_ret (pe_lst (pa_cons pe_str (pa_cons pe_str (pa_cons pe_str pa_nil)))))), fun ds Oc Post h => ?_⟩
  obtain ⟨rfl, hp⟩ := h
  repeat (first | walk_at "dl" | refine ew_lst ?_)
  exact hp
end
end DL
namespace DL
open PySem PySem.Spec PyProof.Rows L2
open Enc (enc)
local macro_rules | `(tactic| walk_at "dl") => `(tactic| first
  | (with_reducible_and_instances refine sw_seq ?_)
  | (with_reducible_and_instances refine sw_ret ?_)
  | (with_reducible_and_instances refine sw_retN ?_)
  | (with_reducible_and_instances refine sw_set ?_)
  | (with_reducible_and_instances refine sw_par ?_)
  | (with_reducible_and_instances refine sw_drop ?_)
  | (with_reducible_and_instances refine sw_next ?_)
  | (with_reducible_and_instances refine sw_break ?_)
  | (with_reducible_and_instances refine sw_if ?_)
  | (with_reducible_and_instances refine sw_asg ?_)
  | ((with_reducible_and_instances refine' ew_var ?hh ?kk); (case hh => rfl))
  | (with_reducible_and_instances refine ew_int ?_)
  | (with_reducible_and_instances refine ew_str ?_)
  | (with_reducible_and_instances refine ew_bl ?_)
  | (with_reducible_and_instances refine ew_non ?_)
  | (with_reducible_and_instances refine ew_raw (v := .ty _) ?_)
  | (with_reducible_and_instances refine ew_op ?_)
  | (with_reducible_and_instances refine ew_un ?_)
  | (with_reducible_and_instances refine ew_chain ?_)
  | (with_reducible_and_instances refine ew_andV ?_)
  | (with_reducible_and_instances refine ew_orV ?_)
  | (with_reducible_and_instances refine ew_notV ?_)
  | (with_reducible_and_instances refine ew_if ?_)
  | (with_reducible_and_instances refine ew_tup ?_)
  | (with_reducible_and_instances refine ew_cb ?_)
  | (with_reducible_and_instances refine ew_slA ?_)
  | (with_reducible_and_instances refine .inl ⟨_, rfl, ?_⟩)
  | (with_reducible_and_instances refine .inr ⟨_, .same _, ?_⟩)
  | (with_reducible_and_instances refine aw_cons ?_)
  | (with_reducible_and_instances refine aw_nil ?_)
  | (with_reducible_and_instances refine tw_test ?_)
  | (with_reducible_and_instances refine tw_B ?_)
  | (with_reducible_and_instances refine tw_and ?_)
  | (with_reducible_and_instances refine tw_or ?_)
  | (with_reducible_and_instances refine tw_not ?_)
  | (with_reducible_and_instances refine tw_yes ?_)
  | (with_reducible_and_instances refine pw_none ?_)
  | (with_reducible_and_instances refine pw_some ?_)
  | (with_reducible_and_instances refine rw_le ?_)
  | (with_reducible_and_instances refine rw_lt ?_)
  | (with_reducible_and_instances refine rw_gt ?_)
  | (with_reducible_and_instances refine rw_ge ?_)
  | (with_reducible_and_instances refine rw_sub ?_)
  | (with_reducible_and_instances refine uw_neg ?_)
  | (with_reducible_and_instances refine rwp_int ?_)
  | ((with_reducible_and_instances refine gw_name ?hj ?_); (case hj => first | exact trivial | decide))
  | (with_reducible_and_instances refine gsw_cons ?_)
  | (with_reducible_and_instances refine gsw_nil ?_)
  | (with_reducible_and_instances refine gw_tup rfl ?_)
  | (with_reducible_and_instances refine cw_max2 ?_)
  | (with_reducible_and_instances refine cw_min2 ?_)
  | (with_reducible_and_instances refine cw_lenT ?_)
  | (with_reducible_and_instances refine cw_lenR ?_)
  | (with_reducible_and_instances refine cw_lenL (.same _) ?_)
  | (with_reducible_and_instances refine cw_intB ?_)
  | (with_reducible_and_instances refine ⟨_, rfl, ?_⟩)
  | (with_reducible_and_instances refine ⟨_, _, rfl, ?_⟩)
  | (refine ⟨Nat.le_trans (by simp) (Nat.le_of_lt (small1000 (n := 1000) (by decide))), ?_⟩))
local macro_rules | `(tactic| walk_at "dx") => `(tactic| first
  | (with_reducible_and_instances refine sw_seq ?_)
  | (with_reducible_and_instances refine sw_ret ?_)
  | (with_reducible_and_instances refine sw_retN ?_)
  | (with_reducible_and_instances refine sw_set ?_)
  | (with_reducible_and_instances refine sw_par ?_)
  | (with_reducible_and_instances refine sw_drop ?_)
  | (with_reducible_and_instances refine sw_next ?_)
  | (with_reducible_and_instances refine sw_break ?_)
  | (with_reducible_and_instances refine sw_asg ?_)
  | ((with_reducible_and_instances refine' ew_var ?hh ?kk); (case hh => rfl))
  | (with_reducible_and_instances refine ew_int ?_)
  | (with_reducible_and_instances refine ew_str ?_)
  | (with_reducible_and_instances refine ew_bl ?_)
  | (with_reducible_and_instances refine ew_non ?_)
  | (with_reducible_and_instances refine ew_raw (v := .ty _) ?_)
  | (with_reducible_and_instances refine ew_op ?_)
  | (with_reducible_and_instances refine ew_un ?_)
  | (with_reducible_and_instances refine ew_chain ?_)
  | (with_reducible_and_instances refine ew_andV ?_)
  | (with_reducible_and_instances refine ew_orV ?_)
  | (with_reducible_and_instances refine ew_notV ?_)
  | (with_reducible_and_instances refine ew_if ?_)
  | (with_reducible_and_instances refine ew_tup ?_)
  | (with_reducible_and_instances refine ew_cb ?_)
  | (with_reducible_and_instances refine ew_slA ?_)
  | (with_reducible_and_instances refine .inl ⟨_, rfl, ?_⟩)
  | (with_reducible_and_instances refine .inr ⟨_, .same _, ?_⟩)
  | (with_reducible_and_instances refine aw_cons ?_)
  | (with_reducible_and_instances refine aw_nil ?_)
  | (with_reducible_and_instances refine tw_test ?_)
  | (with_reducible_and_instances refine tw_B ?_)
  | (with_reducible_and_instances refine tw_and ?_)
  | (with_reducible_and_instances refine tw_or ?_)
  | (with_reducible_and_instances refine tw_not ?_)
  | (with_reducible_and_instances refine tw_yes ?_)
  | (with_reducible_and_instances refine pw_none ?_)
  | (with_reducible_and_instances refine pw_some ?_)
  | (with_reducible_and_instances refine rw_le ?_)
  | (with_reducible_and_instances refine rw_lt ?_)
  | (with_reducible_and_instances refine rw_gt ?_)
  | (with_reducible_and_instances refine rw_ge ?_)
  | (with_reducible_and_instances refine rw_sub ?_)
  | (with_reducible_and_instances refine uw_neg ?_)
  | (with_reducible_and_instances refine rwp_int ?_)
  | ((with_reducible_and_instances refine gw_name ?hj ?_); (case hj => first | exact trivial | decide))
  | (with_reducible_and_instances refine gsw_cons ?_)
  | (with_reducible_and_instances refine gsw_nil ?_)
  | (with_reducible_and_instances refine gw_tup rfl ?_)
  | (with_reducible_and_instances refine cw_max2 ?_)
  | (with_reducible_and_instances refine cw_min2 ?_)
  | (with_reducible_and_instances refine cw_lenT ?_)
  | (with_reducible_and_instances refine cw_lenR ?_)
  | (with_reducible_and_instances refine cw_lenL (.same _) ?_)
  | (with_reducible_and_instances refine cw_intB ?_)
  | (with_reducible_and_instances refine ⟨_, rfl, ?_⟩)
  | (with_reducible_and_instances refine ⟨_, _, rfl, ?_⟩)
  | (refine ⟨Nat.le_trans (by simp) (Nat.le_of_lt (small1000 (n := 1000) (by decide))), ?_⟩))
local macro_rules | `(tactic| walk_at "dn") => `(tactic| first
  | (with_reducible_and_instances refine sw_ret ?_)
  | (with_reducible_and_instances refine sw_retN ?_)
  | (with_reducible_and_instances refine sw_set ?_)
  | (with_reducible_and_instances refine sw_par ?_)
  | (with_reducible_and_instances refine sw_drop ?_)
  | (with_reducible_and_instances refine sw_next ?_)
  | (with_reducible_and_instances refine sw_break ?_)
  | (with_reducible_and_instances refine sw_asg ?_)
  | ((with_reducible_and_instances refine' ew_var ?hh ?kk); (case hh => rfl))
  | (with_reducible_and_instances refine ew_int ?_)
  | (with_reducible_and_instances refine ew_str ?_)
  | (with_reducible_and_instances refine ew_bl ?_)
  | (with_reducible_and_instances refine ew_non ?_)
  | (with_reducible_and_instances refine ew_raw (v := .ty _) ?_)
  | (with_reducible_and_instances refine ew_op ?_)
  | (with_reducible_and_instances refine ew_un ?_)
  | (with_reducible_and_instances refine ew_chain ?_)
  | (with_reducible_and_instances refine ew_andV ?_)
  | (with_reducible_and_instances refine ew_orV ?_)
  | (with_reducible_and_instances refine ew_notV ?_)
  | (with_reducible_and_instances refine ew_if ?_)
  | (with_reducible_and_instances refine ew_tup ?_)
  | (with_reducible_and_instances refine ew_cb ?_)
  | (with_reducible_and_instances refine ew_slA ?_)
  | (with_reducible_and_instances refine .inl ⟨_, rfl, ?_⟩)
  | (with_reducible_and_instances refine .inr ⟨_, .same _, ?_⟩)
  | (with_reducible_and_instances refine aw_cons ?_)
  | (with_reducible_and_instances refine aw_nil ?_)
  | (with_reducible_and_instances refine tw_test ?_)
  | (with_reducible_and_instances refine tw_B ?_)
  | (with_reducible_and_instances refine tw_and ?_)
  | (with_reducible_and_instances refine tw_or ?_)
  | (with_reducible_and_instances refine tw_not ?_)
  | (with_reducible_and_instances refine tw_yes ?_)
  | (with_reducible_and_instances refine pw_none ?_)
  | (with_reducible_and_instances refine pw_some ?_)
  | (with_reducible_and_instances refine rw_le ?_)
  | (with_reducible_and_instances refine rw_lt ?_)
  | (with_reducible_and_instances refine rw_gt ?_)
  | (with_reducible_and_instances refine rw_ge ?_)
  | (with_reducible_and_instances refine rw_sub ?_)
  | (with_reducible_and_instances refine uw_neg ?_)
  | (with_reducible_and_instances refine rwp_int ?_)
  | ((with_reducible_and_instances refine gw_name ?hj ?_); (case hj => first | exact trivial | decide))
  | (with_reducible_and_instances refine gsw_cons ?_)
  | (with_reducible_and_instances refine gsw_nil ?_)
  | (with_reducible_and_instances refine gw_tup rfl ?_)
  | (with_reducible_and_instances refine cw_max2 ?_)
  | (with_reducible_and_instances refine cw_min2 ?_)
  | (with_reducible_and_instances refine cw_lenT ?_)
  | (with_reducible_and_instances refine cw_lenR ?_)
  | (with_reducible_and_instances refine cw_lenL (.same _) ?_)
  | (with_reducible_and_instances refine cw_intB ?_)
  | (with_reducible_and_instances refine ⟨_, rfl, ?_⟩)
  | (with_reducible_and_instances refine ⟨_, _, rfl, ?_⟩)
  | (refine ⟨Nat.le_trans (by simp) (Nat.le_of_lt (small1000 (n := 1000) (by decide))), ?_⟩))
/-! ### the law's own line -/
def Dist (r : Str) (L : List An) (line : List Pr) : Prop := r = "none" ∨ (line.map fun p => topAt L p.b).Nodup
def mt (L : List An) (k : Nat) (p : Pr) : Bool := decide (topAt L p.b = topAt L k)
/-- the law's loop, behind some of the line -/
def lfound (r : Str) (L : List An) (k : Nat) (xs : List Pr) : List Pr :=
  if r = "none" then xs else if r = "place" then xs.map fun p => if mt L k p then ⟨p.a, k⟩ else p else xs.filter fun p => !mt L k p
def lren (r : Str) (L : List An) (k : Nat) (xs : List Pr) : Option Pr :=
  if r = "none" then none else match (xs.filter (mt L k)).getLast? with
    | some p => some ⟨p.a, k⟩
    | none => none
def lrcv (r : Str) (L : List An) (line : List Pr) (k : Nat) : List Pr :=
  match lren r L k line with
  | none => lfound r L k line ++ [⟨k, k⟩]
  | some p => if r = "place" then lfound r L k line else lfound r L k line ++ [p]
theorem lfound_snoc (r : Str) (L : List An) (k : Nat) (xs : List Pr) (p : Pr) : lfound r L k (xs ++ [p]) = if r = "none" ∨ mt L k p = false then lfound r L k xs ++ [p] else if r = "place" then lfound r L k xs ++ [⟨p.a, k⟩] else lfound r L k xs := by
  unfold lfound
  by_cases h1 : r = "none"
  · simp [h1]
  · by_cases h2 : r = "place"
    · subst h2
      cases h3 : mt L k p <;> simp [h1, h3]
    · cases h3 : mt L k p <;> simp [h1, h2, h3]
theorem lren_snoc (r : Str) (L : List An) (k : Nat) (xs : List Pr) (p : Pr) : lren r L k (xs ++ [p]) = if r = "none" ∨ mt L k p = false then lren r L k xs else some ⟨p.a, k⟩ := by
  unfold lren
  by_cases h1 : r = "none"
  · simp [h1]
  · cases h3 : mt L k p <;> simp [h1, h3]
theorem filter_one {L : List An} {k : Nat} : ∀ {line : List Pr}, (line.map fun p => topAt L p.b).Nodup → ∀ p0 ps, line.filter (mt L k) = p0 :: ps → ps = [] ∧ ∀ p ∈ line, mt L k p = decide (p = p0)
  | [], _, p0, ps, h => by cases h
  | q :: line, hn, p0, ps, h => by
    rw [List.map_cons, List.nodup_cons] at hn
    rw [List.filter_cons] at h
    cases hq : mt L k q with
    | true =>
      rw [hq, if_pos rfl] at h
      injection h with h1 h2
      subst h1
      have hno : ∀ p ∈ line, mt L k p = false := fun p hp => by
        cases e : mt L k p with
        | false => rfl
        | true =>
          have e1 := of_decide_eq_true e
          have e2 := of_decide_eq_true hq
          exact absurd (List.mem_map.mpr ⟨p, hp, e1.trans e2.symm⟩) hn.1
      have hz : line.filter (mt L k) = [] := List.filter_eq_nil_iff.mpr fun p hp => by rw [hno p hp]; decide
      rw [hz] at h2
      refine ⟨h2.symm, fun p hp => ?_⟩
      rcases List.mem_cons.mp hp with e | hp'
      · subst e; rw [hq]; simp
      · rw [hno p hp']
        symm
        apply decide_eq_false
        intro e
        rw [← e, hno p hp'] at hq
        cases hq
    | false =>
      rw [hq, if_neg Bool.false_ne_true] at h
      obtain ⟨h1, h2⟩ := filter_one hn.2 p0 ps h
      refine ⟨h1, fun p hp => ?_⟩
      rcases List.mem_cons.mp hp with e | hp
      · subst e
        rw [hq]
        symm
        apply decide_eq_false
        rintro rfl
        have hm : p ∈ line.filter (mt L k) := by rw [h]; exact List.mem_cons_self
        rw [(List.mem_filter.mp hm).2] at hq
        cases hq
      · exact h2 p hp
theorem lrcv_eq {r : Str} {L : List An} {line : List Pr} {k : Nat} (hd : Dist r L line) : lrcv r L line k = rcv r L line k := by
  unfold lrcv rcv
  show _ = match line.filter (mt L k) with
    | [] => line ++ [(⟨k, k⟩ : Pr)]
    | p0 :: _ => if r = "none" then line ++ [(⟨k, k⟩ : Pr)] else if r = "place" then line.map fun p => if p = p0 then (⟨p0.a, k⟩ : Pr) else p else line.filter (fun p => !decide (p = p0)) ++ [(⟨p0.a, k⟩ : Pr)]
  by_cases hr : r = "none"
  · have e1 : lren r L k line = none := by unfold lren; rw [if_pos hr]
    have e2 : lfound r L k line = line := by unfold lfound; rw [if_pos hr]
    rw [e1, e2]
    cases line.filter (mt L k) with
    | nil => rfl
    | cons p0 ps => show _ = if _ then _ else _; rw [if_pos hr]
  · have hn := hd.resolve_left hr
    cases hf : line.filter (mt L k) with
    | nil =>
      have e1 : lren r L k line = none := by unfold lren; rw [if_neg hr, hf]; rfl
      have hno : ∀ p ∈ line, mt L k p = false := fun p hp => by
        have := List.filter_eq_nil_iff.mp hf p hp
        simpa using this
      have e2 : lfound r L k line = line := by
        unfold lfound
        rw [if_neg hr]
        split
        · conv => rhs; rw [← List.map_id line]
          exact List.map_congr_left fun p hp => by rw [hno p hp]; rfl
        · exact List.filter_eq_self.mpr fun p hp => by rw [hno p hp]; rfl
      rw [e1, e2]
    | cons p0 ps =>
      obtain ⟨rfl, hm⟩ := filter_one hn p0 ps hf
      have e1 : lren r L k line = some ⟨p0.a, k⟩ := by unfold lren; rw [if_neg hr, hf]; rfl
      rw [e1]
      show (if _ then _ else _) = if _ then _ else _
      rw [if_neg hr]
      by_cases hp : r = "place"
      · rw [if_pos hp, if_pos hp]
        unfold lfound
        rw [if_neg hr, if_pos hp]
        refine List.map_congr_left fun p hpm => ?_
        rw [hm p hpm]
        by_cases e : p = p0
        · subst e; simp
        · simp [e]
      · rw [if_neg hp, if_neg hp]
        unfold lfound
        rw [if_neg hr, if_neg hp]
        congr 1
        exact List.filter_congr fun p hpm => by rw [hm p hpm]
def S__law_received : SpT := fun ds Oc Post => ∃ (p : Addr) (line : List Pr) (L : List An) (k : Nat) (r : Str), ds = [.raw (.ref p), encU L, .int (k : Int), .str r] ∧ Oc = [(p, .lst (line.map enc))] ∧ k < L.length ∧ Fits L line ∧ line.length ≤ 1000 ∧ Dist r L line ∧ ∀ q, Post (.raw (.ref q)) [(q, .lst ((rcv r L line k).map enc))]
def encO : Option Pr → Dt
  | none => .non
  | some p => enc p
section
variable {P : Program} {w : World} {K : PySem.W.Frag} {mg : Str → Option Value} {base : Heap} {A : Ad}
end
end DL
namespace DL
open PySem PySem.Spec PyProof.Rows L2
open Enc (enc)
local macro_rules | `(tactic| walk_at "dl") => `(tactic| first
  | (with_reducible_and_instances refine sw_seq ?_)
  | (with_reducible_and_instances refine sw_ret ?_)
  | (with_reducible_and_instances refine sw_retN ?_)
  | (with_reducible_and_instances refine sw_set ?_)
  | (with_reducible_and_instances refine sw_par ?_)
  | (with_reducible_and_instances refine sw_drop ?_)
  | (with_reducible_and_instances refine sw_next ?_)
  | (with_reducible_and_instances refine sw_break ?_)
  | (with_reducible_and_instances refine sw_if ?_)
  | (with_reducible_and_instances refine sw_asg ?_)
  | ((with_reducible_and_instances refine' ew_var ?hh ?kk); (case hh => rfl))
  | (with_reducible_and_instances refine ew_int ?_)
  | (with_reducible_and_instances refine ew_str ?_)
  | (with_reducible_and_instances refine ew_bl ?_)
  | (with_reducible_and_instances refine ew_non ?_)
  | (with_reducible_and_instances refine ew_raw (v := .ty _) ?_)
  | (with_reducible_and_instances refine ew_op ?_)
  | (with_reducible_and_instances refine ew_un ?_)
  | (with_reducible_and_instances refine ew_chain ?_)
  | (with_reducible_and_instances refine ew_andV ?_)
  | (with_reducible_and_instances refine ew_orV ?_)
  | (with_reducible_and_instances refine ew_notV ?_)
  | (with_reducible_and_instances refine ew_if ?_)
  | (with_reducible_and_instances refine ew_tup ?_)
  | (with_reducible_and_instances refine ew_cb ?_)
  | (with_reducible_and_instances refine ew_slA ?_)
  | (with_reducible_and_instances refine .inl ⟨_, rfl, ?_⟩)
  | (with_reducible_and_instances refine .inr ⟨_, .same _, ?_⟩)
  | (with_reducible_and_instances refine aw_cons ?_)
  | (with_reducible_and_instances refine aw_nil ?_)
  | (with_reducible_and_instances refine tw_test ?_)
  | (with_reducible_and_instances refine tw_B ?_)
  | (with_reducible_and_instances refine tw_and ?_)
  | (with_reducible_and_instances refine tw_or ?_)
  | (with_reducible_and_instances refine tw_not ?_)
  | (with_reducible_and_instances refine tw_yes ?_)
  | (with_reducible_and_instances refine pw_none ?_)
  | (with_reducible_and_instances refine pw_some ?_)
  | (with_reducible_and_instances refine rw_le ?_)
  | (with_reducible_and_instances refine rw_lt ?_)
  | (with_reducible_and_instances refine rw_gt ?_)
  | (with_reducible_and_instances refine rw_ge ?_)
  | (with_reducible_and_instances refine rw_sub ?_)
  | (with_reducible_and_instances refine uw_neg ?_)
  | (with_reducible_and_instances refine rwp_int ?_)
  | ((with_reducible_and_instances refine gw_name ?hj ?_); (case hj => first | exact trivial | decide))
  | (with_reducible_and_instances refine gsw_cons ?_)
  | (with_reducible_and_instances refine gsw_nil ?_)
  | (with_reducible_and_instances refine gw_tup rfl ?_)
  | (with_reducible_and_instances refine cw_max2 ?_)
  | (with_reducible_and_instances refine cw_min2 ?_)
  | (with_reducible_and_instances refine cw_lenT ?_)
  | (with_reducible_and_instances refine cw_lenR ?_)
  | (with_reducible_and_instances refine cw_lenL (.same _) ?_)
  | (with_reducible_and_instances refine cw_intB ?_)
  | (with_reducible_and_instances refine ⟨_, rfl, ?_⟩)
  | (with_reducible_and_instances refine ⟨_, _, rfl, ?_⟩)
  | (refine ⟨Nat.le_trans (by simp) (Nat.le_of_lt (small1000 (n := 1000) (by decide))), ?_⟩))
local macro_rules | `(tactic| walk_at "dx") => `(tactic| first
  | (with_reducible_and_instances refine sw_seq ?_)
  | (with_reducible_and_instances refine sw_ret ?_)
  | (with_reducible_and_instances refine sw_retN ?_)
  | (with_reducible_and_instances refine sw_set ?_)
  | (with_reducible_and_instances refine sw_par ?_)
  | (with_reducible_and_instances refine sw_drop ?_)
  | (with_reducible_and_instances refine sw_next ?_)
  | (with_reducible_and_instances refine sw_break ?_)
  | (with_reducible_and_instances refine sw_asg ?_)
  | ((with_reducible_and_instances refine' ew_var ?hh ?kk); (case hh => rfl))
  | (with_reducible_and_instances refine ew_int ?_)
  | (with_reducible_and_instances refine ew_str ?_)
  | (with_reducible_and_instances refine ew_bl ?_)
  | (with_reducible_and_instances refine ew_non ?_)
  | (with_reducible_and_instances refine ew_raw (v := .ty _) ?_)
  | (with_reducible_and_instances refine ew_op ?_)
  | (with_reducible_and_instances refine ew_un ?_)
  | (with_reducible_and_instances refine ew_chain ?_)
  | (with_reducible_and_instances refine ew_andV ?_)
  | (with_reducible_and_instances refine ew_orV ?_)
  | (with_reducible_and_instances refine ew_notV ?_)
  | (with_reducible_and_instances refine ew_if ?_)
  | (with_reducible_and_instances refine ew_tup ?_)
  | (with_reducible_and_instances refine ew_cb ?_)
  | (with_reducible_and_instances refine ew_slA ?_)
  | (with_reducible_and_instances refine .inl ⟨_, rfl, ?_⟩)
  | (with_reducible_and_instances refine .inr ⟨_, .same _, ?_⟩)
  | (with_reducible_and_instances refine aw_cons ?_)
  | (with_reducible_and_instances refine aw_nil ?_)
  | (with_reducible_and_instances refine tw_test ?_)
  | (with_reducible_and_instances refine tw_B ?_)
  | (with_reducible_and_instances refine tw_and ?_)
  | (with_reducible_and_instances refine tw_or ?_)
  | (with_reducible_and_instances refine tw_not ?_)
  | (with_reducible_and_instances refine tw_yes ?_)
  | (with_reducible_and_instances refine pw_none ?_)
  | (with_reducible_and_instances refine pw_some ?_)
  | (with_reducible_and_instances refine rw_le ?_)
  | (with_reducible_and_instances refine rw_lt ?_)
  | (with_reducible_and_instances refine rw_gt ?_)
  | (with_reducible_and_instances refine rw_ge ?_)
  | (with_reducible_and_instances refine rw_sub ?_)
  | (with_reducible_and_instances refine uw_neg ?_)
  | (with_reducible_and_instances refine rwp_int ?_)
  | ((with_reducible_and_instances refine gw_name ?hj ?_); (case hj => first | exact trivial | decide))
  | (with_reducible_and_instances refine gsw_cons ?_)
  | (with_reducible_and_instances refine gsw_nil ?_)
  | (with_reducible_and_instances refine gw_tup rfl ?_)
  | (with_reducible_and_instances refine cw_max2 ?_)
  | (with_reducible_and_instances refine cw_min2 ?_)
  | (with_reducible_and_instances refine cw_lenT ?_)
  | (with_reducible_and_instances refine cw_lenR ?_)
  | (with_reducible_and_instances refine cw_lenL (.same _) ?_)
  | (with_reducible_and_instances refine cw_intB ?_)
  | (with_reducible_and_instances refine ⟨_, rfl, ?_⟩)
  | (with_reducible_and_instances refine ⟨_, _, rfl, ?_⟩)
  | (refine ⟨Nat.le_trans (by simp) (Nat.le_of_lt (small1000 (n := 1000) (by decide))), ?_⟩))
local macro_rules | `(tactic| walk_at "dn") => `(tactic| first
  | (with_reducible_and_instances refine sw_ret ?_)
  | (with_reducible_and_instances refine sw_retN ?_)
  | (with_reducible_and_instances refine sw_set ?_)
  | (with_reducible_and_instances refine sw_par ?_)
  | (with_reducible_and_instances refine sw_drop ?_)
  | (with_reducible_and_instances refine sw_next ?_)
  | (with_reducible_and_instances refine sw_break ?_)
  | (with_reducible_and_instances refine sw_asg ?_)
  | ((with_reducible_and_instances refine' ew_var ?hh ?kk); (case hh => rfl))
  | (with_reducible_and_instances refine ew_int ?_)
  | (with_reducible_and_instances refine ew_str ?_)
  | (with_reducible_and_instances refine ew_bl ?_)
  | (with_reducible_and_instances refine ew_non ?_)
  | (with_reducible_and_instances refine ew_raw (v := .ty _) ?_)
  | (with_reducible_and_instances refine ew_op ?_)
  | (with_reducible_and_instances refine ew_un ?_)
  | (with_reducible_and_instances refine ew_chain ?_)
  | (with_reducible_and_instances refine ew_andV ?_)
  | (with_reducible_and_instances refine ew_orV ?_)
  | (with_reducible_and_instances refine ew_notV ?_)
  | (with_reducible_and_instances refine ew_if ?_)
  | (with_reducible_and_instances refine ew_tup ?_)
  | (with_reducible_and_instances refine ew_cb ?_)
  | (with_reducible_and_instances refine ew_slA ?_)
  | (with_reducible_and_instances refine .inl ⟨_, rfl, ?_⟩)
  | (with_reducible_and_instances refine .inr ⟨_, .same _, ?_⟩)
  | (with_reducible_and_instances refine aw_cons ?_)
  | (with_reducible_and_instances refine aw_nil ?_)
  | (with_reducible_and_instances refine tw_test ?_)
  | (with_reducible_and_instances refine tw_B ?_)
  | (with_reducible_and_instances refine tw_and ?_)
  | (with_reducible_and_instances refine tw_or ?_)
  | (with_reducible_and_instances refine tw_not ?_)
  | (with_reducible_and_instances refine tw_yes ?_)
  | (with_reducible_and_instances refine pw_none ?_)
  | (with_reducible_and_instances refine pw_some ?_)
  | (with_reducible_and_instances refine rw_le ?_)
  | (with_reducible_and_instances refine rw_lt ?_)
  | (with_reducible_and_instances refine rw_gt ?_)
  | (with_reducible_and_instances refine rw_ge ?_)
  | (with_reducible_and_instances refine rw_sub ?_)
  | (with_reducible_and_instances refine uw_neg ?_)
  | (with_reducible_and_instances refine rwp_int ?_)
  | ((with_reducible_and_instances refine gw_name ?hj ?_); (case hj => first | exact trivial | decide))
  | (with_reducible_and_instances refine gsw_cons ?_)
  | (with_reducible_and_instances refine gsw_nil ?_)
  | (with_reducible_and_instances refine gw_tup rfl ?_)
  | (with_reducible_and_instances refine cw_max2 ?_)
  | (with_reducible_and_instances refine cw_min2 ?_)
  | (with_reducible_and_instances refine cw_lenT ?_)
  | (with_reducible_and_instances refine cw_lenR ?_)
  | (with_reducible_and_instances refine cw_lenL (.same _) ?_)
  | (with_reducible_and_instances refine cw_intB ?_)
  | (with_reducible_and_instances refine ⟨_, rfl, ?_⟩)
  | (with_reducible_and_instances refine ⟨_, _, rfl, ?_⟩)
  | (refine ⟨Nat.le_trans (by simp) (Nat.le_of_lt (small1000 (n := 1000) (by decide))), ?_⟩))
/-! ### receiving, second by second -/
theorem rcvAll_next {r : Str} {L : List An} {a : Int} : ∀ (n : Nat) {line : List Pr} {done : Nat}, L.length - done = n → ¬ ((rcvAll r L a line done).2 < L.length ∧ timAt L (rcvAll r L a line done).2 ≤ a)
  | 0, line, done, h => by
    rw [rcvAll_stop (fun z => by omega)]
    exact fun z => by have := z.1; omega
  | n + 1, line, done, h => by
    by_cases hc : done < L.length ∧ timAt L done ≤ a
    · rw [rcvAll_go hc.1 hc.2]
      exact rcvAll_next n (by omega)
    · rw [rcvAll_stop hc]
      exact hc
theorem rcvAll_comp {r : Str} {L : List An} {a b : Int} (hab : a ≤ b) : ∀ (n : Nat) {line : List Pr} {done : Nat}, L.length - done = n → rcvAll r L b (rcvAll r L a line done).1 (rcvAll r L a line done).2 = rcvAll r L b line done
  | 0, line, done, h => by rw [rcvAll_stop (now := a) (fun z => by omega)]
  | n + 1, line, done, h => by
    by_cases hc : done < L.length ∧ timAt L done ≤ a
    · rw [rcvAll_go (now := a) hc.1 hc.2, rcvAll_go (now := b) hc.1 (Int.le_trans hc.2 hab)]
      exact rcvAll_comp hab n (by omega)
    · rw [rcvAll_stop (now := a) hc]
/-- nothing comes between a and c -/
theorem rcvAll_gap {r : Str} {L : List An} {a c : Int} {line : List Pr} {done : Nat} (hac : a ≤ c) (h : (rcvAll r L a line done).2 < L.length → c < timAt L (rcvAll r L a line done).2) : rcvAll r L c line done = rcvAll r L a line done := by
  rw [← rcvAll_comp hac _ rfl, rcvAll_stop]
  rintro ⟨h1, h2⟩
  have := h h1
  omega
theorem Dist.tail {r : Str} {L : List An} {p : Pr} {ps : List Pr} (h : Dist r L (p :: ps)) : Dist r L ps := h.imp id fun z => by
  rw [List.map_cons, List.nodup_cons] at z
  exact z.2
theorem Dist.rcv {r : Str} {L : List An} {line : List Pr} (k : Nat) (h : Dist r L line) : Dist r L (rcv r L line k) := by
  rcases h with h | hn
  · exact .inl h
  · by_cases hr : r = "none"
    · exact .inl hr
    · right
      rw [← lrcv_eq (.inr hn)]
      unfold lrcv
      cases hf : line.filter (mt L k) with
      | nil =>
        have hno : ∀ p ∈ line, mt L k p = false := fun p hp => by
          have := List.filter_eq_nil_iff.mp hf p hp
          simpa using this
        have e1 : lren r L k line = none := by unfold lren; rw [if_neg hr, hf]; rfl
        have e2 : lfound r L k line = line := by
          unfold lfound
          rw [if_neg hr]
          split
          · conv => rhs; rw [← List.map_id line]
            exact List.map_congr_left fun p hp => by rw [hno p hp]; rfl
          · exact List.filter_eq_self.mpr fun p hp => by rw [hno p hp]; rfl
        rw [e1, e2]
        show ((line ++ [(⟨k, k⟩ : Pr)]).map fun p => topAt L p.b).Nodup
        rw [List.map_append, List.nodup_append]
        refine ⟨hn, by simp, fun a ha b hb => ?_⟩
        simp at hb
        subst hb
        rintro rfl
        obtain ⟨p, hp, e⟩ := List.mem_map.mp ha
        have := of_decide_eq_false (hno p hp)
        exact this e
      | cons p0 ps =>
        obtain ⟨rfl, hm⟩ := filter_one hn p0 ps hf
        have e1 : lren r L k line = some ⟨p0.a, k⟩ := by unfold lren; rw [if_neg hr, hf]; rfl
        rw [e1]
        show ((if r = "place" then lfound r L k line else lfound r L k line ++ [(⟨p0.a, k⟩ : Pr)]).map fun p => topAt L p.b).Nodup
        by_cases hp : r = "place"
        · rw [if_pos hp]
          unfold lfound
          rw [if_neg hr, if_pos hp, List.map_map]
          have e : line.map ((fun p => topAt L p.b) ∘ fun p => if mt L k p then (⟨p.a, k⟩ : Pr) else p) = line.map fun p => topAt L p.b := by
            refine List.map_congr_left fun p hpm => ?_
            show topAt L (if mt L k p then (⟨p.a, k⟩ : Pr) else p).b = _
            cases e : mt L k p with
            | true => exact (of_decide_eq_true e).symm
            | false => rfl
          rw [e]
          exact hn
        · rw [if_neg hp]
          unfold lfound
          rw [if_neg hr, if_neg hp, List.map_append, List.nodup_append]
          refine ⟨?_, by simp, fun a ha b hb => ?_⟩
          · exact List.Sublist.nodup (List.filter_sublist.map _) hn
          · simp at hb
            subst hb
            rintro rfl
            obtain ⟨p, hp, e⟩ := List.mem_map.mp ha
            have := (List.mem_filter.mp hp).2
            have h3 : mt L k p = true := decide_eq_true e
            rw [h3] at this
            cases this
theorem rcvTo_dist {r : Str} {L : List An} {now : Int} : ∀ (f : Nat) (line : List Pr) (done : Nat), Dist r L line → Dist r L (rcvTo r L now f line done).1
  | 0, _, _, h => h
  | f + 1, line, done, h => by
    show Dist r L (if _ then _ else _ : List Pr × Nat).1
    split
    · exact rcvTo_dist f _ _ (h.rcv done)
    · exact h
theorem rcvAll_dist {r : Str} {L : List An} {now : Int} {line : List Pr} {done : Nat} (h : Dist r L line) : Dist r L (rcvAll r L now line done).1 := rcvTo_dist _ _ _ h
/-- a log for the law's own clock -/
structure SLog (L : List An) : Prop where
  len : L.length ≤ 500
  ord : L.Pairwise fun x y => x.a ≤ y.a
  pos : ∀ x ∈ L, 1 ≤ x.c
theorem VLog.s {L : List An} (h : VLog L) : SLog L := ⟨Nat.le_trans h.len (by decide), h.ord, fun x hx => (h.ann x hx).2.2.2.1⟩
theorem SLog.tim {L : List An} (h : SLog L) {i j : Nat} (hij : i ≤ j) (hj : j < L.length) : timAt L i ≤ timAt L j := by
  rcases Nat.lt_or_ge i j with hl | hl
  · rw [timAt_get (by omega), timAt_get hj]
    exact List.pairwise_iff_getElem.mp h.ord i j (by omega) hj hl
  · rw [show i = j by omega]; exact Int.le_refl _
theorem SLog.ln {L : List An} (h : SLog L) {i : Nat} (hi : i < L.length) : 1 ≤ lnAt L i := by
  rw [lnAt_get hi]
  exact h.pos _ (List.getElem_mem hi)
/-- what the law's loop knows at the head of a turn: line0, done0 are the program's (behind its last begin) -/
structure LwI (r : Str) (L : List An) (last time : Int) (line : List Pr) (done : Nat) (busy : Int) (found : List Bg) (line0 : List Pr) (done0 f : Nat) : Prop where
  fits0 : Fits L line0
  dle : done0 ≤ L.length
  len0 : line0.length + found.length ≤ done0
  dist0 : Dist r L line0
  eqs : (line, done) = rcvAll r L (time - 1) line0 done0
  nowle : (line0 ≠ [] ∨ done0 < L.length) → time ≤ nowOf L line0 done0 busy
  play : playR r L last = playF r L last f line0 done0 found busy
  fuel : muP L line0 done0 < f
  top : time ≤ last + 1 ∨ (line0 = [] ∧ done0 = 0 ∧ line = [] ∧ done = 0)
theorem LwI.rk {r : Str} {L : List An} {last time busy : Int} {line line0 : List Pr} {done done0 f : Nat} {found : List Bg} (h : LwI r L last time line done busy found line0 done0 f) : Rk L line0 done0 line done := by
  have := rcvAll_rk (r := r) (now := time - 1) h.fits0 h.dle
  rw [← h.eqs] at this
  exact this
theorem LwI.dist {r : Str} {L : List An} {last time busy : Int} {line line0 : List Pr} {done done0 f : Nat} {found : List Bg} (h : LwI r L last time line done busy found line0 done0 f) : Dist r L line := by
  have := rcvAll_dist (now := time - 1) (done := done0) h.dist0
  rw [← h.eqs] at this
  exact this
/-- all that is left comes at this time or later -/
theorem LwI.later {r : Str} {L : List An} {last time busy : Int} {line line0 : List Pr} {done done0 f : Nat} {found : List Bg} (h : LwI r L last time line done busy found line0 done0 f) (hs : SLog L) {k : Nat} (hk : done ≤ k) (hl : k < L.length) : time ≤ timAt L k := by
  have := rcvAll_next (r := r) (L := L) (a := time - 1) (line := line0) (done := done0) _ rfl
  rw [← h.eqs] at this
  have h1 : ¬ timAt L done ≤ time - 1 := fun z => this ⟨by show done < _; omega, z⟩
  have h2 := hs.tim hk hl
  omega
theorem LwI.recv {r : Str} {L : List An} {last time busy : Int} {line line0 : List Pr} {done done0 f : Nat} {found : List Bg} (h : LwI r L last time line done busy found line0 done0 f) : rcvAll r L time line done = rcvAll r L time line0 done0 := by
  have := rcvAll_comp (r := r) (L := L) (a := time - 1) (b := time) (by omega) _ (line := line0) (done := done0) rfl
  rw [← h.eqs] at this
  exact this
theorem LwI.start {r : Str} {L : List An} {last : Int} (time : Int) (ht : (L = [] ∧ time = last + 1) ∨ (L ≠ [] ∧ time = timAt L 0)) : LwI r L last time [] 0 0 [] [] 0 (L.length + 1) := by
  refine ⟨fun _ h => (by cases h), Nat.zero_le _, Nat.le_refl _, .inr .nil, ?_, fun hz => ?_, rfl, by unfold muP; simp, .inr ⟨rfl, rfl, rfl, rfl⟩⟩
  · rw [rcvAll_stop]
    rintro ⟨h1, h2⟩
    rcases ht with ⟨rfl, _⟩ | ⟨_, rfl⟩
    · simp at h1
    · omega
  · rcases ht with ⟨rfl, rfl⟩ | ⟨hL, rfl⟩
    · rcases hz with hz | hz
      · exact absurd rfl hz
      · simp at hz
    · unfold nowOf
      rw [if_neg (by simp)]
      omega
/-- a begin at this time -/
theorem LwI.begin {r : Str} {L : List An} {last time busy : Int} {line line0 ps : List Pr} {p : Pr} {done done0 d f : Nat} {found : List Bg} (hs : SLog L) (h : LwI r L last time line done busy found line0 done0 f) (hlast : time ≤ last)
    (e : rcvAll r L time line done = (p :: ps, d)) (hb : busy ≤ time) (time' : Int) (t1 : time < time') (t2 : d < L.length → time' ≤ timAt L d) (t3 : ps ≠ [] → time' ≤ time + lnAt L p.b) (t4 : time' ≤ last + 1) :
    ∃ f', LwI r L last time' ps d (time + lnAt L p.b) (found ++ [⟨time, p.a, p.b⟩]) ps d f' := by
  have rk := rcvAll_rk (r := r) (now := time) h.fits0 h.dle
  rw [← h.recv, e] at rk
  have hne : ¬ (line0 = [] ∧ ¬ done0 < L.length) := fun ⟨z1, z2⟩ => by
    have e2 := h.recv
    rw [e, rcvAll_stop (fun z => z2 z.1), z1] at e2
    cases e2
  have hnow : nowOf L line0 done0 busy = time := by
    have h1 := h.nowle (by
      rcases Classical.em (line0 = []) with z | z
      · right
        exact Classical.byContradiction fun z2 => hne ⟨z, z2⟩
      · exact .inl z)
    refine Int.le_antisymm ?_ h1
    unfold nowOf
    split
    · exact hb
    · rename_i z
      have z' : line0 = [] := Classical.byContradiction z
      have hlt : done0 < L.length := Classical.byContradiction fun z2 => hne ⟨z', z2⟩
      have : timAt L done0 ≤ time := Classical.byContradiction fun z2 => by
        have e2 := h.recv
        rw [e, rcvAll_stop (fun z => z2 z.2), z'] at e2
        cases e2
      omega
  have hfit := rk.fits
  have hmu := rk.mu
  have hlen := rk.len
  rw [List.length_cons] at hmu hlen
  have hl0 := h.len0
  have hdist : Dist r L (p :: ps) := by
    have := rcvAll_dist (r := r) (L := L) (now := time) (done := done0) h.dist0
    rw [← h.recv, e] at this
    exact this
  have htop := rk.top
  have hfu := h.fuel
  obtain ⟨f1, rfl⟩ : ∃ f1, f = f1 + 1 := ⟨f - 1, by omega⟩
  refine ⟨f1, fun q hq => hfit q (List.mem_cons_of_mem _ hq), htop, ?_, hdist.tail, ?_, fun hz => ?_, ?_, ?_, .inl t4⟩
  · rw [List.length_append, List.length_singleton]; omega
  · rw [rcvAll_stop]
    rintro ⟨z1, z2⟩
    have := t2 z1
    omega
  · unfold nowOf
    split
    · rename_i z
      exact t3 z
    · rename_i z
      have z' : ps = [] := Classical.byContradiction z
      have hlt : d < L.length := hz.resolve_left z
      have := t2 hlt
      omega
  · rw [h.play]
    show (if _ then _ else _) = _
    rw [if_neg hne, hnow, if_neg (by omega), ← h.recv, e]
  · unfold muP at hfu ⊢
    omega
/-- no begin at this time -/
theorem LwI.quiet {r : Str} {L : List An} {last time busy : Int} {line line0 ln1 : List Pr} {done done0 d f : Nat} {found : List Bg} (hs : SLog L) (h : LwI r L last time line done busy found line0 done0 f)
    (e : rcvAll r L time line done = (ln1, d)) (hb : ¬ (busy ≤ time ∧ ln1 ≠ [])) (time' : Int) (t1 : time < time') (t2 : d < L.length → time' ≤ timAt L d) (t3 : ln1 ≠ [] → time' ≤ busy) (t4 : time' ≤ last + 1) :
    LwI r L last time' ln1 d busy found line0 done0 f := by
  have rk := rcvAll_rk (r := r) (now := time) h.fits0 h.dle
  have e0 : rcvAll r L time line0 done0 = (ln1, d) := by rw [← h.recv, e]
  rw [e0] at rk
  refine ⟨h.fits0, h.dle, h.len0, h.dist0, ?_, fun hz => ?_, h.play, h.fuel, .inl t4⟩
  · rw [rcvAll_gap (a := time) (by omega) (fun z => ?_), e0]
    rw [e0] at z ⊢
    have := t2 z
    show _ < timAt L d
    omega
  · unfold nowOf
    split
    · rename_i z
      exact t3 (rk.ne z)
    · rename_i z
      have z' : line0 = [] := Classical.byContradiction z
      have hlt : done0 < L.length := hz.resolve_left z
      by_cases hl1 : ln1 = []
      · -- nothing came
        have hd : d = done0 := by
          by_cases hc : timAt L done0 ≤ time
          · rw [rcvAll_go hlt hc] at e0
            have rk2 := rcvAll_rk (r := r) (now := time) (rcv_fits (r := r) hlt h.fits0) (Nat.succ_le_of_lt hlt)
            rw [e0] at rk2
            exact absurd hl1 (rk2.ne (rcv_ne r L line0 done0))
          · rw [rcvAll_stop (fun z => hc z.2)] at e0
            cases e0
            rfl
        have := t2 (by omega)
        rw [hd] at this
        omega
      · have := t3 hl1
        omega
theorem LwI.stop {r : Str} {L : List An} {last time busy : Int} {line line0 : List Pr} {done done0 f : Nat} {found : List Bg} (h : LwI r L last time line done busy found line0 done0 f) (hs : SLog L) (hx : ¬ (time ≤ last ∧ (done < L.length ∨ line ≠ []))) :
    played r L last last = (found, line) := by
  have hfu := h.fuel
  obtain ⟨f1, rfl⟩ : ∃ f1, f = f1 + 1 := ⟨f - 1, by omega⟩
  have key : playR r L last = (found, line0, done0) ∧ (rcvAll r L last line0 done0).1 = line := by
    by_cases hc : line0 = [] ∧ ¬ done0 < L.length
    · have e2 := h.eqs
      rw [rcvAll_stop (fun z => hc.2 z.1)] at e2
      refine ⟨?_, ?_⟩
      · rw [h.play]
        show (if _ then _ else _) = _
        rw [if_pos hc]
      · rw [rcvAll_stop (fun z => hc.2 z.1)]
        exact (Prod.mk.inj e2).1.symm
    · have hnow := h.nowle (by
        rcases Classical.em (line0 = []) with z | z
        · right
          exact Classical.byContradiction fun z2 => hc ⟨z, z2⟩
        · exact .inl z)
      have htl : ¬ time ≤ last := fun z => by
        refine hx ⟨z, ?_⟩
        -- something is left
        rcases Classical.em (done < L.length) with z1 | z1
        · exact .inl z1
        · right
          have rk := h.rk
          rcases Classical.em (line0 = []) with z2 | z2
          · intro z3
            have hlt : done0 < L.length := Classical.byContradiction fun z4 => hc ⟨z2, z4⟩
            have e2 := h.eqs
            by_cases hcc : timAt L done0 ≤ time - 1
            · rw [rcvAll_go hlt hcc] at e2
              have rk2 := rcvAll_rk (r := r) (now := time - 1) (rcv_fits (r := r) hlt h.fits0) (Nat.succ_le_of_lt hlt)
              rw [← e2] at rk2
              exact absurd z3 (rk2.ne (rcv_ne r L line0 done0))
            · rw [rcvAll_stop (fun z => hcc z.2)] at e2
              have := (Prod.mk.inj e2).2
              omega
          · exact rk.ne z2
      refine ⟨?_, ?_⟩
      · rw [h.play]
        show (if _ then _ else _) = _
        rw [if_neg hc, if_pos (by omega)]
      · rcases h.top with z | ⟨z1, z2, z3, z4⟩
        · have e : last = time - 1 := by omega
          rw [e, ← h.eqs]
        · subst z1 z2 z3
          have hlt : 0 < L.length := Classical.byContradiction fun z => hc ⟨rfl, z⟩
          rw [rcvAll_stop]
          rintro ⟨_, q⟩
          have := h.later hs (k := 0) (by omega) hlt
          omega
  unfold played
  rw [key.1]
  show (found, _) = _
  rw [key.2]
end DL
namespace DL
open PySem PySem.Spec PyProof.Rows L2
open Enc (enc)
local macro_rules | `(tactic| walk_at "dl") => `(tactic| first
  | (with_reducible_and_instances refine sw_seq ?_)
  | (with_reducible_and_instances refine sw_ret ?_)
  | (with_reducible_and_instances refine sw_retN ?_)
  | (with_reducible_and_instances refine sw_set ?_)
  | (with_reducible_and_instances refine sw_par ?_)
  | (with_reducible_and_instances refine sw_drop ?_)
  | (with_reducible_and_instances refine sw_next ?_)
  | (with_reducible_and_instances refine sw_break ?_)
  | (with_reducible_and_instances refine sw_if ?_)
  | (with_reducible_and_instances refine sw_asg ?_)
  | ((with_reducible_and_instances refine' ew_var ?hh ?kk); (case hh => rfl))
  | (with_reducible_and_instances refine ew_int ?_)
  | (with_reducible_and_instances refine ew_str ?_)
  | (with_reducible_and_instances refine ew_bl ?_)
  | (with_reducible_and_instances refine ew_non ?_)
  | (with_reducible_and_instances refine ew_raw (v := .ty _) ?_)
  | (with_reducible_and_instances refine ew_op ?_)
  | (with_reducible_and_instances refine ew_un ?_)
  | (with_reducible_and_instances refine ew_chain ?_)
  | (with_reducible_and_instances refine ew_andV ?_)
  | (with_reducible_and_instances refine ew_orV ?_)
  | (with_reducible_and_instances refine ew_notV ?_)
  | (with_reducible_and_instances refine ew_if ?_)
  | (with_reducible_and_instances refine ew_tup ?_)
  | (with_reducible_and_instances refine ew_cb ?_)
  | (with_reducible_and_instances refine ew_slA ?_)
  | (with_reducible_and_instances refine .inl ⟨_, rfl, ?_⟩)
  | (with_reducible_and_instances refine .inr ⟨_, .same _, ?_⟩)
  | (with_reducible_and_instances refine aw_cons ?_)
  | (with_reducible_and_instances refine aw_nil ?_)
  | (with_reducible_and_instances refine tw_test ?_)
  | (with_reducible_and_instances refine tw_B ?_)
  | (with_reducible_and_instances refine tw_and ?_)
  | (with_reducible_and_instances refine tw_or ?_)
  | (with_reducible_and_instances refine tw_not ?_)
  | (with_reducible_and_instances refine tw_yes ?_)
  | (with_reducible_and_instances refine pw_none ?_)
  | (with_reducible_and_instances refine pw_some ?_)
  | (with_reducible_and_instances refine rw_le ?_)
  | (with_reducible_and_instances refine rw_lt ?_)
  | (with_reducible_and_instances refine rw_gt ?_)
  | (with_reducible_and_instances refine rw_ge ?_)
  | (with_reducible_and_instances refine rw_sub ?_)
  | (with_reducible_and_instances refine uw_neg ?_)
  | (with_reducible_and_instances refine rwp_int ?_)
  | ((with_reducible_and_instances refine gw_name ?hj ?_); (case hj => first | exact trivial | decide))
  | (with_reducible_and_instances refine gsw_cons ?_)
  | (with_reducible_and_instances refine gsw_nil ?_)
  | (with_reducible_and_instances refine gw_tup rfl ?_)
  | (with_reducible_and_instances refine cw_max2 ?_)
  | (with_reducible_and_instances refine cw_min2 ?_)
  | (with_reducible_and_instances refine cw_lenT ?_)
  | (with_reducible_and_instances refine cw_lenR ?_)
  | (with_reducible_and_instances refine cw_lenL (.same _) ?_)
  | (with_reducible_and_instances refine cw_intB ?_)
  | (with_reducible_and_instances refine ⟨_, rfl, ?_⟩)
  | (with_reducible_and_instances refine ⟨_, _, rfl, ?_⟩)
  | (refine ⟨Nat.le_trans (by simp) (Nat.le_of_lt (small1000 (n := 1000) (by decide))), ?_⟩))
local macro_rules | `(tactic| walk_at "dx") => `(tactic| first
  | (with_reducible_and_instances refine sw_seq ?_)
  | (with_reducible_and_instances refine sw_ret ?_)
  | (with_reducible_and_instances refine sw_retN ?_)
  | (with_reducible_and_instances refine sw_set ?_)
  | (with_reducible_and_instances refine sw_par ?_)
  | (with_reducible_and_instances refine sw_drop ?_)
  | (with_reducible_and_instances refine sw_next ?_)
  | (with_reducible_and_instances refine sw_break ?_)
  | (with_reducible_and_instances refine sw_asg ?_)
  | ((with_reducible_and_instances refine' ew_var ?hh ?kk); (case hh => rfl))
  | (with_reducible_and_instances refine ew_int ?_)
  | (with_reducible_and_instances refine ew_str ?_)
  | (with_reducible_and_instances refine ew_bl ?_)
  | (with_reducible_and_instances refine ew_non ?_)
  | (with_reducible_and_instances refine ew_raw (v := .ty _) ?_)
  | (with_reducible_and_instances refine ew_op ?_)
  | (with_reducible_and_instances refine ew_un ?_)
  | (with_reducible_and_instances refine ew_chain ?_)
  | (with_reducible_and_instances refine ew_andV ?_)
  | (with_reducible_and_instances refine ew_orV ?_)
  | (with_reducible_and_instances refine ew_notV ?_)
  | (with_reducible_and_instances refine ew_if ?_)
  | (with_reducible_and_instances refine ew_tup ?_)
  | (with_reducible_and_instances refine ew_cb ?_)
  | (with_reducible_and_instances refine ew_slA ?_)
  | (with_reducible_and_instances refine .inl ⟨_, rfl, ?_⟩)
  | (with_reducible_and_instances refine .inr ⟨_, .same _, ?_⟩)
  | (with_reducible_and_instances refine aw_cons ?_)
  | (with_reducible_and_instances refine aw_nil ?_)
  | (with_reducible_and_instances refine tw_test ?_)
  | (with_reducible_and_instances refine tw_B ?_)
  | (with_reducible_and_instances refine tw_and ?_)
  | (with_reducible_and_instances refine tw_or ?_)
  | (with_reducible_and_instances refine tw_not ?_)
  | (with_reducible_and_instances refine tw_yes ?_)
  | (with_reducible_and_instances refine pw_none ?_)
  | (with_reducible_and_instances refine pw_some ?_)
  | (with_reducible_and_instances refine rw_le ?_)
  | (with_reducible_and_instances refine rw_lt ?_)
  | (with_reducible_and_instances refine rw_gt ?_)
  | (with_reducible_and_instances refine rw_ge ?_)
  | (with_reducible_and_instances refine rw_sub ?_)
  | (with_reducible_and_instances refine uw_neg ?_)
  | (with_reducible_and_instances refine rwp_int ?_)
  | ((with_reducible_and_instances refine gw_name ?hj ?_); (case hj => first | exact trivial | decide))
  | (with_reducible_and_instances refine gsw_cons ?_)
  | (with_reducible_and_instances refine gsw_nil ?_)
  | (with_reducible_and_instances refine gw_tup rfl ?_)
  | (with_reducible_and_instances refine cw_max2 ?_)
  | (with_reducible_and_instances refine cw_min2 ?_)
  | (with_reducible_and_instances refine cw_lenT ?_)
  | (with_reducible_and_instances refine cw_lenR ?_)
  | (with_reducible_and_instances refine cw_lenL (.same _) ?_)
  | (with_reducible_and_instances refine cw_intB ?_)
  | (with_reducible_and_instances refine ⟨_, rfl, ?_⟩)
  | (with_reducible_and_instances refine ⟨_, _, rfl, ?_⟩)
  | (refine ⟨Nat.le_trans (by simp) (Nat.le_of_lt (small1000 (n := 1000) (by decide))), ?_⟩))
local macro_rules | `(tactic| walk_at "dn") => `(tactic| first
  | (with_reducible_and_instances refine sw_ret ?_)
  | (with_reducible_and_instances refine sw_retN ?_)
  | (with_reducible_and_instances refine sw_set ?_)
  | (with_reducible_and_instances refine sw_par ?_)
  | (with_reducible_and_instances refine sw_drop ?_)
  | (with_reducible_and_instances refine sw_next ?_)
  | (with_reducible_and_instances refine sw_break ?_)
  | (with_reducible_and_instances refine sw_asg ?_)
  | ((with_reducible_and_instances refine' ew_var ?hh ?kk); (case hh => rfl))
  | (with_reducible_and_instances refine ew_int ?_)
  | (with_reducible_and_instances refine ew_str ?_)
  | (with_reducible_and_instances refine ew_bl ?_)
  | (with_reducible_and_instances refine ew_non ?_)
  | (with_reducible_and_instances refine ew_raw (v := .ty _) ?_)
  | (with_reducible_and_instances refine ew_op ?_)
  | (with_reducible_and_instances refine ew_un ?_)
  | (with_reducible_and_instances refine ew_chain ?_)
  | (with_reducible_and_instances refine ew_andV ?_)
  | (with_reducible_and_instances refine ew_orV ?_)
  | (with_reducible_and_instances refine ew_notV ?_)
  | (with_reducible_and_instances refine ew_if ?_)
  | (with_reducible_and_instances refine ew_tup ?_)
  | (with_reducible_and_instances refine ew_cb ?_)
  | (with_reducible_and_instances refine ew_slA ?_)
  | (with_reducible_and_instances refine .inl ⟨_, rfl, ?_⟩)
  | (with_reducible_and_instances refine .inr ⟨_, .same _, ?_⟩)
  | (with_reducible_and_instances refine aw_cons ?_)
  | (with_reducible_and_instances refine aw_nil ?_)
  | (with_reducible_and_instances refine tw_test ?_)
  | (with_reducible_and_instances refine tw_B ?_)
  | (with_reducible_and_instances refine tw_and ?_)
  | (with_reducible_and_instances refine tw_or ?_)
  | (with_reducible_and_instances refine tw_not ?_)
  | (with_reducible_and_instances refine tw_yes ?_)
  | (with_reducible_and_instances refine pw_none ?_)
  | (with_reducible_and_instances refine pw_some ?_)
  | (with_reducible_and_instances refine rw_le ?_)
  | (with_reducible_and_instances refine rw_lt ?_)
  | (with_reducible_and_instances refine rw_gt ?_)
  | (with_reducible_and_instances refine rw_ge ?_)
  | (with_reducible_and_instances refine rw_sub ?_)
  | (with_reducible_and_instances refine uw_neg ?_)
  | (with_reducible_and_instances refine rwp_int ?_)
  | ((with_reducible_and_instances refine gw_name ?hj ?_); (case hj => first | exact trivial | decide))
  | (with_reducible_and_instances refine gsw_cons ?_)
  | (with_reducible_and_instances refine gsw_nil ?_)
  | (with_reducible_and_instances refine gw_tup rfl ?_)
  | (with_reducible_and_instances refine cw_max2 ?_)
  | (with_reducible_and_instances refine cw_min2 ?_)
  | (with_reducible_and_instances refine cw_lenT ?_)
  | (with_reducible_and_instances refine cw_lenR ?_)
  | (with_reducible_and_instances refine cw_lenL (.same _) ?_)
  | (with_reducible_and_instances refine cw_intB ?_)
  | (with_reducible_and_instances refine ⟨_, rfl, ?_⟩)
  | (with_reducible_and_instances refine ⟨_, _, rfl, ?_⟩)
  | (refine ⟨Nat.le_trans (by simp) (Nat.le_of_lt (small1000 (n := 1000) (by decide))), ?_⟩))
abbrev Row5 := T5 Int Str Int Nat Nat
def row5 (L : List An) (g : Bg) : Row5 := ⟨g.a, topAt L g.c, lnAt L g.c, g.c, g.b⟩
def S__law_played : SpT := fun ds Oc Post => ∃ (L : List An) (r : Str) (last : Int), ds = [encU L, .str r, .int last] ∧ SLog L ∧ Post (.tup [.lst (((played r L last last).1.map (row5 L)).map enc), .lst ((played r L last last).2.map enc)]) Oc
def gLw (L : List An) (r : Str) (last : Int) (pl : Addr) (done : Nat) (pf : Addr) (busy time : Int) (x8 x9 x10 : Option Dt) : Gm :=
  [some (encU L), some (.str r), some (.int last), some (.raw (.ref pl)), some (.int (done : Int)), some (.raw (.ref pf)), some (.int busy), some (.int time), x8, x9, x10, none]
abbrev oLw (L : List An) (pf pl : Addr) (found : List Bg) (line : List Pr) (Oc : Own) : Own := (pf, .lst ((found.map (row5 L)).map enc)) :: (pl, .lst (line.map enc)) :: Oc
theorem cut_one {xs : List Dt} {d : Nat} (h : d ≤ xs.length) : cutD xs (some (d : Int)) (some ((d : Int) + 1)) = (xs.drop d).take 1 := by
  unfold cutD
  rw [HT.sIx_nat]
  have e : ((d : Int) + 1) = ((d + 1 : Nat) : Int) := by omega
  rw [e, HT.sIx_nat, Nat.min_eq_left h]
  by_cases hd : d < xs.length
  · rw [Nat.min_eq_left (by omega : d + 1 ≤ xs.length), Nat.add_sub_cancel_left]
  · have : d = xs.length := by omega
    subst this
    simp
section
variable {P : Program} {w : World} {K : PySem.W.Frag} {mg : Str → Option Value} {base : Heap} {A : Ad}
theorem inner_law {K : PySem.W.Frag} {L : List An} {r : Str} {last : Int} {pf : Addr} {busy time : Int} {x8 x9 x10 : Option Dt} {found : List Bg} {Oc : Own} {E : De} (hs : SLog L) (pl : Addr) (line : List Pr) (done : Nat) (hf : Fits L line) (hd : done ≤ L.length) (hld : line.length ≤ done)
    (hdi : Dist r L line) (hlater : ∀ k, done ≤ k → k < L.length → time ≤ timAt L k)
    (h : ∀ pl', E.nx (gLw L r last pl' (rcvAll r L time line done).2 pf busy time x8 x9 x10) (oLw L pf pl' found (rcvAll r L time line done).1 Oc)) :
    SW K (tWhile (tAnd (tTest (tOp (rI0 fun i j => V.bl (decide (i < j))) (tVar 4) (tCB (rLen K) (tCons (tVar 0) tNil)))) (tTest (tOp (rEqG K) (tOp (rIx K) (tOp (rIx K) (tVar 0) (tVar 4)) (tC (V.int 0))) (tVar 7))))
      (tPar 3 4 (tCons (tCall (SpD K S__law_received) [] E0 (tCons (tVar 3) (tCons (tVar 0) (tCons (tVar 4) (tCons (tVar 1) tNil))))) (tCons (tOp (rPlus K) (tVar 4) (tC (V.int 1))) tNil)))) (gLw L r last pl done pf busy time x8 x9 x10) (oLw L pf pl found line Oc) E := by
  refine sw_while (fun m Γ O' => ∃ pl1 line1 done1, Γ = gLw L r last pl1 done1 pf busy time x8 x9 x10 ∧ O'.Perm (oLw L pf pl1 found line1 Oc) ∧ Fits L line1 ∧ done1 ≤ L.length ∧ line1.length ≤ done1 ∧ Dist r L line1 ∧ done ≤ done1 ∧ m = L.length - done1 ∧ rcvAll r L time line done = rcvAll r L time line1 done1) (L.length - done) ⟨pl, line, done, rfl, .refl _, hf, hd, hld, hdi, Nat.le_refl _, rfl, rfl⟩ ?_
  rintro m Γ O' ⟨pl1, line1, done1, rfl, hO, hf1, hd1, hld1, hdi1, hge, rfl, hR⟩
  refine tw_perm hO ?_
  repeat walk_at "dl"
  rw [List.length_map]
  by_cases hlt : done1 < L.length
  · refine if_t (decide_eq_true (by omega)) ?_
    repeat walk_at "dl"
    refine rw_ixT_ (atI_map hlt) ?_
    repeat walk_at "dl"
    refine rw_ixT_ atI_0 ?_
    repeat walk_at "dl"
    refine rw_eqE (L[done1].a) time (.same _) (.same _) ?_
    repeat walk_at "dl"
    have h1 := hlater done1 hge hlt
    rw [timAt_get hlt] at h1
    by_cases hle : L[done1].a = time
    · refine if_t (decide_eq_true hle) ?_
      repeat walk_at "dl"
      refine ew_call ?_
      repeat walk_at "dl"
      have hL := hs.len
      refine ⟨[(pl1, .lst (line1.map enc))], (pf, .lst ((found.map (row5 L)).map enc)) :: Oc, .swap _ _ _, pl1, line1, L, done1, r, rfl, rfl, hlt, hf1, by omega, hdi1, fun q => ?_⟩
      repeat walk_at "dl"
      have st := Rk.step (r := r) hf1 hlt
      have hlen := rcv_len r L line1 done1
      refine ⟨L.length - (done1 + 1), by omega, q, rcv r L line1 done1, done1 + 1, rfl, .swap _ _ _, st.fits, hlt, by omega, hdi1.rcv _, by omega, rfl, ?_⟩
      · rw [hR, rcvAll_go hlt (by rw [timAt_get hlt, hle]; exact Int.le_refl _)]
    · refine if_f (decide_eq_false hle) ?_
      have h := h pl1
      rw [hR, rcvAll_stop (fun z => hle (by have := z.2; rw [timAt_get hlt] at this; omega))] at h
      exact h
  · refine if_f (decide_eq_false (by omega)) ?_
    have h := h pl1
    rw [hR, rcvAll_stop (fun z => hlt z.1)] at h
    exact if_f rfl h
def S__law_spoken : SpT := fun ds Oc Post => ∃ (L : List An) (r : Str), ds = [encU L, .str r] ∧ SLog L ∧ Post (encL ((played r L 100000 100000).1.map (row5 L))) Oc
end
end DL
namespace DL
open PySem PySem.Spec PyProof.Rows L2
open Enc (enc)
local macro_rules | `(tactic| walk_at "dl") => `(tactic| first
  | (with_reducible_and_instances refine sw_seq ?_)
  | (with_reducible_and_instances refine sw_ret ?_)
  | (with_reducible_and_instances refine sw_retN ?_)
  | (with_reducible_and_instances refine sw_set ?_)
  | (with_reducible_and_instances refine sw_par ?_)
  | (with_reducible_and_instances refine sw_drop ?_)
  | (with_reducible_and_instances refine sw_next ?_)
  | (with_reducible_and_instances refine sw_break ?_)
  | (with_reducible_and_instances refine sw_if ?_)
  | (with_reducible_and_instances refine sw_asg ?_)
  | ((with_reducible_and_instances refine' ew_var ?hh ?kk); (case hh => rfl))
  | (with_reducible_and_instances refine ew_int ?_)
  | (with_reducible_and_instances refine ew_str ?_)
  | (with_reducible_and_instances refine ew_bl ?_)
  | (with_reducible_and_instances refine ew_non ?_)
  | (with_reducible_and_instances refine ew_raw (v := .ty _) ?_)
  | (with_reducible_and_instances refine ew_op ?_)
  | (with_reducible_and_instances refine ew_un ?_)
  | (with_reducible_and_instances refine ew_chain ?_)
  | (with_reducible_and_instances refine ew_andV ?_)
  | (with_reducible_and_instances refine ew_orV ?_)
  | (with_reducible_and_instances refine ew_notV ?_)
  | (with_reducible_and_instances refine ew_if ?_)
  | (with_reducible_and_instances refine ew_tup ?_)
  | (with_reducible_and_instances refine ew_cb ?_)
  | (with_reducible_and_instances refine ew_slA ?_)
  | (with_reducible_and_instances refine .inl ⟨_, rfl, ?_⟩)
  | (with_reducible_and_instances refine .inr ⟨_, .same _, ?_⟩)
  | (with_reducible_and_instances refine aw_cons ?_)
  | (with_reducible_and_instances refine aw_nil ?_)
  | (with_reducible_and_instances refine tw_test ?_)
  | (with_reducible_and_instances refine tw_B ?_)
  | (with_reducible_and_instances refine tw_and ?_)
  | (with_reducible_and_instances refine tw_or ?_)
  | (with_reducible_and_instances refine tw_not ?_)
  | (with_reducible_and_instances refine tw_yes ?_)
  | (with_reducible_and_instances refine pw_none ?_)
  | (with_reducible_and_instances refine pw_some ?_)
  | (with_reducible_and_instances refine rw_le ?_)
  | (with_reducible_and_instances refine rw_lt ?_)
  | (with_reducible_and_instances refine rw_gt ?_)
  | (with_reducible_and_instances refine rw_ge ?_)
  | (with_reducible_and_instances refine rw_sub ?_)
  | (with_reducible_and_instances refine uw_neg ?_)
  | (with_reducible_and_instances refine rwp_int ?_)
  | ((with_reducible_and_instances refine gw_name ?hj ?_); (case hj => first | exact trivial | decide))
  | (with_reducible_and_instances refine gsw_cons ?_)
  | (with_reducible_and_instances refine gsw_nil ?_)
  | (with_reducible_and_instances refine gw_tup rfl ?_)
  | (with_reducible_and_instances refine cw_max2 ?_)
  | (with_reducible_and_instances refine cw_min2 ?_)
  | (with_reducible_and_instances refine cw_lenT ?_)
  | (with_reducible_and_instances refine cw_lenR ?_)
  | (with_reducible_and_instances refine cw_lenL (.same _) ?_)
  | (with_reducible_and_instances refine cw_intB ?_)
  | (with_reducible_and_instances refine ⟨_, rfl, ?_⟩)
  | (with_reducible_and_instances refine ⟨_, _, rfl, ?_⟩)
  | (refine ⟨Nat.le_trans (by simp) (Nat.le_of_lt (small1000 (n := 1000) (by decide))), ?_⟩))
local macro_rules | `(tactic| walk_at "dx") => `(tactic| first
  | (with_reducible_and_instances refine sw_seq ?_)
  | (with_reducible_and_instances refine sw_ret ?_)
  | (with_reducible_and_instances refine sw_retN ?_)
  | (with_reducible_and_instances refine sw_set ?_)
  | (with_reducible_and_instances refine sw_par ?_)
  | (with_reducible_and_instances refine sw_drop ?_)
  | (with_reducible_and_instances refine sw_next ?_)
  | (with_reducible_and_instances refine sw_break ?_)
  | (with_reducible_and_instances refine sw_asg ?_)
  | ((with_reducible_and_instances refine' ew_var ?hh ?kk); (case hh => rfl))
  | (with_reducible_and_instances refine ew_int ?_)
  | (with_reducible_and_instances refine ew_str ?_)
  | (with_reducible_and_instances refine ew_bl ?_)
  | (with_reducible_and_instances refine ew_non ?_)
  | (with_reducible_and_instances refine ew_raw (v := .ty _) ?_)
  | (with_reducible_and_instances refine ew_op ?_)
  | (with_reducible_and_instances refine ew_un ?_)
  | (with_reducible_and_instances refine ew_chain ?_)
  | (with_reducible_and_instances refine ew_andV ?_)
  | (with_reducible_and_instances refine ew_orV ?_)
  | (with_reducible_and_instances refine ew_notV ?_)
  | (with_reducible_and_instances refine ew_if ?_)
  | (with_reducible_and_instances refine ew_tup ?_)
  | (with_reducible_and_instances refine ew_cb ?_)
  | (with_reducible_and_instances refine ew_slA ?_)
  | (with_reducible_and_instances refine .inl ⟨_, rfl, ?_⟩)
  | (with_reducible_and_instances refine .inr ⟨_, .same _, ?_⟩)
  | (with_reducible_and_instances refine aw_cons ?_)
  | (with_reducible_and_instances refine aw_nil ?_)
  | (with_reducible_and_instances refine tw_test ?_)
  | (with_reducible_and_instances refine tw_B ?_)
  | (with_reducible_and_instances refine tw_and ?_)
  | (with_reducible_and_instances refine tw_or ?_)
  | (with_reducible_and_instances refine tw_not ?_)
  | (with_reducible_and_instances refine tw_yes ?_)
  | (with_reducible_and_instances refine pw_none ?_)
  | (with_reducible_and_instances refine pw_some ?_)
  | (with_reducible_and_instances refine rw_le ?_)
  | (with_reducible_and_instances refine rw_lt ?_)
  | (with_reducible_and_instances refine rw_gt ?_)
  | (with_reducible_and_instances refine rw_ge ?_)
  | (with_reducible_and_instances refine rw_sub ?_)
  | (with_reducible_and_instances refine uw_neg ?_)
  | (with_reducible_and_instances refine rwp_int ?_)
  | ((with_reducible_and_instances refine gw_name ?hj ?_); (case hj => first | exact trivial | decide))
  | (with_reducible_and_instances refine gsw_cons ?_)
  | (with_reducible_and_instances refine gsw_nil ?_)
  | (with_reducible_and_instances refine gw_tup rfl ?_)
  | (with_reducible_and_instances refine cw_max2 ?_)
  | (with_reducible_and_instances refine cw_min2 ?_)
  | (with_reducible_and_instances refine cw_lenT ?_)
  | (with_reducible_and_instances refine cw_lenR ?_)
  | (with_reducible_and_instances refine cw_lenL (.same _) ?_)
  | (with_reducible_and_instances refine cw_intB ?_)
  | (with_reducible_and_instances refine ⟨_, rfl, ?_⟩)
  | (with_reducible_and_instances refine ⟨_, _, rfl, ?_⟩)
  | (refine ⟨Nat.le_trans (by simp) (Nat.le_of_lt (small1000 (n := 1000) (by decide))), ?_⟩))
local macro_rules | `(tactic| walk_at "dn") => `(tactic| first
  | (with_reducible_and_instances refine sw_ret ?_)
  | (with_reducible_and_instances refine sw_retN ?_)
  | (with_reducible_and_instances refine sw_set ?_)
  | (with_reducible_and_instances refine sw_par ?_)
  | (with_reducible_and_instances refine sw_drop ?_)
  | (with_reducible_and_instances refine sw_next ?_)
  | (with_reducible_and_instances refine sw_break ?_)
  | (with_reducible_and_instances refine sw_asg ?_)
  | ((with_reducible_and_instances refine' ew_var ?hh ?kk); (case hh => rfl))
  | (with_reducible_and_instances refine ew_int ?_)
  | (with_reducible_and_instances refine ew_str ?_)
  | (with_reducible_and_instances refine ew_bl ?_)
  | (with_reducible_and_instances refine ew_non ?_)
  | (with_reducible_and_instances refine ew_raw (v := .ty _) ?_)
  | (with_reducible_and_instances refine ew_op ?_)
  | (with_reducible_and_instances refine ew_un ?_)
  | (with_reducible_and_instances refine ew_chain ?_)
  | (with_reducible_and_instances refine ew_andV ?_)
  | (with_reducible_and_instances refine ew_orV ?_)
  | (with_reducible_and_instances refine ew_notV ?_)
  | (with_reducible_and_instances refine ew_if ?_)
  | (with_reducible_and_instances refine ew_tup ?_)
  | (with_reducible_and_instances refine ew_cb ?_)
  | (with_reducible_and_instances refine ew_slA ?_)
  | (with_reducible_and_instances refine .inl ⟨_, rfl, ?_⟩)
  | (with_reducible_and_instances refine .inr ⟨_, .same _, ?_⟩)
  | (with_reducible_and_instances refine aw_cons ?_)
  | (with_reducible_and_instances refine aw_nil ?_)
  | (with_reducible_and_instances refine tw_test ?_)
  | (with_reducible_and_instances refine tw_B ?_)
  | (with_reducible_and_instances refine tw_and ?_)
  | (with_reducible_and_instances refine tw_or ?_)
  | (with_reducible_and_instances refine tw_not ?_)
  | (with_reducible_and_instances refine tw_yes ?_)
  | (with_reducible_and_instances refine pw_none ?_)
  | (with_reducible_and_instances refine pw_some ?_)
  | (with_reducible_and_instances refine rw_le ?_)
  | (with_reducible_and_instances refine rw_lt ?_)
  | (with_reducible_and_instances refine rw_gt ?_)
  | (with_reducible_and_instances refine rw_ge ?_)
  | (with_reducible_and_instances refine rw_sub ?_)
  | (with_reducible_and_instances refine uw_neg ?_)
  | (with_reducible_and_instances refine rwp_int ?_)
  | ((with_reducible_and_instances refine gw_name ?hj ?_); (case hj => first | exact trivial | decide))
  | (with_reducible_and_instances refine gsw_cons ?_)
  | (with_reducible_and_instances refine gsw_nil ?_)
  | (with_reducible_and_instances refine gw_tup rfl ?_)
  | (with_reducible_and_instances refine cw_max2 ?_)
  | (with_reducible_and_instances refine cw_min2 ?_)
  | (with_reducible_and_instances refine cw_lenT ?_)
  | (with_reducible_and_instances refine cw_lenR ?_)
  | (with_reducible_and_instances refine cw_lenL (.same _) ?_)
  | (with_reducible_and_instances refine cw_intB ?_)
  | (with_reducible_and_instances refine ⟨_, rfl, ?_⟩)
  | (with_reducible_and_instances refine ⟨_, _, rfl, ?_⟩)
  | (refine ⟨Nat.le_trans (by simp) (Nat.le_of_lt (small1000 (n := 1000) (by decide))), ?_⟩))
/-! ### the bounds do not matter -/
theorem playF_lb {r : Str} {L : List An} {lb lb' : Int} (h1 : 60000 ≤ lb) (h2 : 60000 ≤ lb') (ht : ∀ k, k < L.length → timAt L k ≤ 10000) (hl : ∀ k, k < L.length → lnAt L k ≤ 99) : ∀ (f : Nat) (line : List Pr) (done : Nat) (found : List Bg) (free : Int) (c : Nat), Fits L line → done ≤ L.length → free ≤ 10000 + 99 * (c : Int) → c + muP L line done ≤ 500 →
    playF r L lb f line done found free = playF r L lb' f line done found free
  | 0, _, _, _, _, _, _, _, _, _ => rfl
  | f + 1, line, done, found, free, c, hf, hd, hc, hm => by
    show (if _ then _ else _) = (if _ then _ else _)
    by_cases hz : line = [] ∧ ¬ done < L.length
    · rw [if_pos hz, if_pos hz]
    · rw [if_neg hz, if_neg hz]
      have hmu0 : 1 ≤ muP L line done := by
        unfold muP
        rcases Classical.em (line = []) with z | z
        · have : done < L.length := Classical.byContradiction fun q => hz ⟨z, q⟩
          omega
        · have : 0 < line.length := List.length_pos_iff.mpr z
          omega
      have hn : nowOf L line done free ≤ 10000 + 99 * (c : Int) := by
        unfold nowOf
        split
        · exact hc
        · rename_i z
          have z' : line = [] := Classical.byContradiction z
          have : done < L.length := Classical.byContradiction fun q => hz ⟨z', q⟩
          have := ht done this
          omega
      rw [if_neg (by omega), if_neg (by omega)]
      obtain ⟨p, ps, d, e, rk⟩ := rcvAll_cons (r := r) (free := free) hz hf hd
      rw [e]
      have hmu := rk.mu
      rw [List.length_cons] at hmu
      have hp := rk.fits p List.mem_cons_self
      have := hl p.b hp.2
      unfold muP at hm hmu0
      exact playF_lb h1 h2 ht hl f ps d _ _ (c + 1) (fun q hq => rk.fits q (List.mem_cons_of_mem _ hq)) rk.top (by omega) (by unfold muP; omega)
theorem spoken_lb {r : Str} {L : List An} (h : VLog L) {lb lt lt' : Int} (h1 : 60000 ≤ lb) : (played r L lb lt).1 = spoken r L := by
  have e := playF_lb (r := r) (L := L) (lb := lb) (lb' := 1000000) h1 (by decide) (fun k hk => by rw [timAt_get hk]; exact (h.ann _ (List.getElem_mem hk)).2.1) (fun k hk => by rw [lnAt_get hk]; exact (h.ann _ (List.getElem_mem hk)).2.2.2.2)
    (L.length + 1) [] 0 [] 0 0 (fun _ z => by cases z) (Nat.zero_le _) (by decide) (by have := h.len; unfold muP; simp; omega)
  show (playF r L lb (L.length + 1) [] 0 [] 0).1 = (playF r L 1000000 (L.length + 1) [] 0 [] 0).1
  rw [e]
theorem cut_to {xs : List Dt} (k : Nat) : cutD xs none (some (k : Int)) = xs.take k := by
  unfold cutD
  rw [HT.sIx_none, HT.sIx_nat, Nat.sub_zero, List.drop_zero]
  rcases Nat.le_total k xs.length with h | h
  · rw [Nat.min_eq_left h]
  · rw [Nat.min_eq_right h, List.take_length, List.take_of_length_le h]
theorem cut_last {xs : List Dt} {x : Dt} : cutD (xs ++ [x]) none (some (-1)) = xs := by
  unfold cutD
  rw [HT.sIx_none, Nat.sub_zero, List.drop_zero]
  have e : HT.sIx (xs ++ [x]).length (xs ++ [x]).length (some (-1)) = xs.length := by
    have h1 := HT.clip_eq (-1) (xs ++ [x]).length (xs ++ [x]).length
    rw [if_pos (by decide), List.length_append, List.length_singleton] at h1
    rw [List.length_append, List.length_singleton]
    omega
  rw [e, List.take_left]
def S_law : SpT := fun ds Oc Post => ∃ ns : List Int, ds = [.ro (ns.map .int)] ∧ Oc = [] ∧ ns.length ≤ 63 ∧ ∀ O, Post (.bl true) O
theorem den_intL {K : PySem.W.Frag} {B : Hp} : ∀ ns : List Int, DenL K B (ns.map Dt.int) (ns.map V.int)
  | [] => .nil
  | n :: ns => .cons (.int n) (den_intL ns)
theorem law_end {K : PySem.W.Frag} {H : Hp} {a : Addr} {ns : List Int} {E : XK} (hl : ns.length ≤ 63) (hS : SqL K H a (ns.map V.int)) : SpD K S_law [.ref a] H (fun v _ => v = .bl true) E := by
  refine ⟨H, [.ro (ns.map .int)], [], fun d _ => d = .bl true, Same.refl _, .cons (.ro hS (den_intL ns)) .nil, (fun p c h => by cases h), .nil, ⟨ns, rfl, rfl, hl, fun _ => rfl⟩, fun d v Oc' H' B' hd C => ?_⟩
  subst hd
  have := C.den
  cases this
  rfl
end DL
namespace DL
open PySem PySem.Spec PyProof.Rows L2
/-! ### what is spoken, begin by begin -/
inductive Run (r : Str) (L : List An) : List Pr → Nat → Int → List Bg → Prop
  | stop {free : Int} {done : Nat} : ¬ done < L.length → Run r L [] done free []
  | step {line : List Pr} {done : Nat} {free : Int} {p : Pr} {ps : List Pr} {d : Nat} {gs : List Bg} : ¬ (line = [] ∧ ¬ done < L.length) → rcvAll r L (nowOf L line done free) line done = (p :: ps, d) →
      Run r L ps d (nowOf L line done free + lnAt L p.b) gs → Run r L line done free (⟨nowOf L line done free, p.a, p.b⟩ :: gs)
theorem run_play {r : Str} {L : List An} {lb : Int} (h1 : 60000 ≤ lb) (ht : ∀ k, k < L.length → timAt L k ≤ 10000) (hl : ∀ k, k < L.length → lnAt L k ≤ 99) : ∀ (f : Nat) (line : List Pr) (done : Nat) (found : List Bg) (free : Int) (c : Nat), Fits L line → done ≤ L.length → free ≤ 10000 + 99 * (c : Int) → c + muP L line done ≤ 500 → muP L line done < f →
    ∃ gs, (playF r L lb f line done found free).1 = found ++ gs ∧ Run r L line done free gs
  | 0, _, _, _, _, _, _, _, _, _, h => absurd h (Nat.not_lt_zero _)
  | f + 1, line, done, found, free, c, hf, hd, hc, hm, hfu => by
    by_cases hz : line = [] ∧ ¬ done < L.length
    · refine ⟨[], ?_, ?_⟩
      · show (if _ then _ else _ : PlR).1 = _
        rw [if_pos hz, List.append_nil]
      · obtain ⟨rfl, z⟩ := hz
        exact .stop z
    · have hmu0 : 1 ≤ muP L line done := by
        unfold muP
        rcases Classical.em (line = []) with z | z
        · have : done < L.length := Classical.byContradiction fun q => hz ⟨z, q⟩
          omega
        · have : 0 < line.length := List.length_pos_iff.mpr z
          omega
      have hn : nowOf L line done free ≤ 10000 + 99 * (c : Int) := by
        unfold nowOf
        split
        · exact hc
        · rename_i z
          have z' : line = [] := Classical.byContradiction z
          have : done < L.length := Classical.byContradiction fun q => hz ⟨z', q⟩
          have := ht done this
          omega
      obtain ⟨p, ps, d, e, rk⟩ := rcvAll_cons (r := r) (free := free) hz hf hd
      have hmu := rk.mu
      rw [List.length_cons] at hmu
      have hp := rk.fits p List.mem_cons_self
      have := hl p.b hp.2
      unfold muP at hm hmu0 hfu
      obtain ⟨gs, g1, g2⟩ := run_play h1 ht hl f ps d (found ++ [⟨nowOf L line done free, p.a, p.b⟩]) (nowOf L line done free + lnAt L p.b) (c + 1) (fun q hq => rk.fits q (List.mem_cons_of_mem _ hq)) rk.top (by omega) (by unfold muP; omega) (by unfold muP; omega)
      refine ⟨_ :: gs, ?_, .step hz e g2⟩
      show (if _ then _ else _ : PlR).1 = _
      rw [if_neg hz, if_neg (by omega), e]
      show (playF _ _ _ _ _ _ _ _).1 = _
      rw [g1, List.append_assoc]
      rfl
theorem run_spoken {r : Str} {L : List An} (h : VLog L) : Run r L [] 0 0 (spoken r L) := by
  obtain ⟨gs, g1, g2⟩ := run_play (r := r) (L := L) (lb := 1000000) (by decide) (fun k hk => by rw [timAt_get hk]; exact (h.ann _ (List.getElem_mem hk)).2.1) (fun k hk => by rw [lnAt_get hk]; exact (h.ann _ (List.getElem_mem hk)).2.2.2.2)
    (L.length + 1) [] 0 [] 0 0 (fun _ z => by cases z) (Nat.zero_le _) (by decide) (by have := h.len; unfold muP; simp; omega) (by unfold muP; simp)
  have e : spoken r L = gs := by
    unfold spoken played playR
    rw [g1]; rfl
  rw [e]; exact g2
/-- one run alone -/
theorem Run.uniq {r : Str} {L : List An} {line : List Pr} {done : Nat} {free : Int} {gs gs' : List Bg} (h : Run r L line done free gs) (h' : Run r L line done free gs') : gs = gs' := by
  induction h generalizing gs' with
  | stop z =>
    cases h' with
    | stop _ => rfl
    | step hz _ _ => exact absurd ⟨rfl, z⟩ hz
  | step hz e _ ih =>
    cases h' with
    | stop z => exact absurd ⟨rfl, z⟩ hz
    | step hz' e' k =>
      have q := e.symm.trans e'
      cases q
      rw [ih k]
/-! ### by the rule none -/
theorem rcv_none (L : List An) (line : List Pr) (k : Nat) : rcv "none" L line k = line ++ [⟨k, k⟩] := by
  unfold rcv
  split
  · rfl
  · rw [if_pos rfl]
theorem rcvTo_none {L : List An} {now : Int} : ∀ (f : Nat) (line : List Pr) (done : Nat), L.length - done ≤ f → done ≤ L.length →
    ∃ d, done ≤ d ∧ d ≤ L.length ∧ rcvTo "none" L now f line done = (line ++ (List.range' done (d - done)).map (fun k => (⟨k, k⟩ : Pr)), d) ∧ (∀ k, done ≤ k → k < d → timAt L k ≤ now) ∧ (d < L.length → now < timAt L d)
  | 0, line, done, h, hd => ⟨done, Nat.le_refl _, hd, by simp [rcvTo], (fun k h1 h2 => by omega), fun z => by omega⟩
  | f + 1, line, done, h, hd => by
    by_cases hc : done < L.length ∧ timAt L done ≤ now
    · obtain ⟨d, h1, h2, h3, h4, h5⟩ := rcvTo_none (L := L) (now := now) f (line ++ [⟨done, done⟩]) (done + 1) (by omega) hc.1
      refine ⟨d, by omega, h2, ?_, (fun k k1 k2 => ?_), h5⟩
      · show (if _ then _ else _) = _
        rw [if_pos hc, rcv_none, h3, show d - done = (d - (done + 1)) + 1 by omega, List.range'_succ, List.map_cons, List.append_assoc]
        rfl
      · rcases Nat.eq_or_lt_of_le k1 with e | e
        · subst e; exact hc.2
        · exact h4 k e k2
    · refine ⟨done, Nat.le_refl _, hd, ?_, (fun k h1 h2 => by omega), fun z => Int.not_le.mp fun q => hc ⟨z, q⟩⟩
      show (if _ then _ else _) = _
      rw [if_neg hc]
      simp
theorem run_none {L : List An} {line : List Pr} {done : Nat} {free : Int} {gs : List Bg} (h : Run "none" L line done free gs) (hd : done ≤ L.length) : gs.map (fun g => g.c) = line.map (fun p => p.b) ++ List.range' done (L.length - done) := by
  generalize hr : ("none" : Str) = r at h
  induction h with
  | stop z => rw [show L.length - _ = 0 by omega]; rfl
  | @step line done free p ps d gs hz e _ ih =>
    subst hr
    obtain ⟨d', h1, h2, h3, _, _⟩ := rcvTo_none (L := L) (now := nowOf L line done free) (L.length - done) line done (Nat.le_refl _) hd
    unfold rcvAll at e
    have q := e.symm.trans h3
    injection q with q1 q2
    subst q2
    rw [List.map_cons, ih h2]
    have e2 := congrArg (List.map fun p : Pr => p.b) q1
    rw [List.map_cons, List.map_append, List.map_map] at e2
    have e3 : ((List.range' done (d - done)).map ((fun p : Pr => p.b) ∘ fun k => ⟨k, k⟩)) = List.range' done (d - done) := by
      conv => rhs; rw [← List.map_id (List.range' done (d - done))]
      rfl
    rw [e3] at e2
    rw [← List.cons_append, e2, List.append_assoc]
    congr 1
    have : L.length - done = (d - done) + (L.length - d) := by omega
    rw [this, ← List.range'_append_1]
    congr 1
    rw [show done + (d - done) = d by omega]
theorem none_all {L : List An} (h : VLog L) : (spoken "none" L).map (fun g => g.c) = List.range L.length := by
  rw [run_none (run_spoken h) (Nat.zero_le _), List.range_eq_range']
  rfl
theorem heard_rowsN {r : Str} {L : List An} : (speechOf r L).map (fun g => g.d) = (spoken r L).map fun g => g.c := by
  unfold speechOf
  rw [List.map_map]
  rfl
theorem none_len {L : List An} (h : VLog L) : (spoken "none" L).length = L.length := by
  have := congrArg List.length (none_all h)
  rwa [List.length_map, List.length_range] at this
end DL
namespace DL
open PySem PySem.Spec PyProof.Rows L2
open Enc (enc)
/-! ### what is spoken is heard -/
theorem nowOf_free (L : List An) (line : List Pr) (done : Nat) (free : Int) : free ≤ nowOf L line done free := by
  unfold nowOf
  split
  · exact Int.le_refl _
  · omega
theorem Run.rk {r : Str} {L : List An} {line : List Pr} {done : Nat} {now : Int} {p : Pr} {ps : List Pr} {d : Nat} (hf : Fits L line) (hd : done ≤ L.length) (e : rcvAll r L now line done = (p :: ps, d)) : Rk L line done (p :: ps) d := by
  have := rcvAll_rk (r := r) (now := now) hf hd
  rw [e] at this
  exact this
theorem Fits.tail {L : List An} {p : Pr} {ps : List Pr} (h : Fits L (p :: ps)) : Fits L ps := fun q hq => h q (List.mem_cons_of_mem _ hq)
theorem Run.order {r : Str} {L : List An} {line : List Pr} {done : Nat} {free : Int} {gs : List Bg} (h : Run r L line done free gs) (hl : ∀ k, k < L.length → 1 ≤ lnAt L k) (hf : Fits L line) (hd : done ≤ L.length) :
    (∀ g ∈ gs, free ≤ g.a) ∧ gs.Pairwise (fun g g' => g.a + lnAt L g.c ≤ g'.a) := by
  induction h with
  | stop z => exact ⟨fun g hg => (by cases hg), .nil⟩
  | @step line done free p ps d gs hz e _ ih =>
    have rk := Run.rk hf hd e
    obtain ⟨h1, h2⟩ := ih rk.fits.tail rk.top
    have hp := hl p.b (rk.fits p List.mem_cons_self).2
    have hn := nowOf_free L line done free
    refine ⟨fun g hg => ?_, List.pairwise_cons.mpr ⟨fun g hg => h1 g hg, h2⟩⟩
    rcases List.mem_cons.mp hg with rfl | hg
    · exact hn
    · have := h1 g hg
      omega
theorem Run.bound {r : Str} {L : List An} {line : List Pr} {done : Nat} {free : Int} {gs : List Bg} (h : Run r L line done free gs) (ht : ∀ k, k < L.length → timAt L k ≤ 10000) (hl : ∀ k, k < L.length → lnAt L k ≤ 99) (hf : Fits L line) (hd : done ≤ L.length) (c m : Nat) (hc : free ≤ 10000 + 99 * (c : Int)) (hm : c + muP L line done ≤ m) :
    ∀ g ∈ gs, g.a ≤ 10000 + 99 * (m : Int) := by
  induction h generalizing c with
  | stop z => exact fun g hg => (by cases hg)
  | @step line done free p ps d gs hz e _ ih =>
    have rk := Run.rk hf hd e
    have hmu := rk.mu
    rw [List.length_cons] at hmu
    have hn : nowOf L line done free ≤ 10000 + 99 * (c : Int) := by
      unfold nowOf
      split
      · exact hc
      · rename_i z
        have z' : line = [] := Classical.byContradiction z
        have : done < L.length := Classical.byContradiction fun q => hz ⟨z', q⟩
        have := ht done this
        omega
    have hp := hl p.b (rk.fits p List.mem_cons_self).2
    unfold muP at hm
    intro g hg
    rcases List.mem_cons.mp hg with rfl | hg
    · show nowOf L line done free ≤ _
      omega
    · exact ih rk.fits.tail rk.top (c + 1) (by omega) (by unfold muP; omega) g hg
theorem VLog.tim {L : List An} (h : VLog L) : ∀ k, k < L.length → timAt L k ≤ 10000 := fun k hk => by rw [timAt_get hk]; exact (h.ann _ (List.getElem_mem hk)).2.1
theorem VLog.ln {L : List An} (h : VLog L) : ∀ k, k < L.length → lnAt L k ≤ 99 := fun k hk => by rw [lnAt_get hk]; exact (h.ann _ (List.getElem_mem hk)).2.2.2.2
theorem VLog.ln1 {L : List An} (h : VLog L) : ∀ k, k < L.length → 1 ≤ lnAt L k := fun k hk => by rw [lnAt_get hk]; exact (h.ann _ (List.getElem_mem hk)).2.2.2.1
theorem VLog.tp {L : List An} (h : VLog L) : ∀ k, k < L.length → topicS (topAt L k) = true := fun k hk => by rw [topAt_get hk]; exact (h.ann _ (List.getElem_mem hk)).2.2.1
theorem fits_nil (L : List An) : Fits L [] := fun _ z => by cases z
theorem spoken_bound {r : Str} {L : List An} (h : VLog L) : ∀ g ∈ spoken r L, g.a ≤ 13960 := fun g hg => by
  have := (run_spoken (r := r) h).bound h.tim h.ln (fits_nil L) (Nat.zero_le _) 0 40 (by decide) (by have := h.len; unfold muP; simp; omega) g hg
  omega
end DL
namespace DL
open PySem PySem.Spec PyProof.Rows L2
open Enc (enc)
local macro_rules | `(tactic| walk_at "dl") => `(tactic| first
  | (with_reducible_and_instances refine sw_seq ?_)
  | (with_reducible_and_instances refine sw_ret ?_)
  | (with_reducible_and_instances refine sw_retN ?_)
  | (with_reducible_and_instances refine sw_set ?_)
  | (with_reducible_and_instances refine sw_par ?_)
  | (with_reducible_and_instances refine sw_drop ?_)
  | (with_reducible_and_instances refine sw_next ?_)
  | (with_reducible_and_instances refine sw_break ?_)
  | (with_reducible_and_instances refine sw_if ?_)
  | (with_reducible_and_instances refine sw_asg ?_)
  | ((with_reducible_and_instances refine' ew_var ?hh ?kk); (case hh => rfl))
  | (with_reducible_and_instances refine ew_int ?_)
  | (with_reducible_and_instances refine ew_str ?_)
  | (with_reducible_and_instances refine ew_bl ?_)
  | (with_reducible_and_instances refine ew_non ?_)
  | (with_reducible_and_instances refine ew_raw (v := .ty _) ?_)
  | (with_reducible_and_instances refine ew_op ?_)
  | (with_reducible_and_instances refine ew_un ?_)
  | (with_reducible_and_instances refine ew_chain ?_)
  | (with_reducible_and_instances refine ew_andV ?_)
  | (with_reducible_and_instances refine ew_orV ?_)
  | (with_reducible_and_instances refine ew_notV ?_)
  | (with_reducible_and_instances refine ew_if ?_)
  | (with_reducible_and_instances refine ew_tup ?_)
  | (with_reducible_and_instances refine ew_cb ?_)
  | (with_reducible_and_instances refine ew_slA ?_)
  | (with_reducible_and_instances refine .inl ⟨_, rfl, ?_⟩)
  | (with_reducible_and_instances refine .inr ⟨_, .same _, ?_⟩)
  | (with_reducible_and_instances refine aw_cons ?_)
  | (with_reducible_and_instances refine aw_nil ?_)
  | (with_reducible_and_instances refine tw_test ?_)
  | (with_reducible_and_instances refine tw_B ?_)
  | (with_reducible_and_instances refine tw_and ?_)
  | (with_reducible_and_instances refine tw_or ?_)
  | (with_reducible_and_instances refine tw_not ?_)
  | (with_reducible_and_instances refine tw_yes ?_)
  | (with_reducible_and_instances refine pw_none ?_)
  | (with_reducible_and_instances refine pw_some ?_)
  | (with_reducible_and_instances refine rw_le ?_)
  | (with_reducible_and_instances refine rw_lt ?_)
  | (with_reducible_and_instances refine rw_gt ?_)
  | (with_reducible_and_instances refine rw_ge ?_)
  | (with_reducible_and_instances refine rw_sub ?_)
  | (with_reducible_and_instances refine uw_neg ?_)
  | (with_reducible_and_instances refine rwp_int ?_)
  | ((with_reducible_and_instances refine gw_name ?hj ?_); (case hj => first | exact trivial | decide))
  | (with_reducible_and_instances refine gsw_cons ?_)
  | (with_reducible_and_instances refine gsw_nil ?_)
  | (with_reducible_and_instances refine gw_tup rfl ?_)
  | (with_reducible_and_instances refine cw_max2 ?_)
  | (with_reducible_and_instances refine cw_min2 ?_)
  | (with_reducible_and_instances refine cw_lenT ?_)
  | (with_reducible_and_instances refine cw_lenR ?_)
  | (with_reducible_and_instances refine cw_lenL (.same _) ?_)
  | (with_reducible_and_instances refine cw_intB ?_)
  | (with_reducible_and_instances refine ⟨_, rfl, ?_⟩)
  | (with_reducible_and_instances refine ⟨_, _, rfl, ?_⟩)
  | (refine ⟨Nat.le_trans (by simp) (Nat.le_of_lt (small1000 (n := 1000) (by decide))), ?_⟩))
local macro_rules | `(tactic| walk_at "dx") => `(tactic| first
  | (with_reducible_and_instances refine sw_seq ?_)
  | (with_reducible_and_instances refine sw_ret ?_)
  | (with_reducible_and_instances refine sw_retN ?_)
  | (with_reducible_and_instances refine sw_set ?_)
  | (with_reducible_and_instances refine sw_par ?_)
  | (with_reducible_and_instances refine sw_drop ?_)
  | (with_reducible_and_instances refine sw_next ?_)
  | (with_reducible_and_instances refine sw_break ?_)
  | (with_reducible_and_instances refine sw_asg ?_)
  | ((with_reducible_and_instances refine' ew_var ?hh ?kk); (case hh => rfl))
  | (with_reducible_and_instances refine ew_int ?_)
  | (with_reducible_and_instances refine ew_str ?_)
  | (with_reducible_and_instances refine ew_bl ?_)
  | (with_reducible_and_instances refine ew_non ?_)
  | (with_reducible_and_instances refine ew_raw (v := .ty _) ?_)
  | (with_reducible_and_instances refine ew_op ?_)
  | (with_reducible_and_instances refine ew_un ?_)
  | (with_reducible_and_instances refine ew_chain ?_)
  | (with_reducible_and_instances refine ew_andV ?_)
  | (with_reducible_and_instances refine ew_orV ?_)
  | (with_reducible_and_instances refine ew_notV ?_)
  | (with_reducible_and_instances refine ew_if ?_)
  | (with_reducible_and_instances refine ew_tup ?_)
  | (with_reducible_and_instances refine ew_cb ?_)
  | (with_reducible_and_instances refine ew_slA ?_)
  | (with_reducible_and_instances refine .inl ⟨_, rfl, ?_⟩)
  | (with_reducible_and_instances refine .inr ⟨_, .same _, ?_⟩)
  | (with_reducible_and_instances refine aw_cons ?_)
  | (with_reducible_and_instances refine aw_nil ?_)
  | (with_reducible_and_instances refine tw_test ?_)
  | (with_reducible_and_instances refine tw_B ?_)
  | (with_reducible_and_instances refine tw_and ?_)
  | (with_reducible_and_instances refine tw_or ?_)
  | (with_reducible_and_instances refine tw_not ?_)
  | (with_reducible_and_instances refine tw_yes ?_)
  | (with_reducible_and_instances refine pw_none ?_)
  | (with_reducible_and_instances refine pw_some ?_)
  | (with_reducible_and_instances refine rw_le ?_)
  | (with_reducible_and_instances refine rw_lt ?_)
  | (with_reducible_and_instances refine rw_gt ?_)
  | (with_reducible_and_instances refine rw_ge ?_)
  | (with_reducible_and_instances refine rw_sub ?_)
  | (with_reducible_and_instances refine uw_neg ?_)
  | (with_reducible_and_instances refine rwp_int ?_)
  | ((with_reducible_and_instances refine gw_name ?hj ?_); (case hj => first | exact trivial | decide))
  | (with_reducible_and_instances refine gsw_cons ?_)
  | (with_reducible_and_instances refine gsw_nil ?_)
  | (with_reducible_and_instances refine gw_tup rfl ?_)
  | (with_reducible_and_instances refine cw_max2 ?_)
  | (with_reducible_and_instances refine cw_min2 ?_)
  | (with_reducible_and_instances refine cw_lenT ?_)
  | (with_reducible_and_instances refine cw_lenR ?_)
  | (with_reducible_and_instances refine cw_lenL (.same _) ?_)
  | (with_reducible_and_instances refine cw_intB ?_)
  | (with_reducible_and_instances refine ⟨_, rfl, ?_⟩)
  | (with_reducible_and_instances refine ⟨_, _, rfl, ?_⟩)
  | (refine ⟨Nat.le_trans (by simp) (Nat.le_of_lt (small1000 (n := 1000) (by decide))), ?_⟩))
local macro_rules | `(tactic| walk_at "dn") => `(tactic| first
  | (with_reducible_and_instances refine sw_ret ?_)
  | (with_reducible_and_instances refine sw_retN ?_)
  | (with_reducible_and_instances refine sw_set ?_)
  | (with_reducible_and_instances refine sw_par ?_)
  | (with_reducible_and_instances refine sw_drop ?_)
  | (with_reducible_and_instances refine sw_next ?_)
  | (with_reducible_and_instances refine sw_break ?_)
  | (with_reducible_and_instances refine sw_asg ?_)
  | ((with_reducible_and_instances refine' ew_var ?hh ?kk); (case hh => rfl))
  | (with_reducible_and_instances refine ew_int ?_)
  | (with_reducible_and_instances refine ew_str ?_)
  | (with_reducible_and_instances refine ew_bl ?_)
  | (with_reducible_and_instances refine ew_non ?_)
  | (with_reducible_and_instances refine ew_raw (v := .ty _) ?_)
  | (with_reducible_and_instances refine ew_op ?_)
  | (with_reducible_and_instances refine ew_un ?_)
  | (with_reducible_and_instances refine ew_chain ?_)
  | (with_reducible_and_instances refine ew_andV ?_)
  | (with_reducible_and_instances refine ew_orV ?_)
  | (with_reducible_and_instances refine ew_notV ?_)
  | (with_reducible_and_instances refine ew_if ?_)
  | (with_reducible_and_instances refine ew_tup ?_)
  | (with_reducible_and_instances refine ew_cb ?_)
  | (with_reducible_and_instances refine ew_slA ?_)
  | (with_reducible_and_instances refine .inl ⟨_, rfl, ?_⟩)
  | (with_reducible_and_instances refine .inr ⟨_, .same _, ?_⟩)
  | (with_reducible_and_instances refine aw_cons ?_)
  | (with_reducible_and_instances refine aw_nil ?_)
  | (with_reducible_and_instances refine tw_test ?_)
  | (with_reducible_and_instances refine tw_B ?_)
  | (with_reducible_and_instances refine tw_and ?_)
  | (with_reducible_and_instances refine tw_or ?_)
  | (with_reducible_and_instances refine tw_not ?_)
  | (with_reducible_and_instances refine tw_yes ?_)
  | (with_reducible_and_instances refine pw_none ?_)
  | (with_reducible_and_instances refine pw_some ?_)
  | (with_reducible_and_instances refine rw_le ?_)
  | (with_reducible_and_instances refine rw_lt ?_)
  | (with_reducible_and_instances refine rw_gt ?_)
  | (with_reducible_and_instances refine rw_ge ?_)
  | (with_reducible_and_instances refine rw_sub ?_)
  | (with_reducible_and_instances refine uw_neg ?_)
  | (with_reducible_and_instances refine rwp_int ?_)
  | ((with_reducible_and_instances refine gw_name ?hj ?_); (case hj => first | exact trivial | decide))
  | (with_reducible_and_instances refine gsw_cons ?_)
  | (with_reducible_and_instances refine gsw_nil ?_)
  | (with_reducible_and_instances refine gw_tup rfl ?_)
  | (with_reducible_and_instances refine cw_max2 ?_)
  | (with_reducible_and_instances refine cw_min2 ?_)
  | (with_reducible_and_instances refine cw_lenT ?_)
  | (with_reducible_and_instances refine cw_lenR ?_)
  | (with_reducible_and_instances refine cw_lenL (.same _) ?_)
  | (with_reducible_and_instances refine cw_intB ?_)
  | (with_reducible_and_instances refine ⟨_, rfl, ?_⟩)
  | (with_reducible_and_instances refine ⟨_, _, rfl, ?_⟩)
  | (refine ⟨Nat.le_trans (by simp) (Nat.le_of_lt (small1000 (n := 1000) (by decide))), ?_⟩))
/-! ### triples -/
/-- a statement that changes nothing -/
theorem sw_chk {K : PySem.W.Frag} {Γ : Gm} {O : Own} {E : De} {t u : TS} (h1 : SW K t Γ O { E with nx := fun Γ' O' => Γ' = Γ ∧ O' = O }) (h2 : SW K u Γ O E) : SW K (tSeq t u) Γ O E :=
  sw_cut _ h1 fun Γ' O' ⟨e1, e2⟩ => by subst e1; subst e2; exact h2
theorem rules3_get {j : Nat} {d : Dt} (hd : (rules3.map (enc : Str → Dt))[j]? = some d) : ∃ r, rule3 r ∧ d = .str r :=
  match j, hd with
  | 0, hd => ⟨"none", .inl rfl, by cases hd; rfl⟩
  | 1, hd => ⟨"place", .inr (.inl rfl), by cases hd; rfl⟩
  | 2, hd => ⟨"end", .inr (.inr rfl), by cases hd; rfl⟩
  | j + 3, hd => by cases hd
theorem cut_from {xs : List Dt} (k : Nat) : cutD xs (some (k : Int)) none = xs.drop k := by
  unfold cutD
  rw [HT.sIx_none, HT.sIx_nat]
  rcases Nat.le_total k xs.length with h | h
  · rw [Nat.min_eq_left h, ← List.length_drop, List.take_length]
  · rw [Nat.min_eq_right h, List.drop_length, List.drop_of_length_le h, List.take_nil]
theorem view_map {α β : Type} [DecidableEq β] [Enc β] {O : Own} {xs : List α} (f : α → β) : View O (.lst (xs.map fun x => enc (f x))) (enc (xs.map f)) := by
  have e : (enc (xs.map f) : Dt) = .lst (xs.map fun x => enc (f x)) := by
    show Dt.lst ((xs.map f).map enc) = _
    rw [List.map_map]; rfl
  rw [e]; exact .same _
def triplesOf (r : Str) (L : List An) : List An := (spoken r L).map fun g => ⟨g.a, topAt L g.c, lnAt L g.c⟩
def cutAt (L : List An) (k : Nat) : List An := L.take k ++ L.drop (k + 1)
theorem cutAt_sub (L : List An) (k : Nat) : (cutAt L k).Sublist L := by
  unfold cutAt
  conv => rhs; rw [← List.take_append_drop k L]
  exact (List.Sublist.refl _).append (by rw [← List.drop_drop]; exact List.drop_sublist _ _)
theorem VLog.sub {L L' : List An} (h : VLog L) (s : L'.Sublist L) : VLog L' := ⟨Nat.le_trans s.length_le h.len, fun a ha => h.ann a (s.subset ha), h.ord.sublist s⟩
theorem speech_triples {r : Str} {L : List An} (h : VLog L) : ((played r L 100000 100000).1.map (row5 L)).map (fun g => (⟨g.a, g.b, g.c⟩ : An)) = triplesOf r L := by
  rw [spoken_lb (lt' := 0) h (by decide), List.map_map]
  rfl
theorem triples_len {r : Str} {L : List An} : (triplesOf r L).length ≤ L.length := by
  unfold triplesOf spoken
  rw [List.length_map]
  exact played_fits.2
def S_triples : SpT := fun ds Oc Post => ∃ (L : List An) (r : Str), ds = [encU L, .str r] ∧ L.length ≤ 500 ∧ Post (encL (triplesOf r L)) Oc
section
variable {P : Program} {w : World} {K : PySem.W.Frag} {mg : Str → Option Value} {base : Heap} {A : Ad}
theorem ok_triples (T : Txt K mg A) : FnOk P w K mg base CX0 3 A.a_triples A.d_triples ["log", "rule"] (SpD K S_triples) := by
  refine fn_ok T.F_triples sc_triples (fun ds Oc Post h => by obtain ⟨_, _, rfl, _⟩ := h; rfl) (fun cdv AA outer s H E hr => ?_)
  refine ⟨_, (pss_one (ps_ret (pe_lc (own := [("begin", 2), ("first", 3), ("index", 4)]) rfl sc_triples.nd (seqK (K := K) (pe_ix (ixK (K := K)) (pe_call (ok_played T) (hr.mono (by decide)) (by rfl) T.g_played T.F_played.kp (b_played T) .nil pass0 (pa_cons (pv 0) (pa_cons (pv 1) (pa_cons (pe_glob (v := .int 1000000) rfl T.g_FAR ⟨_, rfl⟩) (pa_cons (pe_glob (v := .int 1000000) rfl T.g_FAR ⟨_, rfl⟩) pa_nil))))) pe_int (fun _ _ => rfl))) (blkOk_by (N := ["log", "rule", "begin", "first", "index"]) (sc := defScope s_triples) (by decide +kernel)) (fun _ _ _ _ _ => (tupK (K := K) (pg_tup (n := 3) rfl (pgs_cons (pg_name (i := 2) sc_triples.nd rfl (.inl rfl)) (pgs_cons (pg_name (i := 3) sc_triples.nd rfl (.inl rfl)) (pgs_cons (pg_name (i := 4) sc_triples.nd rfl (.inl rfl)) pgs_nil)))))) (fun _ _ _ _ _ => pts_nil) (fun _ _ _ _ _ => (pe_op (plusK (K := K)) (pe_tup (pa_cons (pv 2) pa_nil)) (pe_slice (slK (K := K)) (pe_ix (ixK (K := K)) (pv 0) (pv 4) (fun _ _ => rfl)) (po_some pe_int) po_none)))))), fun ds Oc Post h => ?_⟩
  obtain ⟨L, r, rfl, hL, hp⟩ := h
  repeat walk_at "dl"
  refine ew_lcM (α := Bg) (iws_lst ?_)
  repeat walk_at "dl"
  refine ew_call0 ?_
  repeat walk_at "dl"
  refine ⟨L, r, _, _, rfl, hL, ?_⟩
  repeat walk_at "dl"
  refine rw_ixT_ atI_0 ?_
  repeat walk_at "dl"
  obtain ⟨hfit, hlen⟩ := played_fits (r := r) (L := L) (lb := 1000000) (lt := 1000000)
  refine ⟨enc, spoken r L, fun g => enc (⟨g.a, topAt L g.c, lnAt L g.c⟩ : An), rfl, (fun p e => by cases e), (show (played r L 1000000 1000000).1.length ≤ _ by omega), fun g hg => ?_, ?_⟩
  · obtain ⟨g1, g2⟩ := hfit g hg
    repeat walk_at "dl"
    refine rw_ixT_ (atI_map g2) ?_
    repeat walk_at "dl"
    rw [cut1D]
    refine rwp_tup (show 1 + 2 ≤ sizeLine by decide) ?_
    refine ⟨rfl, ?_⟩
    show _ = Dt.tup [.int g.a, .str (topAt L g.c), .int (lnAt L g.c)]
    rw [topAt_get g2, lnAt_get g2]
    rfl
  · have e : (triplesOf r L).map enc = (spoken r L).map fun g => enc (⟨g.a, topAt L g.c, lnAt L g.c⟩ : An) := by unfold triplesOf; rw [List.map_map]; rfl
    have := hp
    unfold encL at this
    rw [e] at this
    exact this
end
end DL
namespace DL
open PySem PySem.Spec PyProof.Rows L2
/-! ### what is received, in detail -/
def Low (line : List Pr) (d : Nat) : Prop := ∀ p ∈ line, p.a < d ∧ p.b < d
theorem Low.mono {line : List Pr} {d e : Nat} (h : Low line d) (k : d ≤ e) : Low line e := fun p hp => ⟨Nat.lt_of_lt_of_le (h p hp).1 k, Nat.lt_of_lt_of_le (h p hp).2 k⟩
theorem Low.tail {p : Pr} {ps : List Pr} {d : Nat} (h : Low (p :: ps) d) : Low ps d := fun q hq => h q (List.mem_cons_of_mem _ hq)
theorem Low.fits {L : List An} {line : List Pr} {d : Nat} (h : Low line d) (k : d ≤ L.length) : Fits L line := h.mono k
theorem low_nil (d : Nat) : Low [] d := fun _ z => by cases z
theorem rcv_low {r : Str} {L : List An} {line : List Pr} {d : Nat} (h0 : Low line d) : Low (rcv r L line d) (d + 1) := by
  have h := h0.mono (Nat.le_succ d)
  have hk := Nat.lt_succ_self d
  unfold rcv
  split
  · intro p hp
    rcases List.mem_append.mp hp with hp | hp
    · exact h p hp
    · simp at hp; subst hp; exact ⟨hk, hk⟩
  · rename_i p0 ps hq
    have hm : p0 ∈ line := (List.mem_filter.mp (by rw [hq]; exact List.mem_cons_self)).1
    split
    · intro p hp
      rcases List.mem_append.mp hp with hp | hp
      · exact h p hp
      · simp at hp; subst hp; exact ⟨hk, hk⟩
    · split
      · intro p hp
        obtain ⟨q, hq, rfl⟩ := List.mem_map.mp hp
        split
        · exact ⟨(h p0 hm).1, hk⟩
        · exact h q hq
      · intro p hp
        rcases List.mem_append.mp hp with hp | hp
        · exact h p (List.mem_filter.mp hp).1
        · simp at hp; subst hp; exact ⟨(h p0 hm).1, hk⟩
theorem rcv_new {r : Str} {L : List An} {line : List Pr} {i : Nat} {p : Pr} (hp : p ∈ rcv r L line i) : p.b = i ∨ p ∈ line := by
  unfold rcv at hp
  split at hp
  · rcases List.mem_append.mp hp with hp | hp
    · exact .inr hp
    · simp at hp; subst hp; exact .inl rfl
  · split at hp
    · rcases List.mem_append.mp hp with hp | hp
      · exact .inr hp
      · simp at hp; subst hp; exact .inl rfl
    · split at hp
      · obtain ⟨q, hq, e⟩ := List.mem_map.mp hp
        split at e
        · subst e; exact .inl rfl
        · subst e; exact .inr hq
      · rcases List.mem_append.mp hp with hp | hp
        · exact .inr (List.mem_filter.mp hp).1
        · simp at hp; subst hp; exact .inl rfl
theorem rcv_self (r : Str) (L : List An) (line : List Pr) (i : Nat) : ∃ p ∈ rcv r L line i, p.b = i := by
  unfold rcv
  split
  · exact ⟨_, List.mem_append_right _ List.mem_cons_self, rfl⟩
  · rename_i p0 ps hq
    have hm : p0 ∈ line := (List.mem_filter.mp (by rw [hq]; exact List.mem_cons_self)).1
    split
    · exact ⟨_, List.mem_append_right _ List.mem_cons_self, rfl⟩
    · split
      · exact ⟨_, List.mem_map.mpr ⟨p0, hm, if_pos rfl⟩, rfl⟩
      · exact ⟨_, List.mem_append_right _ List.mem_cons_self, rfl⟩
theorem rcv_keep {r : Str} {L : List An} {line : List Pr} {i : Nat} {p : Pr} (hp : p ∈ line) (ht : topAt L p.b ≠ topAt L i) : p ∈ rcv r L line i := by
  unfold rcv
  split
  · exact List.mem_append_left _ hp
  · rename_i p0 ps hq
    have hm := List.mem_filter.mp (by rw [hq]; exact List.mem_cons_self : p0 ∈ line.filter fun p => decide (topAt L p.b = topAt L i))
    have hne : p ≠ p0 := by
      rintro rfl
      exact ht (of_decide_eq_true hm.2)
    split
    · exact List.mem_append_left _ hp
    · split
      · exact List.mem_map.mpr ⟨p, hp, if_neg hne⟩
      · exact List.mem_append_left _ (List.mem_filter.mpr ⟨hp, by simp [hne]⟩)
theorem rcv_drop {r : Str} {L : List An} {line : List Pr} {j k : Nat} (hr : r ≠ "none") (hd : Dist r L line) (ht : topAt L j = topAt L k) (hjk : j ≠ k) : ∀ p ∈ rcv r L line j, p.b ≠ k := by
  have hn := hd.resolve_left hr
  intro p hp e
  unfold rcv at hp
  split at hp
  · rename_i hq
    rcases List.mem_append.mp hp with hp | hp
    · have : p ∈ line.filter fun p => decide (topAt L p.b = topAt L j) := List.mem_filter.mpr ⟨hp, by rw [e, ht]; simp⟩
      rw [hq] at this
      cases this
    · simp at hp; subst hp; exact hjk e
  · rename_i p0 ps hq
    obtain ⟨_, hall⟩ := filter_one (L := L) (k := j) hn p0 ps hq
    have one : ∀ q ∈ line, q.b = k → q = p0 := fun q hq e => by
      have := hall q hq
      rw [show mt L j q = true by unfold mt; rw [e, ht]; simp] at this
      exact of_decide_eq_true this.symm
    split at hp
    · rename_i z; exact hr z
    · split at hp
      · obtain ⟨q, hq, eq⟩ := List.mem_map.mp hp
        split at eq
        · subst eq; exact hjk e
        · rename_i hne
          subst eq
          exact hne (one _ hq e)
      · rcases List.mem_append.mp hp with hp | hp
        · have h2 := List.mem_filter.mp hp
          have := one p h2.1 e
          subst this
          simp at h2
        · simp at hp; subst hp; exact hjk e
theorem rcv_congr {r : Str} {L M : List An} {line : List Pr} {k : Nat} (h : ∀ p ∈ line, topAt L p.b = topAt M p.b) (hk : topAt L k = topAt M k) : rcv r L line k = rcv r M line k := by
  have e : line.filter (fun p => decide (topAt L p.b = topAt L k)) = line.filter fun p => decide (topAt M p.b = topAt M k) := List.filter_congr fun p hp => by rw [h p hp, hk]
  unfold rcv
  rw [e]
/-- two logs that begin alike -/
def Agree (L M : List An) (j : Nat) : Prop := ∀ i, i < j → topAt L i = topAt M i ∧ timAt L i = timAt M i ∧ lnAt L i = lnAt M i
theorem rcvAll_same {r : Str} {L M : List An} {j : Nat} {now : Int} (hag : Agree L M j) (hLj : j ≤ L.length) (hMj : j ≤ M.length) (hL : j < L.length → now < timAt L j) (hM : j < M.length → now < timAt M j) : ∀ (n : Nat) (line : List Pr) (done : Nat), j - done = n → done ≤ j → Low line done →
    rcvAll r L now line done = rcvAll r M now line done ∧ (rcvAll r L now line done).2 ≤ j ∧ Low (rcvAll r L now line done).1 (rcvAll r L now line done).2
  | 0, line, done, hn, hd, hl => by
    have e : done = j := by omega
    subst e
    have s1 : ¬ (done < L.length ∧ timAt L done ≤ now) := fun z => by have := hL z.1; omega
    have s2 : ¬ (done < M.length ∧ timAt M done ≤ now) := fun z => by have := hM z.1; omega
    rw [rcvAll_stop s1, rcvAll_stop s2]
    exact ⟨rfl, Nat.le_refl _, hl⟩
  | n + 1, line, done, hn, hd, hl => by
    have hdj : done < j := by omega
    obtain ⟨a1, a2, a3⟩ := hag done hdj
    by_cases hc : timAt L done ≤ now
    · rw [rcvAll_go (L := L) (by omega) hc, rcvAll_go (L := M) (by omega) (by rw [← a2]; exact hc)]
      rw [show rcv r M line done = rcv r L line done from (rcv_congr (fun p hp => (hag p.b (by have := (hl p hp).2; omega)).1) a1).symm]
      exact rcvAll_same hag hLj hMj hL hM n _ _ (by omega) hdj (rcv_low hl)
    · rw [rcvAll_stop (L := L) (fun z => hc z.2), rcvAll_stop (L := M) (fun z => hc (by rw [a2]; exact z.2))]
      exact ⟨rfl, hd, hl⟩
theorem rcvAll_low {r : Str} {L : List An} {now : Int} : ∀ (n : Nat) {line : List Pr} {done : Nat}, L.length - done = n → Low line done → Low (rcvAll r L now line done).1 (rcvAll r L now line done).2
  | 0, line, done, h, hl => by rw [rcvAll_stop (fun z => by omega)]; exact hl
  | n + 1, line, done, h, hl => by
    by_cases hc : done < L.length ∧ timAt L done ≤ now
    · rw [rcvAll_go hc.1 hc.2]; exact rcvAll_low n (by omega) (rcv_low hl)
    · rw [rcvAll_stop hc]; exact hl
/-- what is gone stays gone -/
theorem rcvAll_not {r : Str} {L : List An} {now : Int} {k : Nat} : ∀ (n : Nat) {line : List Pr} {done : Nat}, L.length - done = n → k < done → (∀ p ∈ line, p.b ≠ k) → (∀ p ∈ (rcvAll r L now line done).1, p.b ≠ k) ∧ k < (rcvAll r L now line done).2
  | 0, line, done, h, hk, hl => by rw [rcvAll_stop (fun z => by omega)]; exact ⟨hl, hk⟩
  | n + 1, line, done, h, hk, hl => by
    by_cases hc : done < L.length ∧ timAt L done ≤ now
    · rw [rcvAll_go hc.1 hc.2]
      refine rcvAll_not n (by omega) (by omega) fun p hp => ?_
      rcases rcv_new hp with e | hp
      · omega
      · exact hl p hp
    · rw [rcvAll_stop hc]; exact ⟨hl, hk⟩
theorem Run.never {r : Str} {L : List An} {line : List Pr} {done : Nat} {free : Int} {gs : List Bg} {k : Nat} (h : Run r L line done free gs) (hk : k < done) (hl : ∀ p ∈ line, p.b ≠ k) : ∀ g ∈ gs, g.c ≠ k := by
  induction h with
  | stop z => exact fun g hg => by cases hg
  | @step line done free p ps d gs hz e _ ih =>
    have h2 := rcvAll_not (r := r) (L := L) (now := nowOf L line done free) _ rfl hk hl
    rw [e] at h2
    intro g hg
    rcases List.mem_cons.mp hg with rfl | hg
    · exact h2.1 p List.mem_cons_self
    · exact ih h2.2 (fun q hq => h2.1 q (List.mem_cons_of_mem _ hq)) g hg
/-- k is still to be begun -/
def Pend (line : List Pr) (done k : Nat) : Prop := done ≤ k ∨ (k < done ∧ ∃ p ∈ line, p.b = k)
theorem rcv_pend {r : Str} {L : List An} {line : List Pr} {done k : Nat} (hlast : ∀ i, k < i → i < L.length → topAt L i ≠ topAt L k) (hd : done < L.length) (h : Pend line done k) : Pend (rcv r L line done) (done + 1) k := by
  rcases h with h | ⟨h, p, hp, e⟩
  · rcases Nat.eq_or_lt_of_le h with e | h
    · subst e
      exact .inr ⟨Nat.lt_succ_self _, rcv_self r L line done⟩
    · exact .inl h
  · subst e
    exact .inr ⟨Nat.lt_succ_of_lt h, p, rcv_keep hp (hlast done h hd).symm, rfl⟩
theorem rcvAll_pend {r : Str} {L : List An} {now : Int} {k : Nat} (hlast : ∀ i, k < i → i < L.length → topAt L i ≠ topAt L k) : ∀ (n : Nat) {line : List Pr} {done : Nat}, L.length - done = n → Pend line done k → Pend (rcvAll r L now line done).1 (rcvAll r L now line done).2 k
  | 0, line, done, h, hp => by rw [rcvAll_stop (fun z => by omega)]; exact hp
  | n + 1, line, done, h, hp => by
    by_cases hc : done < L.length ∧ timAt L done ≤ now
    · rw [rcvAll_go hc.1 hc.2]; exact rcvAll_pend hlast n (by omega) (rcv_pend hlast hc.1 hp)
    · rw [rcvAll_stop hc]; exact hp
theorem Pend.tail {p : Pr} {ps : List Pr} {d k : Nat} (h : Pend (p :: ps) d k) (hne : p.b ≠ k) : Pend ps d k := h.imp id fun ⟨h1, q, hq, e⟩ => ⟨h1, by
  rcases List.mem_cons.mp hq with rfl | hq
  · exact absurd e hne
  · exact ⟨q, hq, e⟩⟩
/-- the last one of a topic is heard -/
theorem Run.heard {r : Str} {L : List An} {line : List Pr} {done : Nat} {free : Int} {gs : List Bg} {k : Nat} (h : Run r L line done free gs) (hk : k < L.length) (hlast : ∀ i, k < i → i < L.length → topAt L i ≠ topAt L k) (hp : Pend line done k) : ∃ g ∈ gs, g.c = k := by
  induction h with
  | stop z =>
    rcases hp with h | ⟨_, p, hp, _⟩
    · omega
    · cases hp
  | @step line done free p ps d gs hz e _ ih =>
    have h2 := rcvAll_pend (r := r) (now := nowOf L line done free) hlast _ rfl hp
    rw [e] at h2
    by_cases hb : p.b = k
    · exact ⟨_, List.mem_cons_self, hb⟩
    · obtain ⟨g, hg, e⟩ := ih (h2.tail hb)
      exact ⟨g, List.mem_cons_of_mem _ hg, e⟩
theorem rcvAll_kill {r : Str} {L : List An} {now : Int} {j k : Nat} (hr : r ≠ "none") (hj : j < L.length) (hkj : k < j) (ht : topAt L j = topAt L k) (htim : ∀ i, i ≤ j → timAt L i ≤ now) : ∀ (n : Nat) {line : List Pr} {done : Nat}, j - done = n → done ≤ j → Dist r L line →
    (∀ p ∈ (rcvAll r L now line done).1, p.b ≠ k) ∧ k < (rcvAll r L now line done).2
  | 0, line, done, h, hd, hdi => by
    have e : done = j := by omega
    subst e
    rw [rcvAll_go hj (htim done (Nat.le_refl _))]
    exact rcvAll_not _ rfl (by omega) (rcv_drop hr hdi ht (by omega))
  | n + 1, line, done, h, hd, hdi => by
    rw [rcvAll_go (by omega) (htim done hd)]
    exact rcvAll_kill hr hj hkj ht htim n (by omega) (by omega) (hdi.rcv _)
/-- is k heard, told by the log without the later ones of its topic -/
theorem Run.would {r : Str} {L M : List An} {j k : Nat} {line : List Pr} {done : Nat} {free : Int} {gs gs' : List Bg} (hr : r ≠ "none") (hj : j < L.length) (hkj : k < j) (ht : topAt L j = topAt L k) (hs : ∀ a b, a ≤ b → b < L.length → timAt L a ≤ timAt L b)
    (hag : Agree L M j) (hMj : j ≤ M.length) (hM : ∀ i, k < i → i < M.length → topAt M i ≠ topAt M k) (htM : j < M.length → timAt L j ≤ timAt M j) (hlM : ∀ i, i < M.length → 1 ≤ lnAt M i)
    (h : Run r L line done free gs) (h' : Run r M line done free gs') (hd : done ≤ j) (hl : Low line done) (hdi : Dist r L line) (hp : Pend line done k) :
    ∃ g, gs'.find? (fun g => decide (g.c = k)) = some g ∧ ((∃ x ∈ gs, x.c = k) ↔ g.a < timAt L j) := by
  induction h generalizing gs' with
  | stop z => omega
  | @step line done free p ps d gs hz e h2 ih =>
    cases h' with
    | stop z =>
      rcases hp with h | ⟨_, q, hq, _⟩
      · omega
      · cases hq
    | @step _ _ _ p' ps' d' gs' hz' e' h2' =>
      have en : nowOf M line done free = nowOf L line done free := by
        unfold nowOf
        by_cases hln : line = []
        · subst hln
          rcases hp with h | ⟨_, q, hq, _⟩
          · rw [(hag done (by omega)).2.1]
          · cases hq
        · rw [if_pos hln, if_pos hln]
      rw [en] at e' h2' ⊢
      by_cases hnow : nowOf L line done free < timAt L j
      · obtain ⟨s1, s2, s3⟩ := rcvAll_same (r := r) (now := nowOf L line done free) hag (by omega) hMj (fun _ => hnow) (fun z => Int.lt_of_lt_of_le hnow (htM z)) _ line done rfl hd hl
        have pd := rcvAll_pend (r := r) (now := nowOf L line done free) hM _ rfl hp
        rw [e'] at pd
        rw [s1, e'] at e
        cases e
        rw [s1, e'] at s2 s3
        have hpb := (s3 p List.mem_cons_self).2
        have hdd := rcvAll_dist (now := nowOf L line done free) (done := done) hdi
        rw [s1, e'] at hdd
        by_cases hb : p.b = k
        · refine ⟨_, List.find?_cons_of_pos (by simpa using hb), ⟨fun _ => hnow, fun _ => ⟨_, List.mem_cons_self, hb⟩⟩⟩
        · have el := (hag p.b (Nat.lt_of_lt_of_le hpb s2)).2.2
          rw [← el] at h2'
          obtain ⟨g, g1, g2⟩ := ih h2' s2 s3.tail hdd.tail (pd.tail hb)
          refine ⟨g, by rw [List.find?_cons_of_neg (by simpa using hb)]; exact g1, ⟨fun ⟨x, hx, ex⟩ => g2.mp ?_, fun z => ?_⟩⟩
          · rcases List.mem_cons.mp hx with rfl | hx
            · exact absurd ex hb
            · exact ⟨x, hx, ex⟩
          · obtain ⟨x, hx, ex⟩ := g2.mpr z
            exact ⟨x, List.mem_cons_of_mem _ hx, ex⟩
      · have hge : timAt L j ≤ nowOf L line done free := Int.not_lt.mp hnow
        have kl := rcvAll_kill (now := nowOf L line done free) hr hj hkj ht (fun i hi => Int.le_trans (hs i j hi hj) hge) _ rfl hd hdi
        rw [e] at kl
        have no : ¬ ∃ x ∈ (⟨nowOf L line done free, p.a, p.b⟩ : Bg) :: gs, x.c = k := by
          rintro ⟨x, hx, ex⟩
          rcases List.mem_cons.mp hx with rfl | hx
          · exact kl.1 p List.mem_cons_self ex
          · exact h2.never kl.2 (fun q hq => kl.1 q (List.mem_cons_of_mem _ hq)) x hx ex
        have hrun : Run r M line done free (⟨nowOf L line done free, p'.a, p'.b⟩ :: gs') := by
          have := Run.step (r := r) hz' (by rw [en]; exact e') (by rw [en]; exact h2')
          rw [en] at this
          exact this
        obtain ⟨g0, hg0, eg0⟩ := hrun.heard (by omega) hM hp
        have hsome : ((⟨nowOf L line done free, p'.a, p'.b⟩ : Bg) :: gs').find? (fun g => decide (g.c = k)) ≠ none := fun z => by
          have := List.find?_eq_none.mp z g0 hg0
          simp [eg0] at this
        obtain ⟨g, hg⟩ := Option.ne_none_iff_exists'.mp hsome
        refine ⟨g, hg, ⟨fun z => absurd z no, fun z => ?_⟩⟩
        exfalso
        have hm := List.mem_of_find?_eq_some hg
        have rk := Run.rk (hl.fits (Nat.le_trans hd hMj)) (Nat.le_trans hd hMj) e'
        have hle := (h2'.order hlM rk.fits.tail rk.top).1
        have hp' := hlM p'.b (rk.fits p' List.mem_cons_self).2
        rcases List.mem_cons.mp hm with rfl | hm
        · exact hnow z
        · have := hle g hm
          omega
def wM (L : List An) (k : Nat) : List An := L.take (k + 1) ++ (L.drop (k + 1)).filter fun x => decide (x.b ≠ topAt L k)
theorem wM_sub (L : List An) (k : Nat) : (wM L k).Sublist L := by
  unfold wM
  conv => rhs; rw [← List.take_append_drop (k + 1) L]
  exact (List.Sublist.refl _).append List.filter_sublist
theorem at_left {A X Y : List An} {i : Nat} (h : i < A.length) : topAt (A ++ X) i = topAt (A ++ Y) i ∧ timAt (A ++ X) i = timAt (A ++ Y) i ∧ lnAt (A ++ X) i = lnAt (A ++ Y) i := by
  unfold topAt timAt lnAt
  rw [List.getElem?_append_left h, List.getElem?_append_left h]
  exact ⟨rfl, rfl, rfl⟩
theorem wM_top {L : List An} {k : Nat} (hk : k < L.length) : topAt (wM L k) k = topAt L k := by
  have h : k < (L.take (k + 1)).length := by rw [List.length_take]; omega
  have := (at_left (X := (L.drop (k + 1)).filter fun x => decide (x.b ≠ topAt L k)) (Y := L.drop (k + 1)) h).1
  rw [List.take_append_drop] at this
  exact this
theorem wM_last {L : List An} {k : Nat} (hk : k < L.length) : ∀ i, k < i → i < (wM L k).length → topAt (wM L k) i ≠ topAt (wM L k) k := by
  intro i hi hl
  rw [wM_top hk, topAt_get hl]
  have hlt : (L.take (k + 1)).length = k + 1 := by rw [List.length_take]; omega
  have e : (wM L k)[i]? = ((L.drop (k + 1)).filter fun x => decide (x.b ≠ topAt L k))[i - (k + 1)]? := by
    unfold wM
    rw [List.getElem?_append_right (by omega), hlt]
  rw [List.getElem?_eq_getElem hl] at e
  exact of_decide_eq_true (List.mem_filter.mp (List.mem_of_getElem? e.symm)).2
theorem k12_find {r : Str} {L : List An} {k : Nat} (hV : VLog L) (hr : r ≠ "none") (hk : k < L.length) : ∃ g, (spoken r (wM L k)).find? (fun g => decide (g.c = k)) = some g ∧
    ∀ h t, ((L.drop (k + 1)).filter fun x => decide (x.b = topAt L k)) = h :: t → ((∃ x ∈ spoken r L, x.c = k) ↔ g.a < h.a) := by
  have hM := hV.sub (wM_sub L k)
  have hkM : k < (wM L k).length := by
    unfold wM
    rw [List.length_append, List.length_take]
    omega
  cases hf : (L.drop (k + 1)).filter fun x => decide (x.b = topAt L k) with
  | nil =>
    obtain ⟨g0, hg0, eg0⟩ := (run_spoken (r := r) hM).heard hkM (wM_last hk) (.inl (Nat.zero_le _))
    have hsome : (spoken r (wM L k)).find? (fun g => decide (g.c = k)) ≠ none := fun z => by
      have := List.find?_eq_none.mp z g0 hg0
      simp [eg0] at this
    obtain ⟨g, hg⟩ := Option.ne_none_iff_exists'.mp hsome
    exact ⟨g, hg, fun h t z => by cases z⟩
  | cons h t =>
    obtain ⟨pre, post, e1, e2, e3, e4⟩ := List.filter_eq_cons_iff.mp hf
    have eL : L = (L.take (k + 1) ++ pre) ++ h :: post := by rw [List.append_assoc, ← e1, List.take_append_drop]
    have eM : wM L k = (L.take (k + 1) ++ pre) ++ post.filter fun x => decide (x.b ≠ topAt L k) := by
      have eh : decide (h.b ≠ topAt L k) = false := by have := of_decide_eq_true e3; simp [this]
      unfold wM
      rw [e1, List.filter_append, List.filter_cons, eh, List.filter_eq_self.mpr fun x hx => ?_, List.append_assoc]
      · rfl
      · have := e2 x hx
        simpa using this
    generalize hA : L.take (k + 1) ++ pre = A at eL eM
    have hlt : (L.take (k + 1)).length = k + 1 := by rw [List.length_take]; omega
    have hjk : k < A.length := by rw [← hA, List.length_append, hlt]; omega
    have hjL : A.length < L.length := by
      have := congrArg List.length eL
      rw [List.length_append, List.length_cons] at this
      omega
    have hAL : A.length ≤ (wM L k).length := by rw [eM, List.length_append]; omega
    have eget : L[A.length] = h := by
      have : L[A.length]? = some h := by rw [eL, List.getElem?_append_right (by simp)]; simp
      rw [List.getElem?_eq_getElem hjL] at this
      exact Option.some.inj this
    have etim : timAt L A.length = h.a := by rw [timAt_get hjL, eget]
    have etop : topAt L A.length = topAt L k := by rw [topAt_get hjL, eget]; exact of_decide_eq_true e3
    have hag : Agree L (wM L k) A.length := fun i hi => by
      rw [eM]
      have := at_left (A := A) (X := h :: post) (Y := post.filter fun x => decide (x.b ≠ topAt L k)) hi
      rw [← eL] at this
      exact this
    have hord := hV.ord
    rw [eL, List.pairwise_append] at hord
    have hpost := (List.pairwise_cons.mp hord.2.1).1
    obtain ⟨g, g1, g2⟩ := Run.would (r := r) hr hjL hjk etop (fun a b hab hb => hV.s.tim hab hb) hag hAL (wM_last hk) (fun z => by
        rw [etim, timAt_get z]
        have hm : (wM L k)[A.length] ∈ post.filter fun x => decide (x.b ≠ topAt L k) := by
          have e5 : (wM L k)[A.length]? = (post.filter fun x => decide (x.b ≠ topAt L k))[0]? := by
            conv => lhs; rw [eM]
            rw [List.getElem?_append_right (Nat.le_refl _), Nat.sub_self]
          rw [List.getElem?_eq_getElem z] at e5
          exact List.mem_of_getElem? e5.symm
        exact hpost _ (List.mem_filter.mp hm).1) (fun i hi => hM.ln1 i hi) (run_spoken hV) (run_spoken hM) (Nat.zero_le _) (low_nil _) (.inr .nil) (.inl (Nat.zero_le _))
    refine ⟨g, g1, fun h' t' z => ?_⟩
    cases z
    rw [etim] at g2
    exact g2
theorem k12_last {r : Str} {L : List An} {k : Nat} (hV : VLog L) (hk : k < L.length) (h : ((L.drop (k + 1)).filter fun x => decide (x.b = topAt L k)) = []) : ∃ x ∈ spoken r L, x.c = k := by
  refine (run_spoken hV).heard hk (fun i hi hl e => ?_) (.inl (Nat.zero_le _))
  have hm : L[i] ∈ (L.drop (k + 1)).filter fun x => decide (x.b = topAt L k) := by
    refine List.mem_filter.mpr ⟨?_, ?_⟩
    · have : (L.drop (k + 1))[i - (k + 1)]? = some L[i] := by rw [List.getElem?_drop, show k + 1 + (i - (k + 1)) = i by omega, List.getElem?_eq_getElem hl]
      exact List.mem_of_getElem? this
    · rw [← topAt_get hl, e]; simp
  rw [h] at hm
  cases hm
end DL
namespace DL
open PySem PySem.Spec PyProof.Rows L2
open Enc (enc)
local macro_rules | `(tactic| walk_at "dl") => `(tactic| first
  | (with_reducible_and_instances refine sw_seq ?_)
  | (with_reducible_and_instances refine sw_ret ?_)
  | (with_reducible_and_instances refine sw_retN ?_)
  | (with_reducible_and_instances refine sw_set ?_)
  | (with_reducible_and_instances refine sw_par ?_)
  | (with_reducible_and_instances refine sw_drop ?_)
  | (with_reducible_and_instances refine sw_next ?_)
  | (with_reducible_and_instances refine sw_break ?_)
  | (with_reducible_and_instances refine sw_if ?_)
  | (with_reducible_and_instances refine sw_asg ?_)
  | ((with_reducible_and_instances refine' ew_var ?hh ?kk); (case hh => rfl))
  | (with_reducible_and_instances refine ew_int ?_)
  | (with_reducible_and_instances refine ew_str ?_)
  | (with_reducible_and_instances refine ew_bl ?_)
  | (with_reducible_and_instances refine ew_non ?_)
  | (with_reducible_and_instances refine ew_raw (v := .ty _) ?_)
  | (with_reducible_and_instances refine ew_op ?_)
  | (with_reducible_and_instances refine ew_un ?_)
  | (with_reducible_and_instances refine ew_chain ?_)
  | (with_reducible_and_instances refine ew_andV ?_)
  | (with_reducible_and_instances refine ew_orV ?_)
  | (with_reducible_and_instances refine ew_notV ?_)
  | (with_reducible_and_instances refine ew_if ?_)
  | (with_reducible_and_instances refine ew_tup ?_)
  | (with_reducible_and_instances refine ew_cb ?_)
  | (with_reducible_and_instances refine ew_slA ?_)
  | (with_reducible_and_instances refine .inl ⟨_, rfl, ?_⟩)
  | (with_reducible_and_instances refine .inr ⟨_, .same _, ?_⟩)
  | (with_reducible_and_instances refine aw_cons ?_)
  | (with_reducible_and_instances refine aw_nil ?_)
  | (with_reducible_and_instances refine tw_test ?_)
  | (with_reducible_and_instances refine tw_B ?_)
  | (with_reducible_and_instances refine tw_and ?_)
  | (with_reducible_and_instances refine tw_or ?_)
  | (with_reducible_and_instances refine tw_not ?_)
  | (with_reducible_and_instances refine tw_yes ?_)
  | (with_reducible_and_instances refine pw_none ?_)
  | (with_reducible_and_instances refine pw_some ?_)
  | (with_reducible_and_instances refine rw_le ?_)
  | (with_reducible_and_instances refine rw_lt ?_)
  | (with_reducible_and_instances refine rw_gt ?_)
  | (with_reducible_and_instances refine rw_ge ?_)
  | (with_reducible_and_instances refine rw_sub ?_)
  | (with_reducible_and_instances refine uw_neg ?_)
  | (with_reducible_and_instances refine rwp_int ?_)
  | ((with_reducible_and_instances refine gw_name ?hj ?_); (case hj => first | exact trivial | decide))
  | (with_reducible_and_instances refine gsw_cons ?_)
  | (with_reducible_and_instances refine gsw_nil ?_)
  | (with_reducible_and_instances refine gw_tup rfl ?_)
  | (with_reducible_and_instances refine cw_max2 ?_)
  | (with_reducible_and_instances refine cw_min2 ?_)
  | (with_reducible_and_instances refine cw_lenT ?_)
  | (with_reducible_and_instances refine cw_lenR ?_)
  | (with_reducible_and_instances refine cw_lenL (.same _) ?_)
  | (with_reducible_and_instances refine cw_intB ?_)
  | (with_reducible_and_instances refine ⟨_, rfl, ?_⟩)
  | (with_reducible_and_instances refine ⟨_, _, rfl, ?_⟩)
  | (refine ⟨Nat.le_trans (by simp) (Nat.le_of_lt (small1000 (n := 1000) (by decide))), ?_⟩))
local macro_rules | `(tactic| walk_at "dx") => `(tactic| first
  | (with_reducible_and_instances refine sw_seq ?_)
  | (with_reducible_and_instances refine sw_ret ?_)
  | (with_reducible_and_instances refine sw_retN ?_)
  | (with_reducible_and_instances refine sw_set ?_)
  | (with_reducible_and_instances refine sw_par ?_)
  | (with_reducible_and_instances refine sw_drop ?_)
  | (with_reducible_and_instances refine sw_next ?_)
  | (with_reducible_and_instances refine sw_break ?_)
  | (with_reducible_and_instances refine sw_asg ?_)
  | ((with_reducible_and_instances refine' ew_var ?hh ?kk); (case hh => rfl))
  | (with_reducible_and_instances refine ew_int ?_)
  | (with_reducible_and_instances refine ew_str ?_)
  | (with_reducible_and_instances refine ew_bl ?_)
  | (with_reducible_and_instances refine ew_non ?_)
  | (with_reducible_and_instances refine ew_raw (v := .ty _) ?_)
  | (with_reducible_and_instances refine ew_op ?_)
  | (with_reducible_and_instances refine ew_un ?_)
  | (with_reducible_and_instances refine ew_chain ?_)
  | (with_reducible_and_instances refine ew_andV ?_)
  | (with_reducible_and_instances refine ew_orV ?_)
  | (with_reducible_and_instances refine ew_notV ?_)
  | (with_reducible_and_instances refine ew_if ?_)
  | (with_reducible_and_instances refine ew_tup ?_)
  | (with_reducible_and_instances refine ew_cb ?_)
  | (with_reducible_and_instances refine ew_slA ?_)
  | (with_reducible_and_instances refine .inl ⟨_, rfl, ?_⟩)
  | (with_reducible_and_instances refine .inr ⟨_, .same _, ?_⟩)
  | (with_reducible_and_instances refine aw_cons ?_)
  | (with_reducible_and_instances refine aw_nil ?_)
  | (with_reducible_and_instances refine tw_test ?_)
  | (with_reducible_and_instances refine tw_B ?_)
  | (with_reducible_and_instances refine tw_and ?_)
  | (with_reducible_and_instances refine tw_or ?_)
  | (with_reducible_and_instances refine tw_not ?_)
  | (with_reducible_and_instances refine tw_yes ?_)
  | (with_reducible_and_instances refine pw_none ?_)
  | (with_reducible_and_instances refine pw_some ?_)
  | (with_reducible_and_instances refine rw_le ?_)
  | (with_reducible_and_instances refine rw_lt ?_)
  | (with_reducible_and_instances refine rw_gt ?_)
  | (with_reducible_and_instances refine rw_ge ?_)
  | (with_reducible_and_instances refine rw_sub ?_)
  | (with_reducible_and_instances refine uw_neg ?_)
  | (with_reducible_and_instances refine rwp_int ?_)
  | ((with_reducible_and_instances refine gw_name ?hj ?_); (case hj => first | exact trivial | decide))
  | (with_reducible_and_instances refine gsw_cons ?_)
  | (with_reducible_and_instances refine gsw_nil ?_)
  | (with_reducible_and_instances refine gw_tup rfl ?_)
  | (with_reducible_and_instances refine cw_max2 ?_)
  | (with_reducible_and_instances refine cw_min2 ?_)
  | (with_reducible_and_instances refine cw_lenT ?_)
  | (with_reducible_and_instances refine cw_lenR ?_)
  | (with_reducible_and_instances refine cw_lenL (.same _) ?_)
  | (with_reducible_and_instances refine cw_intB ?_)
  | (with_reducible_and_instances refine ⟨_, rfl, ?_⟩)
  | (with_reducible_and_instances refine ⟨_, _, rfl, ?_⟩)
  | (refine ⟨Nat.le_trans (by simp) (Nat.le_of_lt (small1000 (n := 1000) (by decide))), ?_⟩))
local macro_rules | `(tactic| walk_at "dn") => `(tactic| first
  | (with_reducible_and_instances refine sw_ret ?_)
  | (with_reducible_and_instances refine sw_retN ?_)
  | (with_reducible_and_instances refine sw_set ?_)
  | (with_reducible_and_instances refine sw_par ?_)
  | (with_reducible_and_instances refine sw_drop ?_)
  | (with_reducible_and_instances refine sw_next ?_)
  | (with_reducible_and_instances refine sw_break ?_)
  | (with_reducible_and_instances refine sw_asg ?_)
  | ((with_reducible_and_instances refine' ew_var ?hh ?kk); (case hh => rfl))
  | (with_reducible_and_instances refine ew_int ?_)
  | (with_reducible_and_instances refine ew_str ?_)
  | (with_reducible_and_instances refine ew_bl ?_)
  | (with_reducible_and_instances refine ew_non ?_)
  | (with_reducible_and_instances refine ew_raw (v := .ty _) ?_)
  | (with_reducible_and_instances refine ew_op ?_)
  | (with_reducible_and_instances refine ew_un ?_)
  | (with_reducible_and_instances refine ew_chain ?_)
  | (with_reducible_and_instances refine ew_andV ?_)
  | (with_reducible_and_instances refine ew_orV ?_)
  | (with_reducible_and_instances refine ew_notV ?_)
  | (with_reducible_and_instances refine ew_if ?_)
  | (with_reducible_and_instances refine ew_tup ?_)
  | (with_reducible_and_instances refine ew_cb ?_)
  | (with_reducible_and_instances refine ew_slA ?_)
  | (with_reducible_and_instances refine .inl ⟨_, rfl, ?_⟩)
  | (with_reducible_and_instances refine .inr ⟨_, .same _, ?_⟩)
  | (with_reducible_and_instances refine aw_cons ?_)
  | (with_reducible_and_instances refine aw_nil ?_)
  | (with_reducible_and_instances refine tw_test ?_)
  | (with_reducible_and_instances refine tw_B ?_)
  | (with_reducible_and_instances refine tw_and ?_)
  | (with_reducible_and_instances refine tw_or ?_)
  | (with_reducible_and_instances refine tw_not ?_)
  | (with_reducible_and_instances refine tw_yes ?_)
  | (with_reducible_and_instances refine pw_none ?_)
  | (with_reducible_and_instances refine pw_some ?_)
  | (with_reducible_and_instances refine rw_le ?_)
  | (with_reducible_and_instances refine rw_lt ?_)
  | (with_reducible_and_instances refine rw_gt ?_)
  | (with_reducible_and_instances refine rw_ge ?_)
  | (with_reducible_and_instances refine rw_sub ?_)
  | (with_reducible_and_instances refine uw_neg ?_)
  | (with_reducible_and_instances refine rwp_int ?_)
  | ((with_reducible_and_instances refine gw_name ?hj ?_); (case hj => first | exact trivial | decide))
  | (with_reducible_and_instances refine gsw_cons ?_)
  | (with_reducible_and_instances refine gsw_nil ?_)
  | (with_reducible_and_instances refine gw_tup rfl ?_)
  | (with_reducible_and_instances refine cw_max2 ?_)
  | (with_reducible_and_instances refine cw_min2 ?_)
  | (with_reducible_and_instances refine cw_lenT ?_)
  | (with_reducible_and_instances refine cw_lenR ?_)
  | (with_reducible_and_instances refine cw_lenL (.same _) ?_)
  | (with_reducible_and_instances refine cw_intB ?_)
  | (with_reducible_and_instances refine ⟨_, rfl, ?_⟩)
  | (with_reducible_and_instances refine ⟨_, _, rfl, ?_⟩)
  | (refine ⟨Nat.le_trans (by simp) (Nat.le_of_lt (small1000 (n := 1000) (by decide))), ?_⟩))
/-! ### what is heard -/
def isHeard : Dt → Bool
  | .tup xs => decide (xs.length ≤ 40) && xs.all (fun d => isAnn d 20000) && pairsD (fun x y => decide (timeD x + lenD x ≤ timeD y)) xs
  | _ => false
def S_is_heard : SpT := fun ds Oc Post => ∃ d n, ds = [d] ∧ gd n d = true ∧ Post (.bl (isHeard d)) Oc
def S_require_heard : SpT := fun ds Oc Post => ∃ d n, ds = [d] ∧ gd n d = true ∧ isHeard d = true ∧ Post .non Oc
/-- heard announcements, as data -/
structure VHeard (L : List An) : Prop where
  len : L.length ≤ 40
  ann : ∀ a ∈ L, 0 ≤ a.a ∧ a.a ≤ 20000 ∧ topicS a.b = true ∧ 1 ≤ a.c ∧ a.c ≤ 99
  ord : L.Pairwise fun x y => x.a + x.c ≤ y.a
theorem VHeard.isHeard {L : List An} (h : VHeard L) : isHeard (encU L) = true := by
  have h1 : decide ((L.map (enc : An → Dt)).length ≤ 40) = true := decide_eq_true (by rw [List.length_map]; exact h.len)
  have h2 : ((L.map (enc : An → Dt)).all fun d => isAnn d 20000) = true := by
    rw [List.all_eq_true]
    intro d hd
    obtain ⟨a, ha, rfl⟩ := List.mem_map.mp hd
    obtain ⟨a1, a2, a3, a4, a5⟩ := h.ann a ha
    show isAnn (.tup [.int a.a, .str a.b, .int a.c]) 20000 = true
    simp [isAnn, isInt, isTopic, a1, a2, a3, a4, a5]
  have h3 : ∀ L : List An, L.Pairwise (fun x y => x.a + x.c ≤ y.a) → pairsD (fun x y => decide (timeD x + lenD x ≤ timeD y)) (L.map enc) = true := by
    intro L
    induction L with
    | nil => intro _; rfl
    | cons x r ih =>
      intro hp
      cases r with
      | nil => rfl
      | cons y r =>
        rw [List.pairwise_cons] at hp
        have e := ih hp.2
        have h4 := hp.1 y List.mem_cons_self
        show (decide (x.a + x.c ≤ y.a) && pairsD _ ((y :: r).map enc)) = true
        rw [e, decide_eq_true h4]
        rfl
  show (decide _ && _ && _) = true
  rw [h1, h2, h3 L h.ord]
  rfl
theorem VHeard.gd {L : List An} (h : VHeard L) : gd 5 (encU L) = true := by
  show gdL 4 (L.map enc) = true
  rw [gdL_iff]
  intro d hd
  obtain ⟨a, ha, rfl⟩ := List.mem_map.mp hd
  have := topic_len (h.ann a ha).2.2.1
  show DL.gd 4 (.tup [.int a.a, .str a.b, .int a.c]) = true
  simp only [DL.gd, DL.gdL, Bool.true_and, Bool.and_true, decide_eq_true_eq]
  omega
theorem VHeard.sub {L L' : List An} (h : VHeard L) (s : L'.Sublist L) : VHeard L' := ⟨Nat.le_trans s.length_le h.len, fun a ha => h.ann a (s.subset ha), h.ord.sublist s⟩
section
variable {P : Program} {w : World} {K : PySem.W.Frag} {mg : Str → Option Value} {base : Heap} {A : Ad}
theorem ok_is_heard (T : Txt K mg A) : FnOk P w K mg base CX0 3 A.a_is_heard A.d_is_heard ["value"] (SpD K S_is_heard) := by
  refine fn_ok T.F_is_heard sc_is_heard (fun ds Oc Post h => by obtain ⟨_, _, rfl, _⟩ := h; rfl) (fun cdv AA outer s H E hr => ?_)
  refine ⟨_, (pss_cons (ps_if (PW.pt (pw_or (pt_not (pt_val (pe_callB (isiK (K := K)) (by rfl) T.isinstance (by decide +kernel) (pa_cons (pv 0) (pa_cons (pe_bltn (v := .ty "tuple") (u := .type "tuple") (by rfl) T.tuple (by decide +kernel) rfl) pa_nil))))) (pw_or1 (pt_cmpR op_gt (pe_callB (lenK (K := K)) (by rfl) T.len (by decide +kernel) (pa_cons (pv 0) pa_nil)) (pe_glob (v := .int 40) rfl T.g_MAX_LOG ⟨_, rfl⟩) (nomark _))))) (pss_one (ps_ret pe_bl)) pss_nil)
  (pss_cons (ps_if (pt_not (pt_val (pe_callB (allK (K := K)) (by rfl) T.all (by decide +kernel) (pa_cons (pe_lc (own := [("one", 1)]) rfl sc_is_heard.nd (seqK (K := K) (pv 0)) (blkOk_by (N := ["value", "one", "other"]) (sc := defScope s_is_heard) (by decide +kernel)) (fun _ _ _ _ _ => (pg_name (i := 1) sc_is_heard.nd rfl (.inl rfl))) (fun _ _ _ _ _ => pts_nil) (fun _ _ _ _ _ => (pe_call (ok_is_announcement T) (hr.mono (by decide)) (by rfl) T.g_is_announcement T.F_is_announcement.kp (b_is_announcement T) .nil pass0 (pa_cons (pv 1) (pa_cons (pe_op (timesK (K := K)) pe_int (pe_glob (v := .int 10000) rfl T.g_MAX_TIME ⟨_, rfl⟩)) pa_nil))))) pa_nil)))) (pss_one (ps_ret pe_bl)) pss_nil)
  (pss_one (ps_ret (pe_callB (allK (K := K)) (by rfl) T.all (by decide +kernel) (pa_cons (pe_lc (own := [("one", 1), ("other", 2)]) rfl sc_is_heard.nd (zipK (K := K) (pi_zipG (by rfl) T.zip (pa_cons (pv 0) (pa_cons (pe_slice (slK (K := K)) (pv 0) (po_some pe_int) po_none) pa_nil)))) (blkOk_by (N := ["value", "one", "other"]) (sc := defScope s_is_heard) (by decide +kernel)) (fun _ _ _ _ _ => (tupK (K := K) (pg_tup (n := 2) rfl (pgs_cons (pg_name (i := 1) sc_is_heard.nd rfl (.inl rfl)) (pgs_cons (pg_name (i := 2) sc_is_heard.nd rfl (.inl rfl)) pgs_nil))))) (fun _ _ _ _ _ => pts_nil) (fun _ _ _ _ _ => (pe_cmpR op_le (pe_op (plusK (K := K)) (pe_ix (ixK (K := K)) (pv 1) pe_int (fun _ _ => rfl)) (pe_ix (ixK (K := K)) (pv 1) pe_int (fun _ _ => rfl))) (pe_ix (ixK (K := K)) (pv 2) pe_int (fun _ _ => rfl)) (nomark _)))) pa_nil)))))), fun ds Oc Post h => ?_⟩
  obtain ⟨d, n, rfl, hg, hp⟩ := h
  repeat walk_at "dl"
  refine cw_isi (.same _) (gd_raw hg) (.inr (.inr (.inr (.inl rfl)))) ?_
  repeat walk_at "dl"
  by_cases hd : ∃ xs, d = .tup xs
  · obtain ⟨xs, rfl⟩ := hd
    obtain ⟨k, hx⟩ := gd_tup hg
    refine or_f rfl ?_
    repeat walk_at "dl"
    by_cases hl : xs.length ≤ 40
    · refine if_f (decide_eq_false (by omega)) ?_
      repeat walk_at "dl"
      refine ew_lcM (α := Dt) (iws_tup ?_)
      repeat walk_at "dl"
      refine ⟨id, xs, fun d => .bl (isAnn d 20000), (List.map_id _).symm, fun p e => (nomatch e), by omega, fun d hdm => ?_, ?_⟩
      · repeat walk_at "dl"
        refine ew_call0 ?_
        repeat walk_at "dl"
        refine rwt_int (.inr (by decide)) ?_
        repeat walk_at "dl"
        exact ⟨d, 20000, k, rfl, hx d hdm, rfl, rfl⟩
      · repeat walk_at "dl"
        refine cw_all (bs := xs.map fun d => isAnn d 20000) (.same _) (by rw [List.map_map] <;> rfl) ?_
        repeat walk_at "dl"
        have ea : (xs.map fun d => isAnn d 20000).all id = xs.all fun d => isAnn d 20000 := by rw [List.all_map]; rfl
        rw [ea]
        by_cases h1 : (xs.all fun d => isAnn d 20000) = true
        · refine if_f (by rw [h1]; rfl) ?_
          repeat walk_at "dl"
          refine ew_lcM (α := Dt × Dt) (iw_zipT ?_)
          repeat walk_at "dl"
          rw [cut1D]
          refine ⟨fun p => .tup [p.1, p.2], List.zipWith (fun a b => (a, b)) xs (xs.drop 1), fun p => .bl (decide (timeD p.1 + lenD p.1 ≤ timeD p.2)), ?_, fun p e => (nomatch e), ?_, fun p hpm => ?_, ?_⟩
          · rw [List.map_zipWith]
          · rw [List.length_zipWith]; omega
          · obtain ⟨a, b⟩ := p
            have h1' := List.all_eq_true.mp h1
            have hm : a ∈ xs ∧ b ∈ xs := by
              obtain ⟨i, hi⟩ := List.mem_iff_getElem?.mp hpm
              rw [List.getElem?_zipWith] at hi
              cases e1 : xs[i]? with
              | none => rw [e1] at hi; cases hi
              | some a' =>
                cases e2 : (xs.drop 1)[i]? with
                | none => rw [e1, e2] at hi; cases hi
                | some b' =>
                  rw [e1, e2] at hi
                  cases hi
                  exact ⟨List.mem_of_getElem? e1, List.mem_of_mem_drop (List.mem_of_getElem? e2)⟩
            obtain ⟨t1, c1, n1, rfl, _⟩ := ann_time (h1' a hm.1)
            obtain ⟨t2, c2, n2, rfl, _⟩ := ann_time (h1' b hm.2)
            repeat walk_at "dl"
            refine rw_ixT_ atI_0 ?_
            repeat walk_at "dl"
            refine rw_ixT_ atI_2 ?_
            repeat walk_at "dl"
            refine rw_ixT_ atI_0 ?_
            repeat walk_at "dl"
            exact ⟨rfl, rfl⟩
          · repeat walk_at "dl"
            refine cw_all (bs := (List.zipWith (fun a b => (a, b)) xs (xs.drop 1)).map fun p => decide (timeD p.1 + lenD p.1 ≤ timeD p.2)) (.same _) (by rw [List.map_map] <;> rfl) ?_
            have e : isHeard (.tup xs) = ((List.zipWith (fun a b => (a, b)) xs (xs.drop 1)).map fun p => decide (timeD p.1 + lenD p.1 ≤ timeD p.2)).all id := by
              rw [List.all_map]
              have := sorted_zip (fun x y => decide (timeD x + lenD x ≤ timeD y)) xs
              simp only [isHeard, h1, decide_eq_true hl, Bool.true_and]
              rw [← this]
              rfl
            rw [← e]
            exact hp
        · have h1' : (xs.all fun d => isAnn d 20000) = false := by simpa using h1
          refine if_t (by rw [h1']; rfl) ?_
          have e : isHeard (.tup xs) = false := by simp only [isHeard, h1', Bool.and_false, Bool.false_and]
          rw [e] at hp
          repeat walk_at "dl"
          exact hp
    · refine if_t (decide_eq_true (by omega)) ?_
      have e : isHeard (.tup xs) = false := by simp only [isHeard, decide_eq_false hl, Bool.false_and]
      rw [e] at hp
      repeat walk_at "dl"
      exact hp
  · refine or_t (by rw [not_tup fun xs z => hd ⟨xs, z⟩]; rfl) ?_
    have e : isHeard d = false := by
      cases d <;> first | rfl | exact absurd ⟨_, rfl⟩ hd
    rw [e] at hp
    repeat walk_at "dl"
    refine if_t rfl ?_
    repeat walk_at "dl"
    exact hp
theorem ok_require_heard (T : Txt K mg A) : FnOk P w K mg base CX0 4 A.a_require_heard A.d_require_heard ["value"] (SpD K S_require_heard) := by
  refine fn_ok T.F_require_heard sc_require_heard (fun ds Oc Post h => by obtain ⟨_, _, rfl, _⟩ := h; rfl) (fun cdv AA outer s H E hr => ?_)
  refine ⟨_, (pss_one (ps_if (pt_not (pt_val (pe_call (ok_is_heard T) (hr.mono (by decide)) (by rfl) T.g_is_heard T.F_is_heard.kp (b_is_heard T) .nil pass0 (pa_cons (pv 0) pa_nil)))) (pss_one ps_never) pss_nil)), fun ds Oc Post h => ?_⟩
  obtain ⟨d, n, rfl, hg, hl, hp⟩ := h
  repeat walk_at "dl"
  refine ew_call0 ?_
  repeat walk_at "dl"
  refine ⟨d, n, rfl, hg, ?_⟩
  repeat walk_at "dl"
  refine if_f (by rw [hl]; rfl) ?_
  repeat walk_at "dl"
  exact hp
end
end DL
namespace DL
open PySem PySem.Spec PyProof.Rows L2
open Enc (enc)
local macro_rules | `(tactic| walk_at "dl") => `(tactic| first
  | (with_reducible_and_instances refine sw_seq ?_)
  | (with_reducible_and_instances refine sw_ret ?_)
  | (with_reducible_and_instances refine sw_retN ?_)
  | (with_reducible_and_instances refine sw_set ?_)
  | (with_reducible_and_instances refine sw_par ?_)
  | (with_reducible_and_instances refine sw_drop ?_)
  | (with_reducible_and_instances refine sw_next ?_)
  | (with_reducible_and_instances refine sw_break ?_)
  | (with_reducible_and_instances refine sw_if ?_)
  | (with_reducible_and_instances refine sw_asg ?_)
  | ((with_reducible_and_instances refine' ew_var ?hh ?kk); (case hh => rfl))
  | (with_reducible_and_instances refine ew_int ?_)
  | (with_reducible_and_instances refine ew_str ?_)
  | (with_reducible_and_instances refine ew_bl ?_)
  | (with_reducible_and_instances refine ew_non ?_)
  | (with_reducible_and_instances refine ew_raw (v := .ty _) ?_)
  | (with_reducible_and_instances refine ew_op ?_)
  | (with_reducible_and_instances refine ew_un ?_)
  | (with_reducible_and_instances refine ew_chain ?_)
  | (with_reducible_and_instances refine ew_andV ?_)
  | (with_reducible_and_instances refine ew_orV ?_)
  | (with_reducible_and_instances refine ew_notV ?_)
  | (with_reducible_and_instances refine ew_if ?_)
  | (with_reducible_and_instances refine ew_tup ?_)
  | (with_reducible_and_instances refine ew_cb ?_)
  | (with_reducible_and_instances refine ew_slA ?_)
  | (with_reducible_and_instances refine .inl ⟨_, rfl, ?_⟩)
  | (with_reducible_and_instances refine .inr ⟨_, .same _, ?_⟩)
  | (with_reducible_and_instances refine aw_cons ?_)
  | (with_reducible_and_instances refine aw_nil ?_)
  | (with_reducible_and_instances refine tw_test ?_)
  | (with_reducible_and_instances refine tw_B ?_)
  | (with_reducible_and_instances refine tw_and ?_)
  | (with_reducible_and_instances refine tw_or ?_)
  | (with_reducible_and_instances refine tw_not ?_)
  | (with_reducible_and_instances refine tw_yes ?_)
  | (with_reducible_and_instances refine pw_none ?_)
  | (with_reducible_and_instances refine pw_some ?_)
  | (with_reducible_and_instances refine rw_le ?_)
  | (with_reducible_and_instances refine rw_lt ?_)
  | (with_reducible_and_instances refine rw_gt ?_)
  | (with_reducible_and_instances refine rw_ge ?_)
  | (with_reducible_and_instances refine rw_sub ?_)
  | (with_reducible_and_instances refine uw_neg ?_)
  | (with_reducible_and_instances refine rwp_int ?_)
  | ((with_reducible_and_instances refine gw_name ?hj ?_); (case hj => first | exact trivial | decide))
  | (with_reducible_and_instances refine gsw_cons ?_)
  | (with_reducible_and_instances refine gsw_nil ?_)
  | (with_reducible_and_instances refine gw_tup rfl ?_)
  | (with_reducible_and_instances refine cw_max2 ?_)
  | (with_reducible_and_instances refine cw_min2 ?_)
  | (with_reducible_and_instances refine cw_lenT ?_)
  | (with_reducible_and_instances refine cw_lenR ?_)
  | (with_reducible_and_instances refine cw_lenL (.same _) ?_)
  | (with_reducible_and_instances refine cw_intB ?_)
  | (with_reducible_and_instances refine ⟨_, rfl, ?_⟩)
  | (with_reducible_and_instances refine ⟨_, _, rfl, ?_⟩)
  | (refine ⟨Nat.le_trans (by simp) (Nat.le_of_lt (small1000 (n := 1000) (by decide))), ?_⟩))
local macro_rules | `(tactic| walk_at "dx") => `(tactic| first
  | (with_reducible_and_instances refine sw_seq ?_)
  | (with_reducible_and_instances refine sw_ret ?_)
  | (with_reducible_and_instances refine sw_retN ?_)
  | (with_reducible_and_instances refine sw_set ?_)
  | (with_reducible_and_instances refine sw_par ?_)
  | (with_reducible_and_instances refine sw_drop ?_)
  | (with_reducible_and_instances refine sw_next ?_)
  | (with_reducible_and_instances refine sw_break ?_)
  | (with_reducible_and_instances refine sw_asg ?_)
  | ((with_reducible_and_instances refine' ew_var ?hh ?kk); (case hh => rfl))
  | (with_reducible_and_instances refine ew_int ?_)
  | (with_reducible_and_instances refine ew_str ?_)
  | (with_reducible_and_instances refine ew_bl ?_)
  | (with_reducible_and_instances refine ew_non ?_)
  | (with_reducible_and_instances refine ew_raw (v := .ty _) ?_)
  | (with_reducible_and_instances refine ew_op ?_)
  | (with_reducible_and_instances refine ew_un ?_)
  | (with_reducible_and_instances refine ew_chain ?_)
  | (with_reducible_and_instances refine ew_andV ?_)
  | (with_reducible_and_instances refine ew_orV ?_)
  | (with_reducible_and_instances refine ew_notV ?_)
  | (with_reducible_and_instances refine ew_if ?_)
  | (with_reducible_and_instances refine ew_tup ?_)
  | (with_reducible_and_instances refine ew_cb ?_)
  | (with_reducible_and_instances refine ew_slA ?_)
  | (with_reducible_and_instances refine .inl ⟨_, rfl, ?_⟩)
  | (with_reducible_and_instances refine .inr ⟨_, .same _, ?_⟩)
  | (with_reducible_and_instances refine aw_cons ?_)
  | (with_reducible_and_instances refine aw_nil ?_)
  | (with_reducible_and_instances refine tw_test ?_)
  | (with_reducible_and_instances refine tw_B ?_)
  | (with_reducible_and_instances refine tw_and ?_)
  | (with_reducible_and_instances refine tw_or ?_)
  | (with_reducible_and_instances refine tw_not ?_)
  | (with_reducible_and_instances refine tw_yes ?_)
  | (with_reducible_and_instances refine pw_none ?_)
  | (with_reducible_and_instances refine pw_some ?_)
  | (with_reducible_and_instances refine rw_le ?_)
  | (with_reducible_and_instances refine rw_lt ?_)
  | (with_reducible_and_instances refine rw_gt ?_)
  | (with_reducible_and_instances refine rw_ge ?_)
  | (with_reducible_and_instances refine rw_sub ?_)
  | (with_reducible_and_instances refine uw_neg ?_)
  | (with_reducible_and_instances refine rwp_int ?_)
  | ((with_reducible_and_instances refine gw_name ?hj ?_); (case hj => first | exact trivial | decide))
  | (with_reducible_and_instances refine gsw_cons ?_)
  | (with_reducible_and_instances refine gsw_nil ?_)
  | (with_reducible_and_instances refine gw_tup rfl ?_)
  | (with_reducible_and_instances refine cw_max2 ?_)
  | (with_reducible_and_instances refine cw_min2 ?_)
  | (with_reducible_and_instances refine cw_lenT ?_)
  | (with_reducible_and_instances refine cw_lenR ?_)
  | (with_reducible_and_instances refine cw_lenL (.same _) ?_)
  | (with_reducible_and_instances refine cw_intB ?_)
  | (with_reducible_and_instances refine ⟨_, rfl, ?_⟩)
  | (with_reducible_and_instances refine ⟨_, _, rfl, ?_⟩)
  | (refine ⟨Nat.le_trans (by simp) (Nat.le_of_lt (small1000 (n := 1000) (by decide))), ?_⟩))
local macro_rules | `(tactic| walk_at "dn") => `(tactic| first
  | (with_reducible_and_instances refine sw_ret ?_)
  | (with_reducible_and_instances refine sw_retN ?_)
  | (with_reducible_and_instances refine sw_set ?_)
  | (with_reducible_and_instances refine sw_par ?_)
  | (with_reducible_and_instances refine sw_drop ?_)
  | (with_reducible_and_instances refine sw_next ?_)
  | (with_reducible_and_instances refine sw_break ?_)
  | (with_reducible_and_instances refine sw_asg ?_)
  | ((with_reducible_and_instances refine' ew_var ?hh ?kk); (case hh => rfl))
  | (with_reducible_and_instances refine ew_int ?_)
  | (with_reducible_and_instances refine ew_str ?_)
  | (with_reducible_and_instances refine ew_bl ?_)
  | (with_reducible_and_instances refine ew_non ?_)
  | (with_reducible_and_instances refine ew_raw (v := .ty _) ?_)
  | (with_reducible_and_instances refine ew_op ?_)
  | (with_reducible_and_instances refine ew_un ?_)
  | (with_reducible_and_instances refine ew_chain ?_)
  | (with_reducible_and_instances refine ew_andV ?_)
  | (with_reducible_and_instances refine ew_orV ?_)
  | (with_reducible_and_instances refine ew_notV ?_)
  | (with_reducible_and_instances refine ew_if ?_)
  | (with_reducible_and_instances refine ew_tup ?_)
  | (with_reducible_and_instances refine ew_cb ?_)
  | (with_reducible_and_instances refine ew_slA ?_)
  | (with_reducible_and_instances refine .inl ⟨_, rfl, ?_⟩)
  | (with_reducible_and_instances refine .inr ⟨_, .same _, ?_⟩)
  | (with_reducible_and_instances refine aw_cons ?_)
  | (with_reducible_and_instances refine aw_nil ?_)
  | (with_reducible_and_instances refine tw_test ?_)
  | (with_reducible_and_instances refine tw_B ?_)
  | (with_reducible_and_instances refine tw_and ?_)
  | (with_reducible_and_instances refine tw_or ?_)
  | (with_reducible_and_instances refine tw_not ?_)
  | (with_reducible_and_instances refine tw_yes ?_)
  | (with_reducible_and_instances refine pw_none ?_)
  | (with_reducible_and_instances refine pw_some ?_)
  | (with_reducible_and_instances refine rw_le ?_)
  | (with_reducible_and_instances refine rw_lt ?_)
  | (with_reducible_and_instances refine rw_gt ?_)
  | (with_reducible_and_instances refine rw_ge ?_)
  | (with_reducible_and_instances refine rw_sub ?_)
  | (with_reducible_and_instances refine uw_neg ?_)
  | (with_reducible_and_instances refine rwp_int ?_)
  | ((with_reducible_and_instances refine gw_name ?hj ?_); (case hj => first | exact trivial | decide))
  | (with_reducible_and_instances refine gsw_cons ?_)
  | (with_reducible_and_instances refine gsw_nil ?_)
  | (with_reducible_and_instances refine gw_tup rfl ?_)
  | (with_reducible_and_instances refine cw_max2 ?_)
  | (with_reducible_and_instances refine cw_min2 ?_)
  | (with_reducible_and_instances refine cw_lenT ?_)
  | (with_reducible_and_instances refine cw_lenR ?_)
  | (with_reducible_and_instances refine cw_lenL (.same _) ?_)
  | (with_reducible_and_instances refine cw_intB ?_)
  | (with_reducible_and_instances refine ⟨_, rfl, ?_⟩)
  | (with_reducible_and_instances refine ⟨_, _, rfl, ?_⟩)
  | (refine ⟨Nat.le_trans (by simp) (Nat.le_of_lt (small1000 (n := 1000) (by decide))), ?_⟩))
/-! ### comparing -/
theorem cut_oneG {xs : List Dt} {d : Nat} : cutD xs (some (d : Int)) (some ((d : Int) + 1)) = (xs.drop d).take 1 := by
  rcases Nat.le_total d xs.length with h | h
  · exact cut_one h
  · unfold cutD
    rw [HT.sIx_nat, Nat.min_eq_right h, List.drop_length, List.drop_of_length_le h, List.take_nil, List.take_nil]
instance : Enc (Option Nat) := ⟨fun o => match o with | none => .non | some k => .int (k : Int), 0, fun o => by cases o <;> simp [Dt.ok], fun x y => by
  cases x <;> cases y <;> simp [eqD] <;> omega⟩
section
variable {α : Type} [DecidableEq α] [Enc α] {K : PySem.W.Frag} {O : Own} {Post : Dt → Own → Prop}
theorem rw_eqU {d e : Dt} (x y : List α) (v1 : View O d (encU x)) (v2 : View O e (encU y)) (k : Post (.bl (decide (x = y))) O) (h : Enc.dep α ≤ 50 := by decide) : RW K (rEqG K) d e O Post := by
  refine rw_eq v1 v2 (by simp only [Dt.ok]; exact okL_map 59 (by omega) x) (by simp only [Dt.ok]; exact okL_map 59 (by omega) y) ?_
  have e : eqD (encU x) (encU y) = decide (x = y) := by simp only [encU, eqD]; exact eqDL_map x y
  rw [e]; exact k
theorem rw_neU {d e : Dt} (x y : List α) (v1 : View O d (encU x)) (v2 : View O e (encU y)) (k : Post (.bl (!decide (x = y))) O) (h : Enc.dep α ≤ 50 := by decide) : RW K (rNeG K) d e O Post := by
  refine rw_ne v1 v2 (by simp only [Dt.ok]; exact okL_map 59 (by omega) x) (by simp only [Dt.ok]; exact okL_map 59 (by omega) y) ?_
  have e : eqD (encU x) (encU y) = decide (x = y) := by simp only [encU, eqD]; exact eqDL_map x y
  rw [e]; exact k
end
def unlikeFrom (xs ys : List An) : Nat → Nat → Option Nat
  | 0, _ => none
  | f + 1, k => if (xs.drop k).take 1 = (ys.drop k).take 1 then unlikeFrom xs ys f (k + 1) else some k
def unlikeOf (xs ys : List An) : Option Nat := unlikeFrom xs ys (max xs.length ys.length) 0
def S_first_unlike : SpT := fun ds Oc Post => ∃ (L : List An) (r r' : Str), ds = [encU L, .str r, .str r'] ∧ VLog L ∧ rule3 r ∧ rule3 r' ∧ Post (enc (unlikeOf (triplesOf r L) (triplesOf r' L))) Oc
def S__law_unlike : SpT := fun ds Oc Post => ∃ xs ys : List An, ds = [encL xs, encL ys] ∧ xs.length ≤ 1000 ∧ ys.length ≤ 1000 ∧ Post (enc (unlikeOf xs ys)) Oc
def S_rules_for : SpT := fun ds Oc Post => ∃ (L H : List An), ds = [encU L, encU H] ∧ VLog L ∧ VHeard H ∧ Post (encL (rules3.filter fun r => decide (triplesOf r L = H))) Oc
section
variable {P : Program} {w : World} {K : PySem.W.Frag} {mg : Str → Option Value} {base : Heap} {A : Ad}
/-- the loop that looks for the first unlike place: i, j: the slots of the two lists, k: of the place -/
theorem loop_unlike {K : PySem.W.Frag} {G : Option Dt → Gm} {O : Own} {E : De} {xs ys : List An} (i j k : Nat) (hx : xs.length ≤ 1000) (hy : ys.length ≤ 1000) (a0 : Option Dt)
    (gi : ∀ a, (G a)[i]? = some (some (encL xs))) (gj : ∀ a, (G a)[j]? = some (some (encL ys))) (gk : ∀ a, (G (some a))[k]? = some (some a)) (gs : ∀ a b, (G a).set k b = G b)
    (hr : ∀ n, unlikeOf xs ys = some n → E.rt (.int (n : Int)) O) (hn : ∀ a, unlikeOf xs ys = none → E.nx (G a) O) :
    SW K (tFor (iRng1 (tCons (tCB rMax2 (tCons (tCB (rLen K) (tCons (tVar i) tNil)) (tCons (tCB (rLen K) (tCons (tVar j) tNil)) tNil))) tNil)) (gName k)
      (tIfS (tTest (tOp (rNeG K) (tSl (rSl K) (tVar i) (tPart (tVar k)) (tPart (tOp (rPlus K) (tVar k) (tC (V.int 1))))) (tSl (rSl K) (tVar j) (tPart (tVar k)) (tPart (tOp (rPlus K) (tVar k) (tC (V.int 1))))))) (tRet (tVar k)) tNext)) (G a0) O E := by
  refine sw_for (iw_rng1 ?_)
  repeat walk_at "dl"
  refine ew_var (gi a0) ?_
  repeat walk_at "dl"
  refine ew_var (gj a0) ?_
  repeat walk_at "dl"
  rw [List.length_map, List.length_map]
  refine ⟨by omega, by omega, ?_⟩
  have en : (max (xs.length : Int) (ys.length : Int)).toNat = max xs.length ys.length := by omega
  rw [en]
  refine ⟨fun n Γ O' => O' = O ∧ ∃ a, Γ = G a ∧ unlikeOf xs ys = unlikeFrom xs ys (max xs.length ys.length - n) n, ⟨rfl, a0, rfl, rfl⟩, (fun p e => by cases e), ?_, ?_⟩
  · rintro n d Γ O' hd ⟨rfl, a, rfl, hu⟩
    obtain ⟨hi, rfl⟩ := rngD_get hd
    rw [Int.zero_add]
    obtain ⟨f, hf⟩ : ∃ f, max xs.length ys.length - n = f + 1 := ⟨max xs.length ys.length - n - 1, by omega⟩
    rw [hf] at hu
    have hu : unlikeOf xs ys = if (xs.drop n).take 1 = (ys.drop n).take 1 then unlikeFrom xs ys f (n + 1) else some n := hu
    repeat walk_at "dl"
    rw [gs]
    refine ew_var (gi _) ?_
    repeat walk_at "dl"
    refine ew_var (gk _) ?_
    repeat walk_at "dl"
    refine ew_var (gk _) ?_
    repeat walk_at "dl"
    refine ew_var (gj _) ?_
    repeat walk_at "dl"
    refine ew_var (gk _) ?_
    repeat walk_at "dl"
    refine ew_var (gk _) ?_
    repeat walk_at "dl"
    rw [cut_oneG, cut_oneG]
    refine rw_neE ((xs.drop n).take 1) ((ys.drop n).take 1) (by rw [← List.map_drop, ← List.map_take]; exact .same _) (by rw [← List.map_drop, ← List.map_take]; exact .same _) ?_
    repeat walk_at "dl"
    by_cases he : (xs.drop n).take 1 = (ys.drop n).take 1
    · refine if_f (by rw [decide_eq_true he]; rfl) ?_
      rw [if_pos he] at hu
      exact sw_next ⟨rfl, _, rfl, by rw [hu]; congr 1; omega⟩
    · refine if_t (by rw [decide_eq_false he]; rfl) ?_
      rw [if_neg he] at hu
      repeat walk_at "dl"
      refine ew_var (gk _) ?_
      exact hr n hu
  · rintro Γ O' ⟨rfl, a, rfl, hu⟩
    have hz : (rngD 0 (max xs.length ys.length)).length = max xs.length ys.length := by unfold rngD; rw [List.length_map, List.length_range]
    rw [hz, Nat.sub_self] at hu
    exact hn a hu
theorem ok_rules_for (T : Txt K mg A) : FnOk P w K mg base CX0 5 A.a_rules_for A.d_rules_for ["log", "heard"] (SpD K S_rules_for) := by
  refine fn_ok T.F_rules_for sc_rules_for (fun ds Oc Post h => by obtain ⟨_, _, rfl, _⟩ := h; rfl) (fun cdv AA outer s H E hr => ?_)
  refine ⟨_, (pss_cons (ps_expr (pe_call (ok_require_log T) (hr.mono (by decide)) (by rfl) T.g_require_log T.F_require_log.kp (b_require_log T) .nil pass0 (pa_cons (pv 0) pa_nil)))
  (pss_cons (ps_expr (pe_call (ok_require_heard T) (hr.mono (by decide)) (by rfl) T.g_require_heard T.F_require_heard.kp (b_require_heard T) .nil pass0 (pa_cons (pv 1) pa_nil)))
  (pss_one (ps_ret (pe_lc (own := [("rule", 2)]) rfl sc_rules_for.nd (seqK (K := K) (pe_glob (v := .ref A.a_RULES) rfl T.g_RULES rfl)) (blkOk_by (N := ["log", "heard", "rule"]) (sc := defScope s_rules_for) (by decide +kernel)) (fun _ _ _ _ _ => (pg_name (i := 2) sc_rules_for.nd rfl (.inl rfl))) (fun _ _ _ _ _ => (pts_one (pt_cmpR (eqK (K := K) hr.units) (pe_callTy (tupleK (K := K)) (by rfl) T.tuple (by decide +kernel) (pa_cons (pe_call (ok_triples T) (hr.mono (by decide)) (by rfl) T.g_triples T.F_triples.kp (b_triples T) .nil pass0 (pa_cons (pv 0) (pa_cons (pv 2) pa_nil))) pa_nil)) (pv 1) (nomark _)))) (fun _ _ _ _ _ => (pv 2))))))), fun ds Oc Post h => ?_⟩
  obtain ⟨L, Hd, rfl, hL, hH, hp⟩ := h
  have hlen := hL.len
  repeat walk_at "dl"
  refine ew_call0 ?_
  repeat walk_at "dl"
  refine ⟨_, 5, rfl, hL.gd, hL.isLog, ?_⟩
  repeat walk_at "dl"
  refine ew_call0 ?_
  repeat walk_at "dl"
  refine ⟨_, 5, rfl, hH.gd, hH.isHeard, ?_⟩
  repeat walk_at "dl"
  refine ew_lcP (α := Str) (iws_tup ?_)
  refine ew_den (d := .tup (rules3.map enc)) (fun H B => .tup (T.c_RULES _) (.cons (.str _) (.cons (.str _) (.cons (.str _) .nil)))) ?_
  refine ⟨_, rfl, enc, rules3, fun r => decide (triplesOf r L = Hd), enc, rfl, (fun p e => by cases e), by decide, fun r hr => ?_, hp⟩
  repeat walk_at "dl"
  refine ew_call0 ?_
  repeat walk_at "dl"
  refine ⟨L, r, rfl, by omega, ?_⟩
  repeat walk_at "dl"
  refine cw_tupL (.same _) ?_
  repeat walk_at "dl"
  refine rw_eqU (triplesOf r L) Hd (.same _) (.same _) ?_
  repeat walk_at "dl"
  refine ⟨fun z => ?_, fun z => ⟨rfl, z⟩⟩
  repeat walk_at "dl"
  exact ⟨rfl, z, rfl⟩
end
end DL
namespace DL
open PySem PySem.Spec PyProof.Rows L2
open Enc (enc)
theorem heard_triples {r : Str} {L : List An} (h : VLog L) : VHeard (triplesOf r L) := by
  obtain ⟨h1, h2⟩ := (run_spoken (r := r) h).order h.ln1 (fits_nil L) (Nat.zero_le _)
  refine ⟨Nat.le_trans triples_len h.len, fun a ha => ?_, ?_⟩
  · obtain ⟨g, hg, rfl⟩ := List.mem_map.mp ha
    have hb := spoken_bound h g hg
    have hc := (played_fits (r := r) (L := L) (lb := 1000000) (lt := 1000000)).1 g hg
    have h0 := h1 g hg
    exact ⟨h0, by show g.a ≤ _; omega, h.tp _ hc.2, h.ln1 _ hc.2, h.ln _ hc.2⟩
  · unfold triplesOf
    rw [List.pairwise_map]
    exact h2
end DL
namespace DL
open PySem PySem.Spec PyProof.Rows L2
open Enc (enc)
/-! the items of a log by their places (as in N9, K16; for laws without N9) -/
def atL (L : List An) (k : Nat) : An := ⟨timAt L k, topAt L k, lnAt L k⟩
theorem atL_get {L : List An} {k : Nat} (h : k < L.length) : atL L k = L[k] := by
  unfold atL
  rw [timAt_get h, topAt_get h, lnAt_get h]
theorem atL_all (L : List An) : L = (List.range L.length).map (atL L) := by
  refine List.ext_getElem? fun i => ?_
  rw [List.getElem?_map]
  by_cases hi : i < L.length
  · rw [List.getElem?_range hi, List.getElem?_eq_getElem hi, Option.map_some, atL_get hi]
  · rw [List.getElem?_eq_none (by omega), List.getElem?_eq_none (by rw [List.length_range]; omega)]; rfl
def keepIf (L : List An) (p : Nat → Bool) : List An := ((List.range L.length).filter p).map (atL L)
theorem keepIf_sub (L : List An) (p : Nat → Bool) : (keepIf L p).Sublist L := by
  conv => rhs; rw [atL_all L]
  exact List.filter_sublist.map _
theorem enum_at {L : List An} : List.zipWith (fun d e => Dt.tup [d, e]) (rngD 0 (L.map (enc : An → Dt)).length) (L.map enc) = (List.range L.length).map fun k => .tup [.int (k : Int), enc (atL L k)] := by
  rw [enum_map]
  refine List.map_congr_left fun k hk => ?_
  have hk := List.mem_range.mp hk
  rw [List.getElem?_eq_getElem hk, atL_get hk]
theorem keep_enc (L : List An) (p : Nat → Bool) : (((List.range L.length).filter p).map fun k => enc (atL L k)) = (keepIf L p).map (enc : An → Dt) := by
  unfold keepIf
  rw [List.map_map]; rfl
theorem speech_tri {r : Str} {L : List An} : (speechOf r L).map (fun g => enc (⟨g.a, g.b, g.c⟩ : An)) = (triplesOf r L).map enc := by
  unfold speechOf triplesOf
  rw [List.map_map, List.map_map]; rfl
end DL
namespace DL
open PySem PySem.Spec PyProof.Rows L2
open Enc (enc)
local macro_rules | `(tactic| walk_at "dl") => `(tactic| first
  | (with_reducible_and_instances refine sw_seq ?_)
  | (with_reducible_and_instances refine sw_ret ?_)
  | (with_reducible_and_instances refine sw_retN ?_)
  | (with_reducible_and_instances refine sw_set ?_)
  | (with_reducible_and_instances refine sw_par ?_)
  | (with_reducible_and_instances refine sw_drop ?_)
  | (with_reducible_and_instances refine sw_next ?_)
  | (with_reducible_and_instances refine sw_break ?_)
  | (with_reducible_and_instances refine sw_if ?_)
  | (with_reducible_and_instances refine sw_asg ?_)
  | ((with_reducible_and_instances refine' ew_var ?hh ?kk); (case hh => rfl))
  | (with_reducible_and_instances refine ew_int ?_)
  | (with_reducible_and_instances refine ew_str ?_)
  | (with_reducible_and_instances refine ew_bl ?_)
  | (with_reducible_and_instances refine ew_non ?_)
  | (with_reducible_and_instances refine ew_raw (v := .ty _) ?_)
  | (with_reducible_and_instances refine ew_op ?_)
  | (with_reducible_and_instances refine ew_un ?_)
  | (with_reducible_and_instances refine ew_chain ?_)
  | (with_reducible_and_instances refine ew_andV ?_)
  | (with_reducible_and_instances refine ew_orV ?_)
  | (with_reducible_and_instances refine ew_notV ?_)
  | (with_reducible_and_instances refine ew_if ?_)
  | (with_reducible_and_instances refine ew_tup ?_)
  | (with_reducible_and_instances refine ew_cb ?_)
  | (with_reducible_and_instances refine ew_slA ?_)
  | (with_reducible_and_instances refine .inl ⟨_, rfl, ?_⟩)
  | (with_reducible_and_instances refine .inr ⟨_, .same _, ?_⟩)
  | (with_reducible_and_instances refine aw_cons ?_)
  | (with_reducible_and_instances refine aw_nil ?_)
  | (with_reducible_and_instances refine tw_test ?_)
  | (with_reducible_and_instances refine tw_B ?_)
  | (with_reducible_and_instances refine tw_and ?_)
  | (with_reducible_and_instances refine tw_or ?_)
  | (with_reducible_and_instances refine tw_not ?_)
  | (with_reducible_and_instances refine tw_yes ?_)
  | (with_reducible_and_instances refine pw_none ?_)
  | (with_reducible_and_instances refine pw_some ?_)
  | (with_reducible_and_instances refine rw_le ?_)
  | (with_reducible_and_instances refine rw_lt ?_)
  | (with_reducible_and_instances refine rw_gt ?_)
  | (with_reducible_and_instances refine rw_ge ?_)
  | (with_reducible_and_instances refine rw_sub ?_)
  | (with_reducible_and_instances refine uw_neg ?_)
  | (with_reducible_and_instances refine rwp_int ?_)
  | ((with_reducible_and_instances refine gw_name ?hj ?_); (case hj => first | exact trivial | decide))
  | (with_reducible_and_instances refine gsw_cons ?_)
  | (with_reducible_and_instances refine gsw_nil ?_)
  | (with_reducible_and_instances refine gw_tup rfl ?_)
  | (with_reducible_and_instances refine cw_max2 ?_)
  | (with_reducible_and_instances refine cw_min2 ?_)
  | (with_reducible_and_instances refine cw_lenT ?_)
  | (with_reducible_and_instances refine cw_lenR ?_)
  | (with_reducible_and_instances refine cw_lenL (.same _) ?_)
  | (with_reducible_and_instances refine cw_intB ?_)
  | (with_reducible_and_instances refine ⟨_, rfl, ?_⟩)
  | (with_reducible_and_instances refine ⟨_, _, rfl, ?_⟩)
  | (refine ⟨Nat.le_trans (by simp) (Nat.le_of_lt (small1000 (n := 1000) (by decide))), ?_⟩))
local macro_rules | `(tactic| walk_at "dx") => `(tactic| first
  | (with_reducible_and_instances refine sw_seq ?_)
  | (with_reducible_and_instances refine sw_ret ?_)
  | (with_reducible_and_instances refine sw_retN ?_)
  | (with_reducible_and_instances refine sw_set ?_)
  | (with_reducible_and_instances refine sw_par ?_)
  | (with_reducible_and_instances refine sw_drop ?_)
  | (with_reducible_and_instances refine sw_next ?_)
  | (with_reducible_and_instances refine sw_break ?_)
  | (with_reducible_and_instances refine sw_asg ?_)
  | ((with_reducible_and_instances refine' ew_var ?hh ?kk); (case hh => rfl))
  | (with_reducible_and_instances refine ew_int ?_)
  | (with_reducible_and_instances refine ew_str ?_)
  | (with_reducible_and_instances refine ew_bl ?_)
  | (with_reducible_and_instances refine ew_non ?_)
  | (with_reducible_and_instances refine ew_raw (v := .ty _) ?_)
  | (with_reducible_and_instances refine ew_op ?_)
  | (with_reducible_and_instances refine ew_un ?_)
  | (with_reducible_and_instances refine ew_chain ?_)
  | (with_reducible_and_instances refine ew_andV ?_)
  | (with_reducible_and_instances refine ew_orV ?_)
  | (with_reducible_and_instances refine ew_notV ?_)
  | (with_reducible_and_instances refine ew_if ?_)
  | (with_reducible_and_instances refine ew_tup ?_)
  | (with_reducible_and_instances refine ew_cb ?_)
  | (with_reducible_and_instances refine ew_slA ?_)
  | (with_reducible_and_instances refine .inl ⟨_, rfl, ?_⟩)
  | (with_reducible_and_instances refine .inr ⟨_, .same _, ?_⟩)
  | (with_reducible_and_instances refine aw_cons ?_)
  | (with_reducible_and_instances refine aw_nil ?_)
  | (with_reducible_and_instances refine tw_test ?_)
  | (with_reducible_and_instances refine tw_B ?_)
  | (with_reducible_and_instances refine tw_and ?_)
  | (with_reducible_and_instances refine tw_or ?_)
  | (with_reducible_and_instances refine tw_not ?_)
  | (with_reducible_and_instances refine tw_yes ?_)
  | (with_reducible_and_instances refine pw_none ?_)
  | (with_reducible_and_instances refine pw_some ?_)
  | (with_reducible_and_instances refine rw_le ?_)
  | (with_reducible_and_instances refine rw_lt ?_)
  | (with_reducible_and_instances refine rw_gt ?_)
  | (with_reducible_and_instances refine rw_ge ?_)
  | (with_reducible_and_instances refine rw_sub ?_)
  | (with_reducible_and_instances refine uw_neg ?_)
  | (with_reducible_and_instances refine rwp_int ?_)
  | ((with_reducible_and_instances refine gw_name ?hj ?_); (case hj => first | exact trivial | decide))
  | (with_reducible_and_instances refine gsw_cons ?_)
  | (with_reducible_and_instances refine gsw_nil ?_)
  | (with_reducible_and_instances refine gw_tup rfl ?_)
  | (with_reducible_and_instances refine cw_max2 ?_)
  | (with_reducible_and_instances refine cw_min2 ?_)
  | (with_reducible_and_instances refine cw_lenT ?_)
  | (with_reducible_and_instances refine cw_lenR ?_)
  | (with_reducible_and_instances refine cw_lenL (.same _) ?_)
  | (with_reducible_and_instances refine cw_intB ?_)
  | (with_reducible_and_instances refine ⟨_, rfl, ?_⟩)
  | (with_reducible_and_instances refine ⟨_, _, rfl, ?_⟩)
  | (refine ⟨Nat.le_trans (by simp) (Nat.le_of_lt (small1000 (n := 1000) (by decide))), ?_⟩))
local macro_rules | `(tactic| walk_at "dn") => `(tactic| first
  | (with_reducible_and_instances refine sw_ret ?_)
  | (with_reducible_and_instances refine sw_retN ?_)
  | (with_reducible_and_instances refine sw_set ?_)
  | (with_reducible_and_instances refine sw_par ?_)
  | (with_reducible_and_instances refine sw_drop ?_)
  | (with_reducible_and_instances refine sw_next ?_)
  | (with_reducible_and_instances refine sw_break ?_)
  | (with_reducible_and_instances refine sw_asg ?_)
  | ((with_reducible_and_instances refine' ew_var ?hh ?kk); (case hh => rfl))
  | (with_reducible_and_instances refine ew_int ?_)
  | (with_reducible_and_instances refine ew_str ?_)
  | (with_reducible_and_instances refine ew_bl ?_)
  | (with_reducible_and_instances refine ew_non ?_)
  | (with_reducible_and_instances refine ew_raw (v := .ty _) ?_)
  | (with_reducible_and_instances refine ew_op ?_)
  | (with_reducible_and_instances refine ew_un ?_)
  | (with_reducible_and_instances refine ew_chain ?_)
  | (with_reducible_and_instances refine ew_andV ?_)
  | (with_reducible_and_instances refine ew_orV ?_)
  | (with_reducible_and_instances refine ew_notV ?_)
  | (with_reducible_and_instances refine ew_if ?_)
  | (with_reducible_and_instances refine ew_tup ?_)
  | (with_reducible_and_instances refine ew_cb ?_)
  | (with_reducible_and_instances refine ew_slA ?_)
  | (with_reducible_and_instances refine .inl ⟨_, rfl, ?_⟩)
  | (with_reducible_and_instances refine .inr ⟨_, .same _, ?_⟩)
  | (with_reducible_and_instances refine aw_cons ?_)
  | (with_reducible_and_instances refine aw_nil ?_)
  | (with_reducible_and_instances refine tw_test ?_)
  | (with_reducible_and_instances refine tw_B ?_)
  | (with_reducible_and_instances refine tw_and ?_)
  | (with_reducible_and_instances refine tw_or ?_)
  | (with_reducible_and_instances refine tw_not ?_)
  | (with_reducible_and_instances refine tw_yes ?_)
  | (with_reducible_and_instances refine pw_none ?_)
  | (with_reducible_and_instances refine pw_some ?_)
  | (with_reducible_and_instances refine rw_le ?_)
  | (with_reducible_and_instances refine rw_lt ?_)
  | (with_reducible_and_instances refine rw_gt ?_)
  | (with_reducible_and_instances refine rw_ge ?_)
  | (with_reducible_and_instances refine rw_sub ?_)
  | (with_reducible_and_instances refine uw_neg ?_)
  | (with_reducible_and_instances refine rwp_int ?_)
  | ((with_reducible_and_instances refine gw_name ?hj ?_); (case hj => first | exact trivial | decide))
  | (with_reducible_and_instances refine gsw_cons ?_)
  | (with_reducible_and_instances refine gsw_nil ?_)
  | (with_reducible_and_instances refine gw_tup rfl ?_)
  | (with_reducible_and_instances refine cw_max2 ?_)
  | (with_reducible_and_instances refine cw_min2 ?_)
  | (with_reducible_and_instances refine cw_lenT ?_)
  | (with_reducible_and_instances refine cw_lenR ?_)
  | (with_reducible_and_instances refine cw_lenL (.same _) ?_)
  | (with_reducible_and_instances refine cw_intB ?_)
  | (with_reducible_and_instances refine ⟨_, rfl, ?_⟩)
  | (with_reducible_and_instances refine ⟨_, _, rfl, ?_⟩)
  | (refine ⟨Nat.le_trans (by simp) (Nat.le_of_lt (small1000 (n := 1000) (by decide))), ?_⟩))
/-! ### bounds of what is heard; a log that is heard as it is needs nothing more -/
theorem VHeard.lt {H : List An} (h : VHeard H) {i k : Nat} (hik : i < k) (hk : k < H.length) : (H[i]'(by omega)).a + (H[i]'(by omega)).c ≤ H[k].a := List.pairwise_iff_getElem.mp h.ord i k (by omega) hk hik
theorem VHeard.inc {H : List An} (h : VHeard H) {i k : Nat} (hik : i < k) (hk : k < H.length) : (H[i]'(by omega)).a < H[k].a := by
  have h1 := h.lt hik hk
  have h2 := (h.ann _ (List.getElem_mem (by omega : i < H.length))).2.2.2.1
  omega
theorem VHeard.pos {H : List An} (h : VHeard H) {k : Nat} (hk : k < H.length) : 0 ≤ H[k].a := (h.ann _ (List.getElem_mem hk)).1
def S_lower_bounds : SpT := fun ds Oc Post => ∃ H : List An, ds = [encU H, .str "place"] ∧ VHeard H ∧ ∀ (p : Addr) (bs : List Int), bs.length = H.length → (∀ i b (hi : i < H.length), bs[i]? = some b → b ≤ H[i].a) → Post (.raw (.ref p)) ((p, .lst (bs.map .int)) :: Oc)
def S_known_for : SpT := fun ds Oc Post => ∃ H : List An, ds = [encU H, encU H] ∧ VHeard H ∧ Post (.lst ((List.range H.length).map fun i => encL [i])) Oc
def S_fewest_added : SpT := fun ds Oc Post => ∃ H : List An, ds = [encU H, encU H] ∧ VHeard H ∧ VLog H ∧ Post (.int 0) Oc
/-- the lists of indices, so far -/
def famD : List Addr → Nat → List (Addr × List Dt)
  | [], _ => []
  | p :: ps, k => (p, [.int (k : Int)]) :: famD ps (k + 1)
theorem famD_snoc (q : Addr) : ∀ (D : List Addr) (k : Nat), famD (D ++ [q]) k = famD D k ++ [(q, [.int ((k + D.length : Nat) : Int)])]
  | [], k => rfl
  | p :: D, k => by
    show _ :: famD (D ++ [q]) (k + 1) = _
    rw [famD_snoc q D (k + 1), List.length_cons, show k + (D.length + 1) = k + 1 + D.length by omega]
    rfl
theorem famD_raw : ∀ (D : List Addr) (k : Nat), ((famD D k).map fun p => Dt.raw (.ref p.1)) = D.map fun p => .raw (.ref p)
  | [], _ => rfl
  | p :: D, k => by
    show _ :: (famD D (k + 1)).map _ = _
    rw [famD_raw D (k + 1)]
    rfl
theorem famD_lst : ∀ (D : List Addr) (k : Nat), ((famD D k).map fun p => Dt.lst p.2) = (List.range' k D.length).map fun i => encL [i]
  | [], _ => rfl
  | p :: D, k => by
    show _ :: (famD D (k + 1)).map _ = _
    rw [famD_lst D (k + 1), List.length_cons, List.range'_succ]
    rfl
theorem good_first {H : List An} (hH : VHeard H) {j : Nat} (hj : j < H.length) : ∃ t, (List.range H.length).filter (fun k => decide (topAt H k = topAt H j) && decide (timAt H j ≤ timAt H k)) = j :: t := by
  have e : List.range H.length = List.range' 0 j ++ (j :: List.range' (j + 1) (H.length - (j + 1))) := by
    rw [List.range_eq_range', ← List.range'_succ, show H.length - (j + 1) + 1 = H.length - j by omega]
    have := List.range'_append_1 (s := 0) (m := j) (n := H.length - j)
    rw [Nat.zero_add] at this
    rw [this, show j + (H.length - j) = H.length by omega]
  rw [e, List.filter_append, List.filter_eq_nil_iff.mpr, List.nil_append, List.filter_cons]
  · simp
  · intro k hk
    have hk := (List.mem_range'_1.mp hk).2
    rw [Nat.zero_add] at hk
    have := hH.inc hk hj
    rw [timAt_get hj, timAt_get (by omega : k < H.length)]
    simp
    omega
theorem rows_get {H : List An} {bs : List Int} (hb : bs.length = H.length) {m : Nat} {d : Dt} (h : (rowsD (H.map (enc : An → Dt)) (bs.map .int) ((List.range H.length).map fun i => encL [i])).reverse[m]? = some d) :
    ∃ (i : Nat) (hi : i < H.length) (b : Int), i + m + 1 = H.length ∧ d = .tup [enc H[i], .int b, encL [i]] := by
  have hl : (rowsD (H.map (enc : An → Dt)) (bs.map .int) ((List.range H.length).map fun i => encL [i])).length = H.length := by
    unfold rowsD
    simp [hb]
  have hm : m < H.length := by
    have := (List.getElem?_eq_some_iff.mp h).1
    rw [List.length_reverse, hl] at this
    exact this
  rw [List.getElem?_reverse (by rw [hl]; exact hm), hl] at h
  have hi : H.length - 1 - m < H.length := by omega
  obtain ⟨b, eb⟩ : ∃ b, bs[H.length - 1 - m]? = some b := ⟨_, List.getElem?_eq_getElem (by omega)⟩
  refine ⟨H.length - 1 - m, hi, b, by omega, ?_⟩
  unfold rowsD at h
  rw [List.getElem?_map, List.getElem?_zip_eq_some (z := (enc H[H.length - 1 - m], (Dt.int b, encL [H.length - 1 - m]))) |>.mpr ⟨by rw [List.getElem?_map, List.getElem?_eq_getElem hi]; rfl, List.getElem?_zip_eq_some (z := (Dt.int b, encL [H.length - 1 - m])) |>.mpr ⟨by rw [List.getElem?_map, eb]; rfl, by rw [List.getElem?_map, List.getElem?_range hi]; rfl⟩⟩] at h
  cases h
  rfl
/-- what the dict holds -/
def KvI (kvs : KD) (H : List An) (j : Nat) : Prop := ∀ x d, getK kvs (.inr x) = some d → ∃ v : Int, d = .int v ∧ ∀ k (hk : k < H.length), j ≤ k → v < H[k].a
section
variable {P : Program} {w : World} {K : PySem.W.Frag} {mg : Str → Option Value} {base : Heap} {A : Ad}
theorem ok_lower_bounds (T : Txt K mg A) : FnOk P w K mg base CX0 1 A.a_lower_bounds A.d_lower_bounds ["heard", "rule"] (SpD K S_lower_bounds) := by
  refine fn_ok T.F_lower_bounds sc_lower_bounds (fun ds Oc Post h => by obtain ⟨_, rfl, _⟩ := h; rfl) (fun cdv AA outer s H0 E hr => ?_)
  refine ⟨_, (pss_cons (ps_asg (pe_tup (pa_cons (pe_lst pa_nil) (pa_cons pe_int (pa_cons (pe_un un_neg pe_int) (pa_cons pe_dnewK pa_nil))))) (tupK (K := K) (pg_tup (n := 4) rfl (pgs_cons (pg_name (i := 2) sc_lower_bounds.nd rfl (.inl rfl)) (pgs_cons (pg_name (i := 3) sc_lower_bounds.nd rfl (.inl rfl)) (pgs_cons (pg_name (i := 4) sc_lower_bounds.nd rfl (.inl rfl)) (pgs_cons (pg_name (i := 5) sc_lower_bounds.nd rfl (.inl rfl)) pgs_nil)))))))
  (pss_cons (ps_for PassesOwn.never rfl (seqK (K := K) (pv 0)) (tupK (K := K) (pg_tup (n := 3) rfl (pgs_cons (pg_name (i := 6) sc_lower_bounds.nd rfl (.inl rfl)) (pgs_cons (pg_name (i := 7) sc_lower_bounds.nd rfl (.inl rfl)) (pgs_cons (pg_name (i := 8) sc_lower_bounds.nd rfl (.inl rfl)) pgs_nil))))) (pss_cons (ps_set (i := 3) sc_lower_bounds.nd rfl (.inl rfl) (pe_ifExp (pt_cmpR (neK (K := K) hr.units) (pv 6) (pv 4) (nomark _)) (pv 6) (pv 3)))
    (pss_cons (ps_expr (bmK (K := K) (pe_bm PySem.F.plainAttrs_list PySem.F.slot_list_append PySem.F.type_list_append mt_append (pv 2) (pa_cons (pe_ifExp (pt_cmpR (neK (K := K) hr.units) (pv 1) pe_str (nomark _)) (pe_callB (call_max2 rfl) (by rfl) T.max (by decide +kernel) (pa_cons (pv 3) (pa_cons (pe_op (plusK (K := K)) (pe_dget2 (hu_of hr) (pv 5) (pv 7) (pe_un un_neg pe_int) ⟨rfl, rfl, rfl, rfl⟩) pe_int) pa_nil))) (pv 3)) pa_nil))))
    (pss_one (ps_asg (pe_tup (pa_cons (pv 6) (pa_cons (pe_op (plusK (K := K)) (pv 6) (pv 8)) pa_nil))) (tupK (K := K) (pg_tup (n := 2) rfl (pgs_cons (pg_sub (pv 5) (pv 7) (set_dict (hu_of hr))) (pgs_cons (pg_name (i := 4) sc_lower_bounds.nd rfl (.inl rfl)) pgs_nil)))))))))
  (pss_one (ps_ret (pv 2))))), fun ds Oc Post h => ?_⟩
  obtain ⟨H, rfl, hH, hp⟩ := h
  have hlen := hH.len
  repeat walk_at "dl"
  refine ew_lstO ?_
  repeat walk_at "dl"
  intro pf
  repeat walk_at "dl"
  refine ew_dnew fun pd => ?_
  repeat walk_at "dl"
  refine sw_for (iws_tup ?_)
  repeat walk_at "dl"
  refine ⟨fun j Γ O => ∃ (bs : List Int) (kvs : KD) (st en : Int) (x6 x7 x8 : Option Dt), Γ = [some (encU H), some (.str "place"), some (.raw (.ref pf)), some (.int st), some (.int en), some (.raw (.ref pd)), x6, x7, x8] ∧ O = (pd, .dk kvs) :: (pf, .lst (bs.map .int)) :: Oc ∧
    bs.length = j ∧ (∀ i b (hi : i < H.length), bs[i]? = some b → b ≤ H[i].a) ∧ KvI kvs H j ∧ kvs.length ≤ j ∧ (∀ k (hk : k < H.length), j ≤ k → en ≤ H[k].a) ∧ (0 ≤ en → st ≤ en), ⟨[], [], 0, -1, none, none, none, rfl, rfl, rfl, (fun i b hi e => by cases e), (fun x d e => by cases e), Nat.le_refl _, (fun k hk _ => by have := hH.pos hk; omega), fun z => by omega⟩, (fun p e => by cases e), ?_, ?_⟩
  · rintro j d Γ O hd ⟨bs, kvs, st, en, x6, x7, x8, rfl, rfl, hbl, hb, hkv, hkl, hen, hst⟩
    have hj : j < H.length := by
      have := (List.getElem?_eq_some_iff.mp hd).1
      rwa [List.length_map] at this
    obtain rfl : d = enc H[j] := by
      rw [List.getElem?_map, List.getElem?_eq_getElem hj] at hd
      cases hd; rfl
    have hpos := hH.pos hj
    have hle := hen j hj (Nat.le_refl _)
    -- the start
    obtain ⟨st', hst', hs1⟩ : ∃ st' : Int, st' = (if H[j].a = en then st else H[j].a) ∧ st' ≤ H[j].a := ⟨_, rfl, by
      split
      · rename_i e
        have := hst (by omega)
        omega
      · exact Int.le_refl _⟩
    repeat walk_at "dn"
    refine sw_cut (fun Γ O => Γ = [some (encU H), some (.str "place"), some (.raw (.ref pf)), some (.int st'), some (.int en), some (.raw (.ref pd)), some (.int H[j].a), some (.str H[j].b), some (.int H[j].c)] ∧ O = (pd, .dk kvs) :: (pf, .lst (bs.map .int)) :: Oc) ?_ ?_
    · repeat walk_at "dl"
      refine rw_neE H[j].a en (.same _) (.same _) ?_
      repeat walk_at "dl"
      by_cases e : H[j].a = en
      · refine if_f (by rw [decide_eq_true e]; rfl) ?_
        repeat walk_at "dl"
        rw [if_pos e] at hst'
        subst hst'
        exact ⟨rfl, rfl⟩
      · refine if_t (by rw [decide_eq_false e]; rfl) ?_
        repeat walk_at "dl"
        rw [if_neg e] at hst'
        subst hst'
        exact ⟨rfl, rfl⟩
    · rintro Γ O ⟨rfl, rfl⟩
      obtain ⟨v, hv, hv1⟩ : ∃ v : Int, (getK kvs (.inr H[j].b)).getD (.int (-1)) = .int v ∧ v < H[j].a := by
        cases e : getK kvs (.inr H[j].b) with
        | none => exact ⟨-1, rfl, by omega⟩
        | some d =>
          obtain ⟨v, rfl, h2⟩ := hkv _ _ e
          exact ⟨v, rfl, h2 j hj (Nat.le_refl _)⟩
      repeat walk_at "dl"
      refine ew_append (p := pf) (ds := bs.map .int) (O2 := (pd, .dk kvs) :: Oc) ?_
      repeat walk_at "dl"
      refine ⟨rfl, ⟨_, List.mem_cons_of_mem _ List.mem_cons_self⟩, ?_⟩
      repeat walk_at "dl"
      refine rw_neE ("place" : Str) "none" (.same _) (.same _) ?_
      repeat walk_at "dl"
      refine if_t (by decide) ?_
      repeat walk_at "dl"
      refine ew_dget2 ?_
      repeat walk_at "dl"
      refine ⟨⟨kvs, List.mem_cons_self⟩, ?_⟩
      repeat walk_at "dl"
      refine ⟨H[j].b, kvs, rfl, List.mem_cons_self, ?_⟩
      rw [hv]
      repeat walk_at "dl"
      refine ⟨.swap _ _ _, ?_, ?_⟩
      · rw [List.length_map, hbl]
        exact Nat.lt_of_lt_of_le (m := 41) (by omega) (by decide)
      repeat walk_at "dl"
      refine gw_setD (p := pd) (kvs := kvs) (s := H[j].b) (O2 := (pf, .lst (bs.map .int ++ [.int (max st' (v + 1))])) :: Oc) (Nat.lt_of_le_of_lt (m := 40) (by omega) (by decide)) ?_
      repeat walk_at "dl"
      refine ⟨rfl, ?_⟩
      repeat walk_at "dl"
      refine ⟨rfl, .swap _ _ _, ?_⟩
      repeat walk_at "dl"
      have hc1 := (hH.ann _ (List.getElem_mem hj)).2.2.2.1
      refine ⟨bs ++ [max st' (v + 1)], putKD kvs (.inr H[j].b) (.int H[j].a), st', H[j].a + H[j].c, some (.int H[j].a), some (.str H[j].b), some (.int H[j].c), rfl, by rw [List.map_append]; rfl, ?_, ?_, ?_, ?_, ?_, ?_⟩
      · rw [List.length_append, hbl]; rfl
      · intro i b hi hib
        rcases Nat.lt_or_ge i j with z | z
        · rw [List.getElem?_append_left (by omega)] at hib
          exact hb i b hi hib
        · rw [List.getElem?_append_right (by omega), hbl] at hib
          have e : i = j := by
            have := (List.getElem?_eq_some_iff.mp hib).1
            simp at this
            omega
          subst e
          rw [Nat.sub_self] at hib
          cases hib
          omega
      · intro x d hx
        rw [getK_put] at hx
        split at hx
        · cases hx
          exact ⟨_, rfl, fun k hk hjk => hH.inc (by omega) hk⟩
        · obtain ⟨v', e1, e2⟩ := hkv x d hx
          exact ⟨v', e1, fun k hk hjk => e2 k hk (by omega)⟩
      · have := put_len kvs (.inr H[j].b) (.int H[j].a)
        omega
      · intro k hk hjk
        exact hH.lt (by omega) hk
      · intro _
        omega
  · rintro Γ O ⟨bs, kvs, st, en, x6, x7, x8, rfl, rfl, hbl, hb, hkv, hkl, hen, hst⟩
    rw [List.length_map] at hbl
    exact sw_ret (ew_drop (ew_var rfl ⟨pd, .dk kvs, _, .refl _, hp pf bs hbl hb⟩))
theorem ok_known_for (T : Txt K mg A) : FnOk P w K mg base CX0 2 A.a_known_for A.d_known_for ["log", "heard"] (SpD K S_known_for) := by
  refine fn_ok T.F_known_for sc_known_for (fun ds Oc Post h => by obtain ⟨_, rfl, _⟩ := h; rfl) (fun cdv AA outer s H0 E hr => ?_)
  refine ⟨_, (pss_cons (ps_setLc (i := 2) (own := [("row", 9)]) rfl sc_known_for.nd rfl rfl (sw_true rfl rfl rfl (by decide +kernel)) (seqK (K := K) (pv 1)) (blkOk_by (N := ["log", "heard", "found", "bounds", "index", "time", "topic", "length", "good", "row", "at"]) (sc := defScope s_known_for) (by decide +kernel)) (fun _ _ _ _ _ => (pg_name (i := 9) sc_known_for.nd rfl (.inl rfl))) (fun _ _ _ _ _ => pts_nil) (fun _ _ _ _ _ => (pe_lst pa_nil)))
  (pss_cons (ps_set (i := 3) sc_known_for.nd rfl (.inl rfl) (pe_call (ok_lower_bounds T) (hr.mono (by decide)) (by rfl) T.g_lower_bounds T.F_lower_bounds.kp (b_lower_bounds T) .nil pass0 (pa_cons (pv 1) (pa_cons pe_str pa_nil))))
  (pss_cons (ps_for PassesOwn.never rfl (enumK (K := K) (pi_enumG (by rfl) T.enumerate (pa_cons (pv 0) pa_nil))) (tupK (K := K) (pg_tup (n := 2) rfl (pgs_cons (pg_name (i := 4) sc_known_for.nd rfl (.inl rfl)) (pgs_cons (tupK (K := K) (pg_tup (n := 3) rfl (pgs_cons (pg_name (i := 5) sc_known_for.nd rfl (.inr rfl)) (pgs_cons (pg_name (i := 6) sc_known_for.nd rfl (.inr rfl)) (pgs_cons (pg_name (i := 7) sc_known_for.nd rfl (.inl rfl)) pgs_nil))))) pgs_nil)))) (pss_cons (ps_setLc (i := 8) (own := [("at", 10), ("row", 9)]) rfl sc_known_for.nd rfl rfl (sw_true rfl rfl rfl (by decide +kernel)) (enumK (K := K) (pi_enumG (by rfl) T.enumerate (pa_cons (pv 1) pa_nil))) (blkOk_by (N := ["log", "heard", "found", "bounds", "index", "time", "topic", "length", "good", "row", "at"]) (sc := defScope s_known_for) (by decide +kernel)) (fun _ _ _ _ _ => (tupK (K := K) (pg_tup (n := 2) rfl (pgs_cons (pg_name (i := 10) sc_known_for.nd rfl (.inl rfl)) (pgs_cons (pg_name (i := 9) sc_known_for.nd rfl (.inl rfl)) pgs_nil))))) (fun _ _ _ _ _ => (pts_one (PW.pt (pw_and (pt_cmpR (eqK (K := K) hr.units) (pe_ix (ixK (K := K)) (pv 9) pe_int (fun _ _ => rfl)) (pv 6) (nomark _)) (pw_and1 (pt_cmpR op_ge (pe_ix (ixK (K := K)) (pv 9) pe_int (fun _ _ => rfl)) (pv 5) (nomark _))))))) (fun _ _ _ _ _ => (pv 10)))
    (pss_cons (ps_if (PW.pt (pw_or (pt_cmpR (eqK (K := K) hr.units) (pv 8) (pe_lst pa_nil) (nomark _)) (pw_or1 (pt_cmpR op_lt (pv 5) (pe_ix (ixK (K := K)) (pv 3) (pe_ix (ixK (K := K)) (pv 8) pe_int (fun _ _ => rfl)) (fun _ _ => rfl)) (nomark _))))) (pss_one (ps_ret pe_non)) pss_nil)
    (pss_one (ps_expr (bmK (K := K) (pe_bm PySem.F.plainAttrs_list PySem.F.slot_list_append PySem.F.type_list_append mt_append (pe_ix (ixK (K := K)) (pv 2) (pe_ix (ixK (K := K)) (pv 8) pe_int (fun _ _ => rfl)) (fun _ _ => rfl)) (pa_cons (pv 4) pa_nil))))))))
  (pss_one (ps_ret (pv 2)))))), fun ds Oc Post h => ?_⟩
  obtain ⟨H, rfl, hH, hp⟩ := h
  have hlen := hH.len
  repeat walk_at "dl"
  refine ew_lcIO (iws_tup ?_)
  repeat walk_at "dl"
  refine ⟨fun n acc O' => ∃ ps : List Addr, acc = ps.map (fun p => .raw (.ref p)) ∧ ps.length = n ∧ O'.Perm (fam (ps.map fun p => (p, [])) ++ Oc), ⟨[], rfl, rfl, .refl _⟩, (fun p e => by cases e), ?_, ?_⟩
  · rintro n d acc O' hd ⟨ps, rfl, hn, hO⟩
    have hn' : n < H.length := by
      have := (List.getElem?_eq_some_iff.mp hd).1
      rwa [List.length_map] at this
    refine ⟨by rw [List.length_map]; exact Nat.lt_of_lt_of_le (m := 41) (by omega) (by decide), ?_⟩
    repeat walk_at "dl"
    refine ⟨fun _ => ?_, fun z => by cases z⟩
    refine ew_lstO ?_
    repeat walk_at "dl"
    intro q
    refine ⟨ps ++ [q], by rw [List.map_append]; rfl, by rw [List.length_append, hn]; rfl, ?_⟩
    rw [List.map_append]
    unfold fam at hO ⊢
    rw [List.map_append, List.append_assoc]
    exact (hO.cons _).trans List.perm_middle.symm
  · rintro acc O' ⟨ps, rfl, hn, hO⟩ pf
    rw [List.length_map] at hn
    repeat walk_at "dl"
    refine ew_call ?_
    repeat walk_at "dl"
    refine ⟨[], _, .refl _, H, rfl, hH, fun pb bs hbl hb => ?_⟩
    repeat walk_at "dl"
    refine sw_for (iw_enumT ?_)
    repeat walk_at "dl"
    rw [enum_at]
    refine ⟨fun j Γ O => ∃ (D R : List Addr) (x4 x5 x6 x7 x8 x9 x10 : Option Dt), Γ = [some (encU H), some (encU H), some (.raw (.ref pf)), some (.raw (.ref pb)), x4, x5, x6, x7, x8, x9, x10] ∧ ps = D ++ R ∧ D.length = j ∧
      O.Perm ((pb, .lst (bs.map .int)) :: (pf, .lst (ps.map fun p => .raw (.ref p))) :: (fam (famD D 0) ++ (fam (R.map fun p => (p, [])) ++ Oc))), ⟨[], ps, none, none, none, none, none, none, none, rfl, rfl, rfl, (hO.cons _).cons _⟩, (fun p e => by cases e), ?_, ?_⟩
    · rintro j d Γ O hd ⟨D, R, x4, x5, x6, x7, x8, x9, x10, rfl, eD, hD, hO⟩
      obtain ⟨hj, rfl⟩ : ∃ hj : j < H.length, d = .tup [.int (j : Int), enc H[j]] := by
        rw [List.getElem?_map] at hd
        have hj : j < H.length := by
          refine Nat.lt_of_not_le fun z => ?_
          rw [List.getElem?_eq_none (by rw [List.length_range]; exact z)] at hd
          cases hd
        rw [List.getElem?_range hj] at hd
        cases hd
        exact ⟨hj, by show Dt.tup [_, enc (atL H j)] = _; rw [atL_get hj]⟩
      obtain ⟨q, R', rfl⟩ : ∃ q R', R = q :: R' := by
        cases R with
        | nil =>
          have := congrArg List.length eD
          rw [List.append_nil] at this
          omega
        | cons q R' => exact ⟨q, R', rfl⟩
      have hq : ps[j]? = some q := by
        rw [eD, List.getElem?_append_right (by omega), hD, Nat.sub_self]
        rfl
      obtain ⟨t, ht⟩ := good_first hH hj
      obtain ⟨b, hbj⟩ : ∃ b, bs[j]? = some b := ⟨_, List.getElem?_eq_getElem (by omega)⟩
      have hble := hb j b hj hbj
      repeat walk_at "dl"
      refine ew_lcP (α := Nat) (iw_enumT ?_)
      repeat walk_at "dl"
      rw [enum_at]
      refine ⟨fun k => .tup [.int (k : Int), enc (atL H k)], List.range H.length, fun k => decide (topAt H k = topAt H j) && decide (timAt H j ≤ timAt H k), fun k => .int (k : Int), rfl, (fun p e => by cases e), by rw [List.length_range]; omega, fun k hk => ?_, ?_⟩
      · have hk := List.mem_range.mp hk
        repeat walk_at "dl"
        refine rw_ixT_ atI_1 ?_
        repeat walk_at "dl"
        refine rw_eqE (topAt H k) (H[j].b) (.same _) (.same _) ?_
        rw [← topAt_get hj]
        repeat walk_at "dl"
        refine ⟨fun z => ?_, fun z => ?_⟩
        · repeat walk_at "dl"
          refine rw_ixT_ atI_0 ?_
          repeat walk_at "dl"
          rw [← timAt_get hj]
          refine ⟨fun z2 => ?_, fun z2 => ⟨rfl, by show (decide _ && decide _) = _; rw [z]; exact z2⟩⟩
          repeat walk_at "dl"
          exact ⟨rfl, by show (decide _ && decide _) = _; rw [z]; exact z2, rfl⟩
        · refine ⟨fun z2 => (by cases z2), fun _ => ⟨rfl, by show (decide _ && decide _) = _; rw [z]; rfl⟩⟩
      rw [ht]
      repeat (first | walk_at "dl" | refine ew_lst ?_)
      refine rw_eqE (j :: t) [] (.same _) (.same _) ?_
      repeat walk_at "dl"
      refine or_f (decide_eq_false (by simp)) ?_
      repeat walk_at "dl"
      refine rw_ixL (.same _) atI_0 ?_
      refine rw_ixL (.own (hO.mem_iff.mpr List.mem_cons_self)) (atI_nat (by rw [List.getElem?_map, hbj]; rfl)) ?_
      repeat walk_at "dl"
      refine if_f (decide_eq_false (by omega)) ?_
      repeat walk_at "dl"
      have hO2 : O.Perm ((q, .lst []) :: ((pb, .lst (bs.map .int)) :: (pf, .lst (ps.map fun p => .raw (.ref p))) :: (fam (famD D 0) ++ (fam (R'.map fun p => (p, [])) ++ Oc)))) := by
        refine hO.trans ?_
        refine .trans (.cons _ (.cons _ List.perm_middle)) ?_
        exact .trans (.cons _ (.swap _ _ _)) (.swap _ _ _)
      refine ew_append (p := q) (ds := []) (O2 := (pb, .lst (bs.map .int)) :: (pf, .lst (ps.map fun p => .raw (.ref p))) :: (fam (famD D 0) ++ (fam (R'.map fun p => (p, [])) ++ Oc))) ?_
      repeat walk_at "dl"
      refine rw_ixL (.same _) atI_0 ?_
      refine rw_ixL (.own (hO.mem_iff.mpr (List.mem_cons_of_mem _ List.mem_cons_self))) (atI_nat (by rw [List.getElem?_map, hq]; rfl)) ?_
      refine ⟨rfl, ⟨_, hO2.mem_iff.mpr List.mem_cons_self⟩, ?_⟩
      repeat walk_at "dl"
      refine ⟨hO2, by decide, ?_⟩
      refine ⟨D ++ [q], R', _, _, _, _, _, _, _, rfl, by rw [eD, List.append_assoc]; rfl, by rw [List.length_append, hD]; rfl, ?_⟩
      rw [famD_snoc, Nat.zero_add, hD]
      unfold fam
      rw [List.map_append, List.append_assoc]
      refine .trans (.swap _ _ _) (.trans (.cons _ (.swap _ _ _)) ?_)
      exact .cons _ (.cons _ List.perm_middle.symm)
    · rintro Γ O ⟨D, R, x4, x5, x6, x7, x8, x9, x10, rfl, eD, hD, hO⟩
      rw [List.length_map, List.length_range] at hD
      have hR : R = [] := by
        have := congrArg List.length eD
        rw [List.length_append] at this
        exact List.length_eq_zero_iff.mp (by omega)
      subst hR
      rw [List.append_nil] at eD
      subst eD
      refine sw_ret (ew_drop (ew_nest (ew_var rfl ⟨pf, famD ps 0, (pb, .lst (bs.map .int)) :: Oc, rfl, ?_, pb, .lst (bs.map .int), Oc, .refl _, ?_⟩)))
      · rw [famD_raw]
        refine hO.trans ?_
        refine .trans (.swap _ _ _) ?_
        refine .trans ?_ List.perm_middle.symm
        refine .cons _ ?_
        exact List.perm_middle.symm
      · rw [famD_lst, hD, ← List.range_eq_range']
        exact hp
theorem ok_fewest_added (T : Txt K mg A) : FnOk P w K mg base CX0 5 A.a_fewest_added A.d_fewest_added ["log", "heard"] (SpD K S_fewest_added) := by
  refine fn_ok T.F_fewest_added sc_fewest_added (fun ds Oc Post h => by obtain ⟨_, rfl, _⟩ := h; rfl) (fun cdv AA outer s H0 E hr => ?_)
  refine ⟨_, (pss_cons (ps_expr (pe_call (ok_require_log T) (hr.mono (by decide)) (by rfl) T.g_require_log T.F_require_log.kp (b_require_log T) .nil pass0 (pa_cons (pv 0) pa_nil)))
  (pss_cons (ps_expr (pe_call (ok_require_heard T) (hr.mono (by decide)) (by rfl) T.g_require_heard T.F_require_heard.kp (b_require_heard T) .nil pass0 (pa_cons (pv 1) pa_nil)))
  (pss_cons (ps_set (i := 2) sc_fewest_added.nd rfl (.inl rfl) (pe_call (ok_known_for T) (hr.mono (by decide)) (by rfl) T.g_known_for T.F_known_for.kp (b_known_for T) .nil pass0 (pa_cons (pv 0) (pa_cons (pv 1) pa_nil))))
  (pss_cons (ps_if (pt_cmpR op_isN (pv 2) pe_non (nomark _)) (pss_one (ps_ret pe_non)) pss_nil)
  (pss_cons (ps_asg (pe_tup (pa_cons pe_int (pa_cons (pe_op (timesK (K := K)) pe_int (pe_glob (v := .int 10000) rfl T.g_MAX_TIME ⟨_, rfl⟩)) (pa_cons (pe_callB (lenK (K := K)) (by rfl) T.len (by decide +kernel) (pa_cons (pv 0) pa_nil)) pa_nil)))) (tupK (K := K) (pg_tup (n := 3) rfl (pgs_cons (pg_name (i := 3) sc_fewest_added.nd rfl (.inl rfl)) (pgs_cons (pg_name (i := 4) sc_fewest_added.nd rfl (.inr rfl)) (pgs_cons (pg_name (i := 5) sc_fewest_added.nd rfl (.inl rfl)) pgs_nil))))))
  (pss_cons (ps_set (i := 6) sc_fewest_added.nd rfl (.inl rfl) (lzK (K := K) (pe_lz rfl (by rfl) T.list (by rfl) T.zip (pa_cons (pv 1) (pa_cons (pe_call (ok_lower_bounds T) (hr.mono (by decide)) (by rfl) T.g_lower_bounds T.F_lower_bounds.kp (b_lower_bounds T) .nil pass0 (pa_cons (pv 1) (pa_cons pe_str pa_nil))) (pa_cons (pv 2) pa_nil))))))
  (pss_cons (ps_for PassesOwn.never rfl (seqK (K := K) (revK (K := K) (pe_revL (pv 6)))) (tupK (K := K) (pg_tup (n := 3) rfl (pgs_cons (tupK (K := K) (pg_tup (n := 3) rfl (pgs_cons (pg_name (i := 7) sc_fewest_added.nd rfl (.inl rfl)) (pgs_cons (pg_name (i := 8) sc_fewest_added.nd rfl (.inl rfl)) (pgs_cons (pg_name (i := 9) sc_fewest_added.nd rfl (.inl rfl)) pgs_nil))))) (pgs_cons (pg_name (i := 10) sc_fewest_added.nd rfl (.inl rfl)) (pgs_cons (pg_name (i := 11) sc_fewest_added.nd rfl (.inl rfl)) pgs_nil))))) (pss_cons (ps_if (PW.pt (pw_and (pt_cmpR (neK (K := K) hr.units) (pv 11) (pe_lst pa_nil) (nomark _)) (pw_and1 (pt_cmpR (neK (K := K) hr.units) (pe_ix (ixK (K := K)) (pe_ix (ixK (K := K)) (pv 0) (pe_ix (ixK (K := K)) (pv 11) (pe_un un_neg pe_int) (fun _ _ => rfl)) (fun _ _ => rfl)) pe_int (fun _ _ => rfl)) (pv 9) (nomark _))))) (pss_one (ps_set (i := 3) sc_fewest_added.nd rfl (.inl rfl) (pe_op (plusK (K := K)) (pv 3) pe_int))) pss_nil)
    (pss_one (ps_if (PW.pt (pw_and (pt_cmpR (neK (K := K) hr.units) (pv 11) (pe_lst pa_nil) (nomark _)) (pw_and (pt_cmpR op_lt (pe_ix (ixK (K := K)) (pv 11) pe_int (fun _ _ => rfl)) (pv 5) (nomark _)) (pw_and1 (pt_cmpR op_le (pe_ix (ixK (K := K)) (pe_ix (ixK (K := K)) (pv 0) (pe_ix (ixK (K := K)) (pv 11) pe_int (fun _ _ => rfl)) (fun _ _ => rfl)) pe_int (fun _ _ => rfl)) (pv 4) (nomark _)))))) (pss_one (ps_asg (pe_tup (pa_cons (pe_ix (ixK (K := K)) (pe_ix (ixK (K := K)) (pv 0) (pe_ix (ixK (K := K)) (pv 11) pe_int (fun _ _ => rfl)) (fun _ _ => rfl)) pe_int (fun _ _ => rfl)) (pa_cons (pe_ix (ixK (K := K)) (pv 11) pe_int (fun _ _ => rfl)) pa_nil))) (tupK (K := K) (pg_tup (n := 2) rfl (pgs_cons (pg_name (i := 4) sc_fewest_added.nd rfl (.inr rfl)) (pgs_cons (pg_name (i := 5) sc_fewest_added.nd rfl (.inl rfl)) pgs_nil)))))) (pss_cons (ps_asg (pe_tup (pa_cons (pe_op (plusK (K := K)) (pv 3) pe_int) (pa_cons (pe_callB (call_min2 rfl) (by rfl) T.min (by decide +kernel) (pa_cons (pv 4) (pa_cons (pv 7) pa_nil))) pa_nil))) (tupK (K := K) (pg_tup (n := 2) rfl (pgs_cons (pg_name (i := 3) sc_fewest_added.nd rfl (.inl rfl)) (pgs_cons (pg_name (i := 4) sc_fewest_added.nd rfl (.inr rfl)) pgs_nil)))))
      (pss_cons (ps_set (i := 5) sc_fewest_added.nd rfl (.inl rfl) (pe_callB (call_min2 rfl) (by rfl) T.min (by decide +kernel) (pa_cons (pv 5) (pa_cons (pe_callB (lenK (K := K)) (by rfl) T.len (by decide +kernel) (pa_cons (pe_lc (own := [("one", 12)]) rfl sc_fewest_added.nd (seqK (K := K) (pv 0)) (blkOk_by (N := ["log", "heard", "known", "total", "last", "place", "rows", "begin", "topic", "length", "bound", "indices", "one"]) (sc := defScope s_fewest_added) (by decide +kernel)) (fun _ _ _ _ _ => (pg_name (i := 12) sc_fewest_added.nd rfl (.inl rfl))) (fun _ _ _ _ _ => (pts_one (pt_cmpR op_le (pe_ix (ixK (K := K)) (pv 12) pe_int (fun _ _ => rfl)) (pv 4) (nomark _)))) (fun _ _ _ _ _ => pe_int)) pa_nil)) pa_nil))))
      (pss_one (ps_if (pt_cmpR op_lt (pv 4) (pv 10) (nomark _)) (pss_one (ps_ret pe_non)) pss_nil))))))))
  (pss_one (ps_ret (pv 3)))))))))), fun ds Oc Post h => ?_⟩
  obtain ⟨H, rfl, hH, hV, hp⟩ := h
  have hlen := hH.len
  repeat walk_at "dl"
  refine ew_call0 ?_
  repeat walk_at "dl"
  refine ⟨_, 5, rfl, hV.gd, hV.isLog, ?_⟩
  repeat walk_at "dl"
  refine ew_call0 ?_
  repeat walk_at "dl"
  refine ⟨_, 5, rfl, hH.gd, hH.isHeard, ?_⟩
  repeat walk_at "dl"
  refine ew_call0 ?_
  repeat walk_at "dl"
  refine ⟨H, rfl, hH, ?_⟩
  repeat walk_at "dl"
  refine rw_isN (by intro v h; cases h) ?_
  repeat walk_at "dl"
  refine if_f rfl ?_
  repeat walk_at "dl"
  refine rwt_int (.inr (by omega)) ?_
  repeat walk_at "dl"
  refine ew_lz ?_
  repeat walk_at "dl"
  refine ew_frz (ew_call ?_)
  repeat walk_at "dl"
  refine ⟨[], _, .refl _, H, rfl, hH, fun pb bs hbl hb => ⟨pb, _, _, rfl, .refl _, ?_⟩⟩
  repeat walk_at "dl"
  refine ⟨_, _, _, rfl, by rw [List.length_map, List.length_map, hbl], by rw [List.length_map, List.length_map, List.length_range], by rw [List.length_map]; omega, ?_⟩
  repeat walk_at "dl"
  refine sw_for (iws_lst (ew_revL ?_))
  repeat walk_at "dl"
  refine ⟨_, .same _, _, rfl, ?_⟩
  refine ⟨fun m Γ O => ∃ (la : Int) (x6 x7 x8 x9 x10 x11 x12 : Option Dt), Γ = [some (encU H), some (encU H), some (.lst ((List.range H.length).map fun i => encL [i])), some (.int 0), some (.int la), some (.int ((H.length - m : Nat) : Int)), x6, x7, x8, x9, x10, x11, x12] ∧ O = Oc ∧ ∀ i (hi : i < H.length), i + m < H.length → H[i].a ≤ la,
    ⟨30000, _, _, _, _, _, _, _, by rw [Nat.sub_zero, ← List.length_map (f := (enc : An → Dt))]; rfl, rfl, fun i hi _ => by have := (hH.ann _ (List.getElem_mem hi)).2.1; omega⟩, (fun p e => by cases e), ?_, ?_⟩
  · rintro m d Γ O hd ⟨la, x6, x7, x8, x9, x10, x11, x12, rfl, rfl, hla⟩
    obtain ⟨i, hi, b, him, rfl⟩ := rows_get hbl hd
    have hle := hla i hi (by omega)
    repeat (first | walk_at "dl" | refine ew_lst ?_)
    refine rw_neE [i] [] (.same _) (.same _) ?_
    repeat walk_at "dl"
    refine if_t (by simp) ?_
    repeat walk_at "dl"
    refine rw_ixL (.same _) (show atI (List.map enc [i]) (-1) = some (Dt.int (i : Int)) from atI_last [] (Dt.int (i : Int))) ?_
    refine rw_ixT_ (atI_map hi) ?_
    repeat walk_at "dl"
    refine rw_ixT_ atI_2 ?_
    repeat walk_at "dl"
    refine rw_neE H[i].c H[i].c (.same _) (.same _) ?_
    repeat walk_at "dl"
    refine if_f (by simp) ?_
    repeat (first | walk_at "dl" | refine ew_lst ?_)
    refine rw_neE [i] [] (.same _) (.same _) ?_
    repeat walk_at "dl"
    refine if_t (by simp) ?_
    repeat walk_at "dl"
    refine rw_ixL (.same _) atI_0 ?_
    repeat walk_at "dl"
    refine if_t (decide_eq_true (by omega)) ?_
    repeat walk_at "dl"
    refine rw_ixL (.same _) atI_0 ?_
    refine rw_ixT_ (atI_map hi) ?_
    repeat walk_at "dl"
    refine rw_ixT_ atI_0 ?_
    repeat walk_at "dl"
    refine if_t (decide_eq_true hle) ?_
    repeat walk_at "dl"
    refine rw_ixL (.same _) atI_0 ?_
    refine rw_ixT_ (atI_map hi) ?_
    repeat walk_at "dl"
    refine rw_ixT_ atI_0 ?_
    repeat walk_at "dl"
    refine rw_ixL (.same _) atI_0 ?_
    repeat walk_at "dl"
    refine ⟨H[i].a, _, _, _, _, _, _, _, by rw [show H.length - (m + 1) = i by omega]; rfl, rfl, fun k hk hkm => ?_⟩
    exact Int.le_of_lt (hH.inc (by omega) hi)
  · rintro Γ O ⟨la, x6, x7, x8, x9, x10, x11, x12, rfl, rfl, hla⟩
    repeat walk_at "dl"
    exact hp
end
end DL
namespace DL
open PySem PySem.Spec PyProof.Rows L2
open Enc (enc)
local macro_rules | `(tactic| walk_at "dl") => `(tactic| first
  | (with_reducible_and_instances refine sw_seq ?_)
  | (with_reducible_and_instances refine sw_ret ?_)
  | (with_reducible_and_instances refine sw_retN ?_)
  | (with_reducible_and_instances refine sw_set ?_)
  | (with_reducible_and_instances refine sw_par ?_)
  | (with_reducible_and_instances refine sw_drop ?_)
  | (with_reducible_and_instances refine sw_next ?_)
  | (with_reducible_and_instances refine sw_break ?_)
  | (with_reducible_and_instances refine sw_if ?_)
  | (with_reducible_and_instances refine sw_asg ?_)
  | ((with_reducible_and_instances refine' ew_var ?hh ?kk); (case hh => rfl))
  | (with_reducible_and_instances refine ew_int ?_)
  | (with_reducible_and_instances refine ew_str ?_)
  | (with_reducible_and_instances refine ew_bl ?_)
  | (with_reducible_and_instances refine ew_non ?_)
  | (with_reducible_and_instances refine ew_raw (v := .ty _) ?_)
  | (with_reducible_and_instances refine ew_op ?_)
  | (with_reducible_and_instances refine ew_un ?_)
  | (with_reducible_and_instances refine ew_chain ?_)
  | (with_reducible_and_instances refine ew_andV ?_)
  | (with_reducible_and_instances refine ew_orV ?_)
  | (with_reducible_and_instances refine ew_notV ?_)
  | (with_reducible_and_instances refine ew_if ?_)
  | (with_reducible_and_instances refine ew_tup ?_)
  | (with_reducible_and_instances refine ew_cb ?_)
  | (with_reducible_and_instances refine ew_slA ?_)
  | (with_reducible_and_instances refine .inl ⟨_, rfl, ?_⟩)
  | (with_reducible_and_instances refine .inr ⟨_, .same _, ?_⟩)
  | (with_reducible_and_instances refine aw_cons ?_)
  | (with_reducible_and_instances refine aw_nil ?_)
  | (with_reducible_and_instances refine tw_test ?_)
  | (with_reducible_and_instances refine tw_B ?_)
  | (with_reducible_and_instances refine tw_and ?_)
  | (with_reducible_and_instances refine tw_or ?_)
  | (with_reducible_and_instances refine tw_not ?_)
  | (with_reducible_and_instances refine tw_yes ?_)
  | (with_reducible_and_instances refine pw_none ?_)
  | (with_reducible_and_instances refine pw_some ?_)
  | (with_reducible_and_instances refine rw_le ?_)
  | (with_reducible_and_instances refine rw_lt ?_)
  | (with_reducible_and_instances refine rw_gt ?_)
  | (with_reducible_and_instances refine rw_ge ?_)
  | (with_reducible_and_instances refine rw_sub ?_)
  | (with_reducible_and_instances refine uw_neg ?_)
  | (with_reducible_and_instances refine rwp_int ?_)
  | ((with_reducible_and_instances refine gw_name ?hj ?_); (case hj => first | exact trivial | decide))
  | (with_reducible_and_instances refine gsw_cons ?_)
  | (with_reducible_and_instances refine gsw_nil ?_)
  | (with_reducible_and_instances refine gw_tup rfl ?_)
  | (with_reducible_and_instances refine cw_max2 ?_)
  | (with_reducible_and_instances refine cw_min2 ?_)
  | (with_reducible_and_instances refine cw_lenT ?_)
  | (with_reducible_and_instances refine cw_lenR ?_)
  | (with_reducible_and_instances refine cw_lenL (.same _) ?_)
  | (with_reducible_and_instances refine cw_intB ?_)
  | (with_reducible_and_instances refine ⟨_, rfl, ?_⟩)
  | (with_reducible_and_instances refine ⟨_, _, rfl, ?_⟩)
  | (refine ⟨Nat.le_trans (by simp) (Nat.le_of_lt (small1000 (n := 1000) (by decide))), ?_⟩))
local macro_rules | `(tactic| walk_at "dx") => `(tactic| first
  | (with_reducible_and_instances refine sw_seq ?_)
  | (with_reducible_and_instances refine sw_ret ?_)
  | (with_reducible_and_instances refine sw_retN ?_)
  | (with_reducible_and_instances refine sw_set ?_)
  | (with_reducible_and_instances refine sw_par ?_)
  | (with_reducible_and_instances refine sw_drop ?_)
  | (with_reducible_and_instances refine sw_next ?_)
  | (with_reducible_and_instances refine sw_break ?_)
  | (with_reducible_and_instances refine sw_asg ?_)
  | ((with_reducible_and_instances refine' ew_var ?hh ?kk); (case hh => rfl))
  | (with_reducible_and_instances refine ew_int ?_)
  | (with_reducible_and_instances refine ew_str ?_)
  | (with_reducible_and_instances refine ew_bl ?_)
  | (with_reducible_and_instances refine ew_non ?_)
  | (with_reducible_and_instances refine ew_raw (v := .ty _) ?_)
  | (with_reducible_and_instances refine ew_op ?_)
  | (with_reducible_and_instances refine ew_un ?_)
  | (with_reducible_and_instances refine ew_chain ?_)
  | (with_reducible_and_instances refine ew_andV ?_)
  | (with_reducible_and_instances refine ew_orV ?_)
  | (with_reducible_and_instances refine ew_notV ?_)
  | (with_reducible_and_instances refine ew_if ?_)
  | (with_reducible_and_instances refine ew_tup ?_)
  | (with_reducible_and_instances refine ew_cb ?_)
  | (with_reducible_and_instances refine ew_slA ?_)
  | (with_reducible_and_instances refine .inl ⟨_, rfl, ?_⟩)
  | (with_reducible_and_instances refine .inr ⟨_, .same _, ?_⟩)
  | (with_reducible_and_instances refine aw_cons ?_)
  | (with_reducible_and_instances refine aw_nil ?_)
  | (with_reducible_and_instances refine tw_test ?_)
  | (with_reducible_and_instances refine tw_B ?_)
  | (with_reducible_and_instances refine tw_and ?_)
  | (with_reducible_and_instances refine tw_or ?_)
  | (with_reducible_and_instances refine tw_not ?_)
  | (with_reducible_and_instances refine tw_yes ?_)
  | (with_reducible_and_instances refine pw_none ?_)
  | (with_reducible_and_instances refine pw_some ?_)
  | (with_reducible_and_instances refine rw_le ?_)
  | (with_reducible_and_instances refine rw_lt ?_)
  | (with_reducible_and_instances refine rw_gt ?_)
  | (with_reducible_and_instances refine rw_ge ?_)
  | (with_reducible_and_instances refine rw_sub ?_)
  | (with_reducible_and_instances refine uw_neg ?_)
  | (with_reducible_and_instances refine rwp_int ?_)
  | ((with_reducible_and_instances refine gw_name ?hj ?_); (case hj => first | exact trivial | decide))
  | (with_reducible_and_instances refine gsw_cons ?_)
  | (with_reducible_and_instances refine gsw_nil ?_)
  | (with_reducible_and_instances refine gw_tup rfl ?_)
  | (with_reducible_and_instances refine cw_max2 ?_)
  | (with_reducible_and_instances refine cw_min2 ?_)
  | (with_reducible_and_instances refine cw_lenT ?_)
  | (with_reducible_and_instances refine cw_lenR ?_)
  | (with_reducible_and_instances refine cw_lenL (.same _) ?_)
  | (with_reducible_and_instances refine cw_intB ?_)
  | (with_reducible_and_instances refine ⟨_, rfl, ?_⟩)
  | (with_reducible_and_instances refine ⟨_, _, rfl, ?_⟩)
  | (refine ⟨Nat.le_trans (by simp) (Nat.le_of_lt (small1000 (n := 1000) (by decide))), ?_⟩))
local macro_rules | `(tactic| walk_at "dn") => `(tactic| first
  | (with_reducible_and_instances refine sw_ret ?_)
  | (with_reducible_and_instances refine sw_retN ?_)
  | (with_reducible_and_instances refine sw_set ?_)
  | (with_reducible_and_instances refine sw_par ?_)
  | (with_reducible_and_instances refine sw_drop ?_)
  | (with_reducible_and_instances refine sw_next ?_)
  | (with_reducible_and_instances refine sw_break ?_)
  | (with_reducible_and_instances refine sw_asg ?_)
  | ((with_reducible_and_instances refine' ew_var ?hh ?kk); (case hh => rfl))
  | (with_reducible_and_instances refine ew_int ?_)
  | (with_reducible_and_instances refine ew_str ?_)
  | (with_reducible_and_instances refine ew_bl ?_)
  | (with_reducible_and_instances refine ew_non ?_)
  | (with_reducible_and_instances refine ew_raw (v := .ty _) ?_)
  | (with_reducible_and_instances refine ew_op ?_)
  | (with_reducible_and_instances refine ew_un ?_)
  | (with_reducible_and_instances refine ew_chain ?_)
  | (with_reducible_and_instances refine ew_andV ?_)
  | (with_reducible_and_instances refine ew_orV ?_)
  | (with_reducible_and_instances refine ew_notV ?_)
  | (with_reducible_and_instances refine ew_if ?_)
  | (with_reducible_and_instances refine ew_tup ?_)
  | (with_reducible_and_instances refine ew_cb ?_)
  | (with_reducible_and_instances refine ew_slA ?_)
  | (with_reducible_and_instances refine .inl ⟨_, rfl, ?_⟩)
  | (with_reducible_and_instances refine .inr ⟨_, .same _, ?_⟩)
  | (with_reducible_and_instances refine aw_cons ?_)
  | (with_reducible_and_instances refine aw_nil ?_)
  | (with_reducible_and_instances refine tw_test ?_)
  | (with_reducible_and_instances refine tw_B ?_)
  | (with_reducible_and_instances refine tw_and ?_)
  | (with_reducible_and_instances refine tw_or ?_)
  | (with_reducible_and_instances refine tw_not ?_)
  | (with_reducible_and_instances refine tw_yes ?_)
  | (with_reducible_and_instances refine pw_none ?_)
  | (with_reducible_and_instances refine pw_some ?_)
  | (with_reducible_and_instances refine rw_le ?_)
  | (with_reducible_and_instances refine rw_lt ?_)
  | (with_reducible_and_instances refine rw_gt ?_)
  | (with_reducible_and_instances refine rw_ge ?_)
  | (with_reducible_and_instances refine rw_sub ?_)
  | (with_reducible_and_instances refine uw_neg ?_)
  | (with_reducible_and_instances refine rwp_int ?_)
  | ((with_reducible_and_instances refine gw_name ?hj ?_); (case hj => first | exact trivial | decide))
  | (with_reducible_and_instances refine gsw_cons ?_)
  | (with_reducible_and_instances refine gsw_nil ?_)
  | (with_reducible_and_instances refine gw_tup rfl ?_)
  | (with_reducible_and_instances refine cw_max2 ?_)
  | (with_reducible_and_instances refine cw_min2 ?_)
  | (with_reducible_and_instances refine cw_lenT ?_)
  | (with_reducible_and_instances refine cw_lenR ?_)
  | (with_reducible_and_instances refine cw_lenL (.same _) ?_)
  | (with_reducible_and_instances refine cw_intB ?_)
  | (with_reducible_and_instances refine ⟨_, rfl, ?_⟩)
  | (with_reducible_and_instances refine ⟨_, _, rfl, ?_⟩)
  | (refine ⟨Nat.le_trans (by simp) (Nat.le_of_lt (small1000 (n := 1000) (by decide))), ?_⟩))
theorem tw_imp {K : PySem.W.Frag} {Γ : Gm} {O : Own} {t : TT} {Post Post' : Bool → Own → Prop} (h : TW K t Γ O Post) (k : ∀ b O, Post b O → Post' b O) : TW K t Γ O Post' := fun w P σ H B S Q q =>
  h w P σ H B S Q fun b O1 H1 B1 p S1 => q b O1 H1 B1 (k _ _ p) S1
theorem self_run {r : Str} {T : List An} (hH : VHeard T) : ∀ (f k : Nat) (free : Int), k + f = T.length → (∀ i (hi : i < T.length), k ≤ i → free ≤ T[i].a) → Run r T [] k free ((List.range' k f).map fun i => ⟨timAt T i, i, i⟩)
  | 0, k, free, h, _ => .stop (by omega)
  | f + 1, k, free, h, h2 => by
    have hk : k < T.length := by omega
    have hle := h2 k hk (Nat.le_refl _)
    have et := timAt_get hk
    have el := lnAt_get hk
    have hnow : nowOf T [] k free = timAt T k := by
      unfold nowOf
      rw [if_neg (by simp)]
      omega
    have e0 : rcv r T [] k = [⟨k, k⟩] := by
      unfold rcv
      rfl
    have e1 : rcvAll r T (timAt T k) [] k = ([⟨k, k⟩], k + 1) := by
      rw [rcvAll_go hk (Int.le_refl _), e0, rcvAll_stop]
      rintro ⟨z1, z2⟩
      rw [timAt_get z1, et] at z2
      have := hH.inc (show k < k + 1 by omega) z1
      omega
    have rest := self_run (r := r) hH f (k + 1) (timAt T k + lnAt T k) (by omega) fun i hi hki => by
      rw [et, el]
      exact hH.lt (by omega) hi
    have st := Run.step (r := r) (L := T) (line := []) (done := k) (free := free) (p := ⟨k, k⟩) (ps := []) (d := k + 1) (fun z => z.2 hk) (by rw [hnow]; exact e1) (by rw [hnow]; exact rest)
    rw [hnow] at st
    rw [List.range'_succ]
    exact st
theorem self_tri {r : Str} {T : List An} (hV : VLog T) (hH : VHeard T) : triplesOf r T = T := by
  have e : spoken r T = (List.range' 0 T.length).map fun i => ⟨timAt T i, i, i⟩ := (run_spoken hV).uniq (self_run hH T.length 0 0 (Nat.zero_add _) fun i hi _ => hH.pos hi)
  unfold triplesOf
  rw [e, List.map_map, ← List.range_eq_range']
  exact (atL_all T).symm
theorem heard_log {T : List An} (hH : VHeard T) (h : ∀ T' z, T = T' ++ [z] → z.a ≤ 10000) : VLog T := by
  have ord : T.Pairwise fun x y => x.a ≤ y.a := hH.ord.imp_of_mem fun {x y} hx _ h => by
    have := (hH.ann x hx).2.2.2.1
    omega
  refine ⟨hH.len, fun a ha => ?_, ord⟩
  obtain ⟨a1, a2, a3, a4, a5⟩ := hH.ann a ha
  refine ⟨a1, ?_, a3, a4, a5⟩
  have hne : T ≠ [] := by
    rintro rfl
    cases ha
  have e := (List.dropLast_concat_getLast hne).symm
  have hz := h _ _ e
  rw [e] at ha ord
  rcases List.mem_append.mp ha with m | m
  · exact Int.le_trans ((List.pairwise_append.mp ord).2.2 a m _ List.mem_cons_self) hz
  · rw [List.mem_singleton] at m
    rw [m]
    exact hz
theorem gd_an {L : List An} (h : ∀ a ∈ L, topicS a.b = true) : gd 5 (encU L) = true := by
  show gdL 4 (L.map enc) = true
  rw [gdL_iff]
  intro d hd
  obtain ⟨a, ha, rfl⟩ := List.mem_map.mp hd
  have := topic_len (h a ha)
  show DL.gd 4 (.tup [.int a.a, .str a.b, .int a.c]) = true
  simp only [DL.gd, DL.gdL, Bool.true_and, Bool.and_true, decide_eq_true_eq]
  omega
theorem pair_not {x y : An} (h : ¬ x.a + x.c ≤ y.a) : isHeard (encU [x, y]) = false := by
  have e : pairsD (fun x y => decide (timeD x + lenD x ≤ timeD y)) ([x, y].map (enc : An → Dt)) = false := by
    show (decide (x.a + x.c ≤ y.a) && true) = false
    rw [decide_eq_false h]
    rfl
  show (_ && _ && pairsD (fun x y => decide (timeD x + lenD x ≤ timeD y)) ([x, y].map (enc : An → Dt))) = false
  rw [e, Bool.and_false]
def g21 (ns : List Int) (x1 x2 : Option Dt) (L : List An) (x4 x5 x6 x7 x8 x9 : Option Dt) : Gm :=
  [some (.ro (ns.map .int)), x1, x2, some (encU L), x4, x5, x6, x7, x8, x9]
section
variable {P : Program} {w : World} {K : PySem.W.Frag} {mg : Str → Option Value} {base : Heap} {A : Ad}
theorem ok_law (T : Txt K mg A) : FnOk P w K mg base CX0 6 A.a_law A.d_law ["script"] (SpD K S_law) := by
  refine fn_ok T.F_law sc_law (fun ds Oc Post h => by obtain ⟨_, rfl, _⟩ := h; rfl) (fun cdv AA outer s H E hr => ?_)
  refine ⟨_, (pss_cons (ps_for PassesOwn.never rfl (pi_range1 (by rfl) T.range (pa_cons (pe_callB (call_max2 rfl) (by rfl) T.max (by decide +kernel) (pa_cons pe_int (pa_cons (pe_callB (call_min2 rfl) (by rfl) T.min (by decide +kernel) (pa_cons pe_int (pa_cons (pe_callB (lenK (K := K)) (by rfl) T.len (by decide +kernel) (pa_cons (pv 0) pa_nil)) pa_nil))) pa_nil))) pa_nil)) (pg_name (i := 1) sc_law.nd rfl (.inl rfl)) (pss_cons (ps_set (i := 2) sc_law.nd rfl (.inl rfl) (pe_call (ok__law_source T) (hr.mono (by decide)) (by rfl) T.g__law_source T.F__law_source.kp (b__law_source T) .nil pass0 (pa_cons (pv 0) (pa_cons (pv 1) pa_nil))))
    (pss_cons (ps_set (i := 3) sc_law.nd rfl (.inl rfl) (pe_call (ok__law_log T) (hr.mono (by decide)) (by rfl) T.g__law_log T.F__law_log.kp (b__law_log T) .nil pass0 (pa_cons (pv 2) (pa_cons pe_int pa_nil))))
    (pss_cons (ps_for PassesOwn.never rfl (seqK (K := K) (pe_call0 (ok__law_rules T) (hr.mono (by decide)) (by rfl) T.g__law_rules T.F__law_rules.kp (b__law_rules T) .nil pass0 )) (pg_name (i := 4) sc_law.nd rfl (.inl rfl)) (pss_cons (ps_set (i := 5) sc_law.nd rfl (.inl rfl) (pe_callTy (tupleK (K := K)) (by rfl) T.tuple (by decide +kernel) (pa_cons (pe_lc (own := [("row", 9)]) rfl sc_law.nd (seqK (K := K) (pe_callN (ok_speech T) (hr.mono (by decide)) (by rfl) T.g_speech T.F_speech.kp (kb_speech T) pass0 (pa_cons (pv 3) pa_nil) (pk_cons (pv 4) pk_nil))) (blkOk_by (N := ["script", "k", "source", "log", "by", "said", "begin", "topic", "length", "row"]) (sc := defScope s_law) (by decide +kernel)) (fun _ _ _ _ _ => (pg_name (i := 9) sc_law.nd rfl (.inl rfl))) (fun _ _ _ _ _ => pts_nil) (fun _ _ _ _ _ => (pe_slice (slK (K := K)) (pv 9) po_none (po_some pe_int)))) pa_nil)))
      (pss_cons (ps_if (PW.pt (pw_or (pt_cmpR op_notBl (pe_call (ok_is_heard T) (hr.mono (by decide)) (by rfl) T.g_is_heard T.F_is_heard.kp (b_is_heard T) .nil pass0 (pa_cons (pv 5) pa_nil)) pe_bl (nomark _)) (pw_or1 (pt_cmpR (notInK (K := K) hr.units) (pv 4) (pe_call (ok_rules_for T) (hr.mono (by decide)) (by rfl) T.g_rules_for T.F_rules_for.kp (b_rules_for T) .nil pass0 (pa_cons (pv 3) (pa_cons (pv 5) pa_nil))) (by rfl))))) (pss_one (ps_ret pe_bl)) pss_nil)
      (pss_one (ps_if (PW.pt (pw_or (pt_cmpR (eqK (K := K) hr.units) (pv 5) (pe_tup pa_nil) (nomark _)) (pw_or1 (pt_cmpR op_le (pe_ix (ixK (K := K)) (pe_ix (ixK (K := K)) (pv 5) (pe_un un_neg pe_int) (fun _ _ => rfl)) pe_int (fun _ _ => rfl)) pe_int (nomark _))))) (pss_cons (ps_if (PW.pt (pw_or (pt_cmpR op_notBl (pe_call (ok_is_log T) (hr.mono (by decide)) (by rfl) T.g_is_log T.F_is_log.kp (b_is_log T) .nil pass0 (pa_cons (pv 5) pa_nil)) pe_bl (nomark _)) (pw_or1 (pt_cmpR (neK (K := K) hr.units) (pe_call (ok_rules_for T) (hr.mono (by decide)) (by rfl) T.g_rules_for T.F_rules_for.kp (b_rules_for T) .nil pass0 (pa_cons (pv 5) (pa_cons (pv 5) pa_nil))) (pe_call0 (ok__law_rules T) (hr.mono (by decide)) (by rfl) T.g__law_rules T.F__law_rules.kp (b__law_rules T) .nil pass0 ) (nomark _))))) (pss_one (ps_ret pe_bl)) pss_nil)
        (pss_one (ps_if (pt_cmpR (neK (K := K) hr.units) (pe_call (ok_fewest_added T) (hr.mono (by decide)) (by rfl) T.g_fewest_added T.F_fewest_added.kp (b_fewest_added T) .nil pass0 (pa_cons (pv 5) (pa_cons (pv 5) pa_nil))) pe_int (nomark _)) (pss_one (ps_ret pe_bl)) pss_nil))) pss_nil)))))
    (pss_one (ps_if (pt_cmpR (neK (K := K) hr.units) (pv 5) (pe_tup pa_nil) (nomark _)) (pss_cons (ps_asg (pe_ix (ixK (K := K)) (pv 5) pe_int (fun _ _ => rfl)) (tupK (K := K) (pg_tup (n := 3) rfl (pgs_cons (pg_name (i := 6) sc_law.nd rfl (.inl rfl)) (pgs_cons (pg_name (i := 7) sc_law.nd rfl (.inl rfl)) (pgs_cons (pg_name (i := 8) sc_law.nd rfl (.inl rfl)) pgs_nil))))))
      (pss_cons (ps_if (pt_cmpR op_notBl (pe_call (ok_is_heard T) (hr.mono (by decide)) (by rfl) T.g_is_heard T.F_is_heard.kp (b_is_heard T) .nil pass0 (pa_cons (pe_tup (pa_cons (pe_tup (pa_cons (pv 6) (pa_cons (pv 7) (pa_cons (pv 8) pa_nil)))) (pa_cons (pe_tup (pa_cons (pe_op op_sub (pe_op (plusK (K := K)) (pv 6) (pv 8)) pe_int) (pa_cons pe_str (pa_cons pe_int pa_nil)))) pa_nil))) pa_nil)) pe_bl (nomark _)) (pss_one (ps_ret pe_bl)) pss_nil)
      (pss_one (ps_if (pt_cmpR op_notBl (pe_call (ok_is_heard T) (hr.mono (by decide)) (by rfl) T.g_is_heard T.F_is_heard.kp (b_is_heard T) .nil pass0 (pa_cons (pe_tup (pa_cons (pe_tup (pa_cons (pv 6) (pa_cons (pv 7) (pa_cons (pv 8) pa_nil)))) (pa_cons (pe_tup (pa_cons (pe_op (plusK (K := K)) (pv 6) (pv 8)) (pa_cons (pv 7) (pa_cons pe_int pa_nil)))) pa_nil))) pa_nil)) pe_bl (nomark _)) (pss_one (ps_ret pe_bl)) pss_nil)))) pss_nil))))))
  (pss_one (ps_ret (pe_cmpR op_isBl (pe_call (ok_is_heard T) (hr.mono (by decide)) (by rfl) T.g_is_heard T.F_is_heard.kp (b_is_heard T) .nil pass0 (pa_cons (pe_tup pa_nil) pa_nil)) pe_bl (nomark _))))), fun ds Oc Post h => ?_⟩
  obtain ⟨ns, rfl, rfl, hns, hp⟩ := h
  repeat walk_at "dn"
  refine sw_cut (fun Γ O => ∃ x1 x2 x3 x4 x5 x6 x7 x8 x9, Γ = [some (.ro (ns.map .int)), x1, x2, x3, x4, x5, x6, x7, x8, x9]) ?_ ?_
  · refine sw_for (iw_rng1 ?_)
    repeat walk_at "dl"
    rw [List.length_map]
    refine ⟨by omega, by omega, ?_⟩
    refine ⟨fun i Γ O => ∃ x1 x2 x3 x4 x5 x6 x7 x8 x9, Γ = [some (.ro (ns.map .int)), x1, x2, x3, x4, x5, x6, x7, x8, x9], ⟨none, none, none, none, none, none, none, none, none, rfl⟩, (fun p e => by cases e), ?_, fun Γ O h => h⟩
    rintro i d Γ O hd ⟨x1, x2, x3, x4, x5, x6, x7, x8, x9, rfl⟩
    obtain ⟨hi, rfl⟩ := rngD_get hd
    have hi2 : i ≤ 1000 := by omega
    repeat walk_at "dl"
    refine ew_call0 ?_
    repeat walk_at "dl"
    refine ⟨ns, i, by rw [Int.zero_add], hi2, fun p a b c hs => ?_⟩
    repeat walk_at "dl"
    refine ew_call ?_
    repeat walk_at "dl"
    refine ⟨[(p, src a b c)], O, .refl _, p, a, b, c, 40, rfl, rfl, hs, by decide, by decide, fun L a' b' hL hl hs' => ?_⟩
    have hV := hL.v
    have hlen := hV.len
    repeat walk_at "dn"
    refine sw_cut (fun Γ O => ∃ x1 x2 x4 x6 x7 x8 x9 r, Γ = g21 ns x1 x2 L x4 (some (encU (triplesOf r L))) x6 x7 x8 x9) ?_ ?_
    · refine sw_for (iws_lst (ew_call0 ?_))
      repeat walk_at "dl"
      refine ⟨rfl, _, rfl, ?_⟩
      refine ⟨fun j Γ O => ∃ x1 x2 x4 x5 x6 x7 x8 x9, Γ = g21 ns x1 x2 L x4 x5 x6 x7 x8 x9 ∧ (j = 0 ∨ ∃ r, x5 = some (encU (triplesOf r L))), ⟨_, _, _, _, _, _, _, _, rfl, .inl rfl⟩, (fun p e => by cases e), ?_, ?_⟩
      · rintro j d Γ O hd ⟨x1, x2, x4, x5, x6, x7, x8, x9, rfl, _⟩
        obtain ⟨r, hr3, rfl⟩ := rules3_get hd
        have hT := heard_triples (r := r) hV
        have hTl := hT.len
        have hsx : (speechOf r L).length ≤ 40 := by unfold speechOf spoken; rw [List.length_map]; exact Nat.le_trans played_fits.2 hlen
        repeat walk_at "dl"
        refine ew_lcM (α := Row) (iws_own ?_)
        repeat walk_at "dl"
        refine ew_callN (fun _ _ => rfl) ?_
        repeat walk_at "dl"
        refine ⟨rfl, rfl, [], _, .refl _, L, r, rfl, hV, hr3, fun p1 => ?_⟩
        refine ⟨p1, _, rfl, List.mem_cons_self, enc, speechOf r L, fun g => enc (⟨g.a, g.b, g.c⟩ : An), rfl, (fun p e => by cases e; exact List.mem_cons_self), by omega, fun g hg => ?_, ?_⟩
        · repeat walk_at "dl"
          rw [show (3 : Int) = ((3 : Nat) : Int) from rfl, cut_to]
          exact ⟨rfl, rfl⟩
        rw [speech_tri]
        repeat walk_at "dl"
        refine cw_tupL (.same _) ?_
        repeat walk_at "dl"
        refine ew_call0 ?_
        repeat walk_at "dl"
        refine ⟨_, 5, rfl, hT.gd, ?_⟩
        rw [show isHeard (.tup ((triplesOf r L).map (enc : An → Dt))) = true from hT.isHeard]
        repeat walk_at "dl"
        refine rw_notB ?_
        repeat walk_at "dl"
        refine or_f (by decide) ?_
        repeat walk_at "dl"
        refine ew_call0 ?_
        repeat walk_at "dl"
        refine ⟨L, triplesOf r L, rfl, hV, hT, ?_⟩
        refine rwi_E r (rules3.filter fun r' => decide (triplesOf r' L = triplesOf r L)) rfl (.same _) ?_
        have hin : r ∈ rules3.filter fun r' => decide (triplesOf r' L = triplesOf r L) := List.mem_filter.mpr ⟨by simp only [rules3, List.mem_cons, List.mem_nil_iff, or_false]; exact hr3, by simp⟩
        repeat walk_at "dl"
        refine if_f (by rw [decide_eq_true hin]; rfl) ?_
        repeat walk_at "dx"
        refine sw_if (tw_imp (Post := fun b O' => (b = true → VLog (triplesOf r L)) ∧ ∃ O1, O' = O1) ?_ ?_)
        · repeat walk_at "dl"
          refine rw_eqU (triplesOf r L) [] (.same _) (.same _) ?_
          repeat walk_at "dl"
          refine ⟨fun z => ?_, fun z => ⟨fun _ => ?_, _, rfl⟩⟩
          · have hne : triplesOf r L ≠ [] := of_decide_eq_false z
            have e := (List.dropLast_concat_getLast hne).symm
            have at1 : atI ((triplesOf r L).map (enc : An → Dt)) (-1) = some (enc ((triplesOf r L).getLast hne)) := by
              conv => lhs; rw [e]
              rw [List.map_append]
              exact atI_last _ _
            repeat walk_at "dl"
            refine rw_ixT_ at1 ?_
            repeat walk_at "dl"
            refine rw_ixT_ atI_0 ?_
            repeat walk_at "dl"
            refine ⟨fun z2 => heard_log hT fun T' y e2 => ?_, _, rfl⟩
            have ey : (triplesOf r L).getLast hne = y := by
              have := e.symm.trans e2
              have := (List.append_inj' this rfl).2
              exact List.cons.inj this |>.1
            rw [← ey]
            exact of_decide_eq_true z2
          · have e := of_decide_eq_true z
            rw [e]
            exact ⟨by decide, (fun a ha => by cases ha), .nil⟩
        · rintro b O' ⟨hb, _⟩
          refine ⟨fun z => ?_, fun z => sw_next ⟨_, _, _, _, _, _, _, _, rfl, .inr ⟨r, rfl⟩⟩⟩
          have hTV := hb z
          repeat walk_at "dl"
          refine ew_call0 ?_
          repeat walk_at "dl"
          refine ⟨_, 5, rfl, hTV.gd, ?_⟩
          rw [show isLog (.tup ((triplesOf r L).map (enc : An → Dt))) = true from hTV.isLog]
          repeat walk_at "dl"
          refine rw_notB ?_
          repeat walk_at "dl"
          refine or_f (by decide) ?_
          repeat walk_at "dl"
          refine ew_call0 ?_
          repeat walk_at "dl"
          refine ⟨triplesOf r L, triplesOf r L, rfl, hTV, hT, ?_⟩
          repeat walk_at "dl"
          refine ew_call0 ?_
          repeat walk_at "dl"
          refine ⟨rfl, ?_⟩
          have e3 : (rules3.filter fun r' => decide (triplesOf r' (triplesOf r L) = triplesOf r L)) = rules3 := List.filter_eq_self.mpr fun r' _ => decide_eq_true (self_tri hTV hT)
          refine rw_neE (rules3.filter fun r' => decide (triplesOf r' (triplesOf r L) = triplesOf r L)) rules3 (.same _) (.same _) ?_
          repeat walk_at "dl"
          refine if_f (by rw [decide_eq_true e3]; rfl) ?_
          repeat walk_at "dl"
          refine ew_call0 ?_
          repeat walk_at "dl"
          refine ⟨triplesOf r L, rfl, hT, hTV, ?_⟩
          repeat walk_at "dl"
          refine rw_neE (0 : Int) 0 (.same _) (.same _) ?_
          repeat walk_at "dl"
          refine if_f (by simp) ?_
          exact sw_next ⟨_, _, _, _, _, _, _, _, rfl, .inr ⟨r, rfl⟩⟩
      · rintro Γ O ⟨x1, x2, x4, x5, x6, x7, x8, x9, rfl, h⟩
        rcases h with h | ⟨r, rfl⟩
        · cases h
        · exact ⟨_, _, _, _, _, _, _, r, rfl⟩
    · rintro Γ O ⟨x1, x2, x4, x6, x7, x8, x9, r, rfl⟩
      have hT := heard_triples (r := r) hV
      repeat walk_at "dl"
      refine rw_neU (triplesOf r L) [] (.same _) (.same _) ?_
      repeat walk_at "dl"
      refine ⟨fun z => ?_, fun z => sw_next ⟨_, _, _, _, _, _, _, _, _, rfl⟩⟩
      have hpos : 0 < (triplesOf r L).length := by
        refine List.length_pos_iff.mpr fun e => ?_
        rw [decide_eq_true e] at z
        cases z
      have hm := List.getElem_mem hpos
      obtain ⟨y1, y2, y3, y4, y5⟩ := hT.ann _ hm
      have y6 : (triplesOf r L)[0].a ≤ 13960 := by
        obtain ⟨g, hg, e⟩ := List.mem_map.mp hm
        rw [← e]
        exact spoken_bound hV g hg
      have at0 : atI ((triplesOf r L).map (enc : An → Dt)) 0 = some (enc (triplesOf r L)[0]) := atI_map hpos
      generalize (triplesOf r L)[0] = y at y1 y2 y3 y4 y5 y6 at0
      have ta : topicS "a" = true := by decide +kernel
      repeat walk_at "dl"
      refine rw_ixT_ at0 ?_
      repeat walk_at "dl"
      refine ew_call0 ?_
      repeat walk_at "dl"
      refine ⟨encU [y, ⟨y.a + y.c - 1, "a", 1⟩], 5, rfl, gd_an (by
        intro a ha
        simp only [List.mem_cons, List.mem_nil_iff, or_false] at ha
        rcases ha with rfl | rfl
        · exact y3
        · exact ta), ?_⟩
      rw [pair_not (by show ¬ y.a + y.c ≤ y.a + y.c - 1; omega)]
      repeat walk_at "dl"
      refine rw_notB ?_
      repeat walk_at "dl"
      refine if_f (by decide) ?_
      repeat walk_at "dl"
      have hW : VHeard [y, ⟨y.a + y.c, y.b, 1⟩] := by
        refine ⟨by simp, fun a ha => ?_, ?_⟩
        · simp only [List.mem_cons, List.mem_nil_iff, or_false] at ha
          rcases ha with rfl | rfl
          · exact ⟨y1, y2, y3, y4, y5⟩
          · exact ⟨by show 0 ≤ y.a + y.c; omega, by show y.a + y.c ≤ 20000; omega, y3, by show (1 : Int) ≤ 1; omega, by show (1 : Int) ≤ 99; omega⟩
        · refine List.pairwise_cons.mpr ⟨fun b hb => ?_, List.pairwise_singleton _ _⟩
          rw [List.mem_singleton] at hb
          subst hb
          exact Int.le_refl _
      refine ew_call0 ?_
      repeat walk_at "dl"
      refine ⟨encU [y, ⟨y.a + y.c, y.b, 1⟩], 5, rfl, hW.gd, ?_⟩
      rw [hW.isHeard]
      repeat walk_at "dl"
      refine rw_notB ?_
      repeat walk_at "dl"
      refine if_f (by decide) ?_
      exact sw_next ⟨_, _, _, _, _, _, _, _, _, rfl⟩
  · rintro Γ O ⟨x1, x2, x3, x4, x5, x6, x7, x8, x9, rfl⟩
    repeat walk_at "dl"
    refine ew_call0 ?_
    repeat walk_at "dl"
    have h0 : VHeard ([] : List An) := ⟨by decide, (fun a ha => by cases ha), .nil⟩
    refine ⟨_, 5, rfl, (h0.gd : gd 5 (.tup []) = true), ?_⟩
    rw [show isHeard (.tup []) = true from h0.isHeard]
    repeat walk_at "dl"
    refine rw_isB ?_
    exact hp _
end
end DL
namespace DL
open PySem PySem.Spec PyProof.Rows L2
theorem all_mk {P : Program} {w : World} {K : PySem.W.Frag} {h : Heap} {mg : Str → Option Value} {fa : Addr} (X : K.In h) (G : h.Ns mainGlobals mg) (hfa : mg "law" = some (.ref fa))
    {od0 an0 : Option Addr} {sl0 : Array (Option Value)} {oc0 kV0 dc0 pm0 cd0 ct0 : Value} {f0 : Addr} {od1 an1 : Option Addr} {sl1 : Array (Option Value)} {oc1 kV1 dc1 pm1 cd1 ct1 : Value} {f1 : Addr} {od2 an2 : Option Addr} {sl2 : Array (Option Value)} {oc2 kV2 dc2 pm2 cd2 ct2 : Value} {f2 : Addr} {od3 an3 : Option Addr} {sl3 : Array (Option Value)} {oc3 kV3 dc3 pm3 cd3 ct3 : Value} {f3 : Addr} {od4 an4 : Option Addr} {sl4 : Array (Option Value)} {oc4 kV4 dc4 pm4 cd4 ct4 : Value} {f4 : Addr} {od5 an5 : Option Addr} {sl5 : Array (Option Value)} {oc5 kV5 dc5 pm5 cd5 ct5 : Value} {f5 : Addr} {od6 an6 : Option Addr} {sl6 : Array (Option Value)} {oc6 kV6 dc6 pm6 cd6 ct6 : Value} {f6 : Addr} {od7 an7 : Option Addr} {sl7 : Array (Option Value)} {oc7 kV7 dc7 pm7 cd7 ct7 : Value} {f7 : Addr} {od8 an8 : Option Addr} {sl8 : Array (Option Value)} {oc8 kV8 dc8 pm8 cd8 ct8 : Value} {f8 : Addr} {od9 an9 : Option Addr} {sl9 : Array (Option Value)} {oc9 kV9 dc9 pm9 cd9 ct9 : Value} {f9 : Addr} {od10 an10 : Option Addr} {sl10 : Array (Option Value)} {oc10 kV10 dc10 pm10 cd10 ct10 : Value} {f10 : Addr} {od11 an11 : Option Addr} {sl11 : Array (Option Value)} {oc11 kV11 dc11 pm11 cd11 ct11 : Value} {f11 : Addr} {od12 an12 : Option Addr} {sl12 : Array (Option Value)} {oc12 kV12 dc12 pm12 cd12 ct12 : Value} {f12 : Addr} {od13 an13 : Option Addr} {sl13 : Array (Option Value)} {oc13 kV13 dc13 pm13 cd13 ct13 : Value} {f13 : Addr} {od14 an14 : Option Addr} {sl14 : Array (Option Value)} {oc14 kV14 dc14 pm14 cd14 ct14 : Value} {f14 : Addr} {od15 an15 : Option Addr} {sl15 : Array (Option Value)} {oc15 kV15 dc15 pm15 cd15 ct15 : Value} {f15 : Addr} {od16 an16 : Option Addr} {sl16 : Array (Option Value)} {oc16 kV16 dc16 pm16 cd16 ct16 : Value} {f16 : Addr} {od17 an17 : Option Addr} {sl17 : Array (Option Value)} {oc17 kV17 dc17 pm17 cd17 ct17 : Value} {f17 : Addr} {od18 an18 : Option Addr} {sl18 : Array (Option Value)} {oc18 kV18 dc18 pm18 cd18 ct18 : Value} {f18 : Addr} {od19 an19 : Option Addr} {sl19 : Array (Option Value)} {oc19 kV19 dc19 pm19 cd19 ct19 : Value} {f19 : Addr} {od20 an20 : Option Addr} {sl20 : Array (Option Value)} {oc20 kV20 dc20 pm20 cd20 ct20 : Value} {f20 : Addr} {t0 : Tok} {r1 : Addr} {dd1 : Option Addr} {rn1 : Nat} {rs1 : Array (Option Value)} {u1_0 u1_1 u1_2 : Tok} {t2 : Tok} {t3 : Tok} {t4 : Tok} {t5 : Tok} {t6 : Tok}
    (a0 : PySem.W.nsIn K mainGlobals "is_integer" = some (some (.ref f0))) (l0 : K.lookup f0 = some ⟨oc0, od0, .func (PySem.W.fnOf "is_integer" "is_integer" (defArgs s_is_integer) (defBody s_is_integer) (defScope s_is_integer) .none kV0 dc0 pm0 an0 cd0 ct0), sl0⟩) (c0 : PySem.W.codeIn K cd0 "is_integer" = true) (k0 : PySem.W.keepIn K (.ref f0) = true)
    (a1 : PySem.W.nsIn K mainGlobals "is_topic" = some (some (.ref f1))) (l1 : K.lookup f1 = some ⟨oc1, od1, .func (PySem.W.fnOf "is_topic" "is_topic" (defArgs s_is_topic) (defBody s_is_topic) (defScope s_is_topic) .none kV1 dc1 pm1 an1 cd1 ct1), sl1⟩) (c1 : PySem.W.codeIn K cd1 "is_topic" = true) (k1 : PySem.W.keepIn K (.ref f1) = true)
    (a2 : PySem.W.nsIn K mainGlobals "is_announcement" = some (some (.ref f2))) (l2 : K.lookup f2 = some ⟨oc2, od2, .func (PySem.W.fnOf "is_announcement" "is_announcement" (defArgs s_is_announcement) (defBody s_is_announcement) (defScope s_is_announcement) .none kV2 dc2 pm2 an2 cd2 ct2), sl2⟩) (c2 : PySem.W.codeIn K cd2 "is_announcement" = true) (k2 : PySem.W.keepIn K (.ref f2) = true)
    (a3 : PySem.W.nsIn K mainGlobals "is_log" = some (some (.ref f3))) (l3 : K.lookup f3 = some ⟨oc3, od3, .func (PySem.W.fnOf "is_log" "is_log" (defArgs s_is_log) (defBody s_is_log) (defScope s_is_log) .none kV3 dc3 pm3 an3 cd3 ct3), sl3⟩) (c3 : PySem.W.codeIn K cd3 "is_log" = true) (k3 : PySem.W.keepIn K (.ref f3) = true)
    (a4 : PySem.W.nsIn K mainGlobals "require_log" = some (some (.ref f4))) (l4 : K.lookup f4 = some ⟨oc4, od4, .func (PySem.W.fnOf "require_log" "require_log" (defArgs s_require_log) (defBody s_require_log) (defScope s_require_log) .none kV4 dc4 pm4 an4 cd4 ct4), sl4⟩) (c4 : PySem.W.codeIn K cd4 "require_log" = true) (k4 : PySem.W.keepIn K (.ref f4) = true)
    (a5 : PySem.W.nsIn K mainGlobals "require_rule" = some (some (.ref f5))) (l5 : K.lookup f5 = some ⟨oc5, od5, .func (PySem.W.fnOf "require_rule" "require_rule" (defArgs s_require_rule) (defBody s_require_rule) (defScope s_require_rule) .none kV5 dc5 pm5 an5 cd5 ct5), sl5⟩) (c5 : PySem.W.codeIn K cd5 "require_rule" = true) (k5 : PySem.W.keepIn K (.ref f5) = true)
    (a6 : PySem.W.nsIn K mainGlobals "is_heard" = some (some (.ref f6))) (l6 : K.lookup f6 = some ⟨oc6, od6, .func (PySem.W.fnOf "is_heard" "is_heard" (defArgs s_is_heard) (defBody s_is_heard) (defScope s_is_heard) .none kV6 dc6 pm6 an6 cd6 ct6), sl6⟩) (c6 : PySem.W.codeIn K cd6 "is_heard" = true) (k6 : PySem.W.keepIn K (.ref f6) = true)
    (a7 : PySem.W.nsIn K mainGlobals "require_heard" = some (some (.ref f7))) (l7 : K.lookup f7 = some ⟨oc7, od7, .func (PySem.W.fnOf "require_heard" "require_heard" (defArgs s_require_heard) (defBody s_require_heard) (defScope s_require_heard) .none kV7 dc7 pm7 an7 cd7 ct7), sl7⟩) (c7 : PySem.W.codeIn K cd7 "require_heard" = true) (k7 : PySem.W.keepIn K (.ref f7) = true)
    (a8 : PySem.W.nsIn K mainGlobals "lower_bounds" = some (some (.ref f8))) (l8 : K.lookup f8 = some ⟨oc8, od8, .func (PySem.W.fnOf "lower_bounds" "lower_bounds" (defArgs s_lower_bounds) (defBody s_lower_bounds) (defScope s_lower_bounds) .none kV8 dc8 pm8 an8 cd8 ct8), sl8⟩) (c8 : PySem.W.codeIn K cd8 "lower_bounds" = true) (k8 : PySem.W.keepIn K (.ref f8) = true)
    (a9 : PySem.W.nsIn K mainGlobals "known_for" = some (some (.ref f9))) (l9 : K.lookup f9 = some ⟨oc9, od9, .func (PySem.W.fnOf "known_for" "known_for" (defArgs s_known_for) (defBody s_known_for) (defScope s_known_for) .none kV9 dc9 pm9 an9 cd9 ct9), sl9⟩) (c9 : PySem.W.codeIn K cd9 "known_for" = true) (k9 : PySem.W.keepIn K (.ref f9) = true)
    (a10 : PySem.W.nsIn K mainGlobals "fewest_added" = some (some (.ref f10))) (l10 : K.lookup f10 = some ⟨oc10, od10, .func (PySem.W.fnOf "fewest_added" "fewest_added" (defArgs s_fewest_added) (defBody s_fewest_added) (defScope s_fewest_added) .none kV10 dc10 pm10 an10 cd10 ct10), sl10⟩) (c10 : PySem.W.codeIn K cd10 "fewest_added" = true) (k10 : PySem.W.keepIn K (.ref f10) = true)
    (a11 : PySem.W.nsIn K mainGlobals "received" = some (some (.ref f11))) (l11 : K.lookup f11 = some ⟨oc11, od11, .func (PySem.W.fnOf "received" "received" (defArgs s_received) (defBody s_received) (defScope s_received) .none kV11 dc11 pm11 an11 cd11 ct11), sl11⟩) (c11 : PySem.W.codeIn K cd11 "received" = true) (k11 : PySem.W.keepIn K (.ref f11) = true)
    (a12 : PySem.W.nsIn K mainGlobals "played" = some (some (.ref f12))) (l12 : K.lookup f12 = some ⟨oc12, od12, .func (PySem.W.fnOf "played" "played" (defArgs s_played) (defBody s_played) (defScope s_played) .none kV12 dc12 pm12 an12 cd12 ct12), sl12⟩) (c12 : PySem.W.codeIn K cd12 "played" = true) (k12 : PySem.W.keepIn K (.ref f12) = true)
    (a13 : PySem.W.nsIn K mainGlobals "triples" = some (some (.ref f13))) (l13 : K.lookup f13 = some ⟨oc13, od13, .func (PySem.W.fnOf "triples" "triples" (defArgs s_triples) (defBody s_triples) (defScope s_triples) .none kV13 dc13 pm13 an13 cd13 ct13), sl13⟩) (c13 : PySem.W.codeIn K cd13 "triples" = true) (k13 : PySem.W.keepIn K (.ref f13) = true)
    (a14 : PySem.W.nsIn K mainGlobals "speech" = some (some (.ref f14))) (l14 : K.lookup f14 = some ⟨oc14, od14, .func (PySem.W.fnOf "speech" "speech" (defArgs s_speech) (defBody s_speech) (defScope s_speech) .none kV14 dc14 pm14 an14 cd14 ct14), sl14⟩) (c14 : PySem.W.codeIn K cd14 "speech" = true) (k14 : PySem.W.keepIn K (.ref f14) = true)
    (a15 : PySem.W.nsIn K mainGlobals "rules_for" = some (some (.ref f15))) (l15 : K.lookup f15 = some ⟨oc15, od15, .func (PySem.W.fnOf "rules_for" "rules_for" (defArgs s_rules_for) (defBody s_rules_for) (defScope s_rules_for) .none kV15 dc15 pm15 an15 cd15 ct15), sl15⟩) (c15 : PySem.W.codeIn K cd15 "rules_for" = true) (k15 : PySem.W.keepIn K (.ref f15) = true)
    (a16 : PySem.W.nsIn K mainGlobals "_law_source" = some (some (.ref f16))) (l16 : K.lookup f16 = some ⟨oc16, od16, .func (PySem.W.fnOf "_law_source" "_law_source" (defArgs s__law_source) (defBody s__law_source) (defScope s__law_source) .none kV16 dc16 pm16 an16 cd16 ct16), sl16⟩) (c16 : PySem.W.codeIn K cd16 "_law_source" = true) (k16 : PySem.W.keepIn K (.ref f16) = true)
    (a17 : PySem.W.nsIn K mainGlobals "_law_pick" = some (some (.ref f17))) (l17 : K.lookup f17 = some ⟨oc17, od17, .func (PySem.W.fnOf "_law_pick" "_law_pick" (defArgs s__law_pick) (defBody s__law_pick) (defScope s__law_pick) .none kV17 dc17 pm17 an17 cd17 ct17), sl17⟩) (c17 : PySem.W.codeIn K cd17 "_law_pick" = true) (k17 : PySem.W.keepIn K (.ref f17) = true)
    (a18 : PySem.W.nsIn K mainGlobals "_law_log" = some (some (.ref f18))) (l18 : K.lookup f18 = some ⟨oc18, od18, .func (PySem.W.fnOf "_law_log" "_law_log" (defArgs s__law_log) (defBody s__law_log) (defScope s__law_log) .none kV18 dc18 pm18 an18 cd18 ct18), sl18⟩) (c18 : PySem.W.codeIn K cd18 "_law_log" = true) (k18 : PySem.W.keepIn K (.ref f18) = true)
    (a19 : PySem.W.nsIn K mainGlobals "_law_rules" = some (some (.ref f19))) (l19 : K.lookup f19 = some ⟨oc19, od19, .func (PySem.W.fnOf "_law_rules" "_law_rules" (defArgs s__law_rules) (defBody s__law_rules) (defScope s__law_rules) .none kV19 dc19 pm19 an19 cd19 ct19), sl19⟩) (c19 : PySem.W.codeIn K cd19 "_law_rules" = true) (k19 : PySem.W.keepIn K (.ref f19) = true)
    (a20 : PySem.W.nsIn K mainGlobals "law" = some (some (.ref f20))) (l20 : K.lookup f20 = some ⟨oc20, od20, .func (PySem.W.fnOf "law" "law" (defArgs s_law) (defBody s_law) (defScope s_law) .none kV20 dc20 pm20 an20 cd20 ct20), sl20⟩) (c20 : PySem.W.codeIn K cd20 "law" = true) (k20 : PySem.W.keepIn K (.ref f20) = true)
    (ga0 : PySem.W.nsIn K mainGlobals "LETTERS" = some (some (.str "abcdefghijklmnopqrstuvwxyz" t0)))
    (ga1 : PySem.W.nsIn K mainGlobals "RULES" = some (some (.ref r1))) (gb1 : K.lookup r1 = some ⟨.type "tuple", dd1, .seq #[.str "none" u1_0, .str "place" u1_1, .str "end" u1_2] rn1, rs1⟩)
    (ga2 : PySem.W.nsIn K mainGlobals "MAX_LOG" = some (some (.int 40 t2)))
    (ga3 : PySem.W.nsIn K mainGlobals "MAX_TIME" = some (some (.int 10000 t3)))
    (ga4 : PySem.W.nsIn K mainGlobals "MAX_LENGTH" = some (some (.int 99 t4)))
    (ga5 : PySem.W.nsIn K mainGlobals "MAX_NAME" = some (some (.int 6 t5)))
    (ga6 : PySem.W.nsIn K mainGlobals "FAR" = some (some (.int 1000000 t6)))
    (z0 : PySem.W.nsIn K mainGlobals "len" = some none)
    (z1 : PySem.W.nsIn K mainGlobals "all" = some none)
    (z2 : PySem.W.nsIn K mainGlobals "max" = some none)
    (z3 : PySem.W.nsIn K mainGlobals "min" = some none)
    (z4 : PySem.W.nsIn K mainGlobals "isinstance" = some none)
    (z5 : PySem.W.nsIn K mainGlobals "tuple" = some none)
    (z6 : PySem.W.nsIn K mainGlobals "list" = some none)
    (z7 : PySem.W.nsIn K mainGlobals "int" = some none)
    (z8 : PySem.W.nsIn K mainGlobals "bool" = some none)
    (z9 : PySem.W.nsIn K mainGlobals "str" = some none)
    (z10 : PySem.W.nsIn K mainGlobals "range" = some none)
    (z11 : PySem.W.nsIn K mainGlobals "zip" = some none)
    (z12 : PySem.W.nsIn K mainGlobals "enumerate" = some none) :
    ∃ fd : FuncData, (∀ (s : Shared) (v : Value), BindsTo s fd ⟨[v], []⟩ [("script", v)]) ∧ ∀ base : Heap, K.In base → base.Ns mainGlobals mg → FnOk P w K mg base CX0 6 fa fd ["script"] (SpD K S_law) := by
  have e := hfa.symm.trans (PySem.W.mg_of X G a20)
  cases e
  have T : Txt K mg { a_is_integer := f0, d_is_integer := PySem.W.fnOf "is_integer" "is_integer" (defArgs s_is_integer) (defBody s_is_integer) (defScope s_is_integer) .none kV0 dc0 pm0 an0 cd0 ct0, a_is_topic := f1, d_is_topic := PySem.W.fnOf "is_topic" "is_topic" (defArgs s_is_topic) (defBody s_is_topic) (defScope s_is_topic) .none kV1 dc1 pm1 an1 cd1 ct1, a_is_announcement := f2, d_is_announcement := PySem.W.fnOf "is_announcement" "is_announcement" (defArgs s_is_announcement) (defBody s_is_announcement) (defScope s_is_announcement) .none kV2 dc2 pm2 an2 cd2 ct2, a_is_log := f3, d_is_log := PySem.W.fnOf "is_log" "is_log" (defArgs s_is_log) (defBody s_is_log) (defScope s_is_log) .none kV3 dc3 pm3 an3 cd3 ct3, a_require_log := f4, d_require_log := PySem.W.fnOf "require_log" "require_log" (defArgs s_require_log) (defBody s_require_log) (defScope s_require_log) .none kV4 dc4 pm4 an4 cd4 ct4, a_require_rule := f5, d_require_rule := PySem.W.fnOf "require_rule" "require_rule" (defArgs s_require_rule) (defBody s_require_rule) (defScope s_require_rule) .none kV5 dc5 pm5 an5 cd5 ct5, a_is_heard := f6, d_is_heard := PySem.W.fnOf "is_heard" "is_heard" (defArgs s_is_heard) (defBody s_is_heard) (defScope s_is_heard) .none kV6 dc6 pm6 an6 cd6 ct6, a_require_heard := f7, d_require_heard := PySem.W.fnOf "require_heard" "require_heard" (defArgs s_require_heard) (defBody s_require_heard) (defScope s_require_heard) .none kV7 dc7 pm7 an7 cd7 ct7, a_lower_bounds := f8, d_lower_bounds := PySem.W.fnOf "lower_bounds" "lower_bounds" (defArgs s_lower_bounds) (defBody s_lower_bounds) (defScope s_lower_bounds) .none kV8 dc8 pm8 an8 cd8 ct8, a_known_for := f9, d_known_for := PySem.W.fnOf "known_for" "known_for" (defArgs s_known_for) (defBody s_known_for) (defScope s_known_for) .none kV9 dc9 pm9 an9 cd9 ct9, a_fewest_added := f10, d_fewest_added := PySem.W.fnOf "fewest_added" "fewest_added" (defArgs s_fewest_added) (defBody s_fewest_added) (defScope s_fewest_added) .none kV10 dc10 pm10 an10 cd10 ct10, a_received := f11, d_received := PySem.W.fnOf "received" "received" (defArgs s_received) (defBody s_received) (defScope s_received) .none kV11 dc11 pm11 an11 cd11 ct11, a_played := f12, d_played := PySem.W.fnOf "played" "played" (defArgs s_played) (defBody s_played) (defScope s_played) .none kV12 dc12 pm12 an12 cd12 ct12, a_triples := f13, d_triples := PySem.W.fnOf "triples" "triples" (defArgs s_triples) (defBody s_triples) (defScope s_triples) .none kV13 dc13 pm13 an13 cd13 ct13, a_speech := f14, d_speech := PySem.W.fnOf "speech" "speech" (defArgs s_speech) (defBody s_speech) (defScope s_speech) .none kV14 dc14 pm14 an14 cd14 ct14, a_rules_for := f15, d_rules_for := PySem.W.fnOf "rules_for" "rules_for" (defArgs s_rules_for) (defBody s_rules_for) (defScope s_rules_for) .none kV15 dc15 pm15 an15 cd15 ct15, a__law_source := f16, d__law_source := PySem.W.fnOf "_law_source" "_law_source" (defArgs s__law_source) (defBody s__law_source) (defScope s__law_source) .none kV16 dc16 pm16 an16 cd16 ct16, a__law_pick := f17, d__law_pick := PySem.W.fnOf "_law_pick" "_law_pick" (defArgs s__law_pick) (defBody s__law_pick) (defScope s__law_pick) .none kV17 dc17 pm17 an17 cd17 ct17, a__law_log := f18, d__law_log := PySem.W.fnOf "_law_log" "_law_log" (defArgs s__law_log) (defBody s__law_log) (defScope s__law_log) .none kV18 dc18 pm18 an18 cd18 ct18, a__law_rules := f19, d__law_rules := PySem.W.fnOf "_law_rules" "_law_rules" (defArgs s__law_rules) (defBody s__law_rules) (defScope s__law_rules) .none kV19 dc19 pm19 an19 cd19 ct19, a_law := fa, d_law := PySem.W.fnOf "law" "law" (defArgs s_law) (defBody s_law) (defScope s_law) .none kV20 dc20 pm20 an20 cd20 ct20, t_LETTERS := t0, a_RULES := r1, t_MAX_LOG := t2, t_MAX_TIME := t3, t_MAX_LENGTH := t4, t_MAX_NAME := t5, t_FAR := t6 } := { F_is_integer := fun_mk (st := s_is_integer) l0 c0 k0, g_is_integer := PySem.W.mg_of X G a0, F_is_topic := fun_mk (st := s_is_topic) l1 c1 k1, g_is_topic := PySem.W.mg_of X G a1, F_is_announcement := fun_mk (st := s_is_announcement) l2 c2 k2, g_is_announcement := PySem.W.mg_of X G a2, F_is_log := fun_mk (st := s_is_log) l3 c3 k3, g_is_log := PySem.W.mg_of X G a3, F_require_log := fun_mk (st := s_require_log) l4 c4 k4, g_require_log := PySem.W.mg_of X G a4, F_require_rule := fun_mk (st := s_require_rule) l5 c5 k5, g_require_rule := PySem.W.mg_of X G a5, F_is_heard := fun_mk (st := s_is_heard) l6 c6 k6, g_is_heard := PySem.W.mg_of X G a6, F_require_heard := fun_mk (st := s_require_heard) l7 c7 k7, g_require_heard := PySem.W.mg_of X G a7, F_lower_bounds := fun_mk (st := s_lower_bounds) l8 c8 k8, g_lower_bounds := PySem.W.mg_of X G a8, F_known_for := fun_mk (st := s_known_for) l9 c9 k9, g_known_for := PySem.W.mg_of X G a9, F_fewest_added := fun_mk (st := s_fewest_added) l10 c10 k10, g_fewest_added := PySem.W.mg_of X G a10, F_received := fun_mk (st := s_received) l11 c11 k11, g_received := PySem.W.mg_of X G a11, F_played := fun_mk (st := s_played) l12 c12 k12, g_played := PySem.W.mg_of X G a12, F_triples := fun_mk (st := s_triples) l13 c13 k13, g_triples := PySem.W.mg_of X G a13, F_speech := fun_mk (st := s_speech) l14 c14 k14, g_speech := PySem.W.mg_of X G a14, F_rules_for := fun_mk (st := s_rules_for) l15 c15 k15, g_rules_for := PySem.W.mg_of X G a15, F__law_source := fun_mk (st := s__law_source) l16 c16 k16, g__law_source := PySem.W.mg_of X G a16, F__law_pick := fun_mk (st := s__law_pick) l17 c17 k17, g__law_pick := PySem.W.mg_of X G a17, F__law_log := fun_mk (st := s__law_log) l18 c18 k18, g__law_log := PySem.W.mg_of X G a18, F__law_rules := fun_mk (st := s__law_rules) l19 c19 k19, g__law_rules := PySem.W.mg_of X G a19, F_law := fun_mk (st := s_law) l20 c20 k20, g_law := PySem.W.mg_of X G a20, g_LETTERS := PySem.W.mg_of X G ga0, g_RULES := PySem.W.mg_of X G ga1, c_RULES := fun H => .inr ⟨_, _, _, gb1, rfl, rfl, (show 3 ≤ sizeLine by decide), .cons ⟨_, rfl⟩ (.cons ⟨_, rfl⟩ (.cons ⟨_, rfl⟩ (.nil)))⟩, g_MAX_LOG := PySem.W.mg_of X G ga2, g_MAX_TIME := PySem.W.mg_of X G ga3, g_MAX_LENGTH := PySem.W.mg_of X G ga4, g_MAX_NAME := PySem.W.mg_of X G ga5, g_FAR := PySem.W.mg_of X G ga6, len := PySem.W.mg_none_of X G z0, all := PySem.W.mg_none_of X G z1, max := PySem.W.mg_none_of X G z2, min := PySem.W.mg_none_of X G z3, isinstance := PySem.W.mg_none_of X G z4, tuple := PySem.W.mg_none_of X G z5, list := PySem.W.mg_none_of X G z6, int := PySem.W.mg_none_of X G z7, bool := PySem.W.mg_none_of X G z8, str := PySem.W.mg_none_of X G z9, range := PySem.W.mg_none_of X G z10, zip := PySem.W.mg_none_of X G z11, enumerate := PySem.W.mg_none_of X G z12 }
  exact ⟨_, fun s v => .of_eq rfl, fun base _ _ => ok_law T⟩
end DL
open PySem PySem.W PyProof.Rows
set_option maxHeartbeats 0 in
theorem PySem.Challenge.cw_spokenline_k21_whole_what_is_heard_holds : PySem.Challenge.rw_spokenline_k21_whole_what_is_heard.Holds := by
  w_on; o_law; k_head; (case hw => w_witness2)
  k_fill
  refine L2.walk_of (l := PySem.Challenge.rw_spokenline_k21_whole_what_is_heard) (n := 63) (k := 6) (x := "script") (CX := fun _ => L2.CX0) (sp := fun w => DL.SpD _ DL.S_law) rfl (by decide) rfl ⟨rfl, by decide, by decide⟩ (fun w h Y => PySem.W.kIn_of Y) ?F (fun _ H a ns hl _ hS => DL.law_end hl hS) (fun _ _ _ _ _ h => h)
  case F =>
    intro w mg fa h KX G hmg
    refine' DL.all_mk KX G hmg ?a0 ?l0 ?c0 ?k0 ?a1 ?l1 ?c1 ?k1 ?a2 ?l2 ?c2 ?k2 ?a3 ?l3 ?c3 ?k3 ?a4 ?l4 ?c4 ?k4 ?a5 ?l5 ?c5 ?k5 ?a6 ?l6 ?c6 ?k6 ?a7 ?l7 ?c7 ?k7 ?a8 ?l8 ?c8 ?k8 ?a9 ?l9 ?c9 ?k9 ?a10 ?l10 ?c10 ?k10 ?a11 ?l11 ?c11 ?k11 ?a12 ?l12 ?c12 ?k12 ?a13 ?l13 ?c13 ?k13 ?a14 ?l14 ?c14 ?k14 ?a15 ?l15 ?c15 ?k15 ?a16 ?l16 ?c16 ?k16 ?a17 ?l17 ?c17 ?k17 ?a18 ?l18 ?c18 ?k18 ?a19 ?l19 ?c19 ?k19 ?a20 ?l20 ?c20 ?k20 ?ga0 ?ga1 ?gb1 ?ga2 ?ga3 ?ga4 ?ga5 ?ga6 ?z0 ?z1 ?z2 ?z3 ?z4 ?z5 ?z6 ?z7 ?z8 ?z9 ?z10 ?z11 ?z12
    (case a0 => k_is); (case l0 => k_is); (case c0 => k_is); (case k0 => k_is); (case a1 => k_is); (case l1 => k_is); (case c1 => k_is); (case k1 => k_is); (case a2 => k_is); (case l2 => k_is); (case c2 => k_is); (case k2 => k_is); (case a3 => k_is); (case l3 => k_is); (case c3 => k_is); (case k3 => k_is); (case a4 => k_is); (case l4 => k_is); (case c4 => k_is); (case k4 => k_is); (case a5 => k_is); (case l5 => k_is); (case c5 => k_is); (case k5 => k_is); (case a6 => k_is); (case l6 => k_is); (case c6 => k_is); (case k6 => k_is); (case a7 => k_is); (case l7 => k_is); (case c7 => k_is); (case k7 => k_is); (case a8 => k_is); (case l8 => k_is); (case c8 => k_is); (case k8 => k_is); (case a9 => k_is); (case l9 => k_is); (case c9 => k_is); (case k9 => k_is); (case a10 => k_is); (case l10 => k_is); (case c10 => k_is); (case k10 => k_is); (case a11 => k_is); (case l11 => k_is); (case c11 => k_is); (case k11 => k_is); (case a12 => k_is); (case l12 => k_is); (case c12 => k_is); (case k12 => k_is); (case a13 => k_is); (case l13 => k_is); (case c13 => k_is); (case k13 => k_is); (case a14 => k_is); (case l14 => k_is); (case c14 => k_is); (case k14 => k_is); (case a15 => k_is); (case l15 => k_is); (case c15 => k_is); (case k15 => k_is); (case a16 => k_is); (case l16 => k_is); (case c16 => k_is); (case k16 => k_is); (case a17 => k_is); (case l17 => k_is); (case c17 => k_is); (case k17 => k_is); (case a18 => k_is); (case l18 => k_is); (case c18 => k_is); (case k18 => k_is); (case a19 => k_is); (case l19 => k_is); (case c19 => k_is); (case k19 => k_is); (case a20 => k_is); (case l20 => k_is); (case c20 => k_is); (case k20 => k_is); (case ga0 => k_is); (case ga1 => k_is); (case gb1 => k_is); (case ga2 => k_is); (case ga3 => k_is); (case ga4 => k_is); (case ga5 => k_is); (case ga6 => k_is); (case z0 => k_is); (case z1 => k_is); (case z2 => k_is); (case z3 => k_is); (case z4 => k_is); (case z5 => k_is); (case z6 => k_is); (case z7 => k_is); (case z8 => k_is); (case z9 => k_is); (case z10 => k_is); (case z11 => k_is); (case z12 => k_is)
