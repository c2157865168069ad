import PyProof.Rows.All
import Wide.All
import OpenK.AllK
import Wide.FinOn
import KE.KStateDown
import HandS.ForMost
import HandS.Defaults
import HandS.MakeKwOnly
import HandS.IsInst
import HandS.Deep
import HandS.Strs
import HandS.Conv
import HandS.Walk
import HandS.Zip
import HandS.OwnEq
import HandS.Evl
import HandS.Head0
import HandS.Head1
import HandS.Head2
import HandS.HeadEnd
import HandS.HeadHook1
import HandS.HeadHook2
import PySem.Challenge.RW_liftedladders_k80_whole_books_alike
import KE.KDictKeyed
import KE.KDictDisplayH
import HandS.More
set_option Elab.async false
set_option linter.all false
set_option maxRecDepth 100000
set_option maxHeartbeats 0
namespace Tw
open PySem L2
/-! ### the text by places -/
def top (i : Nat) : Stmt := PySem.Challenge.pw_liftedladders_k80_whole_books_alike.main.body.getD i (.Pass ⟨0, 0, 0, 0⟩)
abbrev s_is_integer : Stmt := top 8
abbrev s_is_whole : Stmt := top 9
abbrev s_is_entry : Stmt := top 15
abbrev s_is_table_row : Stmt := top 16
abbrev s_is_table : Stmt := top 17
abbrev s_row_at : Stmt := top 18
abbrev s_is_result : Stmt := top 19
abbrev s_b_init : Stmt := inClass (top 20) 0
abbrev s_b_len : Stmt := inClass (top 20) 1
abbrev s_b_contains : Stmt := inClass (top 20) 3
abbrev s_b_last_phase : Stmt := inClass (top 20) 7
abbrev s_b_places : Stmt := inClass (top 20) 8
abbrev s_b_start : Stmt := inClass (top 20) 9
abbrev s_b_moved : Stmt := inClass (top 20) 10
abbrev s_b_game : Stmt := inClass (top 20) 11
abbrev s_t_init : Stmt := inClass (top 23) 0
abbrev s_t_look_at : Stmt := inClass (top 23) 1
abbrev s_t_take : Stmt := inClass (top 23) 2
abbrev s_t_many_games : Stmt := inClass (top 23) 3
abbrev s_t_put_games : Stmt := inClass (top 23) 4
abbrev s_t_put_game : Stmt := inClass (top 23) 5
abbrev s_check_rating : Stmt := top 24
abbrev s_are_alike : Stmt := top 25
abbrev s_first_unlike : Stmt := top 26
abbrev s_l_pool : Stmt := top 28
abbrev s_l_draw : Stmt := top 29
abbrev s_l_pick : Stmt := top 30
abbrev s_l_entry : Stmt := top 31
abbrev s_l_model : Stmt := top 32
abbrev s_l_made : Stmt := top 33
abbrev s_l_cut : Stmt := top 35
abbrev s_l_one : Stmt := top 36
abbrev s_l_game : Stmt := top 37
abbrev s_l_fault : Stmt := top 38
abbrev s_l_look : Stmt := top 39
abbrev s_l_shown : Stmt := top 40
abbrev s_l_other : Stmt := top 41
abbrev s_law : Stmt := top 42
end Tw
/-! The mathematics: books, games, pairs of places, what the law asks. Core Lean alone. -/
namespace Tw
/-- a place: rating, phase; a pair: one player's places in both books -/
abbrev Pl : Type := Int × Int
abbrev Pr : Type := Pl × Pl
inductive Res where
  | up | dr | lo
  deriving DecidableEq
def allR : List Res := [.up, .dr, .lo]
/-- a row of a table: its border, its entries -/
structure Row where
  b : Int
  e : Res → Option (Int × Int)
structure Bk where
  low : Int
  high : Int
  rows : List Row
  fresh : Int
  times : Int
  bonus : Int
def lastPh (m : Bk) : Int := if m.fresh > 0 then m.fresh else if m.bonus > 0 then 1 else 0
/-- an entry's changes are within -9 .. 9 -/
def entOk : Option (Int × Int) → Prop
  | none => True
  | some c => -9 ≤ c.1 ∧ c.1 ≤ 9 ∧ -9 ≤ c.2 ∧ c.2 ≤ 9
structure Row.Ok (r : Row) : Prop where
  b0 : 0 ≤ r.b
  b1 : r.b ≤ 23
  e : ∀ x, entOk (r.e x)
/-- borders ascend -/
def Asc : List Row → Prop
  | [] => True
  | [_] => True
  | a :: b :: r => a.b < b.b ∧ Asc (b :: r)
structure Bk.Ok (m : Bk) : Prop where
  l0 : 0 ≤ m.low
  lh : m.low ≤ m.high
  h1 : m.high ≤ 23
  hl : m.high ≤ m.low + 4
  n6 : m.rows.length ≤ 6
  first : ∃ r rs, m.rows = r :: rs ∧ r.b = 0
  asc : Asc m.rows
  rows : ∀ r ∈ m.rows, r.Ok
  f0 : 0 ≤ m.fresh
  f2 : m.fresh ≤ 2
  t1 : 1 ≤ m.times
  t3 : m.times ≤ 3
  tf : m.fresh = 0 → m.times = 1
  o0 : 0 ≤ m.bonus
  o5 : m.bonus ≤ 5
  of : 0 < m.fresh → m.bonus = 0
def rowAt (rows : List Row) (d : Int) : Option Row := (rows.filter fun r => decide (r.b ≤ d)).getLast?
def clamp (m : Bk) (x : Int) : Int :=
  let y := if x > m.low then x else m.low
  if y < m.high then y else m.high
def moved (m : Bk) (p : Pl) (c : Int) (w : Bool) : Pl :=
  if m.fresh > 0 then (clamp m (p.1 + (if p.2 > 0 then c * m.times else c)), if p.2 - 1 > 0 then p.2 - 1 else 0)
  else (clamp m (p.1 + (if w = true ∧ p.2 > 0 then c + m.bonus else c)), if w = true ∧ m.bonus > 0 then 1 else 0)
def gm (m : Bk) (u l : Pl) (r : Res) : Option (Pl × Pl) :=
  match rowAt m.rows (u.1 - l.1) with
  | none => none
  | some row => (row.e r).map fun c => (moved m u c.1 (decide (r = .up)), moved m l c.2 (decide (r = .lo)))
/-- a place of a book -/
structure OkPl (m : Bk) (p : Pl) : Prop where
  r0 : m.low ≤ p.1
  r1 : p.1 ≤ m.high
  p0 : 0 ≤ p.2
  p1 : p.2 ≤ lastPh m
/-- a game of two pairs in both books: none: unlike; some none: it counts in none; the pairs behind it -/
def out (m n : Bk) (u l : Pr) (r : Res) : Option (Option (Pr × Pr)) :=
  match gm m u.1 l.1 r, gm n u.2 l.2 r with
  | none, none => some none
  | some a, some b => if a.1.1 = b.1.1 ∧ a.2.1 = b.2.1 then some (some ((a.1, b.1), (a.2, b.2))) else none
  | _, _ => none
def startP (m n : Bk) (r0 : Int) : Pr := ((r0, m.fresh), (r0, n.fresh))
inductive Reach (m n : Bk) (r0 : Int) : Pr → Prop where
  | start : Reach m n r0 (startP m n r0)
  | one {u l a b : Pr} {r : Res} : Reach m n r0 u → Reach m n r0 l → l.1.1 ≤ u.1.1 → out m n u l r = some (some (a, b)) → Reach m n r0 a
  | two {u l a b : Pr} {r : Res} : Reach m n r0 u → Reach m n r0 l → l.1.1 ≤ u.1.1 → out m n u l r = some (some (a, b)) → Reach m n r0 b
/-- no game tells the books apart -/
def NoFault (m n : Bk) (r0 : Int) : Prop := ∀ u l r, Reach m n r0 u → Reach m n r0 l → l.1.1 ≤ u.1.1 → out m n u l r ≠ none
/-! ### the program's search -/
/-- where a pair comes from: the upper pair, the lower one, the result, which of the two -/
abbrev Src : Type := Pr × Pr × Res × Int
/-- the pairs with their sources, the fault (counts: true, ratings: false) -/
structure TS where
  es : List (Pr × Option Src)
  fault : Option (Pr × Pr × Res × Bool)
def TS.keys (s : TS) : List Pr := s.es.map (·.1)
def addF (s : TS) (p : Pr) (src : Src) : TS := if p ∈ s.keys then s else { s with es := s.es ++ [(p, some src)] }
def takeF (m n : Bk) (s : TS) (u l : Pr) (r : Res) : TS :=
  match gm m u.1 l.1 r, gm n u.2 l.2 r with
  | none, none => s
  | some a, some b => if a.1.1 = b.1.1 ∧ a.2.1 = b.2.1 then addF (addF s (a.1, b.1) (u, l, r, 0)) (a.2, b.2) (u, l, r, 1) else { s with fault := some (u, l, r, false) }
  | _, _ => { s with fault := some (u, l, r, true) }
def stepR (m n : Bk) (u l : Pr) (s : TS) (r : Res) : TS := if s.fault = none then takeF m n s u l r else s
def step3 (m n : Bk) (s : TS) (u l : Pr) : TS := if l.1.1 ≤ u.1.1 then allR.foldl (stepR m n u l) s else s
def TS.nth (s : TS) (i : Nat) : Pr := ((s.es[i]?).map (·.1)).getD ((0, 0), (0, 0))
def stepI (m n : Bk) (at_ : Nat) (s : TS) (i : Nat) : TS := step3 m n (step3 m n s (s.nth at_) (s.nth i)) (s.nth i) (s.nth at_)
def lookF (m n : Bk) (s : TS) (at_ k : Nat) : TS := (List.range k).foldl (stepI m n at_) s
def startS (m n : Bk) (r0 : Int) : TS := ⟨[(startP m n r0, none)], none⟩
end Tw
/-! Rules that the layer lacks: `in` by an own __contains__, len by an own __len__, dicts keyed by pairs of pairs. -/
namespace Tw
open PySem PySem.Spec PyProof.Rows L2

/-! ### places, pairs of places, as data -/
def dPl (a : Pl) : PyData := .tuple [.int a.1, .int a.2]
def dPr (q : Pr) : PyData := .tuple [dPl q.1, dPl q.2]
def nk (q : Pr) : NestedKey := .tup [.tup [.num q.1.1, .num q.1.2], .tup [.num q.2.1, .num q.2.2]]
theorem nk_inj {p q : Pr} (h : nk p = nk q) : p = q := by
  obtain ⟨⟨a, b⟩, ⟨c, d⟩⟩ := p
  obtain ⟨⟨e, f⟩, ⟨g, i⟩⟩ := q
  simp only [nk, NestedKey.tup.injEq, List.cons.injEq, NestedKey.num.injEq, and_true] at h
  obtain ⟨⟨h1, h2⟩, h3, h4⟩ := h
  subst h1; subst h2; subst h3; subst h4; rfl

section
variable {K : PySem.W.Frag} {H H' : Hp} {v : V}
theorem dp_int {i : Int} (h : Dp K H v (.int i)) : v = .int i := by cases h; rfl
theorem dp_str {x : Str} (h : Dp K H v (.str x)) : v = .str x := by cases h; rfl
theorem dp_bl {b : Bool} (h : Dp K H v (.bool b)) : v = .bl b := by cases h; rfl
theorem dp_non (h : Dp K H v .none) : v = .non := by cases h; rfl
theorem dp_tup {ds : List PyData} (h : Dp K H v (.tuple ds)) : ∃ a xs, v = .ref a ∧ SqT K H a xs ∧ DpAll K H xs ds := by
  cases h with
  | tup hs ha => exact ⟨_, _, rfl, hs, ha⟩
theorem dp_lst {ds : List PyData} (h : Dp K H v (.list ds)) : ∃ a xs, v = .ref a ∧ SqL K H a xs ∧ DpAll K H xs ds := by
  cases h with
  | lst hs ha => exact ⟨_, _, rfl, hs, ha⟩
theorem dp_nil {vs : List V} (h : DpAll K H vs []) : vs = [] := by cases h; rfl
theorem dp_cons {vs : List V} {d : PyData} {ds : List PyData} (h : DpAll K H vs (d :: ds)) : ∃ x r, vs = x :: r ∧ Dp K H x d ∧ DpAll K H r ds := by
  cases h with
  | cons h1 h2 => exact ⟨_, _, rfl, h1, h2⟩
theorem dp_pl {a : Pl} (h : Dp K H v (dPl a)) : ∃ q, v = .ref q ∧ SqT K H q [.int a.1, .int a.2] := by
  obtain ⟨q, xs, e, hs, ha⟩ := dp_tup h
  obtain ⟨x, r, rfl, h1, h2⟩ := dp_cons ha
  obtain ⟨y, r2, rfl, h3, h4⟩ := dp_cons h2
  cases dp_nil h4
  cases dp_int h1
  cases dp_int h3
  exact ⟨q, e, hs⟩
theorem pl_dp {a : Pl} {q : Addr} (h : SqT K H q [.int a.1, .int a.2]) : Dp K H (.ref q) (dPl a) := .tup h (.cons (.int _) (.cons (.int _) .nil))
theorem dp_pr {q : Pr} (h : Dp K H v (dPr q)) : ∃ p x y, v = .ref p ∧ SqT K H p [x, y] ∧ Dp K H x (dPl q.1) ∧ Dp K H y (dPl q.2) := by
  obtain ⟨p, xs, e, hs, ha⟩ := dp_tup h
  obtain ⟨x, r, rfl, h1, h2⟩ := dp_cons ha
  obtain ⟨y, r2, rfl, h3, h4⟩ := dp_cons h2
  cases dp_nil h4
  exact ⟨p, x, y, e, hs, h1, h3⟩
theorem pr_dp {q : Pr} {p : Addr} {x y : V} (h : SqT K H p [x, y]) (h1 : Dp K H x (dPl q.1)) (h2 : Dp K H y (dPl q.2)) : Dp K H (.ref p) (dPr q) := .tup h (.cons h1 (.cons h2 .nil))
end

/-! ### what stays -/
section
variable {K : PySem.W.Frag} {H H' : Hp}
/-- all that can never change: tuples, what is locked -/
def Tx (H H' : Hp) : Prop := (∀ a xs, H a = some (.tup xs) → H' a = some (.tup xs)) ∧ ∀ a o u, H a = some (.frz o u) → H' a = some (.frz o u)
theorem Tx.refl (H : Hp) : Tx H H := ⟨fun _ _ h => h, fun _ _ _ h => h⟩
theorem Tx.trans {H H1 H2 : Hp} (a : Tx H H1) (b : Tx H1 H2) : Tx H H2 := ⟨fun x xs h => b.1 x xs (a.1 x xs h), fun x o u h => b.2 x o u (a.2 x o u h)⟩
theorem Tx.sqT {a : Addr} {xs : List V} (t : Tx H H') (h : SqT K H a xs) : SqT K H' a xs := by
  rcases h with (h | ⟨o, h⟩) | h
  · exact .inl (.inl (t.1 _ _ h))
  · exact .inl (.inr ⟨o, t.2 _ _ _ h⟩)
  · exact .inr h
/-- data without lists -/
def noL : PyData → Bool
  | .list _ => false
  | .tuple ds => noLs ds
  | _ => true
where noLs : List PyData → Bool
  | [] => true
  | d :: ds => noL d && noLs ds
mutual
theorem Dp.tx (t : Tx H H') : ∀ (d : PyData) (v : V), noL d = true → Dp K H v d → Dp K H' v d
  | .none, _, _, .non => .non
  | .bool _, _, _, .bl b => .bl b
  | .int _, _, _, .int i => .int i
  | .str _, _, _, .str x => .str x
  | .list ds, v, n, h => by simp [noL] at n
  | .tuple ds, _, n, .tup hs ha => .tup (t.sqT hs) (DpAll.tx t ds _ (by simpa [noL] using n) ha)
theorem DpAll.tx (t : Tx H H') : ∀ (ds : List PyData) (vs : List V), noL.noLs ds = true → DpAll K H vs ds → DpAll K H' vs ds
  | [], _, _, .nil => .nil
  | d :: ds, _, n, .cons h1 h2 => by
    have n2 : (noL d && noL.noLs ds) = true := by simpa [noL.noLs] using n
    have n3 := Bool.and_eq_true_iff.mp n2
    exact .cons (Dp.tx t d _ n3.1 h1) (DpAll.tx t ds _ n3.2 h2)
end
theorem Dp.pl {a : Pl} {v : V} (t : Tx H H') (h : Dp K H v (dPl a)) : Dp K H' v (dPl a) := Dp.tx t _ _ (by simp [dPl, noL, noL.noLs]) h
theorem Dp.pr {q : Pr} {v : V} (t : Tx H H') (h : Dp K H v (dPr q)) : Dp K H' v (dPr q) := Dp.tx t _ _ (by simp [dPr, dPl, noL, noL.noLs]) h
/-- all that was tracked is kept -/
abbrev Ex (H H' : Hp) : Prop := ∀ a o, H a = some o → H' a = some o
theorem Ex.refl (H : Hp) : Ex H H := fun _ _ h => h
theorem Ex.trans {H H1 H2 : Hp} (a : Ex H H1) (b : Ex H1 H2) : Ex H H2 := fun x o h => b x o (a x o h)
theorem Ex.tx (e : Ex H H') : Tx H H' := ⟨fun a xs h => e a _ h, fun a o u h => e a _ h⟩
theorem Ex.new {p : Addr} {o : HO} (h : H p = none) : Ex H (upd H p o) := fun a u e => by
  rw [upd_ne (ne_of_none e h)]
  exact e
theorem Ex.mut {p : Addr} {o : HO} (e : Ex H H') (h : H p = none) : Ex H (upd H' p o) := fun a u ha => by
  rw [upd_ne (ne_of_none ha h)]
  exact e a u ha
theorem Ex.back {p : Addr} (e : Ex H H') (h : H' p = none) : H p = none := by
  cases h1 : H p with
  | none => rfl
  | some o =>
    rw [e p o h1] at h
    cases h
theorem Tx.upd {p : Addr} {o u : HO} (h : H p = some u) (n1 : ∀ xs, u ≠ .tup xs) (n2 : ∀ ob z, u ≠ .frz ob z) : Tx H (upd H p o) := by
  refine ⟨fun a xs e => ?_, fun a ob z e => ?_⟩
  · rw [upd_ne (fun q => n1 xs (by rw [q, h] at e; exact Option.some.inj e))]
    exact e
  · rw [upd_ne (fun q => n2 ob z (by rw [q, h] at e; exact Option.some.inj e))]
    exact e
mutual
theorem Dp.ex (e : Ex H H') : ∀ (d : PyData) (v : V), Dp K H v d → Dp K H' v d
  | .none, _, .non => .non
  | .bool _, _, .bl b => .bl b
  | .int _, _, .int i => .int i
  | .str _, _, .str x => .str x
  | .list ds, _, .lst hs ha => .lst (Same.seq e hs) (DpAll.ex e ds _ ha)
  | .tuple ds, _, .tup hs ha => .tup (e.tx.sqT hs) (DpAll.ex e ds _ ha)
theorem DpAll.ex (e : Ex H H') : ∀ (ds : List PyData) (vs : List V), DpAll K H vs ds → DpAll K H' vs ds
  | [], _, .nil => .nil
  | d :: ds, _, .cons h1 h2 => .cons (Dp.ex e d _ h1) (DpAll.ex e ds _ h2)
end
end

/-! ### `x in o`, `x not in o` by the class's own __contains__ -/
section
variable {X : Cx} {CX : CXT} {n : Nat} {f C : Addr} {fd : FuncData} {ps : List Str} {sp : Sp} {E : XK}
def rOwnNotIn (C : Addr) (sp : Sp) (E : XK) : R2 := fun x y H Q => ∃ a dx fs, y = .ref a ∧ H a = some (.ins C dx fs) ∧ sp [.ref a, x] H (fun r H' => ∃ b, r = .bl b ∧ Q (.bl (!b)) H') E
theorem op_ownNotIn (F : FnOk X.prog X.w X.K X.mg X.base CX n f fd ps sp) (me : Meth X.K C "__contains__" f) (hr : Room n X.A) (hb : Binds X.K fd ps []) (hx : Passes CX X E) : OpR X (compareOp .NotIn) (rOwnNotIn C sp E) := by
  intro pins s σ H x y v u Q I rx ry h
  obtain ⟨a, dx, fs, rfl, ha, hsp⟩ := h
  cases (show u = Value.ref a from ry)
  obtain ⟨mA, J, _⟩ := ins_get I.hok ha
  obtain ⟨od, J, _⟩ := J.look
  obtain ⟨m, hF⟩ := I.fr
  refine PySem.W.notIn_K hF I.ok.mod.kin J me.at_ me.fn ?_
  have run := run_fn (ds := []) (dvs := []) (vs := [.ref a, x]) (us := [.ref a, v]) F hr hb .nil hx I (.cons rfl (.cons rx .nil)) hsp
  refine wpAny_mono run (fun r s' z => ?_) fun _ _ z => z
  obtain ⟨w0, H', I', rw0, b, eb, q⟩ := z
  subst eb
  cases (show r = Value.bool b from rw0)
  exact wpAny_truthy_bool ⟨.bl (!b), H', I', rfl, q⟩

/-! ### len(o) by the class's own __len__ -/
def rOwnLen (C : Addr) (sp : Sp) (E : XK) : List V → Hp → VK → Prop := fun xs H Q => ∃ a dx fs, xs = [.ref a] ∧ H a = some (.ins C dx fs) ∧ sp [.ref a] H (fun r H' => ∃ i : Int, r = .int i ∧ 0 ≤ i ∧ i < 2 ^ 63 ∧ Q (.int i) H') E
theorem call_ownLen (F : FnOk X.prog X.w X.K X.mg X.base CX n f fd ps sp) (me : Meth X.K C "__len__" f) (hr : Room (n + 1) X.A) (hb : Binds X.K fd ps []) (hx : ∀ X' : Cx, X'.stack = X.stack → X'.xe = X.xe → Passes CX X' E) : CallR X (.builtin "len") (rOwnLen C sp E) := by
  intro pins s σ H xs us Q I r h
  obtain ⟨a, dx, fs, rfl, ha, hsp⟩ := h
  obtain ⟨u, rfl, ru⟩ := vals1 r
  cases (show u = Value.ref a from ru)
  obtain ⟨mA, J, _⟩ := ins_get I.hok ha
  obtain ⟨od, J, _⟩ := J.look
  obtain ⟨m, hF⟩ := I.fr
  refine PySem.W.len_K hF I.ok.mod.kin J me.at_ me.fn ?_
  have hl := F.len _ _ _ _ hsp
  have e0 : Env0 X.prog X.w X.K X.mg X.base X.A.in1 X.stack s H := by
    have e := I.env0
    exact ⟨e.frames, e.mod, e.bs, e.bsz, e.funs, e.frf, e.hok, e.bare⟩
  have bt : BindsTo s fd ⟨[Value.ref a], []⟩ (ps.zip [Value.ref a]) := by
    have z := hb s [.ref a] I.kIn (by simpa using hl)
    simpa using z
  refine wpAny_call (codeAny_mono (F.run X.A.in1 X.stack s H ⟨[Value.ref a], []⟩ [Value.ref a] [V.ref a] _ E hr.in1 e0 bt (.cons rfl .nil) hsp) fun r s' hq => ?_)
  cases r with
  | error e => exact hx X rfl rfl pins σ H s e s' I hq
  | ok fl =>
    cases fl with
    | ret w =>
      obtain ⟨z, H', I', rz, i, ez, h0, h1, q⟩ := I.after hq
      subst ez
      obtain ⟨t, ew⟩ := (show ∃ t, w = Value.int i t from rz)
      subst ew
      exact ⟨⟨h0, h1⟩, ⟨.int i, H', I'.tok _, ⟨_, rfl⟩, q⟩⟩
    | next => exact False.elim hq
    | brk => exact False.elim hq
    | cont => exact False.elim hq
end
end Tw
/-! Dicts keyed by pairs of pairs of whole numbers. -/
namespace Tw
open PySem PySem.Spec PyProof.Rows L2

/-- an entry: the key, where its tuple stands, the value -/
abbrev NEnt : Type := Pr × Addr × V
/-- the raw entries of these -/
abbrev NRel : List NEnt → List (NestedKey × Addr × Value) → Prop := Paired fun p q => nk p.1 = q.1 ∧ p.2.1 = q.2.1 ∧ RelV p.2.2 q.2.2
/-- what is true of the dict's own object -/
def ndPhi (P : Program) (w : World) (d : Addr) (xs : List NEnt) (h : Heap) : Prop :=
  (d == sysModules) = false ∧ xs.length ≤ sizeLine ∧ (xs.map (·.1)).Nodup ∧ ∃ us, NRel xs us ∧ ∃ o es ep, h.get? d = some o ∧ o.ExactDict ∧ o.data = .dict es ep ∧ es.toList = us.map (entryOfKey (nestedKind P w))
/-- at d stands a dict with these keys and values, in order -/
def ND (P : Program) (w : World) (K : PySem.W.Frag) (H : Hp) (d : Addr) (kvs : List (Pr × V)) : Prop :=
  ∃ xs : List NEnt, kvs = xs.map (fun x => (x.1, x.2.2)) ∧ H d = some (.ext (ndPhi P w d xs)) ∧ ∀ x ∈ xs, Dp K H (.ref x.2.1) (dPr x.1)
section
variable {P : Program} {w : World} {K : PySem.W.Frag} {H H' : Hp} {d : Addr} {kvs : List (Pr × V)}
theorem ND.mono (h : ND P w K H d kvs) (t : Tx H H') (e : H' d = H d) : ND P w K H' d kvs := by
  obtain ⟨xs, e1, e2, e3⟩ := h
  exact ⟨xs, e1, e.trans e2, fun x hx => Dp.pr t (e3 x hx)⟩
theorem ND.ex (h : ND P w K H d kvs) (e : Ex H H') : ND P w K H' d kvs := by
  obtain ⟨xs, e1, e2, e3⟩ := h
  exact ⟨xs, e1, e _ _ e2, fun x hx => Dp.pr e.tx (e3 x hx)⟩
theorem ND.tracked (h : ND P w K H d kvs) : ∃ φ, H d = some (.ext φ) := by
  obtain ⟨xs, _, e2, _⟩ := h
  exact ⟨_, e2⟩
theorem ndPhi_stays {xs : List NEnt} (h1 h2 : Heap) (p : ndPhi P w d xs h1) (k : ∀ o, h1.get? d = some o → h2.get? d = some o) : ndPhi P w d xs h2 := by
  obtain ⟨a, b, c, us, r, o, es, ep, ho, z⟩ := p
  exact ⟨a, b, c, us, r, o, es, ep, k o ho, z⟩
theorem nrel_at {xs : List NEnt} {us : List (NestedKey × Addr × Value)} (r : NRel xs us) (q : Pr) : RelO (valV (xs.map fun x => (x.1, x.2.2)) q) ((atKey us (nk q)).map (·.2)) := by
  induction r with
  | nil => exact True.intro
  | @cons p u ps us h t ih =>
    obtain ⟨h1, _, h3⟩ := h
    by_cases e : p.1 = q
    · have eu : u.1 = nk q := by rw [← h1, e]
      have b : atKey (u :: us) (nk q) = some u.2 := by simp [atKey, List.find?_cons, eu]
      rw [List.map_cons, valV_pos (p := (p.1, p.2.2)) e, b]
      exact h3
    · have eu : ¬ u.1 = nk q := fun z => e (nk_inj (h1.trans z))
      have b : atKey (u :: us) (nk q) = atKey us (nk q) := by simp [atKey, List.find?_cons, eu]
      rw [List.map_cons, valV_neg (p := (p.1, p.2.2)) e, b]
      exact ih
theorem nrel_keys {xs : List NEnt} {us : List (NestedKey × Addr × Value)} (r : NRel xs us) : us.map (·.1) = (xs.map (·.1)).map nk := by
  induction r with
  | nil => rfl
  | cons h _ ih => rw [List.map_cons, List.map_cons, List.map_cons, ih, h.1]
theorem nodup_nk : ∀ {l : List Pr}, l.Nodup → (l.map nk).Nodup
  | [], _ => List.nodup_nil
  | a :: l, h => by
    have h2 := List.nodup_cons.mp h
    rw [List.map_cons, List.nodup_cons]
    refine ⟨fun m => ?_, nodup_nk h2.2⟩
    obtain ⟨b, hb, e⟩ := List.mem_map.mp m
    exact h2.1 (nk_inj e ▸ hb)
end
section
variable {X : Cx} {pins : List (Addr × Obj)} {σ : L2.St} {H : Hp} {s : Shared} {d : Addr} {kvs : List (Pr × V)} {q : Pr} {y : V} {u : Value}
/-- a pair's tuple is a key -/
theorem nk_is (I : Inv X pins σ H s) (h : Dp X.K H y (dPr q)) (r : RelV y u) : ∃ a, u = .ref a ∧ (nestedKind X.prog X.w).is s.heap (nk q) a := by
  obtain ⟨p, x1, x2, rfl, hp, h1, h2⟩ := dp_pr h
  cases (show u = Value.ref p from r)
  obtain ⟨a1, rfl, g1⟩ := dp_pl h1
  obtain ⟨a2, rfl, g2⟩ := dp_pl h2
  refine ⟨p, rfl, ?_, (by show (nk q).depth ≤ 8; simp [nk, NestedKey.depth, NestedKey.depthAll])⟩
  obtain ⟨its, rv, ⟨o, ho, hc, n, hd⟩, _⟩ := I.tuple hp
  obtain ⟨i1, rv1, ⟨o1, ho1, hc1, n1, hd1⟩, _⟩ := I.tuple g1
  obtain ⟨i2, rv2, ⟨o2, ho2, hc2, n2, hd2⟩, _⟩ := I.tuple g2
  cases rv with
  | cons ra rb =>
    cases rb with
    | cons rb rc =>
      cases rc
      cases ra
      cases rb
      cases rv1 with
      | cons r1 r2 =>
        cases r2 with
        | cons r2 r3 =>
          cases r3
          obtain ⟨t1, rfl⟩ := r1
          obtain ⟨t2, rfl⟩ := r2
          cases rv2 with
          | cons r3 r4 =>
            cases r4 with
            | cons r4 r5 =>
              cases r5
              obtain ⟨t3, rfl⟩ := r3
              obtain ⟨t4, rfl⟩ := r4
              refine NestedIs.tup ho hc hd (.cons (NestedIs.tup ho1 hc1 hd1 (.cons (.int _ _) (.cons (.int _ _) .nil))) (.cons (NestedIs.tup ho2 hc2 hd2 (.cons (.int _ _) (.cons (.int _ _) .nil))) .nil))
theorem nd_raw (I : Inv X pins σ H s) (h : ND X.prog X.w X.K H d kvs) : (d == sysModules) = false ∧ kvs.length ≤ sizeLine ∧ ∃ (xs : List NEnt) (us : List (NestedKey × Addr × Value)), kvs = xs.map (fun x => (x.1, x.2.2)) ∧ (xs.map (·.1)).Nodup ∧ H d = some (.ext (ndPhi X.prog X.w d xs)) ∧
    (∀ x ∈ xs, Dp X.K H (.ref x.2.1) (dPr x.1)) ∧ NRel xs us ∧ s.heap.DictOfH (nestedKind X.prog X.w) d us := by
  obtain ⟨xs, e1, e2, e3⟩ := h
  obtain ⟨⟨z, hl, nd, us, r, o, es, ep, ho, hx, hd, he⟩, _, _⟩ := (show ObjOk X.prog X.w H s.heap d (.ext (ndPhi X.prog X.w d xs)) from I.hok d _ e2)
  refine ⟨z, by rw [e1, List.length_map]; exact hl, xs, us, e1, nd, e2, e3, r, o, es, ep, ho, hx, hd, he, ?_, by rw [nrel_keys r]; exact nodup_nk nd⟩
  have all : ∀ {ys : List NEnt} {vs : List (NestedKey × Addr × Value)}, NRel ys vs → (∀ x ∈ ys, Dp X.K H (.ref x.2.1) (dPr x.1)) → ∀ x ∈ vs, (nestedKind X.prog X.w).is s.heap x.1 x.2.1 := by
    intro ys vs q
    induction q with
    | nil => intro _ x hx; exact nomatch hx
    | @cons p v ps vs hq t ih =>
      intro hk x hx
      rcases List.mem_cons.mp hx with e | hx
      · subst e
        obtain ⟨a, ea, ia⟩ := nk_is I (hk p List.mem_cons_self) (show RelV (V.ref p.2.1) (Value.ref p.2.1) from rfl)
        cases ea
        rw [← hq.1, ← hq.2.1]
        exact ia
      · exact ih (fun z hz => hk z (List.mem_cons_of_mem _ hz)) x hx
  exact all r e3
/-- d[q] -/
def rNGet (P : Program) (w : World) (K : PySem.W.Frag) : R2 := fun x y H Q => ∃ d kvs q v, x = .ref d ∧ ND P w K H d kvs ∧ Dp K H y (dPr q) ∧ valV kvs q = some v ∧ Q v H
theorem nd_getItem {A : Around} {E : Value → Shared → Prop} {v : V} {Q : Value → Shared → Prop} (hu : A.units + 9 < cLine) (I : Inv X pins σ H s) (h : ND X.prog X.w X.K H d kvs) (hy : Dp X.K H y (dPr q)) (ry : RelV y u) (hv : valV kvs q = some v)
    (k : ∀ w' s', Inv X pins σ H s' → RelV v w' → Q w' s') : wpAny (model X.prog X.w) A (getItem (.ref d) u) Q E s := by
  obtain ⟨z, hl, xs, us, rfl, nd, e2, e3, r, dd⟩ := nd_raw I h
  obtain ⟨a, rfl, ia⟩ := nk_is I hy ry
  have r1 := nrel_at r q
  rw [hv] at r1
  obtain ⟨w', hw, rw'⟩ := RelO.some_of r1
  obtain ⟨p, hp, hp2⟩ := Option.map_eq_some_iff.mp hw
  refine wpAny_getItem_heap (by show A.units + 1 + 8 < cLine; omega) ia dd hp ?_
  rw [hp2]
  exact k w' _ (I.tok _) rw'
theorem pe_nget {o i : Expr} {pos : Pos} {td ty : TE} (hu : X.A.units + 9 < cLine) (ho : PE X o td) (hi : PE X i ty) (hs : PlainIx i) : PE X (.Subscript o i pos) (tOp (rNGet X.prog X.w X.K) td ty) := by
  refine ⟨fun pins s σ H Q I h => ?_⟩
  refine subD_of PySem.F.slot_dict_getitem.lookup (fun a b => hs a b) (thn (ho.run pins s σ H _ I h) fun u s1 ⟨x, H1, I1, rx, q1⟩ => thn (hi.run pins s1 σ H1 _ I1 q1) fun iv s2 ⟨y, H2, I2, ry, q2⟩ => ?_)
  obtain ⟨d, kvs, q, v, rfl, hd, hy, hv, q2⟩ := q2
  cases (show u = Value.ref d from rx)
  obtain ⟨_, _, _, _, _, _, _, _, _, dd⟩ := nd_raw I2 hd
  exact ⟨dd.typeIs, nd_getItem hu I2 hd hy ry hv fun w' s3 I3 rw' => ⟨v, H2, I3, rw', q2⟩⟩
/-- q not in d -/
def rNNotIn (P : Program) (w : World) (K : PySem.W.Frag) : R2 := fun y x H Q => ∃ d kvs q, x = .ref d ∧ ND P w K H d kvs ∧ Dp K H y (dPr q) ∧ Q (.bl (!(valV kvs q).isSome)) H
theorem op_nnotin (hu : X.A.units + 9 < cLine) : OpR X (compareOp .NotIn) (rNNotIn X.prog X.w X.K) := by
  intro pins s σ H x y v u Q I rx ry h
  obtain ⟨d, kvs, q, rfl, hd, hy, k⟩ := h
  cases (show u = Value.ref d from ry)
  obtain ⟨z, hl, xs, us, rfl, nd, e2, e3, r, dd⟩ := nd_raw I hd
  obtain ⟨a, rfl, ia⟩ := nk_is I hy rx
  refine wpAny_notIn_heap (by show X.A.units + 1 + 8 < cLine; omega) ia z dd ?_
  have r1 := (nrel_at r q).isSome_eq
  rw [Option.isSome_map] at r1
  rw [← r1]
  exact ⟨.bl _, H, I.tok _, rfl, k⟩
/-- d[q] = v, q not there -/
def rNSet (P : Program) (w : World) (K : PySem.W.Frag) : V → V → V → Hp → (Hp → Prop) → Prop := fun x y v H Q => ∃ d kvs q, x = .ref d ∧ ND P w K H d kvs ∧ Dp K H y (dPr q) ∧ valV kvs q = none ∧ kvs.length < sizeLine ∧
  ∀ H', (∀ b, b ≠ d → H' b = H b) → ND P w K H' d (kvs ++ [(q, v)]) → Q H'
theorem set_nd (hu : X.A.units + 9 < cLine) : PSet X (rNSet X.prog X.w X.K) := by
  intro pins s σ H o i v ov iv u Q I ro ri rv h
  obtain ⟨d, kvs, q, rfl, hd, hy, hn, hz, k⟩ := h
  cases (show ov = Value.ref d from ro)
  obtain ⟨z, hl, xs, us, rfl, nd, e2, e3, r, dd⟩ := nd_raw I hd
  obtain ⟨a, rfl, ia⟩ := nk_is I hy ri
  have hay : i = .ref a := by
    obtain ⟨p, _, _, e, _⟩ := dp_pr hy
    subst e
    cases (show Value.ref a = Value.ref p from ri)
    rfl
  subst hay
  have hna : atKey us (nk q) = none := by
    have r1 := (nrel_at r q).isSome_eq
    rw [hn, Option.isSome_map] at r1
    exact Option.isSome_eq_false_iff.mp r1.symm |> Option.isNone_iff_eq_none.mp
  have hlen : us.length = xs.length := (Paired.length r).symm
  rw [List.length_map] at hz
  refine wpAny_setItem_heap (hsz := by omega) (by show X.A.units + 1 + 8 < cLine; omega) ia dd fun h' dd' hs => ?_
  rw [storedH_new hna] at dd'
  obtain ⟨ob, es, ep, hq, h2, h3, h4, _, h5⟩ := dd'
  have nq : q ∉ xs.map (·.1) := fun m => by
    obtain ⟨x, hx, ex⟩ := List.mem_map.mp m
    have := valV_any (κ := Pr) q (xs.map fun x => (x.1, x.2.2))
    rw [hn] at this
    have t : ((xs.map fun x => (x.1, x.2.2)).any fun kv => decide (kv.1 = q)) = true := List.any_eq_true.mpr ⟨(x.1, x.2.2), List.mem_map.mpr ⟨x, hx, rfl⟩, decide_eq_true ex⟩
    rw [t] at this
    cases this
  have new : ndPhi X.prog X.w d (xs ++ [(q, a, v)]) h' := by
    refine ⟨z, by rw [List.length_append, List.length_singleton]; omega, ?_, us ++ [(nk q, a, u)], Paired.snoc r ⟨rfl, rfl, rv⟩, ob, es, ep, hq, h2, h3, h4⟩
    rw [List.map_append, List.map_singleton, List.nodup_append]
    exact ⟨nd, by simp, fun b hb c hc e => by
      rw [List.mem_singleton] at hc
      subst hc; subst e
      exact nq hb⟩
  have mu : Mut (H d) := by rw [e2]; exact True.intro
  have I2 := I.write (x := d) (e := d) (o := .ext (ndPhi X.prog X.w d (xs ++ [(q, a, v)]))) (t' := s.toks + (nestedKind X.prog X.w).draws (nk q)) (h' := h') mu (.inl rfl) (fun b o hb e => (hs.2 b hb).trans e) ⟨ob, hq⟩ ⟨new, ⟨ob, hq⟩, fun h1 h2 p e => ndPhi_stays h1 h2 p e⟩
  refine ⟨_, I2, k _ (fun b hb => upd_ne hb) ⟨xs ++ [(q, a, v)], by simp, upd_same, fun x hx => ?_⟩⟩
  have t : Tx H (upd H d (.ext (ndPhi X.prog X.w d (xs ++ [(q, a, v)])))) := Tx.upd e2 (fun _ e => nomatch e) (fun _ _ e => nomatch e)
  rcases List.mem_append.mp hx with hx | hx
  · exact Dp.pr t (e3 x hx)
  · rw [List.mem_singleton] at hx
    subst hx
    exact Dp.pr t hy
/-- {} that is to hold such keys -/
def tNNew (P : Program) (w : World) (K : PySem.W.Frag) : TE := fun _ H Q => ∀ p H', H p = none → Ex H H' → (∀ b, b ≠ p → H' b = H b) → ND P w K H' p [] → Q (.ref p) H'
theorem nd_empty {P : Program} {w : World} {K : PySem.W.Frag} {H : Hp} {p : Addr} : ND P w K (upd H p (.ext (ndPhi P w p []))) p [] := ⟨[], rfl, upd_same, fun _ h => nomatch h⟩
theorem nd_laid (I : Inv X pins σ H s) : Inv X pins σ (upd H s.heap.objs.size (.ext (ndPhi X.prog X.w s.heap.objs.size []))) { s with heap := s.heap.push { cls := .type "dict", data := .dict #[] } } := by
  refine I.laid (a := s.heap.objs.size) (o := .ext (ndPhi X.prog X.w s.heap.objs.size [])) (t' := s.toks) (fun _ _ q => Heap.get?_push_of_some _ q) (Nat.le_refl _) ⟨⟨beq_eq_false_iff_ne.mpr (Ne.symm (Nat.ne_of_lt I.big)), Nat.zero_le _, List.nodup_nil, [], .nil, _, #[], 0, Heap.get?_push_size _ rfl, ⟨rfl, rfl, rfl⟩, rfl, rfl⟩, ⟨_, Heap.get?_push_size _ rfl⟩, fun h1 h2 p e => ndPhi_stays h1 h2 p e⟩
theorem pe_nnew {pos : Pos} : PE X (.Dict [] [] pos) (tNNew X.prog X.w X.K) := ⟨fun pins s σ H Q I h =>
  wpAny_Dict_empty ⟨.ref s.heap.objs.size, _, nd_laid I, rfl, h _ _ (I.hok.fresh (Nat.le_refl _)) (Ex.new (I.hok.fresh (Nat.le_refl _))) (fun b hb => upd_ne hb) nd_empty⟩⟩
/-- a display with such keys, its raw entries told -/
theorem disp_raw {k v : Expr} {pos : Pos} {Q : Value → Shared → Prop} (hu : X.A.units + 8 < cLine)
    (h : wpAny (model X.prog X.w) X.A (evalPairs (pairTrees [some k] [v] X.env pos)) (fun vs s1 => ∃ ps, CarriesH (nestedKind X.prog X.w) s1.heap vs ps ∧ s1.heap.DictOfH (nestedKind X.prog X.w) s.heap.objs.size [] ∧
      ∀ h' tk, h'.DictOfH (nestedKind X.prog X.w) s.heap.objs.size (storedAllH [] ps) → Heap.SameBut s.heap.objs.size s1.heap h' → Q (.ref s.heap.objs.size) { s1 with heap := h', toks := tk }) X.xe
      { s with heap := s.heap.push { cls := .type "dict", data := .dict #[] } }) : wpAny (model X.prog X.w) X.A (eval (.Dict [some k] [v] pos) X.env) Q X.xe s := by
  have e : (evalEachOpt [some k] X.env).zip ((evalEach [v] X.env).map fun v => do let x ← v; standAt pos; pure x) = (pairTrees [some k] [v] X.env pos).map fun p => (some p.1, p.2) := by rfl
  rw [arm_eval_Dict, e, dictDisplay_pairs _ (by intro z; cases z) (by show (1 : Nat) < 17; decide)]
  refine wpAny_bind (wpAny_standAt (wpAny_bind ?_))
  refine wpAny_subDictH (knd := nestedKind X.prog X.w) (Q := fun d s' => wpAny (model X.prog X.w) X.A (pure (Value.ref d)) Q X.xe s') hu (by show (1 : Nat) ≤ 15; decide) (wpAny_mono h (fun vs s1 q => ?_) fun _ _ e => e)
  obtain ⟨ps, hc, hm, hq⟩ := q
  exact ⟨ps, hc, hm, fun h' tk a b => wpAny_pure (hq h' tk a b)⟩
/-- {k: v} -/
def tNDisp (P : Program) (w : World) (K : PySem.W.Frag) (tk tv : TE) : TE := fun σ H Q => ∀ p, H p = none → tk σ (upd H p (.ext (ndPhi P w p []))) fun y H1 => tv σ H1 fun v H2 => H2 p = some (.ext (ndPhi P w p [])) ∧ ∃ q, Dp K H2 y (dPr q) ∧
  ∀ H', (∀ b, b ≠ p → H' b = H2 b) → ND P w K H' p [(q, v)] → Q (.ref p) H'
theorem pe_ndisp {k v : Expr} {pos : Pos} {tk tv : TE} (hu : X.A.units + 9 < cLine) (hk : PE X k tk) (hv : PE X v tv) : PE X (.Dict [some k] [v] pos) (tNDisp X.prog X.w X.K tk tv) := by
  refine ⟨fun pins s σ H Q I h => ?_⟩
  have hn := I.hok.fresh (Nat.le_refl s.heap.objs.size)
  have I1 := nd_laid I
  have hp := pps_cons (pos := pos) hk hv pps_nil
  refine disp_raw (by omega)
    (thn (hp.run pins _ σ _ (fun ps H2 => match ps with
      | [(y, u)] => H2 s.heap.objs.size = some (.ext (ndPhi X.prog X.w s.heap.objs.size [])) ∧ ∃ q, Dp X.K H2 y (dPr q) ∧
          ∀ H', (∀ b, b ≠ s.heap.objs.size → H' b = H2 b) → ND X.prog X.w X.K H' s.heap.objs.size [(q, u)] → Q (.ref s.heap.objs.size) H'
      | _ => False) I1 (h _ hn)) fun ws s2 ⟨ps, H2, I2, rel, z2⟩ => ?_)
  cases rel with
  | nil => exact z2.elim
  | @cons p0 w0 ps ws0 r1 r2 =>
    cases r2 with
    | cons _ _ => exact z2.elim
    | nil =>
      obtain ⟨y, v0⟩ := p0
      obtain ⟨wk, wv⟩ := w0
      obtain ⟨e0, q, hy, q2⟩ := (show H2 s.heap.objs.size = some (.ext (ndPhi X.prog X.w s.heap.objs.size [])) ∧ ∃ q, Dp X.K H2 y (dPr q) ∧
          ∀ H', (∀ b, b ≠ s.heap.objs.size → H' b = H2 b) → ND X.prog X.w X.K H' s.heap.objs.size [(q, v0)] → Q (.ref s.heap.objs.size) H' from z2)
      obtain ⟨a, ea, ia⟩ := nk_is I2 hy r1.1
      have ea2 : wk = .ref a := ea
      subst ea2
      have hay : y = .ref a := by
        obtain ⟨p, _, _, e, _⟩ := dp_pr hy
        subst e
        cases (show Value.ref a = Value.ref p from r1.1)
        rfl
      subst hay
      obtain ⟨z, hl, xs, us, ex, nd, e2, e3, r, dd⟩ := nd_raw (kvs := []) I2 ⟨[], rfl, e0, fun _ h => nomatch h⟩
      have ex2 : xs = [] := List.map_eq_nil_iff.mp ex.symm
      subst ex2
      cases r
      refine ⟨[(nk q, a, wv)], ⟨rfl, rfl, ia, trivial⟩, dd, fun h' tk dd' hs => ?_⟩
      have m1 : storedAllH ([] : List (NestedKey × Addr × Value)) [(nk q, a, wv)] = [(nk q, a, wv)] := by
        show storedH [] (nk q) a wv = _
        exact storedH_new rfl a wv
      rw [m1] at dd'
      obtain ⟨ob, es, ep, hq, h2, h3, h4, h5, h6⟩ := dd'
      have new : ndPhi X.prog X.w s.heap.objs.size [(q, a, v0)] h' := ⟨z, by show (1 : Nat) ≤ sizeLine; decide, by simp, [(nk q, a, wv)], .cons ⟨rfl, rfl, r1.2⟩ .nil, ob, es, ep, hq, h2, h3, h4⟩
      have mu : Mut (H2 s.heap.objs.size) := by rw [e0]; exact True.intro
      have I3 := I2.write (x := s.heap.objs.size) (e := s.heap.objs.size) (o := .ext (ndPhi X.prog X.w s.heap.objs.size [(q, a, v0)])) (t' := tk) (h' := h') mu (.inl rfl) (fun b o hb e => (hs.2 b hb).trans e) ⟨ob, hq⟩ ⟨new, ⟨ob, hq⟩, fun h1 h2 p e => ndPhi_stays h1 h2 p e⟩
      refine ⟨.ref s.heap.objs.size, _, I3, rfl, q2 _ (fun b hb => upd_ne hb) ⟨[(q, a, v0)], rfl, upd_same, fun x hx => ?_⟩⟩
      rw [List.mem_singleton] at hx
      subst hx
      exact Dp.pr (Tx.upd e0 (fun _ e => nomatch e) (fun _ _ e => nomatch e)) hy
end
end Tw
/-! What the top has written, in short; how a def is called; how data stand. -/
namespace Tw
open PySem PySem.Spec PyProof.Rows L2

/-! ### data -/
def Res.s : Res → Str
  | .up => "upper"
  | .dr => "draw"
  | .lo => "lower"
theorem Res.s_ne1 : ¬ (Res.s .up = Res.s .dr) := by decide +kernel
theorem Res.s_ne2 : ¬ (Res.s .up = Res.s .lo) := by decide +kernel
theorem Res.s_ne3 : ¬ (Res.s .dr = Res.s .lo) := by decide +kernel
theorem Res.s_inj : ∀ {a b : Res}, a.s = b.s → a = b
  | .up, .up, _ => rfl
  | .dr, .dr, _ => rfl
  | .lo, .lo, _ => rfl
  | .up, .dr, h => (s_ne1 h).elim
  | .up, .lo, h => (s_ne2 h).elim
  | .dr, .lo, h => (s_ne3 h).elim
  | .dr, .up, h => (s_ne1 h.symm).elim
  | .lo, .up, h => (s_ne2 h.symm).elim
  | .lo, .dr, h => (s_ne3 h.symm).elim
def dEn : Option (Int × Int) → PyData
  | none => .none
  | some c => dPl c
def dRow (r : Row) : PyData := .tuple [.int r.b, dEn (r.e .up), dEn (r.e .dr), dEn (r.e .lo)]

/-! ### what the top has written -/
abbrev CB (K : PySem.W.Frag) : Addr := He.ga K "Book"
abbrev CT (K : PySem.W.Frag) : Addr := He.ga K "Twins"
abbrev aR (K : PySem.W.Frag) : Addr := He.ga K "RESULTS"
abbrev vRes : List V := [.str "upper", .str "draw", .str "lower"]
structure Txt (K : PySem.W.Frag) (mg : Str → Option Value) : Prop where
  isinstance_ : mg "isinstance" = none
  len_ : mg "len" = none
  all_ : mg "all" = none
  zip_ : mg "zip" = none
  max_ : mg "max" = none
  min_ : mg "min" = none
  int_ : mg "int" = none
  tuple_ : mg "tuple" = none
  list_ : mg "list" = none
  range_ : mg "range" = none
  dict_ : mg "dict" = none
  bool_ : mg "bool" = none
  str_ : mg "str" = none
  most_rating : ∃ t, mg "MOST_RATING" = some (.int 23 t)
  most_places : ∃ t, mg "MOST_PLACES" = some (.int 24 t)
  most_rows : ∃ t, mg "MOST_ROWS" = some (.int 6 t)
  most_games : ∃ t, mg "MOST_GAMES" = some (.int 20000 t)
  results : mg "RESULTS" = some (.ref (aR K))
  resAt : ∀ H, SqT K H (aR K) vRes
  resTy : ∃ o, K.lookup (aR K) = some o ∧ o.cls = .type "tuple" ∧ o.dict = none
  clB : Cls K (CB K)
  clT : Cls K (CT K)
  bLow : NoAttr K (CB K) "low"
  bHigh : NoAttr K (CB K) "high"
  bTable : NoAttr K (CB K) "table"
  bFresh : NoAttr K (CB K) "fresh"
  bTimes : NoAttr K (CB K) "times"
  bBonus : NoAttr K (CB K) "bonus"
  tOne : NoAttr K (CT K) "one"
  tOther : NoAttr K (CT K) "other"
  tPairs : NoAttr K (CT K) "pairs"
  tSources : NoAttr K (CT K) "sources"
  tFault : NoAttr K (CT K) "fault"
  tMany : NoAttr K (CT K) "many_players"

/-! ### defs, methods, makers -/
/-- a def of the module as it stands -/
def Df (K : PySem.W.Frag) (mg : Str → Option Value) (x : Str) (st : Stmt) (ps : List Str) : Prop :=
  ∃ (f : Addr) (fd : FuncData), FunD K x x (defArgs st) (defBody st) (defScope st) [] [] f fd ∧ mg x = some (.ref f) ∧ Binds K fd ps []
/-- a method -/
def Dm (K : PySem.W.Frag) (C : Addr) (m qual : Str) (st : Stmt) (ps : List Str) : Prop :=
  ∃ (f : Addr) (fd : FuncData), FunD K m qual (defArgs st) (defBody st) (defScope st) [] [] f fd ∧ Meth K C m f ∧ Binds K fd ps []
structure Cal (P : Program) (w : World) (K : PySem.W.Frag) (mg : Str → Option Value) (base : Heap) (k : Nat) (x : Str) (sp : Sp) : Prop where
  ex : ∃ (f : Addr) (fd : FuncData) (ps : List Str), FnOk P w K mg base CX0 k f fd ps sp ∧ mg x = some (.ref f) ∧ PySem.W.keepIn K (.ref f) = true ∧ Binds K fd ps []
structure Met (P : Program) (w : World) (K : PySem.W.Frag) (mg : Str → Option Value) (base : Heap) (k : Nat) (C : Addr) (m : Str) (sp : Sp) : Prop where
  ex : ∃ (f : Addr) (fd : FuncData) (ps : List Str), Cls K C ∧ Meth K C m f ∧ FnOk P w K mg base CX0 k f fd ps sp ∧ Binds K fd ps []
section
variable {P : Program} {w : World} {K : PySem.W.Frag} {mg : Str → Option Value} {base : Heap} {x m qual : Str} {st : Stmt} {N ps : List Str} {k : Nat} {sp : Sp} {C : Addr}
theorem cal_mk (D : Df K mg x st ps) (S : FnScope N ps (defScope st)) (len : ∀ vs H Q E, sp vs H Q E → vs.length = ps.length)
    (hb : ∀ (f : Addr) (cdv : Value) (A : Around) (outer : List Env) (s : Shared) (H : Hp) (vs : List V) (Q : VK) (E : XK), Room k (A.deeper (envOfC x (defScope st) s.heap.objs.size f cdv)) → sp vs H Q E →
      ∃ t, PSs (cxOf CX0 P w K mg base N x (defScope st) f cdv A outer s H E).nox (defBody st) t ∧ t { nx := fun _ H' => Q .non H', rt := Q } (start N vs) H) : Cal P w K mg base (k + 1) x sp := by
  obtain ⟨f, fd, F, hm, b⟩ := D
  refine ⟨f, fd, ps, F.ok S len fun cdv A outer s H vs Q E hr h => ?_, hm, F.kp, b⟩
  obtain ⟨t, d, q⟩ := hb f cdv A outer s H vs Q E hr h
  exact ⟨t, d.nox, q⟩
theorem met_mk (c : Cls K C) (D : Dm K C m qual st ps) (S : FnScope N ps (defScope st)) (len : ∀ vs H Q E, sp vs H Q E → vs.length = ps.length)
    (hb : ∀ (f : Addr) (cdv : Value) (A : Around) (outer : List Env) (s : Shared) (H : Hp) (vs : List V) (Q : VK) (E : XK), Room k (A.deeper (envOfC qual (defScope st) s.heap.objs.size f cdv)) → sp vs H Q E →
      ∃ t, PSs (cxOf CX0 P w K mg base N qual (defScope st) f cdv A outer s H E).nox (defBody st) t ∧ t { nx := fun _ H' => Q .non H', rt := Q } (start N vs) H) : Met P w K mg base (k + 1) C m sp := by
  obtain ⟨f, fd, F, me, b⟩ := D
  refine ⟨f, fd, ps, c, me, F.ok S len fun cdv A outer s H vs Q E hr h => ?_, b⟩
  obtain ⟨t, d, q⟩ := hb f cdv A outer s H vs Q E hr h
  exact ⟨t, d.nox, q⟩
end
section
variable {X : Cx} {k j : Nat} {C : Addr} {x m : Str} {sp : Sp} {p pos apos : Pos} {e o : Expr} {es : List Expr} {ta : TE} {t : TA}
theorem pe_c (c : Cal X.prog X.w X.K X.mg X.base k x sp) (hr : Room j X.A) (hk : k ≤ j) (hg : Gl X x) (ha : PA X (e :: es) t)
    (hdb : (x == ("__debug__" : Str)) = false := by decide) (he : starEach (e :: es) X.env = (false, eval e X.env) :: starEach es X.env := by rfl) (hpl : (backTo pos (starEach es X.env)).any (·.1) = false := by rfl) :
    PE X (.Call (.Name x p) (e :: es) [] pos) (tCall sp [] E0 t) := by
  obtain ⟨f, fd, ps, F, hm, kp, b⟩ := c.ex
  exact pe_call F (hr.mono hk) hg hm kp b .nil pass0 ha hdb he hpl
theorem pe_mt {pl : Sem Bool} (c : Met X.prog X.w X.K X.mg X.base k C m sp) (hr : Room j X.A) (hk : k ≤ j) (he : PE X o ta) (ha : PA X (e :: es) t)
    (hst : starEach (e :: es) X.env = (false, eval e X.env) :: starEach es X.env := by rfl) (hpl : (backTo pos (starEach es X.env)).any (·.1) = false := by rfl)
    (ht : eval (.Call (.Attribute o m apos) (e :: es) [] pos) X.env = (do
      let ov ← eval o X.env
      standAt apos.atName
      let (f, first) ← holding [ov] (getMethod ov m pl)
      callWith pos f first (backTo pos (starEach (e :: es) X.env)) (backToKw pos (keywordEach [] X.env))) := by rfl) :
    PE X (.Call (.Attribute o m apos) (e :: es) [] pos) (tMeth C m sp [] E0 ta t) := by
  obtain ⟨f, fd, ps, hc, hm, F, b⟩ := c.ex
  exact pe_meth (pl := pl) he hc hm F (hr.mono hk) b .nil pass0 ha hst hpl ht
theorem pe_mt0 {pl : Sem Bool} (c : Met X.prog X.w X.K X.mg X.base k C m sp) (hr : Room j X.A) (hk : k ≤ j) (he : PE X o ta)
    (ht : eval (.Call (.Attribute o m apos) [] [] pos) X.env = (do
      let ov ← eval o X.env
      standAt apos.atName
      let (f, first) ← holding [ov] (getMethod ov m pl)
      callWith pos f first (backTo pos (starEach [] X.env)) (backToKw pos (keywordEach [] X.env))) := by rfl) :
    PE X (.Call (.Attribute o m apos) [] [] pos) (tMeth C m sp [] E0 ta tNil) := by
  obtain ⟨f, fd, ps, hc, hm, F, b⟩ := c.ex
  exact pe_meth0 (pl := pl) he hc hm F (hr.mono hk) b .nil pass0 ht
theorem op_ownNotIn' (c : Met X.prog X.w X.K X.mg X.base k C "__contains__" sp) (hr : Room j X.A) (hk : k ≤ j) : OpR X (compareOp .NotIn) (rOwnNotIn C sp E0) := by
  obtain ⟨f, fd, ps, hc, hm, F, b⟩ := c.ex
  exact op_ownNotIn F hm (hr.mono hk) b pass0
theorem call_ownLen' (c : Met X.prog X.w X.K X.mg X.base k C "__len__" sp) (hr : Room j X.A) (hk : k + 1 ≤ j) : CallR X (.builtin "len") (rOwnLen C sp E0) := by
  obtain ⟨f, fd, ps, hc, hm, F, b⟩ := c.ex
  exact call_ownLen F hm (hr.mono hk) b fun _ _ _ => pass0
theorem pe_globI {n : Int} (hg : Gl X x) (h : ∃ t, X.mg x = some (.int n t)) (hd : (x == ("__debug__" : Str)) = false := by decide) : PE X (.Name x pos) (tC (.int n)) := by
  obtain ⟨t, hm⟩ := h
  exact pe_glob hg hm ⟨t, rfl⟩ hd
end
theorem hu65_of {A : Around} {k : Nat} (hr : Room k A) : A.units + 65 < cLine := by have := hr.un; omega
theorem hu64_of {A : Around} {k : Nat} (hr : Room k A) : A.units + 64 < cLine := hr.units
theorem hu9_of {A : Around} {k : Nat} (hr : Room k A) : A.units + 9 < cLine := by have := hr.units; omega

/-! ### a book's instance -/
def bkF (m : Bk) (tv : V) : List (Str × V) := [("low", .int m.low), ("high", .int m.high), ("table", tv), ("fresh", .int m.fresh), ("times", .int m.times), ("bonus", .int m.bonus)]
def BookAt (K : PySem.W.Frag) (H : Hp) (b : Addr) (m : Bk) : Prop := ∃ (dx : Addr) (tv : V), H b = some (.ins (CB K) dx (bkF m tv)) ∧ Dp K H tv (.tuple (m.rows.map dRow))
theorem bk_low (m : Bk) (tv : V) : (bkF m tv).lookup ("low" : Str) = some (.int m.low) := by rfl
theorem bk_high (m : Bk) (tv : V) : (bkF m tv).lookup ("high" : Str) = some (.int m.high) := by rfl
theorem bk_table (m : Bk) (tv : V) : (bkF m tv).lookup ("table" : Str) = some tv := by rfl
theorem bk_fresh (m : Bk) (tv : V) : (bkF m tv).lookup ("fresh" : Str) = some (.int m.fresh) := by rfl
theorem bk_times (m : Bk) (tv : V) : (bkF m tv).lookup ("times" : Str) = some (.int m.times) := by rfl
theorem bk_bonus (m : Bk) (tv : V) : (bkF m tv).lookup ("bonus" : Str) = some (.int m.bonus) := by rfl
theorem bk_none (m : Bk) (tv : V) {x : Str} (h : (["low", "high", "table", "fresh", "times", "bonus"] : List Str).contains x = false) : (bkF m tv).lookup x = none := by
  have e : ∀ (ks : List Str) (fs : List (Str × V)), fs.map (·.1) = ks → ks.contains x = false → fs.lookup x = none := by
    intro ks fs
    induction fs generalizing ks with
    | nil => intro _ _; rfl
    | cons p r ih =>
      intro e1 e2
      subst e1
      rw [List.map_cons, List.contains_cons, Bool.or_eq_false_iff] at e2
      obtain ⟨a, b⟩ := p
      show (match x == a with | true => some b | false => r.lookup x) = none
      rw [show (x == a) = false from e2.1]
      exact ih _ rfl e2.2
  exact e _ _ rfl h
end Tw
namespace Tw
open PySem PySem.Spec PyProof.Rows L2
section
variable {K : PySem.W.Frag} {mg : Str → Option Value} {H H' : Hp} {b : Addr} {m : Bk} {Q : V → Prop}
theorem BookAt.ex (h : BookAt K H b m) (e : Ex H H') : BookAt K H' b m := by
  obtain ⟨dx, tv, h1, h2⟩ := h
  exact ⟨dx, tv, e _ _ h1, Dp.ex e _ _ h2⟩
theorem fB_low (T : Txt K mg) (h : BookAt K H b m) (q : Q (.int m.low)) : ∃ a C dx fs v, V.ref b = .ref a ∧ H a = some (.ins C dx fs) ∧ Cls K C ∧ NoAttr K C "low" ∧ fs.lookup ("low" : Str) = some v ∧ Q v := by
  obtain ⟨dx, tv, h1, _⟩ := h
  exact ⟨_, _, _, _, _, rfl, h1, T.clB, T.bLow, bk_low m tv, q⟩
theorem fB_high (T : Txt K mg) (h : BookAt K H b m) (q : Q (.int m.high)) : ∃ a C dx fs v, V.ref b = .ref a ∧ H a = some (.ins C dx fs) ∧ Cls K C ∧ NoAttr K C "high" ∧ fs.lookup ("high" : Str) = some v ∧ Q v := by
  obtain ⟨dx, tv, h1, _⟩ := h
  exact ⟨_, _, _, _, _, rfl, h1, T.clB, T.bHigh, bk_high m tv, q⟩
theorem fB_fresh (T : Txt K mg) (h : BookAt K H b m) (q : Q (.int m.fresh)) : ∃ a C dx fs v, V.ref b = .ref a ∧ H a = some (.ins C dx fs) ∧ Cls K C ∧ NoAttr K C "fresh" ∧ fs.lookup ("fresh" : Str) = some v ∧ Q v := by
  obtain ⟨dx, tv, h1, _⟩ := h
  exact ⟨_, _, _, _, _, rfl, h1, T.clB, T.bFresh, bk_fresh m tv, q⟩
theorem fB_times (T : Txt K mg) (h : BookAt K H b m) (q : Q (.int m.times)) : ∃ a C dx fs v, V.ref b = .ref a ∧ H a = some (.ins C dx fs) ∧ Cls K C ∧ NoAttr K C "times" ∧ fs.lookup ("times" : Str) = some v ∧ Q v := by
  obtain ⟨dx, tv, h1, _⟩ := h
  exact ⟨_, _, _, _, _, rfl, h1, T.clB, T.bTimes, bk_times m tv, q⟩
theorem fB_bonus (T : Txt K mg) (h : BookAt K H b m) (q : Q (.int m.bonus)) : ∃ a C dx fs v, V.ref b = .ref a ∧ H a = some (.ins C dx fs) ∧ Cls K C ∧ NoAttr K C "bonus" ∧ fs.lookup ("bonus" : Str) = some v ∧ Q v := by
  obtain ⟨dx, tv, h1, _⟩ := h
  exact ⟨_, _, _, _, _, rfl, h1, T.clB, T.bBonus, bk_bonus m tv, q⟩
theorem fB_table (T : Txt K mg) (h : BookAt K H b m) (q : ∀ tv, Dp K H tv (.tuple (m.rows.map dRow)) → Q tv) : ∃ a C dx fs v, V.ref b = .ref a ∧ H a = some (.ins C dx fs) ∧ Cls K C ∧ NoAttr K C "table" ∧ fs.lookup ("table" : Str) = some v ∧ Q v := by
  obtain ⟨dx, tv, h1, h2⟩ := h
  exact ⟨_, _, _, _, _, rfl, h1, T.clB, T.bTable, bk_table m tv, q tv h2⟩
/-- a method of a book -/
theorem mB {x : Str} {R : Prop} (h : BookAt K H b m) (hx : (["low", "high", "table", "fresh", "times", "bonus"] : List Str).contains x = false) (q : R) : ∃ a dx fs, V.ref b = .ref a ∧ H a = some (.ins (CB K) dx fs) ∧ fs.lookup x = none ∧ R := by
  obtain ⟨dx, tv, h1, _⟩ := h
  exact ⟨b, dx, _, rfl, h1, bk_none m tv hx, q⟩
/-- t[i] of a tuple that is data -/
theorem ixT {x : V} {ds : List PyData} {d : PyData} {i : Int} (h : Dp K H x (.tuple ds)) (hi : atI ds i = some d) (q : ∀ v, Dp K H v d → Q v) : ∃ p xs j v, x = .ref p ∧ V.int i = .int j ∧ SqT K H p xs ∧ atI xs j = some v ∧ Q v := by
  obtain ⟨a, xs, rfl, hs, ha⟩ := dp_tup h
  have len : ∀ {xs : List V} {ds : List PyData}, DpAll K H xs ds → xs.length = ds.length := by
    intro xs ds r
    induction ds generalizing xs with
    | nil => cases dp_nil r; rfl
    | cons d ds ih =>
      obtain ⟨y, r', rfl, _, h2⟩ := dp_cons r
      rw [List.length_cons, List.length_cons, ih h2]
  have get : ∀ {xs : List V} {ds : List PyData} (k : Nat) (d : PyData), DpAll K H xs ds → ds[k]? = some d → ∃ v, xs[k]? = some v ∧ Dp K H v d := by
    intro xs ds k d r
    induction ds generalizing xs k with
    | nil => intro e; simp at e
    | cons d' ds ih =>
      intro e
      obtain ⟨y, r', rfl, h1, h2⟩ := dp_cons r
      cases k with
      | zero => simp at e; subst e; exact ⟨y, rfl, h1⟩
      | succ k => simp at e; exact ih k h2 e
  unfold atI at hi
  rw [← len ha] at hi
  cases e : ixN xs.length i with
  | none => rw [e] at hi; cases hi
  | some k =>
    rw [e] at hi
    obtain ⟨v, hv, dv⟩ := get k d ha hi
    refine ⟨a, xs, i, v, rfl, rfl, hs, ?_, q v dv⟩
    unfold atI
    rw [e]
    exact hv
theorem ixP0 {x : V} {p : Pl} (h : Dp K H x (dPl p)) (q : Q (.int p.1)) : ∃ a xs j v, x = .ref a ∧ V.int 0 = .int j ∧ SqT K H a xs ∧ atI xs j = some v ∧ Q v :=
  ixT (i := 0) h rfl fun v hv => by cases dp_int hv; exact q
theorem ixP1 {x : V} {p : Pl} (h : Dp K H x (dPl p)) (q : Q (.int p.2)) : ∃ a xs j v, x = .ref a ∧ V.int 1 = .int j ∧ SqT K H a xs ∧ atI xs j = some v ∧ Q v :=
  ixT (i := 1) h rfl fun v hv => by cases dp_int hv; exact q
theorem ixQ0 {x : V} {p : Pr} (h : Dp K H x (dPr p)) (q : ∀ v, Dp K H v (dPl p.1) → Q v) : ∃ a xs j v, x = .ref a ∧ V.int 0 = .int j ∧ SqT K H a xs ∧ atI xs j = some v ∧ Q v := ixT (i := 0) h rfl q
theorem ixQ1 {x : V} {p : Pr} (h : Dp K H x (dPr p)) (q : ∀ v, Dp K H v (dPl p.2) → Q v) : ∃ a xs j v, x = .ref a ∧ V.int 1 = .int j ∧ SqT K H a xs ∧ atI xs j = some v ∧ Q v := ixT (i := 1) h rfl q
/-- a new tuple of data -/
theorem mkT {vs : List V} {ds : List PyData} {R : V → Hp → Prop} (hs : DpAll K H vs ds) (hl : vs.length ≤ sizeLine) (k : ∀ v H', Ex H H' → Dp K H' v (.tuple ds) → R v H') : vs.length ≤ sizeLine ∧ ∀ p, H p = none → R (.ref p) (upd H p (.tup vs)) :=
  ⟨hl, fun p hp => k _ _ (Ex.new hp) (.tup (SqT.of upd_same) (DpAll.ex (Ex.new hp) _ _ hs))⟩
theorem mkP {i j : Int} {R : V → Hp → Prop} (k : ∀ v H', Ex H H' → Dp K H' v (dPl (i, j)) → R v H') : [V.int i, V.int j].length ≤ sizeLine ∧ ∀ p, H p = none → R (.ref p) (upd H p (.tup [V.int i, V.int j])) :=
  mkT (.cons (.int _) (.cons (.int _) .nil)) (by show 2 ≤ sizeLine; decide) k
theorem mkQ {x y : V} {p : Pr} {R : V → Hp → Prop} (hx : Dp K H x (dPl p.1)) (hy : Dp K H y (dPl p.2)) (k : ∀ v H', Ex H H' → Dp K H' v (dPr p) → R v H') : [x, y].length ≤ sizeLine ∧ ∀ q, H q = none → R (.ref q) (upd H q (.tup [x, y])) :=
  mkT (.cons hx (.cons hy .nil)) (by show 2 ≤ sizeLine; decide) k
theorem dpAll_get : ∀ {xs : List V} {ds : List PyData} (k : Nat) (d : PyData), DpAll K H xs ds → ds[k]? = some d → ∃ v, xs[k]? = some v ∧ Dp K H v d := by
  intro xs ds k d r
  induction ds generalizing xs k with
  | nil => intro e; simp at e
  | cons d' ds ih =>
    intro e
    obtain ⟨y, r', rfl, h1, h2⟩ := dp_cons r
    cases k with
    | zero => simp at e; subst e; exact ⟨y, rfl, h1⟩
    | succ k => simp at e; exact ih k h2 e
theorem dpAll_len : ∀ {xs : List V} {ds : List PyData}, DpAll K H xs ds → xs.length = ds.length := by
  intro xs ds r
  induction ds generalizing xs with
  | nil => cases dp_nil r; rfl
  | cons d ds ih =>
    obtain ⟨y, r', rfl, _, h2⟩ := dp_cons r
    rw [List.length_cons, List.length_cons, ih h2]
theorem dpAll_at : ∀ {xs : List V} {ds : List PyData} (k : Nat) (v : V), DpAll K H xs ds → xs[k]? = some v → ∃ d, ds[k]? = some d ∧ Dp K H v d := by
  intro xs ds k v r hv
  have hl := dpAll_len r
  have hk : k < ds.length := by have := (List.getElem?_eq_some_iff.mp hv).1; omega
  obtain ⟨v', hv', hd⟩ := dpAll_get k ds[k] r (List.getElem?_eq_getElem hk)
  rw [hv] at hv'
  cases hv'
  exact ⟨_, List.getElem?_eq_getElem hk, hd⟩
theorem dpAll_snoc : ∀ {xs : List V} {ds : List PyData} {v : V} {d : PyData}, DpAll K H xs ds → Dp K H v d → DpAll K H (xs ++ [v]) (ds ++ [d]) := by
  intro xs ds v d r h
  induction ds generalizing xs with
  | nil => cases dp_nil r; exact .cons h .nil
  | cons d' ds ih =>
    obtain ⟨y, r', rfl, h1, h2⟩ := dp_cons r
    exact .cons h1 (ih h2)
theorem dpAll_app : ∀ {xs ys : List V} {ds es : List PyData}, DpAll K H xs ds → DpAll K H ys es → DpAll K H (xs ++ ys) (ds ++ es) := by
  intro xs ys ds es r h
  induction ds generalizing xs with
  | nil => cases dp_nil r; exact h
  | cons d' ds ih =>
    obtain ⟨y, r', rfl, h1, h2⟩ := dp_cons r
    exact .cons h1 (ih h2)
end
end Tw
namespace Tw
open PySem PySem.Spec PyProof.Rows L2
section
variable {K : PySem.W.Frag} {H : Hp} {a : Addr} {xs : List V}
theorem tyT (h : SqT K H a xs) : TyX K H (.ref a) (.type "tuple") := by
  rcases h with (h | ⟨o, h⟩) | ⟨o, its, n, h, hc, _⟩
  · exact .base (.tup h)
  · exact .fTuple h
  · exact .kTuple h hc
theorem tyL (h : SqL K H a xs) : TyX K H (.ref a) (.type "list") := by
  rcases h with (h | ⟨o, h⟩) | ⟨o, its, n, h, hc, _⟩
  · exact .base (.lst h)
  · exact .base (.frz h)
  · exact .kList h hc
theorem ifT {c : Bool} {A B : Prop} (e : c = true) (h : A) : if c = true then A else B := by
  rw [if_pos e]
  exact h
theorem ifF {c : Bool} {A B : Prop} (e : c = false) (h : B) : if c = true then A else B := by
  rw [e, if_neg Bool.false_ne_true]
  exact h
theorem decV {x y : V} (h : x = y) : decide (x = y) = true := decide_eq_true h
theorem decN {x y : V} (h : ¬ x = y) : decide (x = y) = false := decide_eq_false h
end
end Tw
namespace Tw
open PySem PySem.Spec PyProof.Rows L2
theorem yes {σ : L2.St} {H : Hp} {A B : Hp → Prop} (h : A H) : tYes σ H fun b H1 => if b = true then A H1 else B H1 := by
  show (if true = true then A H else B H)
  exact iteT h
end Tw
namespace Tw
open PySem PySem.Spec PyProof.Rows L2
section
variable {K : PySem.W.Frag} {H : Hp}
theorem tx_lst {H' : Hp} {D : Addr} {xs : List V} {o : HO} (h : H' D = some (.lst xs)) : Tx H' (upd H' D o) := Tx.upd h (fun _ e => nomatch e) (fun _ _ e => nomatch e)
theorem noLs_mem : ∀ {ds : List PyData}, (∀ d ∈ ds, noL d = true) → noL.noLs ds = true
  | [], _ => rfl
  | d :: ds, h => by
    show (noL d && noL.noLs ds) = true
    rw [h d List.mem_cons_self, noLs_mem fun x hx => h x (List.mem_cons_of_mem _ hx)]
    rfl
/-- [e for x in xs]: data, item by item -/
theorem lc_map {J : It} {G : Hp → Prop} {xs : List V} {ds : List PyData} {j : Nat} {te : TE} {vs : List Nat} {σ : L2.St} {D : Addr} {Qd : Hp → Prop} (w : Walk J xs.length G (YAt xs)) (hG : ∀ H', Ex H H' → G H') (nD : H D = none) (hz : xs.length < 100000)
    (hl : ds.length = xs.length) (hn : ∀ d ∈ ds, noL d = true) (hw : ∀ x, wipe ((wipe σ vs).set j (some x)) vs = wipe σ vs)
    (turn : ∀ (i : Nat) (x : V) (d : PyData) (H' : Hp) (k : VK), xs[i]? = some x → ds[i]? = some d → Ex H H' → (∀ v H2, Ex H' H2 → Dp K H2 v d → k v H2) → te ((wipe σ vs).set j (some x)) H' k)
    (fin : ∀ H' acc, Ex H H' → H' D = some (.lst acc) → DpAll K H' acc ds → Qd H') :
    ∃ W : Nat → Nat → Hp → Prop, (∃ m, W 0 m (upd H D (.lst []))) ∧ ∀ i m H, W i m H →
      (J.stop i H ∧ Qd H) ∨ (J.go i H ∧ ∃ Nx : Hp → Prop, (∀ H', Nx H' → ∃ m', m' < m ∧ W (i + 1) m' H') ∧ ∀ x H', J.yld i H x H' → gName j x (wipe σ vs) H' fun σ2 H2 => wipe σ2 vs = wipe σ vs ∧ tYes σ2 H2 fun b H3 =>
        if b = true then te σ2 H3 fun y H4 => ∃ acc, H4 D = some (.lst acc) ∧ acc.length < sizeLine ∧ Nx (upd H4 D (.lst (acc ++ [y]))) else Nx H3) := by
  refine lc_it w (fun i H' => Ex H H' ∧ ∃ acc, H' D = some (.lst acc) ∧ DpAll K H' acc (ds.take i)) ⟨Ex.new nD, [], upd_same, .nil⟩ (fun i H' _ q => hG H' q.1) ?_ ?_
  · rintro i x H1 H2 hi ⟨e, acc, hD, ha⟩ ⟨rfl, hx⟩
    have hd : i < ds.length := by omega
    refine ⟨hw x, yes (turn i x ds[i] H2 _ hx (List.getElem?_eq_getElem hd) e fun v H3 e3 hv => ?_)⟩
    have hal := dpAll_len ha
    rw [List.length_take] at hal
    have h3 := e3 _ _ hD
    refine ⟨acc, h3, Nat.lt_of_lt_of_le (show acc.length < 100000 by omega) (by decide), (e.trans e3).mut nD, acc ++ [v], upd_same, ?_⟩
    rw [List.take_succ_eq_append_getElem hd]
    have hsub : noL.noLs (ds.take i) = true := noLs_mem fun d hd => hn d (List.mem_of_mem_take hd)
    exact dpAll_snoc (DpAll.tx (tx_lst h3) _ _ hsub (DpAll.ex e3 _ _ ha)) (Dp.tx (tx_lst h3) _ _ (hn _ (List.getElem_mem hd)) hv)
  · rintro H1 ⟨e, acc, hD, ha⟩
    rw [List.take_of_length_le (by omega)] at ha
    exact fin H1 acc e hD ha
/-- what is all True -/
theorem dp_trues : ∀ {n : Nat} {acc : List V}, DpAll K H acc (List.replicate n (.bool true)) → acc = (List.replicate n true).map V.bl
  | 0, _, h => by cases dp_nil h; rfl
  | n + 1, _, h => by
    rw [List.replicate_succ] at h
    obtain ⟨x, r, rfl, h1, h2⟩ := dp_cons h
    cases dp_bl h1
    rw [dp_trues h2]
    rfl
theorem all_true (n : Nat) : (List.replicate n true).all id = true := by
  rw [List.all_eq_true]
  intro b hb
  exact (List.mem_replicate.mp hb).2
end
end Tw
namespace Tw
open PySem PySem.Spec PyProof.Rows L2
/-- a, b = .. within a comprehension's block -/
theorem pg_tupK {X : Cx} {K : PySem.W.Frag} {pos : Pos} {es : List Expr} {k : Nat} {t : TGs} {n : Nat} (hK : X.K = K) (hc : X.calm = true) (h : PGs X es t)
    (hn : (assignEach es X.env).length = n := by rfl) (hst : (assignEach es X.env).findIdx? (·.1) = none := by rfl) : PG X (.Tuple es k pos) (gTup K n t) := by
  subst hK
  exact pg_tup hc h hn hst
end Tw
namespace Tw
open PySem PySem.Spec PyProof.Rows L2
/-- a walk whose turns are told by any body -/
theorem it_gen {J : It} {n : Nat} {G : Hp → Prop} {Y : Nat → Hp → V → Hp → Prop} (w : Walk J n G Y) {H0 : Hp} {Body : V → Hp → (Hp → Prop) → Prop} {Qd : Hp → Prop} (Pv : Nat → Hp → Prop) (h0 : Pv 0 H0) (hG : ∀ i H, i ≤ n → Pv i H → G H)
    (hs : ∀ i x H H', i < n → Pv i H → Y i H x H' → Body x H' (Pv (i + 1))) (hd : ∀ H, Pv n H → Qd H) :
    ∃ W : Nat → Nat → Hp → Prop, (∃ m, W 0 m H0) ∧ ∀ i m H, W i m H → (J.stop i H ∧ Qd H) ∨ (J.go i H ∧ ∃ Nx : Hp → Prop, (∀ H', Nx H' → ∃ m', m' < m ∧ W (i + 1) m' H') ∧ ∀ x H', J.yld i H x H' → Body x H' Nx) := by
  refine ⟨fun i m H => m = n - i ∧ i ≤ n ∧ Pv i H, ⟨n, by simp, Nat.zero_le _, h0⟩, ?_⟩
  rintro i m H ⟨rfl, hi, p⟩
  by_cases hlt : i < n
  · exact .inr ⟨w.goes i H hlt (hG i H hi p), Pv (i + 1), fun H' p' => ⟨n - (i + 1), by omega, rfl, hlt, p'⟩, fun x H' y => hs i x H H' hlt p (w.yields i H x H' hlt (hG i H hi p) y)⟩
  · have e : i = n := by omega
    subst e
    exact .inl ⟨w.stops H (hG _ H hi p), hd H p⟩
end Tw
namespace Tw
open PySem PySem.Spec PyProof.Rows L2
theorem pi_listK {X : Cx} {K : PySem.W.Frag} {tg l : Expr} {tl : TE} (hK : X.K = K) (hl : PE X l tl) : PI X tg l (iList K tl) := by
  subst hK
  exact pi_list hl
end Tw
namespace Tw
open PySem PySem.Spec PyProof.Rows L2
/-- Book(..) with its three keywords -/
structure MakB (P : Program) (w : World) (K : PySem.W.Frag) (mg : Str → Option Value) (base : Heap) (k : Nat) (sp : Sp) : Prop where
  ex : ∃ (f : Addr) (fd : FuncData) (ps : List Str), Mk K (CB K) f ∧ FnOk P w K mg base CX0 k f fd ps sp ∧ mg "Book" = some (.ref (CB K)) ∧ KBn K fd ps 4 ["fresh", "times", "bonus"] (fun us ws => us ++ ws) (fun vs zs => vs ++ zs)
/-- Twins(..) -/
structure MakT (P : Program) (w : World) (K : PySem.W.Frag) (mg : Str → Option Value) (base : Heap) (k : Nat) (sp : Sp) : Prop where
  ex : ∃ (f : Addr) (fd : FuncData) (ps : List Str), Mk K (CT K) f ∧ FnOk P w K mg base CX0 k f fd ps sp ∧ mg "Twins" = some (.ref (CT K)) ∧ Binds K fd ps []
section
variable {X : Cx} {k j : Nat} {sp : Sp} {p pos : Pos} {e : Expr} {es : List Expr} {kws : List Keyword} {t tk : TA}
theorem pe_mkB (c : MakB X.prog X.w X.K X.mg X.base k sp) (hr : Room j X.A) (hk : k + 1 ≤ j) (hg : Gl X "Book") (ha : PA X (e :: es) t) (hkw : PK X kws tk)
    (hall : (backToKw pos (keywordEach kws X.env)).all (·.1.isSome) = true := by rfl) (hks : (backToKw pos (keywordEach kws X.env)).filterMap (·.1) = (["fresh", "times", "bonus"] : List Str) := by rfl)
    (he : starEach (e :: es) X.env = (false, eval e X.env) :: starEach es X.env := by rfl) (hpl : ((backTo pos (starEach (e :: es) X.env)).any (·.1) || (backToKw pos (keywordEach kws X.env)).any (·.1.isNone)) = false := by rfl) :
    PE X (.Call (.Name "Book" p) (e :: es) kws pos) (tMakeK (CB X.K) 3 3 sp (fun vs zs => vs ++ zs) E0 t tk) := by
  obtain ⟨f, fd, ps, M, F, hm, b⟩ := c.ex
  exact pe_makeK M F (hr.mono hk) hg hm b pass0 ha hkw hall hks (by decide) he hpl
theorem pe_mk (c : MakT X.prog X.w X.K X.mg X.base k sp) (hr : Room j X.A) (hk : k + 1 ≤ j) (hg : Gl X "Twins") (ha : PA X (e :: es) t)
    (he : starEach (e :: es) X.env = (false, eval e X.env) :: starEach es X.env := by rfl) (hpl : (backTo pos (starEach es X.env)).any (·.1) = false := by rfl) : PE X (.Call (.Name "Twins" p) (e :: es) [] pos) (tMake (CT X.K) sp [] E0 t) := by
  obtain ⟨f, fd, ps, M, F, hm, b⟩ := c.ex
  exact pe_make M F (hr.mono hk) hg hm b .nil pass0 ha (by decide) he hpl
end
section
variable {P : Program} {w : World} {K : PySem.W.Frag} {mg : Str → Option Value} {base : Heap} {N ps : List Str} {k : Nat} {sp : Sp}
/-- Book.__init__ as it stands -/
def DfB (K : PySem.W.Frag) (mg : Str → Option Value) (st : Stmt) (ps : List Str) : Prop := ∃ (f : Addr) (fd : FuncData), FunD K "__init__" "Book.__init__" (defArgs st) (defBody st) (defScope st) [] [("fresh", .int 0), ("times", .int 1), ("bonus", .int 0)] f fd ∧ Mk K (CB K) f ∧ mg "Book" = some (.ref (CB K)) ∧
  KBn K fd ps 4 ["fresh", "times", "bonus"] (fun us ws => us ++ ws) (fun vs zs => vs ++ zs)
def DfT (K : PySem.W.Frag) (mg : Str → Option Value) (st : Stmt) (ps : List Str) : Prop := ∃ (f : Addr) (fd : FuncData), FunD K "__init__" "Twins.__init__" (defArgs st) (defBody st) (defScope st) [] [] f fd ∧ Mk K (CT K) f ∧ mg "Twins" = some (.ref (CT K)) ∧ Binds K fd ps []
theorem makB_mk {st : Stmt} (D : DfB K mg st ps) (S : FnScope N ps (defScope st)) (len : ∀ vs H Q E, sp vs H Q E → vs.length = ps.length)
    (hb : ∀ (f : Addr) (cdv : Value) (A : Around) (outer : List Env) (s : Shared) (H : Hp) (vs : List V) (Q : VK) (E : XK), Room k (A.deeper (envOfC "Book.__init__" (defScope st) s.heap.objs.size f cdv)) → sp vs H Q E →
      ∃ t, PSs (cxOf CX0 P w K mg base N "Book.__init__" (defScope st) f cdv A outer s H E).nox (defBody st) t ∧ t { nx := fun _ H' => Q .non H', rt := Q } (start N vs) H) : MakB P w K mg base (k + 1) sp := by
  obtain ⟨f, fd, F, M, hm, b⟩ := D
  refine ⟨f, fd, ps, M, F.ok S len fun cdv A outer s H vs Q E hr h => ?_, hm, b⟩
  obtain ⟨t, d, q⟩ := hb f cdv A outer s H vs Q E hr h
  exact ⟨t, d.nox, q⟩
theorem makT_mk {st : Stmt} (D : DfT K mg st ps) (S : FnScope N ps (defScope st)) (len : ∀ vs H Q E, sp vs H Q E → vs.length = ps.length)
    (hb : ∀ (f : Addr) (cdv : Value) (A : Around) (outer : List Env) (s : Shared) (H : Hp) (vs : List V) (Q : VK) (E : XK), Room k (A.deeper (envOfC "Twins.__init__" (defScope st) s.heap.objs.size f cdv)) → sp vs H Q E →
      ∃ t, PSs (cxOf CX0 P w K mg base N "Twins.__init__" (defScope st) f cdv A outer s H E).nox (defBody st) t ∧ t { nx := fun _ H' => Q .non H', rt := Q } (start N vs) H) : MakT P w K mg base (k + 1) sp := by
  obtain ⟨f, fd, F, M, hm, b⟩ := D
  refine ⟨f, fd, ps, M, F.ok S len fun cdv A outer s H vs Q E hr h => ?_, hm, b⟩
  obtain ⟨t, d, q⟩ := hb f cdv A outer s H vs Q E hr h
  exact ⟨t, d.nox, q⟩
end
end Tw
/-! The small defs. -/
namespace Tw
open PySem PySem.Spec PyProof.Rows L2
section
variable {P : Program} {w : World} {K : PySem.W.Frag} {mg : Str → Option Value} {base : Heap}

def spIsWhole : Sp := fun vs H Q _ => ∃ i : Int, vs = [.int i] ∧ Q (.bl true) H
theorem sc_is_whole : FnScope ["value"] ["value"] (defScope s_is_whole) := ⟨rfl, rfl, rfl, by decide +kernel, rfl, by decide +kernel, by decide +kernel⟩
theorem ok_is_whole (D : Df K mg "is_whole" s_is_whole ["value"]) (T : Txt K mg) : Cal P w K mg base 1 "is_whole" spIsWhole := by
  refine cal_mk D sc_is_whole (fun vs H Q E h => ?_) (fun f cdv A outer s H vs Q E hr h => ?_)
  · obtain ⟨i, rfl, _⟩ := h
    rfl
  · obtain ⟨i, rfl, k⟩ := h
    have nd := sc_is_whole.nd
    have hu1 := hu_of hr
    have hu9 := hu9_of hr
    have hu64 := hu64_of hr
    have hu65 := hu65_of hr
    refine ⟨_, (pss_one (ps_ret (pe_and (pe_callB call_isi (by rfl) T.isinstance_ PyProof.Rows.boot_isinstance (pa_cons (pv 0) (pa_cons (pe_bltn (v := .ty "int") (by rfl) T.int_ PyProof.Rows.boot_int rfl) pa_nil))) (pe_one (pe_not (pe_callB call_isi (by rfl) T.isinstance_ PyProof.Rows.boot_isinstance (pa_cons (pv 0) (pa_cons (pe_bltn (v := .ty "bool") (by rfl) T.bool_ PyProof.Rows.boot_bool rfl) pa_nil)))))))), ?_⟩
    -- slots: 0 value
    refine ⟨_, rfl, _, _, _, _, true, rfl, .ty "int", .base (.int i), kit_ty (by decide +kernel), true, rfl, ?_⟩
    refine iteT ⟨_, rfl, _, _, _, _, false, rfl, .ty "bool", .base (.int i), kit_ty (by decide +kernel), false, rfl, ?_⟩
    exact k

def spIsInteger : Sp := fun vs H Q _ => ∃ i a b : Int, vs = [.int i, .int a, .int b] ∧ Q (.bl (decide (a ≤ i) && decide (i ≤ b))) H
theorem sc_is_integer : FnScope ["value", "lowest", "highest"] ["value", "lowest", "highest"] (defScope s_is_integer) := ⟨rfl, rfl, rfl, by decide +kernel, rfl, by decide +kernel, by decide +kernel⟩
theorem ok_is_integer (D : Df K mg "is_integer" s_is_integer ["value", "lowest", "highest"]) (C_is_whole : Cal P w K mg base 1 "is_whole" spIsWhole) : Cal P w K mg base 2 "is_integer" spIsInteger := by
  refine cal_mk D sc_is_integer (fun vs H Q E h => ?_) (fun f cdv A outer s H vs Q E hr h => ?_)
  · obtain ⟨i, a, b, rfl, _⟩ := h
    rfl
  · obtain ⟨i, a, b, rfl, k⟩ := h
    have nd := sc_is_integer.nd
    have hu1 := hu_of hr
    have hu9 := hu9_of hr
    have hu64 := hu64_of hr
    have hu65 := hu65_of hr
    refine ⟨_, (pss_one (ps_ret (pe_and (pe_c C_is_whole hr (by decide) rfl (pa_cons (pv 0) pa_nil)) (pe_one (pe_chain op_le op_le (pv 1) (pv 0) (pv 2)))))), ?_⟩
    -- slots: 0 value, 1 lowest, 2 highest
    refine ⟨_, rfl, i, rfl, true, rfl, iteT ?_⟩
    refine ⟨_, rfl, _, rfl, _, _, rfl, rfl, _, rfl, ite2 (fun h1 => ?_) (fun h1 => ?_)⟩
    · refine ⟨_, rfl, _, _, rfl, rfl, ?_⟩
      rw [h1] at k
      exact k
    · rw [show decide (a ≤ i) = false from Bool.eq_false_iff.mpr h1] at k
      exact k

theorem boolAll {α : Type} {l : List α} {f : α → Bool} (h : ∀ x ∈ l, f x = true) : (l.map f).all id = true := by
  rw [List.all_eq_true]
  intro b hb
  obtain ⟨x, hx, rfl⟩ := List.mem_map.mp hb
  exact h x hx

def spIsEntry (K : PySem.W.Frag) : Sp := fun vs H Q _ => ∃ (v : V) (e : Option (Int × Int)), vs = [v] ∧ Dp K H v (dEn e) ∧ entOk e ∧ ∀ H', Ex H H' → Q (.bl true) H'
theorem sc_is_entry : FnScope ["value", "change"] ["value"] (defScope s_is_entry) := ⟨rfl, rfl, rfl, by decide +kernel, rfl, by decide +kernel, by decide +kernel⟩
theorem ok_is_entry (D : Df K mg "is_entry" s_is_entry ["value"]) (T : Txt K mg) (C_is_integer : Cal P w K mg base 2 "is_integer" spIsInteger) : Cal P w K mg base 3 "is_entry" (spIsEntry K) := by
  refine cal_mk D sc_is_entry (fun vs H Q E h => ?_) (fun f cdv A outer s H vs Q E hr h => ?_)
  · obtain ⟨v, e, rfl, _⟩ := h
    rfl
  · obtain ⟨v, e, rfl, hv, he, k⟩ := h
    have nd := sc_is_entry.nd
    have hu1 := hu_of hr
    have hu9 := hu9_of hr
    have hu64 := hu64_of hr
    have hu65 := hu65_of hr
    refine ⟨_, (pss_cons (ps_if (pt_cmpR op_isN (pv 0) pe_non (nomark _))
    (pss_one (ps_ret pe_bl))
    pss_nil)
    (pss_one (ps_ret (pe_and (pe_callB call_isi (by rfl) T.isinstance_ PyProof.Rows.boot_isinstance (pa_cons (pv 0) (pa_cons (pe_bltn (v := .ty "tuple") (by rfl) T.tuple_ PyProof.Rows.boot_tuple rfl) pa_nil))) (pe_and (pe_cmpR op_eq (pe_callB call_len_seq (by rfl) T.len_ PySem.boot_len (pa_cons (pv 0) pa_nil)) pe_int (nomark _)) (pe_one (pe_callB (cr_all rfl) (by rfl) T.all_ PyProof.Rows.boot_all (pa_cons (pe_lc (own := [("change", 1)]) rfl nd (pi_tup (pv 0)) (blkOk_by (own := [("change", 1)]) (N := ["value", "change"]) (sc := defScope s_is_entry) (by decide +kernel)) (fun _ _ _ _ _ => (pg_name (i := 1) nd rfl (Or.inl rfl) (hf := Or.inr rfl))) (fun _ _ _ _ _ => pts_nil) (fun _ _ _ _ _ => (pe_c C_is_integer hr (by decide) rfl (pa_cons (pv 1) (pa_cons (pe_un un_neg pe_int) (pa_cons pe_int pa_nil)))))) pa_nil)))))))), ?_⟩
    -- slots: 0 value, 1 change
    cases e with
    | none =>
      cases dp_non hv
      refine ⟨_, rfl, rfl, _, rfl, iteT ?_⟩
      exact k H (Ex.refl H)
    | some c =>
      obtain ⟨a, rfl, hs⟩ := dp_pl hv
      refine ⟨_, rfl, rfl, _, rfl, iteF ?_⟩
      refine ⟨_, rfl, _, _, _, _, true, rfl, .ty "tuple", tyT hs, kit_ty (by decide +kernel), true, rfl, iteT ?_⟩
      refine ⟨_, rfl, a, _, rfl, .inr hs, rfl, _, rfl, ifT (decV rfl) ?_⟩
      refine ⟨_, rfl, a, rfl, ⟨_, hs⟩, fun D nD => ?_⟩
      refine lc_tup (K := K) (a := a) (xs := [.int c.1, .int c.2]) (fun i H' => Ex H H' ∧ H' D = some (.lst (List.replicate i (.bl true)))) ⟨Ex.new nD, upd_same⟩ (fun i H' _ q => q.1.tx.sqT hs) ?_ ?_
      · rintro i x H' hi ⟨e, hD⟩
        obtain ⟨j, rfl, h1, h2⟩ : ∃ j : Int, x = .int j ∧ -9 ≤ j ∧ j ≤ 9 := by
          match i, hi with
          | 0, hi => cases hi; exact ⟨_, rfl, he.1, he.2.1⟩
          | 1, hi => cases hi; exact ⟨_, rfl, he.2.2.1, he.2.2.2⟩
          | i + 2, hi => simp at hi
        refine ⟨rfl, yes ?_⟩
        refine ⟨_, rfl, _, rfl, j, -9, 9, rfl, _, hD, ?_, e.mut nD, ?_⟩
        · rw [List.length_replicate]
          have : i < 2 := by have := (List.getElem?_eq_some_iff.mp hi).1; simpa using this
          exact Nat.lt_of_lt_of_le this (by decide)
        · rw [upd_same, decide_eq_true h1, decide_eq_true h2, List.replicate_succ']
          rfl
      · rintro H' ⟨e, hD⟩
        refine ⟨D, List.replicate 2 true, rfl, SqL.of (by rw [hD]; rfl), ?_⟩
        exact k H' e

theorem noL_En (e : Option (Int × Int)) : noL (dEn e) = true := by cases e <;> simp [dEn, dPl, noL, noL.noLs]
theorem noL_Row (r : Row) : noL (dRow r) = true := by simp [dRow, noL, noL.noLs, noL_En]
theorem dpRow {H : Hp} {v : V} {r : Row} (h : Dp K H v (dRow r)) : ∃ a x y z, v = .ref a ∧ SqT K H a [.int r.b, x, y, z] ∧ Dp K H x (dEn (r.e .up)) ∧ Dp K H y (dEn (r.e .dr)) ∧ Dp K H z (dEn (r.e .lo)) := by
  obtain ⟨a, xs, rfl, hs, ha⟩ := dp_tup h
  obtain ⟨x0, _, rfl, h0, ha⟩ := dp_cons ha
  obtain ⟨x1, _, rfl, h1, ha⟩ := dp_cons ha
  obtain ⟨x2, _, rfl, h2, ha⟩ := dp_cons ha
  obtain ⟨x3, _, rfl, h3, ha⟩ := dp_cons ha
  cases dp_nil ha
  cases dp_int h0
  exact ⟨a, _, _, _, rfl, hs, h1, h2, h3⟩
def spIsTableRow (K : PySem.W.Frag) : Sp := fun vs H Q _ => ∃ (v : V) (r : Row), vs = [v] ∧ Dp K H v (dRow r) ∧ r.Ok ∧ ∀ H', Ex H H' → Q (.bl true) H'
theorem sc_is_table_row : FnScope ["value", "entry"] ["value"] (defScope s_is_table_row) := ⟨rfl, rfl, rfl, by decide +kernel, rfl, by decide +kernel, by decide +kernel⟩
theorem ok_is_table_row (D : Df K mg "is_table_row" s_is_table_row ["value"]) (T : Txt K mg) (C_is_integer : Cal P w K mg base 2 "is_integer" spIsInteger) (C_is_entry : Cal P w K mg base 3 "is_entry" (spIsEntry K)) : Cal P w K mg base 4 "is_table_row" (spIsTableRow K) := by
  refine cal_mk D sc_is_table_row (fun vs H Q E h => ?_) (fun f cdv A outer s H vs Q E hr h => ?_)
  · obtain ⟨v, r, rfl, _⟩ := h
    rfl
  · obtain ⟨v, r, rfl, hv, hk, k⟩ := h
    have nd := sc_is_table_row.nd
    have hu1 := hu_of hr
    have hu9 := hu9_of hr
    have hu64 := hu64_of hr
    have hu65 := hu65_of hr
    refine ⟨_, (pss_cons (ps_if (PW.pt (pw_or (pt_not (pt_val (pe_callB call_isi (by rfl) T.isinstance_ PyProof.Rows.boot_isinstance (pa_cons (pv 0) (pa_cons (pe_bltn (v := .ty "tuple") (by rfl) T.tuple_ PyProof.Rows.boot_tuple rfl) pa_nil))))) (pw_or (pt_cmpR op_ne (pe_callB call_len_seq (by rfl) T.len_ PySem.boot_len (pa_cons (pv 0) pa_nil)) pe_int (nomark _)) (pw_or1 (pt_not (pt_val (pe_c C_is_integer hr (by decide) rfl (pa_cons (pe_ix ix_tup (pv 0) pe_int (fun _ _ => rfl)) (pa_cons pe_int (pa_cons (pe_globI rfl T.most_rating) pa_nil))))))))))
    (pss_one (ps_ret pe_bl))
    pss_nil)
    (pss_one (ps_ret (pe_callB (cr_all rfl) (by rfl) T.all_ PyProof.Rows.boot_all (pa_cons (pe_lc (own := [("entry", 1)]) rfl nd (pi_tup (pe_slice sl_tup (pv 0) (po_some pe_int) po_none)) (blkOk_by (own := [("entry", 1)]) (N := ["value", "entry"]) (sc := defScope s_is_table_row) (by decide +kernel)) (fun _ _ _ _ _ => (pg_name (i := 1) nd rfl (Or.inl rfl) (hf := Or.inr rfl))) (fun _ _ _ _ _ => pts_nil) (fun _ _ _ _ _ => (pe_c C_is_entry hr (by decide) rfl (pa_cons (pv 1) pa_nil)))) pa_nil))))), ?_⟩
    -- slots: 0 value, 1 entry
    obtain ⟨a, x, y, z, rfl, hs, h1, h2, h3⟩ := dpRow hv
    refine ⟨_, rfl, _, _, _, _, true, rfl, .ty "tuple", tyT hs, kit_ty (by decide +kernel), true, rfl, iteF ?_⟩
    refine ⟨_, rfl, a, _, rfl, .inr hs, rfl, _, rfl, iteF ?_⟩
    refine ⟨_, rfl, a, _, 0, .int r.b, rfl, rfl, hs, rfl, r.b, 0, 23, rfl, _, rfl, ?_⟩
    rw [decide_eq_true hk.b0, decide_eq_true hk.b1]
    refine iteF ?_
    refine ⟨_, rfl, 1, rfl, a, _, rfl, hs, (by show ¬ (HT.sIx 4 0 (some 1) = 0 ∧ HT.sIx 4 4 none = 4); decide), fun p np => ?_⟩
    have e0 : Ex H (upd H p (.tup [x, y, z])) := Ex.new np
    refine ⟨p, rfl, ⟨[x, y, z], SqT.of upd_same⟩, fun D nD => ?_⟩
    refine lc_map (K := K) (H := upd H p (.tup [x, y, z])) (xs := [x, y, z]) (ds := List.replicate 3 (.bool true)) walk_tup (fun H' e => SqT.of (e _ _ upd_same)) nD (by show 3 < 100000; decide) rfl (by intro d hd; rw [(List.mem_replicate.mp hd).2]; rfl) (fun _ => rfl) (fun i x0 d H' k hx hd e k2 => ?_) (fun H' acc e hD ha => ?_)
    · obtain ⟨q, hq⟩ : ∃ q, Dp K H x0 (dEn (r.e q)) := by
        match i, hx with
        | 0, hx => cases hx; exact ⟨.up, h1⟩
        | 1, hx => cases hx; exact ⟨.dr, h2⟩
        | 2, hx => cases hx; exact ⟨.lo, h3⟩
        | i + 3, hx => simp at hx
      refine ⟨_, rfl, x0, r.e q, rfl, Dp.ex (e0.trans e) _ _ hq, hk.e q, fun H2 e2 => k2 _ _ e2 ?_⟩
      have ed : d = .bool true := by
        have := List.mem_of_getElem? hd
        exact (List.mem_replicate.mp this).2
      subst ed
      exact .bl true
    · refine ⟨D, List.replicate 3 true, rfl, SqL.of (by rw [hD, dp_trues ha]), ?_⟩
      rw [all_true]
      exact k H' (e0.trans e)

theorem asc_get : ∀ {rows : List Row} {i : Nat} {a b : Row}, Asc rows → rows[i]? = some a → rows[i + 1]? = some b → a.b < b.b
  | [], _, _, _, _, h, _ => by simp at h
  | [_], i, _, _, _, _, h => by simp at h
  | x :: y :: r, 0, a, b, h, h1, h2 => by
    simp at h1 h2
    subst h1; subst h2
    exact h.1
  | x :: y :: r, i + 1, a, b, h, h1, h2 => by
    simp at h1 h2
    exact asc_get (rows := y :: r) (i := i) h.2 h1 (by simpa using h2)
structure TabOk (rows : List Row) : Prop where
  n6 : rows.length ≤ 6
  first : ∃ r rs, rows = r :: rs ∧ r.b = 0
  asc : Asc rows
  ok : ∀ r ∈ rows, r.Ok
def spIsTable (K : PySem.W.Frag) : Sp := fun vs H Q _ => ∃ (v : V) (rows : List Row), vs = [v] ∧ Dp K H v (.list (rows.map dRow)) ∧ TabOk rows ∧ ∀ H', Ex H H' → Q (.bl true) H'
theorem sc_is_table : FnScope ["value", "row", "one", "other"] ["value"] (defScope s_is_table) := ⟨rfl, rfl, rfl, by decide +kernel, rfl, by decide +kernel, by decide +kernel⟩
theorem ok_is_table (D : Df K mg "is_table" s_is_table ["value"]) (T : Txt K mg) (C_is_table_row : Cal P w K mg base 4 "is_table_row" (spIsTableRow K)) : Cal P w K mg base 5 "is_table" (spIsTable K) := by
  refine cal_mk D sc_is_table (fun vs H Q E h => ?_) (fun f cdv A outer s H vs Q E hr h => ?_)
  · obtain ⟨v, r, rfl, _⟩ := h
    rfl
  · obtain ⟨v, rows, rfl, hv, ok, k⟩ := h
    have nd := sc_is_table.nd
    have hu1 := hu_of hr
    have hu9 := hu9_of hr
    have hu64 := hu64_of hr
    have hu65 := hu65_of hr
    refine ⟨_, (pss_cons (ps_if (PW.pt (pw_or (pt_not (pt_val (pe_callB call_isiT (by rfl) T.isinstance_ PyProof.Rows.boot_isinstance (pa_cons (pv 0) (pa_cons (pe_tup (pa_cons (pe_bltn (v := .ty "list") (by rfl) T.list_ PyProof.Rows.boot_list rfl) (pa_cons (pe_bltn (v := .ty "tuple") (by rfl) T.tuple_ PyProof.Rows.boot_tuple rfl) pa_nil))) pa_nil))))) (pw_or1 (pt_not (pt_chain op_le op_le pe_int (pe_callB call_len_seq (by rfl) T.len_ PySem.boot_len (pa_cons (pv 0) pa_nil)) (pe_globI rfl T.most_rows))))))
    (pss_one (ps_ret pe_bl))
    pss_nil)
    (pss_cons (ps_if (PW.pt (pw_or (pt_not (pt_val (pe_callB (cr_all rfl) (by rfl) T.all_ PyProof.Rows.boot_all (pa_cons (pe_lc (own := [("row", 1)]) rfl nd (pi_list (pv 0)) (blkOk_by (own := [("row", 1)]) (N := ["value", "row", "one", "other"]) (sc := defScope s_is_table) (by decide +kernel)) (fun _ _ _ _ _ => (pg_name (i := 1) nd rfl (Or.inl rfl) (hf := Or.inr rfl))) (fun _ _ _ _ _ => pts_nil) (fun _ _ _ _ _ => (pe_c C_is_table_row hr (by decide) rfl (pa_cons (pv 1) pa_nil)))) pa_nil)))) (pw_or1 (pt_cmpR op_ne (pe_ix ix_tup (pe_ix ix_list (pv 0) pe_int (fun _ _ => rfl)) pe_int (fun _ _ => rfl)) pe_int (nomark _)))))
    (pss_one (ps_ret pe_bl))
    pss_nil)
    (pss_one (ps_ret (pe_callB (cr_all rfl) (by rfl) T.all_ PyProof.Rows.boot_all (pa_cons (pe_lc (own := [("one", 2), ("other", 3)]) rfl nd (pi_zip (by rfl) T.zip_ (pa_cons (pv 0) (pa_cons (pe_slice sl_list (pv 0) (po_some pe_int) po_none) pa_nil))) (blkOk_by (own := [("one", 2), ("other", 3)]) (N := ["value", "row", "one", "other"]) (sc := defScope s_is_table) (by decide +kernel)) (fun _ _ _ _ _ => (pg_tupK (K := K) (n := 2) rfl rfl (pgs_cons (pg_name (i := 2) nd rfl (Or.inl rfl) (hf := Or.inr rfl)) (pgs_cons (pg_name (i := 3) nd rfl (Or.inl rfl) (hf := Or.inr rfl)) pgs_nil)))) (fun _ _ _ _ _ => pts_nil) (fun _ _ _ _ _ => (pe_cmpR op_lt (pe_ix (r := rIxT K) ix_tup (pv 2) pe_int (fun _ _ => rfl)) (pe_ix (r := rIxT K) ix_tup (pv 3) pe_int (fun _ _ => rfl)) (nomark _)))) pa_nil)))))), ?_⟩
    -- slots: 0 value, 1 row, 2 one, 3 other
    obtain ⟨a, xs, rfl, hs, ha⟩ := dp_lst hv
    have hl : xs.length = rows.length := by rw [dpAll_len ha, List.length_map]
    obtain ⟨r0, rs, er, h0⟩ := ok.first
    have hl1 : 1 ≤ xs.length := by rw [hl, er, List.length_cons]; omega
    have hl6 : xs.length ≤ 6 := by rw [hl]; exact ok.n6
    refine ⟨_, rfl, (by show 2 ≤ sizeLine; decide), fun p np => ?_⟩
    have e0 : Ex H (upd H p (.tup [.ty "list", .ty "tuple"])) := Ex.new np
    refine ⟨.ref a, p, [.ty "list", .ty "tuple"], _, [.type "list", .type "tuple"], true, rfl, upd_same, .cons (.ty _) (.cons (.ty _) .nil), tyL (Same.seq e0 hs), kitAny_cons (b := true) (kit_ty (by decide +kernel)) (fun h => nomatch h) (fun _ => rfl), true, rfl, iteF ?_⟩
    generalize hH0 : upd H p (.tup [.ty "list", .ty "tuple"]) = H0 at e0 ⊢
    have hs0 : SqL K H0 a xs := Same.seq e0 hs
    refine ⟨_, rfl, a, xs, rfl, .inl hs0, _, _, rfl, rfl, _, rfl, ifT (decide_eq_true (by omega)) ?_⟩
    refine ⟨_, _, rfl, rfl, _, rfl, ?_⟩
    rw [decide_eq_true (show (xs.length : Int) ≤ 6 by omega)]
    refine iteF ?_
    -- all rows
    refine ⟨_, rfl, a, rfl, ⟨xs, hs0⟩, fun D nD => ?_⟩
    refine lc_map (K := K) (H := H0) (xs := xs) (ds := List.replicate xs.length (.bool true)) walk_list (fun H' e => Same.seq e hs0) nD (by omega) (by rw [List.length_replicate]) (by intro d hd; rw [(List.mem_replicate.mp hd).2]; rfl) (fun _ => rfl) (fun i x0 d H' k hx hd e k2 => ?_) (fun H1 acc e hD hacc => ?_)
    · obtain ⟨dd, hdd, hx0⟩ := dpAll_at i x0 ha hx
      rw [List.getElem?_map] at hdd
      obtain ⟨r, hr', edd⟩ := Option.map_eq_some_iff.mp hdd
      subst edd
      refine ⟨_, rfl, x0, r, rfl, Dp.ex (e0.trans e) _ _ hx0, ok.ok r (List.mem_of_getElem? hr'), fun H2 e2 => k2 _ _ e2 ?_⟩
      have ed : d = .bool true := (List.mem_replicate.mp (List.mem_of_getElem? hd)).2
      subst ed
      exact .bl true
    · refine ⟨D, List.replicate xs.length true, rfl, SqL.of (by rw [hD, dp_trues hacc]), ?_⟩
      rw [all_true]
      refine ⟨true, rfl, iteF ?_⟩
      have e1 : Ex H H1 := e0.trans e
      have hs1 : SqL K H1 a xs := Same.seq e1 hs
      -- value[0][0] != 0
      obtain ⟨x0, hx0, dx0⟩ := dpAll_get 0 (dRow r0) (DpAll.ex e1 _ _ ha) (by rw [er]; rfl)
      refine ⟨_, rfl, a, xs, 0, x0, rfl, rfl, hs1, atI_nat (j := 0) hx0, ?_⟩
      refine ixT (i := 0) dx0 rfl fun v0 hv0 => ?_
      cases dp_int hv0
      refine ⟨rfl, _, rfl, ?_⟩
      rw [h0]
      refine iteF ?_
      -- the borders ascend
      refine ⟨_, rfl, _, rfl, 1, rfl, a, xs, rfl, hs1, fun q nq => ?_⟩
      have ecut : cutV xs (some 1) none = xs.drop 1 := by
        unfold cutV
        have e1 : HT.sIx xs.length 0 (some 1) = 1 := by
          have := HT.sIx_nat xs.length 0 1
          rw [show ((1 : Nat) : Int) = 1 from rfl] at this
          rw [this]; omega
        rw [e1, HT.sIx_none]
        exact List.take_of_length_le (by rw [List.length_drop]; omega)
      rw [ecut]
      have e2 : Ex H1 (upd H1 q (.lst (xs.drop 1))) := Ex.new nq
      have hq2 : upd H1 q (.lst (xs.drop 1)) q = some (.lst (xs.drop 1)) := upd_same
      generalize upd H1 q (.lst (xs.drop 1)) = H2 at e2 hq2 ⊢
      refine ⟨a, q, xs, xs.drop 1, rfl, Same.seq e2 hs1, SqL.of hq2, fun D2 nD2 => ?_⟩
      have hmin : xs.length - 1 = min xs.length (xs.drop 1).length := by rw [List.length_drop]; omega
      refine lc_it (walk_zip (K := K) (a := a) (b := q) (xs := xs) (ys := xs.drop 1) hmin) (fun i H' => Ex H2 H' ∧ H' D2 = some (.lst (List.replicate i (.bl true)))) ⟨Ex.new nD2, upd_same⟩ (fun i H' _ z => ⟨Same.seq (e2.trans z.1) hs1, SqL.of (z.1 _ _ hq2)⟩) ?_ ?_
      · rintro i v H3 H4 hi ⟨e3, hD3⟩ ⟨t, y, z, rfl, nt, rfl, hy, hz⟩
        have hz1 : (xs.drop 1)[i]? = some z := hz
        have hz' : xs[i + 1]? = some z := by rw [List.getElem?_drop, Nat.add_comm] at hz1; exact hz1
        have et : Ex H3 (upd H3 t (.tup [y, z])) := Ex.new nt
        obtain ⟨dy, hdy, hyd⟩ := dpAll_at i y (DpAll.ex ((e1.trans e2).trans (e3.trans et)) _ _ ha) hy
        obtain ⟨dz, hdz, hzd⟩ := dpAll_at (i + 1) z (DpAll.ex ((e1.trans e2).trans (e3.trans et)) _ _ ha) hz'
        rw [List.getElem?_map] at hdy hdz
        obtain ⟨ry, hry, edy⟩ := Option.map_eq_some_iff.mp hdy
        obtain ⟨rz, hrz, edz⟩ := Option.map_eq_some_iff.mp hdz
        subst edy; subst edz
        refine ⟨t, [y, z], rfl, SqT.of upd_same, rfl, y, [z], rfl, z, [], rfl, rfl, rfl, yes ?_⟩
        refine ⟨_, rfl, ixT (i := 0) hyd rfl fun v0 hv0 => ?_⟩
        cases dp_int hv0
        refine ⟨_, rfl, ixT (i := 0) hzd rfl fun v1 hv1 => ?_⟩
        cases dp_int hv1
        refine ⟨_, _, rfl, rfl, _, et _ _ hD3, ?_, (e3.trans et).mut nD2, ?_⟩
        · rw [List.length_replicate]
          exact Nat.lt_of_lt_of_le (show i < 100 by omega) (by decide)
        · rw [upd_same]
          show some (HO.lst (List.replicate i (V.bl true) ++ [V.bl (decide (ry.b < rz.b))])) = _
          rw [decide_eq_true (asc_get ok.asc hry hrz), List.replicate_succ']
      · rintro H3 ⟨e3, hD3⟩
        refine ⟨D2, List.replicate (xs.length - 1) true, rfl, SqL.of (by rw [hD3, List.map_replicate]), ?_⟩
        rw [all_true]
        exact k H3 ((e1.trans e2).trans e3)

theorem atI_back {α : Type} {xs : List α} {v : α} (h : xs.getLast? = some v) : atI xs (-1) = some v := by
  obtain ⟨ys, e⟩ := List.getLast?_eq_some_iff.mp h
  rw [e]
  exact atI_last ys v
theorem dpAll_last {H : Hp} {xs : List V} {ds : List PyData} {d : PyData} (h : DpAll K H xs ds) (hd : ds.getLast? = some d) : ∃ v, xs.getLast? = some v ∧ Dp K H v d := by
  have hl := dpAll_len h
  rw [List.getLast?_eq_getElem?] at hd
  obtain ⟨v, hv, hvd⟩ := dpAll_get _ _ h hd
  exact ⟨v, by rw [List.getLast?_eq_getElem?, hl]; exact hv, hvd⟩
def spRowAt (K : PySem.W.Frag) : Sp := fun vs H Q _ => ∃ (v : V) (d : Int) (rows : List Row) (r : Row), vs = [v, .int d] ∧ Dp K H v (.tuple (rows.map dRow)) ∧ rows.length ≤ 6 ∧ rowAt rows d = some r ∧ ∀ v' H', Ex H H' → Dp K H' v' (dRow r) → Q v' H'
theorem sc_row_at : FnScope ["table", "difference", "row"] ["table", "difference"] (defScope s_row_at) := ⟨rfl, rfl, rfl, by decide +kernel, rfl, by decide +kernel, by decide +kernel⟩
theorem ok_row_at (D : Df K mg "row_at" s_row_at ["table", "difference"]) (T : Txt K mg) : Cal P w K mg base 1 "row_at" (spRowAt K) := by
  refine cal_mk D sc_row_at (fun vs H Q E h => ?_) (fun f cdv A outer s H vs Q E hr h => ?_)
  · obtain ⟨v, d, rows, r, rfl, _⟩ := h
    rfl
  · obtain ⟨v, d, rows, r, rfl, hv, h6, hrow, k⟩ := h
    have nd := sc_row_at.nd
    have hu1 := hu_of hr
    have hu9 := hu9_of hr
    have hu64 := hu64_of hr
    have hu65 := hu65_of hr
    refine ⟨_, (pss_one (ps_ret (pe_ix ix_list (pe_lc (own := [("row", 2)]) rfl nd (pi_tup (pv 0)) (blkOk_by (own := [("row", 2)]) (N := ["table", "difference", "row"]) (sc := defScope s_row_at) (by decide +kernel)) (fun _ _ _ _ _ => (pg_name (i := 2) nd rfl (Or.inl rfl) (hf := Or.inr rfl))) (fun _ _ _ _ _ => (pts_one (pt_cmpR op_le (pe_ix (r := rIxT K) ix_tup (pv 2) pe_int (fun _ _ => rfl)) (pv 1) (nomark _)))) (fun _ _ _ _ _ => (pv 2))) (pe_un un_neg pe_int) (fun _ _ => rfl)))), ?_⟩
    -- slots: 0 table, 1 difference, 2 row
    obtain ⟨a, xs, rfl, hs, ha⟩ := dp_tup hv
    have hl : xs.length = rows.length := by rw [dpAll_len ha, List.length_map]
    refine ⟨_, rfl, a, rfl, ⟨xs, hs⟩, fun D nD => ?_⟩
    refine lc_tup (K := K) (a := a) (xs := xs) (fun i H' => Ex H H' ∧ ∃ acc, H' D = some (.lst acc) ∧ DpAll K H' acc (((rows.take i).filter fun r => decide (r.b ≤ d)).map dRow)) ⟨Ex.new nD, [], upd_same, .nil⟩ (fun i H' _ z => z.1.tx.sqT hs) ?_ ?_
    · rintro i x H1 hx ⟨e, acc, hD, hacc⟩
      have hi : i < rows.length := by rw [← hl]; exact (List.getElem?_eq_some_iff.mp hx).1
      obtain ⟨dd, hdd, hxd⟩ := dpAll_at i x (DpAll.ex e _ _ ha) hx
      rw [List.getElem?_map, List.getElem?_eq_getElem hi] at hdd
      have edd : dRow rows[i] = dd := Option.some.inj hdd
      subst edd
      refine ⟨rfl, _, rfl, ixT (i := 0) hxd rfl fun v0 hv0 => ?_⟩
      cases dp_int hv0
      refine ⟨_, rfl, _, _, rfl, rfl, _, rfl, ?_⟩
      have step : (rows.take (i + 1)).filter (fun r => decide (r.b ≤ d)) = (rows.take i).filter (fun r => decide (r.b ≤ d)) ++ (if rows[i].b ≤ d then [rows[i]] else []) := by
        rw [List.take_succ_eq_append_getElem hi, List.filter_append]
        by_cases hb : rows[i].b ≤ d
        · simp [hb]
        · simp [hb]
      refine ite2 (fun hb => ?_) (fun hb => ?_)
      · have hb' : rows[i].b ≤ d := of_decide_eq_true hb
        refine ⟨_, rfl, acc, hD, ?_, e.mut nD, acc ++ [x], upd_same, ?_⟩
        · have := dpAll_len hacc
          rw [List.length_map] at this
          have h2 := List.length_filter_le (fun r : Row => decide (r.b ≤ d)) (rows.take i)
          rw [List.length_take] at h2
          exact Nat.lt_of_lt_of_le (show acc.length < 100 by omega) (by decide)
        · rw [step, if_pos hb', List.map_append]
          have hsub : noL.noLs (((rows.take i).filter fun r => decide (r.b ≤ d)).map dRow) = true := noLs_mem fun z hz => by
            obtain ⟨q, _, rfl⟩ := List.mem_map.mp hz
            exact noL_Row q
          exact dpAll_snoc (DpAll.tx (tx_lst hD) _ _ hsub hacc) (Dp.tx (tx_lst hD) _ _ (noL_Row _) hxd)
      · have hb' : ¬ rows[i].b ≤ d := fun z => hb (decide_eq_true z)
        refine ⟨e, acc, hD, ?_⟩
        rw [step, if_neg hb', List.append_nil]
        exact hacc
    · rintro H1 ⟨e, acc, hD, hacc⟩
      rw [hl, List.take_length] at hacc
      obtain ⟨v, hv, hvd⟩ := dpAll_last (d := dRow r) hacc (by
        rw [List.getLast?_map]
        unfold rowAt at hrow
        rw [hrow]
        rfl)
      refine ⟨_, rfl, D, acc, -1, v, rfl, rfl, SqL.of hD, atI_back hv, ?_⟩
      exact k v H1 e hvd

theorem vRes_in (r : Res) : inV (.str r.s) vRes = true := by cases r <;> decide +kernel
def spIsResult : Sp := fun vs H Q _ => ∃ r : Res, vs = [.str r.s] ∧ Q (.bl true) H
theorem sc_is_result : FnScope ["value"] ["value"] (defScope s_is_result) := ⟨rfl, rfl, rfl, by decide +kernel, rfl, by decide +kernel, by decide +kernel⟩
theorem ok_is_result (D : Df K mg "is_result" s_is_result ["value"]) (T : Txt K mg) : Cal P w K mg base 1 "is_result" spIsResult := by
  refine cal_mk D sc_is_result (fun vs H Q E h => ?_) (fun f cdv A outer s H vs Q E hr h => ?_)
  · obtain ⟨i, rfl, _⟩ := h
    rfl
  · obtain ⟨r, rfl, k⟩ := h
    have nd := sc_is_result.nd
    have hu1 := hu_of hr
    have hu9 := hu9_of hr
    have hu64 := hu64_of hr
    have hu65 := hu65_of hr
    refine ⟨_, (pss_one (ps_ret (pe_and (pe_callB call_isi (by rfl) T.isinstance_ PyProof.Rows.boot_isinstance (pa_cons (pv 0) (pa_cons (pe_bltn (v := .ty "str") (by rfl) T.str_ PyProof.Rows.boot_str rfl) pa_nil))) (pe_one (pe_cmpR op_in_seq (pv 0) (pe_glob (v := .ref (aR K)) rfl T.results rfl) (by rfl)))))), ?_⟩
    -- slots: 0 value
    refine ⟨_, rfl, _, _, _, _, true, rfl, .ty "str", .base (.str r.s), kit_ty (by decide +kernel), true, rfl, ?_⟩
    refine iteT ⟨_, rfl, aR K, vRes, rfl, .inr (T.resAt H), rfl, rfl, ?_⟩
    rw [if_neg Bool.false_ne_true, vRes_in]
    exact k
end
end Tw
/-! The book's methods. -/
namespace Tw
open PySem PySem.Spec PyProof.Rows L2
section
variable {P : Program} {w : World} {K : PySem.W.Frag} {mg : Str → Option Value} {base : Heap}

def spLastPh (K : PySem.W.Frag) : Sp := fun vs H Q _ => ∃ (b : Addr) (m : Bk), vs = [.ref b] ∧ BookAt K H b m ∧ Q (.int (lastPh m)) H
theorem sc_b_last_phase : FnScope ["self"] ["self"] (defScope s_b_last_phase) := ⟨rfl, rfl, rfl, by decide +kernel, rfl, by decide +kernel, by decide +kernel⟩
theorem ok_b_last_phase (D : Dm K (CB K) "last_phase" "Book.last_phase" s_b_last_phase ["self"]) (T : Txt K mg) : Met P w K mg base 1 (CB K) "last_phase" (spLastPh K) := by
  refine met_mk T.clB D sc_b_last_phase (fun vs H Q E h => ?_) (fun f cdv A outer s H vs Q E hr h => ?_)
  · obtain ⟨b, m, rfl, _⟩ := h
    rfl
  · obtain ⟨b, m, rfl, hB, k⟩ := h
    have nd := sc_b_last_phase.nd
    have hu1 := hu_of hr
    have hu9 := hu9_of hr
    have hu64 := hu64_of hr
    have hu65 := hu65_of hr
    refine ⟨_, (pss_one (ps_ret (pe_ifExp (pt_cmpR op_gt (pe_fld (pv 0) rfl) pe_int (nomark _)) (pe_fld (pv 0) rfl) (pe_callTy call_int1 (by rfl) T.int_ PyProof.Rows.boot_int (pa_cons (pe_cmpR op_gt (pe_fld (pv 0) rfl) pe_int (nomark _)) pa_nil))))), ?_⟩
    -- slots: 0 self
    unfold lastPh at k
    refine ⟨_, rfl, fB_fresh T hB ?_⟩
    refine ⟨_, _, rfl, rfl, _, rfl, ite2 (fun h1 => ?_) (fun h1 => ?_)⟩
    · rw [if_pos (of_decide_eq_true h1)] at k
      exact ⟨_, rfl, fB_fresh T hB k⟩
    · rw [if_neg (fun z => h1 (decide_eq_true z))] at k
      refine ⟨_, rfl, fB_bonus T hB ?_⟩
      refine ⟨_, _, rfl, rfl, .inr ⟨_, rfl, ?_⟩⟩
      by_cases h2 : m.bonus > 0
      · rw [if_pos h2] at k
        rw [decide_eq_true (show (0 : Int) < m.bonus from h2)]
        exact k
      · rw [if_neg h2] at k
        rw [decide_eq_false (show ¬ (0 : Int) < m.bonus from h2)]
        exact k

theorem lastPh_0 {m : Bk} (ok : m.Ok) : 0 ≤ lastPh m ∧ lastPh m ≤ 2 := by
  unfold lastPh
  have := ok.f0; have := ok.f2
  split
  · omega
  · split <;> omega
def spPlaces (K : PySem.W.Frag) : Sp := fun vs H Q _ => ∃ (b : Addr) (m : Bk), vs = [.ref b] ∧ BookAt K H b m ∧ m.Ok ∧ ∀ p H' xs, Ex H H' → H' p = some (.lst xs) → xs.length ≤ 24 → Q (.ref p) H'
theorem sc_b_places : FnScope ["self", "phases", "rating", "phase"] ["self"] (defScope s_b_places) := ⟨rfl, rfl, rfl, by decide +kernel, rfl, by decide +kernel, by decide +kernel⟩
theorem ok_b_places (D : Dm K (CB K) "places" "Book.places" s_b_places ["self"]) (T : Txt K mg) (C_b_last_phase : Met P w K mg base 1 (CB K) "last_phase" (spLastPh K)) : Met P w K mg base 2 (CB K) "places" (spPlaces K) := by
  refine met_mk T.clB D sc_b_places (fun vs H Q E h => ?_) (fun f cdv A outer s H vs Q E hr h => ?_)
  · obtain ⟨b, m, rfl, _⟩ := h
    rfl
  · obtain ⟨b, m, rfl, hB, ok, k⟩ := h
    have nd := sc_b_places.nd
    have hu1 := hu_of hr
    have hu9 := hu9_of hr
    have hu64 := hu64_of hr
    have hu65 := hu65_of hr
    refine ⟨_, (pss_cons (ps_set (i := 1) nd rfl (Or.inr rfl) (pe_listRg rfl (by rfl) T.list_ (prg_1 (by rfl) T.range_ (pe_op op_add (pe_mt0 C_b_last_phase hr (by decide) (pv 0)) pe_int))))
    (pss_one (ps_ret (pe_lc2 (own := [("rating", 2), ("phase", 3)]) (vs1 := [3]) rfl nd (pi_range2 (by rfl) T.range_ (pa_cons (pe_fld (pv 0) rfl) (pa_cons (pe_op op_add (pe_fld (pv 0) rfl) pe_int) pa_nil))) (blkOk_by (own := [("rating", 2), ("phase", 3)]) (N := ["self", "phases", "rating", "phase"]) (sc := defScope s_b_places) (by decide +kernel)) (by decide) (fun _ _ _ _ _ => (pg_name (i := 2) nd rfl (Or.inl rfl) (hf := Or.inr rfl))) (fun _ _ _ _ _ => pts_nil) (fun _ _ _ _ _ => (pi_listK (K := K) rfl (pv 1))) (fun _ _ _ _ _ => (pg_name (i := 3) nd rfl (Or.inl rfl) (hf := Or.inr rfl))) (fun _ _ _ _ _ => pts_nil) (fun _ _ _ _ _ => (pe_tup (pa_cons (pv 2) (pa_cons (pv 3) pa_nil)))))))), ?_⟩
    -- slots: 0 self, 1 phases, 2 rating, 3 phase
    obtain ⟨l0, l2⟩ := lastPh_0 ok
    refine ⟨_, rfl, mB hB (by decide +kernel) ⟨b, m, rfl, hB, ?_⟩⟩
    refine ⟨_, _, rfl, rfl, _, rfl, .of_le (by omega) (by omega) (by omega) (by omega), fun q nq => ?_⟩
    have e0 : Ex H (upd H q (.lst (rgV 0 (lastPh m + 1)))) := Ex.new nq
    have hq : upd H q (.lst (rgV 0 (lastPh m + 1))) q = some (.lst (rgV 0 (lastPh m + 1))) := upd_same
    generalize upd H q (.lst (rgV 0 (lastPh m + 1))) = H0 at e0 hq ⊢
    have hB0 := hB.ex e0
    refine ⟨_, rfl, fB_low T hB0 ⟨_, rfl, fB_high T hB0 ⟨_, _, rfl, rfl, _, _, rfl, ?_, fun D nD => ?_⟩⟩⟩
    · have := ok.l0; have := ok.lh; have := ok.h1
      exact ⟨by omega, by omega, by omega, by omega⟩
    have hlen : (rgV 0 (lastPh m + 1)).length = (lastPh m + 1).toNat := by rw [rgV_length]; simp
    have n1 : (lastPh m + 1).toNat ≤ 3 := by omega
    have n0 : (m.high + 1 - m.low).toNat ≤ 5 := by have := ok.hl; omega
    refine it_gen (walk_range (lo := m.low) (n := (m.high + 1 - m.low).toNat)) (fun i H' => Ex H0 H' ∧ ∃ acc, H' D = some (.lst acc) ∧ acc.length = i * (lastPh m + 1).toNat) ⟨Ex.new nD, [], upd_same, by simp⟩ (fun _ _ _ _ => trivial) ?_ ?_
    · rintro i x H1 H2 hi ⟨e1, acc, hD, hacc⟩ ⟨rfl, rfl⟩
      refine ⟨rfl, yes ?_⟩
      refine ⟨_, rfl, q, rfl, ⟨_, SqL.of (e1 _ _ hq)⟩, ?_⟩
      refine it_gen (walk_list (K := K) (a := q) (xs := rgV 0 (lastPh m + 1))) (fun j H' => Ex H0 H' ∧ ∃ acc, H' D = some (.lst acc) ∧ acc.length = i * (lastPh m + 1).toNat + j) ⟨e1, acc, hD, by omega⟩ (fun j H' _ z => SqL.of (z.1 _ _ hq)) ?_ ?_
      · rintro j y H3 H4 hj ⟨e3, acc3, hD3, hacc3⟩ ⟨rfl, hy⟩
        refine ⟨rfl, yes ?_⟩
        refine ⟨_, rfl, _, rfl, (by show 2 ≤ sizeLine; decide), fun t nt => ?_⟩
        have et : Ex H4 (upd H4 t (.tup [.int (m.low + i), y])) := Ex.new nt
        refine ⟨acc3, et _ _ hD3, ?_, (e3.trans et).mut nD, _, upd_same, by rw [List.length_append, List.length_singleton, hacc3]; omega⟩
        rw [hlen] at hj
        have h15 : i * (lastPh m + 1).toNat ≤ 5 * 3 := Nat.mul_le_mul (by omega) n1
        exact Nat.lt_of_lt_of_le (show acc3.length < 100 by omega) (by decide)
      · rintro H3 ⟨e3, acc3, hD3, hacc3⟩
        refine ⟨e3, acc3, hD3, ?_⟩
        rw [hacc3, hlen, Nat.add_mul, Nat.one_mul]
    · rintro H1 ⟨e1, acc, hD, hacc⟩
      refine k D H1 acc (e0.trans e1) hD ?_
      rw [hacc]
      have h15 : (m.high + 1 - m.low).toNat * (lastPh m + 1).toNat ≤ 5 * 3 := Nat.mul_le_mul n0 n1
      omega

def spLen (K : PySem.W.Frag) : Sp := fun vs H Q _ => ∃ (b : Addr) (m : Bk), vs = [.ref b] ∧ BookAt K H b m ∧ m.Ok ∧ ∀ (n : Int) H', Ex H H' → 0 ≤ n → n ≤ 24 → Q (.int n) H'
theorem sc_b_len : FnScope ["self"] ["self"] (defScope s_b_len) := ⟨rfl, rfl, rfl, by decide +kernel, rfl, by decide +kernel, by decide +kernel⟩
theorem ok_b_len (D : Dm K (CB K) "__len__" "Book.__len__" s_b_len ["self"]) (T : Txt K mg) (C_b_places : Met P w K mg base 2 (CB K) "places" (spPlaces K)) : Met P w K mg base 3 (CB K) "__len__" (spLen K) := by
  refine met_mk T.clB D sc_b_len (fun vs H Q E h => ?_) (fun f cdv A outer s H vs Q E hr h => ?_)
  · obtain ⟨b, m, rfl, _⟩ := h
    rfl
  · obtain ⟨b, m, rfl, hB, ok, k⟩ := h
    have nd := sc_b_len.nd
    have hu1 := hu_of hr
    have hu9 := hu9_of hr
    have hu64 := hu64_of hr
    have hu65 := hu65_of hr
    refine ⟨_, (pss_one (ps_ret (pe_callB call_len_seq (by rfl) T.len_ PySem.boot_len (pa_cons (pe_mt0 C_b_places hr (by decide) (pv 0)) pa_nil)))), ?_⟩
    -- slots: 0 self
    refine ⟨_, rfl, mB hB (by decide +kernel) ⟨b, m, rfl, hB, ok, fun p H' xs e hp hl => ?_⟩⟩
    exact ⟨p, xs, rfl, .inl (SqL.of hp), k _ H' e (by omega) (by omega)⟩

def spContains (K : PySem.W.Frag) : Sp := fun vs H Q _ => ∃ (b : Addr) (m : Bk) (v : V) (p : Pl), vs = [.ref b, v] ∧ BookAt K H b m ∧ Dp K H v (dPl p) ∧ OkPl m p ∧ Q (.bl true) H
theorem sc_b_contains : FnScope ["self", "place"] ["self", "place"] (defScope s_b_contains) := ⟨rfl, rfl, rfl, by decide +kernel, rfl, by decide +kernel, by decide +kernel⟩
theorem ok_b_contains (D : Dm K (CB K) "__contains__" "Book.__contains__" s_b_contains ["self", "place"]) (T : Txt K mg) (C_is_integer : Cal P w K mg base 2 "is_integer" spIsInteger) (C_b_last_phase : Met P w K mg base 1 (CB K) "last_phase" (spLastPh K)) :
    Met P w K mg base 3 (CB K) "__contains__" (spContains K) := by
  refine met_mk T.clB D sc_b_contains (fun vs H Q E h => ?_) (fun f cdv A outer s H vs Q E hr h => ?_)
  · obtain ⟨b, m, v, p, rfl, _⟩ := h
    rfl
  · obtain ⟨b, m, v, p, rfl, hB, hp, ok, k⟩ := h
    have nd := sc_b_contains.nd
    have hu1 := hu_of hr
    have hu9 := hu9_of hr
    have hu64 := hu64_of hr
    have hu65 := hu65_of hr
    refine ⟨_, (pss_cons (ps_if (PW.pt (pw_or (pt_not (pt_val (pe_callB call_isi (by rfl) T.isinstance_ PyProof.Rows.boot_isinstance (pa_cons (pv 1) (pa_cons (pe_bltn (v := .ty "tuple") (by rfl) T.tuple_ PyProof.Rows.boot_tuple rfl) pa_nil))))) (pw_or1 (pt_cmpR op_ne (pe_callB call_len_seq (by rfl) T.len_ PySem.boot_len (pa_cons (pv 1) pa_nil)) pe_int (nomark _)))))
    (pss_one (ps_ret pe_bl))
    pss_nil)
    (pss_one (ps_ret (pe_and (pe_c C_is_integer hr (by decide) rfl (pa_cons (pe_ix ix_tup (pv 1) pe_int (fun _ _ => rfl)) (pa_cons (pe_fld (pv 0) rfl) (pa_cons (pe_fld (pv 0) rfl) pa_nil)))) (pe_one (pe_c C_is_integer hr (by decide) rfl (pa_cons (pe_ix ix_tup (pv 1) pe_int (fun _ _ => rfl)) (pa_cons pe_int (pa_cons (pe_mt0 C_b_last_phase hr (by decide) (pv 0)) pa_nil))))))))), ?_⟩
    -- slots: 0 self, 1 place
    obtain ⟨a, rfl, hs⟩ := dp_pl hp
    refine ⟨_, rfl, _, _, _, _, true, rfl, .ty "tuple", tyT hs, kit_ty (by decide +kernel), true, rfl, iteF ?_⟩
    refine ⟨_, rfl, a, _, rfl, .inr hs, rfl, _, rfl, iteF ?_⟩
    refine ⟨_, rfl, ixP0 hp ⟨_, rfl, fB_low T hB ⟨_, rfl, fB_high T hB ⟨p.1, m.low, m.high, rfl, ?_⟩⟩⟩⟩
    rw [decide_eq_true ok.r0, decide_eq_true ok.r1]
    refine ⟨true, rfl, iteT ?_⟩
    refine ⟨_, rfl, ixP1 hp ⟨_, rfl, mB hB (by decide +kernel) ⟨b, m, rfl, hB, p.2, 0, lastPh m, rfl, ?_⟩⟩⟩
    rw [decide_eq_true ok.p0, decide_eq_true ok.p1]
    exact k

def spStart (K : PySem.W.Frag) : Sp := fun vs H Q _ => ∃ (b : Addr) (m : Bk) (r : Int), vs = [.ref b, .int r] ∧ BookAt K H b m ∧ m.low ≤ r ∧ r ≤ m.high ∧ ∀ v H', Ex H H' → Dp K H' v (dPl (r, m.fresh)) → Q v H'
theorem sc_b_start : FnScope ["self", "rating"] ["self", "rating"] (defScope s_b_start) := ⟨rfl, rfl, rfl, by decide +kernel, rfl, by decide +kernel, by decide +kernel⟩
theorem ok_b_start (D : Dm K (CB K) "start" "Book.start" s_b_start ["self", "rating"]) (T : Txt K mg) (C_is_integer : Cal P w K mg base 2 "is_integer" spIsInteger) : Met P w K mg base 3 (CB K) "start" (spStart K) := by
  refine met_mk T.clB D sc_b_start (fun vs H Q E h => ?_) (fun f cdv A outer s H vs Q E hr h => ?_)
  · obtain ⟨b, m, r, rfl, _⟩ := h
    rfl
  · obtain ⟨b, m, r, rfl, hB, h1, h2, k⟩ := h
    have nd := sc_b_start.nd
    have hu1 := hu_of hr
    have hu9 := hu9_of hr
    have hu64 := hu64_of hr
    have hu65 := hu65_of hr
    refine ⟨_, (pss_cons (ps_if (pt_not (pt_val (pe_c C_is_integer hr (by decide) rfl (pa_cons (pv 1) (pa_cons (pe_fld (pv 0) rfl) (pa_cons (pe_fld (pv 0) rfl) pa_nil))))))
    (pss_one ps_never)
    pss_nil)
    (pss_one (ps_ret (pe_tup (pa_cons (pv 1) (pa_cons (pe_fld (pv 0) rfl) pa_nil)))))), ?_⟩
    -- slots: 0 self, 1 rating
    refine ⟨_, rfl, _, rfl, fB_low T hB ⟨_, rfl, fB_high T hB ⟨r, m.low, m.high, rfl, _, rfl, ?_⟩⟩⟩
    rw [decide_eq_true h1, decide_eq_true h2]
    refine iteF ?_
    exact ⟨_, rfl, _, rfl, fB_fresh T hB (mkP k)⟩

def spMoved (K : PySem.W.Frag) : Sp := fun vs H Q _ => ∃ (b : Addr) (m : Bk) (v : V) (p : Pl) (c : Int) (wn : Bool), vs = [.ref b, v, .int c, .bl wn] ∧ BookAt K H b m ∧ m.Ok ∧ Dp K H v (dPl p) ∧ ∀ v' H', Ex H H' → Dp K H' v' (dPl (moved m p c wn)) → Q v' H'
theorem CMul_r {i j : Int} (h0 : -1000 ≤ j) (h1 : j ≤ 1000) : CMul i j := .inr ⟨by omega, by omega⟩
theorem sc_b_moved : FnScope ["self", "place", "change", "is_won", "rating", "phase", "later"] ["self", "place", "change", "is_won"] (defScope s_b_moved) := ⟨rfl, rfl, rfl, by decide +kernel, rfl, by decide +kernel, by decide +kernel⟩
theorem ok_b_moved (D : Dm K (CB K) "moved" "Book.moved" s_b_moved ["self", "place", "change", "is_won"]) (T : Txt K mg) : Met P w K mg base 1 (CB K) "moved" (spMoved K) := by
  refine met_mk T.clB D sc_b_moved (fun vs H Q E h => ?_) (fun f cdv A outer s H vs Q E hr h => ?_)
  · obtain ⟨b, m, v, p, c, wn, rfl, _⟩ := h
    rfl
  · obtain ⟨b, m, v, p, c, wn, rfl, hB, ok, hp, k⟩ := h
    have nd := sc_b_moved.nd
    have hu1 := hu_of hr
    have hu9 := hu9_of hr
    have hu64 := hu64_of hr
    have hu65 := hu65_of hr
    refine ⟨_, (pss_cons (ps_asg (pv 1) (pg_tup rfl (pgs_cons (pg_name (i := 4) nd rfl (Or.inl rfl)) (pgs_cons (pg_name (i := 5) nd rfl (Or.inl rfl)) pgs_nil))))
    (pss_cons (ps_if (pt_cmpR op_gt (pe_fld (pv 0) rfl) pe_int (nomark _))
    (pss_cons (ps_aug (i := 4) nd rfl (Or.inl rfl) (pe_ifExp (pt_cmpR op_gt (pv 5) pe_int (nomark _)) (pe_op op_mul (pv 2) (pe_fld (pv 0) rfl)) (pv 2)) ip_add)
    (pss_one (ps_set (i := 6) nd rfl (Or.inl rfl) (pe_callB (call_max2 rfl) (by rfl) T.max_ PyProof.Rows.boot_max (pa_cons pe_int (pa_cons (pe_op op_sub (pv 5) pe_int) pa_nil))))))
    (pss_cons (ps_aug (i := 4) nd rfl (Or.inl rfl) (pe_ifExp (PW.pt (pw_and (pt_val (pv 3)) (pw_and1 (pt_cmpR op_gt (pv 5) pe_int (nomark _))))) (pe_op op_add (pv 2) (pe_fld (pv 0) rfl)) (pv 2)) ip_add)
    (pss_one (ps_set (i := 6) nd rfl (Or.inl rfl) (pe_callTy call_int1 (by rfl) T.int_ PyProof.Rows.boot_int (pa_cons (pe_and (pv 3) (pe_one (pe_cmpR op_gt (pe_fld (pv 0) rfl) pe_int (nomark _)))) pa_nil))))))
    (pss_one (ps_ret (pe_tup (pa_cons (pe_callB (call_min2 rfl) (by rfl) T.min_ PyProof.Rows.boot_min (pa_cons (pe_callTy call_int1 (by rfl) T.int_ PyProof.Rows.boot_int (pa_cons (pe_fld (pv 0) rfl) pa_nil)) (pa_cons (pe_callB (call_max2 rfl) (by rfl) T.max_ PyProof.Rows.boot_max (pa_cons (pe_callTy call_int1 (by rfl) T.int_ PyProof.Rows.boot_int (pa_cons (pe_fld (pv 0) rfl) pa_nil)) (pa_cons (pe_callTy call_int1 (by rfl) T.int_ PyProof.Rows.boot_int (pa_cons (pv 4) pa_nil)) pa_nil))) pa_nil))) (pa_cons (pv 6) pa_nil))))))), ?_⟩
    -- slots: 0 self, 1 place, 2 change, 3 is_won, 4 rating, 5 phase, 6 later
    obtain ⟨a, rfl, hs⟩ := dp_pl hp
    refine ⟨_, rfl, a, _, rfl, hs, rfl, _, _, rfl, _, _, rfl, rfl, ?_⟩
    have t1 := ok.t1; have t3 := ok.t3
    have fin : ∀ (x y : Int), moved m p c wn = (clamp m x, y) → ∀ (v' : V) (H' : Hp), Ex H H' → Dp K H' v' (dPl (clamp m x, y)) → Q v' H' := fun x y e => by
      rw [e] at k
      exact k
    refine ⟨_, rfl, fB_fresh T hB ⟨_, _, rfl, rfl, _, rfl, ite2 (fun h1 => ?_) (fun h1 => ?_)⟩⟩
    · have h1' : m.fresh > 0 := of_decide_eq_true h1
      refine ⟨_, rfl, _, rfl, _, _, rfl, rfl, _, rfl, ite2 (fun h2 => ?_) (fun h2 => ?_)⟩
      · have h2' : p.2 > 0 := of_decide_eq_true h2
        refine ⟨_, rfl, _, rfl, fB_times T hB ⟨_, _, rfl, rfl, CMul_r (by omega) (by omega), _, _, rfl, rfl, ?_⟩⟩
        refine ⟨_, rfl, _, _, rfl, rfl, _, _, rfl, ?_⟩
        refine ⟨_, rfl, fB_high T hB (.inl ⟨_, rfl, _, rfl, fB_low T hB (.inl ⟨_, rfl, _, rfl, .inl ⟨_, rfl, _, _, rfl, _, _, rfl, _, rfl, mkP (fin _ _ ?_)⟩⟩)⟩)⟩
        unfold moved
        rw [if_pos h1', if_pos h2']
      · have h2' : ¬ p.2 > 0 := fun z => h2 (decide_eq_true z)
        refine ⟨_, rfl, _, _, rfl, rfl, ?_⟩
        refine ⟨_, rfl, _, _, rfl, rfl, _, _, rfl, ?_⟩
        refine ⟨_, rfl, fB_high T hB (.inl ⟨_, rfl, _, rfl, fB_low T hB (.inl ⟨_, rfl, _, rfl, .inl ⟨_, rfl, _, _, rfl, _, _, rfl, _, rfl, mkP (fin _ _ ?_)⟩⟩)⟩)⟩
        unfold moved
        rw [if_pos h1', if_neg h2']
    · have h1' : ¬ m.fresh > 0 := fun z => h1 (decide_eq_true z)
      refine ⟨_, rfl, _, rfl, _, rfl, ?_⟩
      cases wn with
      | false =>
        refine iteF (iteF ?_)
        refine ⟨_, rfl, _, _, rfl, rfl, ?_⟩
        refine ⟨_, rfl, _, rfl, iteF (.inr ⟨_, rfl, ?_⟩)⟩
        refine ⟨_, rfl, fB_high T hB (.inl ⟨_, rfl, _, rfl, fB_low T hB (.inl ⟨_, rfl, _, rfl, .inl ⟨_, rfl, _, _, rfl, _, _, rfl, _, rfl, mkP (fin _ _ ?_)⟩⟩)⟩)⟩
        unfold moved
        rw [if_neg h1', if_neg (by simp), if_neg (by simp)]
        rfl
      | true =>
        refine iteT ⟨_, rfl, _, _, rfl, rfl, _, rfl, ite2 (fun h2 => ?_) (fun h2 => ?_)⟩
        · have h2' : p.2 > 0 := of_decide_eq_true h2
          refine ⟨_, rfl, _, rfl, fB_bonus T hB ⟨_, _, rfl, rfl, _, _, rfl, rfl, ?_⟩⟩
          refine ⟨_, rfl, _, rfl, iteT ⟨_, rfl, fB_bonus T hB ⟨_, _, rfl, rfl, .inr ⟨_, rfl, ?_⟩⟩⟩⟩
          refine ⟨_, rfl, fB_high T hB (.inl ⟨_, rfl, _, rfl, fB_low T hB (.inl ⟨_, rfl, _, rfl, .inl ⟨_, rfl, _, _, rfl, _, _, rfl, _, rfl, mkP (fin _ _ ?_)⟩⟩)⟩)⟩
          unfold moved
          rw [if_neg h1', if_pos ⟨rfl, h2'⟩]
          by_cases h3 : m.bonus > 0
          · rw [if_pos ⟨rfl, h3⟩, decide_eq_true (show (0 : Int) < m.bonus from h3)]
            rfl
          · rw [if_neg (fun z => h3 z.2), decide_eq_false (show ¬ (0 : Int) < m.bonus from h3)]
            rfl
        · have h2' : ¬ p.2 > 0 := fun z => h2 (decide_eq_true z)
          refine ⟨_, rfl, _, _, rfl, rfl, ?_⟩
          refine ⟨_, rfl, _, rfl, iteT ⟨_, rfl, fB_bonus T hB ⟨_, _, rfl, rfl, .inr ⟨_, rfl, ?_⟩⟩⟩⟩
          refine ⟨_, rfl, fB_high T hB (.inl ⟨_, rfl, _, rfl, fB_low T hB (.inl ⟨_, rfl, _, rfl, .inl ⟨_, rfl, _, _, rfl, _, _, rfl, _, rfl, mkP (fin _ _ ?_)⟩⟩)⟩)⟩
          unfold moved
          rw [if_neg h1', if_neg (fun z => h2' z.2)]
          by_cases h3 : m.bonus > 0
          · rw [if_pos ⟨rfl, h3⟩, decide_eq_true (show (0 : Int) < m.bonus from h3)]
            rfl
          · rw [if_neg (fun z => h3 z.2), decide_eq_false (show ¬ (0 : Int) < m.bonus from h3)]
            rfl
end
end Tw
/-! A game; a book is made. -/
namespace Tw
open PySem PySem.Spec PyProof.Rows L2
section
variable {P : Program} {w : World} {K : PySem.W.Frag} {mg : Str → Option Value} {base : Heap}

theorem filter_head {rows : List Row} {r : Row} {rs : List Row} {d : Int} (e : rows = r :: rs) (h0 : r.b = 0) (hd : 0 ≤ d) : ∃ x, rowAt rows d = some x ∧ x ∈ rows := by
  have hne : (rows.filter fun r => decide (r.b ≤ d)) ≠ [] := by
    rw [e, List.filter_cons, if_pos (decide_eq_true (by omega))]
    exact List.cons_ne_nil _ _
  refine ⟨_, List.getLast?_eq_some_getLast hne, ?_⟩
  exact (List.mem_filter.mp (List.getLast_mem hne)).1
theorem up_eq (r : Res) : decide (V.str r.s = V.str "upper") = decide (r = .up) := by cases r <;> decide +kernel
theorem lo_eq (r : Res) : decide (V.str r.s = V.str "lower") = decide (r = .lo) := by cases r <;> decide +kernel
def Res.n : Res → Nat
  | .up => 0
  | .dr => 1
  | .lo => 2
theorem res_at (r : Res) : (["upper", "draw", "lower"] : List Str)[r.n]? = some r.s := by cases r <;> rfl
theorem res_first (r : Res) : ∀ m : Nat, m < r.n → (["upper", "draw", "lower"] : List Str)[m]? ≠ some r.s := by
  intro m hm
  cases r with
  | up => exact absurd hm (Nat.not_lt_zero _)
  | dr =>
    match m, hm with
    | 0, _ => decide +kernel
  | lo =>
    match m, hm with
    | 0, _ => decide +kernel
    | 1, _ => decide +kernel
theorem row_at_r (row : Row) (r : Res) : atI [PyData.int row.b, dEn (row.e .up), dEn (row.e .dr), dEn (row.e .lo)] (1 + (r.n : Int)) = some (dEn (row.e r)) := by cases r <;> rfl
/-- what a game hands back -/
def gmV (K : PySem.W.Frag) (H : Hp) (v : V) : Option (Pl × Pl) → Prop
  | none => v = .non
  | some z => Dp K H v (.tuple [dPl z.1, dPl z.2])
def spGame (K : PySem.W.Frag) : Sp := fun vs H Q _ => ∃ (b : Addr) (m : Bk) (x y : V) (u l : Pl) (r : Res), vs = [.ref b, x, y, .str r.s] ∧ BookAt K H b m ∧ m.Ok ∧ Dp K H x (dPl u) ∧ Dp K H y (dPl l) ∧ OkPl m u ∧ OkPl m l ∧ l.1 ≤ u.1 ∧
  ∀ v H', Ex H H' → gmV K H' v (gm m u l r) → Q v H'
theorem sc_b_game : FnScope ["self", "upper", "lower", "result", "place", "entry"] ["self", "upper", "lower", "result"] (defScope s_b_game) := ⟨rfl, rfl, rfl, by decide +kernel, rfl, by decide +kernel, by decide +kernel⟩
theorem ok_b_game (D : Dm K (CB K) "game" "Book.game" s_b_game ["self", "upper", "lower", "result"]) (T : Txt K mg) (C_b_contains : Met P w K mg base 3 (CB K) "__contains__" (spContains K)) (C_is_result : Cal P w K mg base 1 "is_result" spIsResult)
    (C_row_at : Cal P w K mg base 1 "row_at" (spRowAt K)) (C_b_moved : Met P w K mg base 1 (CB K) "moved" (spMoved K)) : Met P w K mg base 4 (CB K) "game" (spGame K) := by
  refine met_mk T.clB D sc_b_game (fun vs H Q E h => ?_) (fun f cdv A outer s H vs Q E hr h => ?_)
  · obtain ⟨b, m, x, y, u, l, r, rfl, _⟩ := h
    rfl
  · obtain ⟨b, m, x, y, u, l, r, rfl, hB, ok, hx, hy, hu, hl, hle, k⟩ := h
    have nd := sc_b_game.nd
    have hu1 := hu_of hr
    have hu9 := hu9_of hr
    have hu64 := hu64_of hr
    have hu65 := hu65_of hr
    refine ⟨_, (pss_cons (ps_for PassesOwn.never rfl (pi_tup (pe_tup (pa_cons (pv 1) (pa_cons (pv 2) pa_nil)))) (pg_name (i := 4) nd rfl (Or.inl rfl))
    (pss_one (ps_if (pt_cmpR (op_ownNotIn' C_b_contains hr (by decide)) (pv 4) (pv 0) (by rfl))
    (pss_one ps_never)
    pss_nil)))
    (pss_cons (ps_if (pt_not (pt_val (pe_c C_is_result hr (by decide) rfl (pa_cons (pv 3) pa_nil))))
    (pss_one ps_never)
    pss_nil)
    (pss_cons (ps_if (pt_cmpR op_gt (pe_ix ix_tup (pv 2) pe_int (fun _ _ => rfl)) (pe_ix ix_tup (pv 1) pe_int (fun _ _ => rfl)) (nomark _))
    (pss_one ps_never)
    pss_nil)
    (pss_cons (ps_set (i := 5) nd rfl (Or.inl rfl) (pe_ix ix_tup (pe_c C_row_at hr (by decide) rfl (pa_cons (pe_fld (pv 0) rfl) (pa_cons (pe_op op_sub (pe_ix ix_tup (pv 1) pe_int (fun _ _ => rfl)) (pe_ix ix_tup (pv 2) pe_int (fun _ _ => rfl))) pa_nil))) (pe_op op_add pe_int (pe_bm PySem.F.plainAttrs_tuple PySem.F.slot_tuple_index PySem.F.type_tuple_index mt_tup_index (pe_glob (v := .ref (aR K)) rfl T.results rfl) (pa_cons (pv 3) pa_nil))) (fun _ _ => rfl)))
    (pss_cons (ps_if (pt_cmpR op_isN (pv 5) pe_non (nomark _))
    (pss_one (ps_ret pe_non))
    pss_nil)
    (pss_one (ps_ret (pe_tup (pa_cons (pe_mt C_b_moved hr (by decide) (pv 0) (pa_cons (pv 1) (pa_cons (pe_ix ix_tup (pv 5) pe_int (fun _ _ => rfl)) (pa_cons (pe_cmpR op_eq (pv 3) pe_str (nomark _)) pa_nil)))) (pa_cons (pe_mt C_b_moved hr (by decide) (pv 0) (pa_cons (pv 2) (pa_cons (pe_ix ix_tup (pv 5) pe_int (fun _ _ => rfl)) (pa_cons (pe_cmpR op_eq (pv 3) pe_str (nomark _)) pa_nil)))) pa_nil)))))))))), ?_⟩
    -- slots: 0 self, 1 upper, 2 lower, 3 result, 4 place, 5 entry
    refine ⟨_, rfl, _, rfl, (by show 2 ≤ sizeLine; decide), fun p np => ?_⟩
    have e0 : Ex H (upd H p (.tup [x, y])) := Ex.new np
    have hp : upd H p (.tup [x, y]) p = some (.tup [x, y]) := upd_same
    generalize upd H p (.tup [x, y]) = H0 at e0 hp ⊢
    have hB0 := hB.ex e0
    have hx0 := Dp.ex e0 _ _ hx
    have hy0 := Dp.ex e0 _ _ hy
    refine ⟨p, rfl, ⟨_, SqT.of hp⟩, for_tup (K := K) (a := p) (xs := [x, y]) (fun i σ H' => H' = H0 ∧ ∃ v4, σ = [some (.ref b), some x, some y, some (.str r.s), v4, none]) ⟨rfl, none, rfl⟩ (fun i σ H' _ z => by rw [z.1]; exact SqT.of hp) ?_ ?_⟩
    · rintro i v σ H' hi ⟨rfl, v4, rfl⟩
      obtain ⟨q, hq, oq⟩ : ∃ q, Dp K H' v (dPl q) ∧ OkPl m q := by
        match i, hi with
        | 0, hi => cases hi; exact ⟨u, hx0, hu⟩
        | 1, hi => cases hi; exact ⟨l, hy0, hl⟩
        | i + 2, hi => simp at hi
      obtain ⟨dx, tv, hb1, hb2⟩ := id hB0
      refine ⟨_, rfl, _, rfl, b, dx, _, rfl, hb1, b, m, v, q, rfl, hB0, hq, oq, true, rfl, _, rfl, iteF ?_⟩
      exact ⟨rfl, _, rfl⟩
    · rintro σ H' ⟨rfl, v4, rfl⟩
      refine ⟨_, rfl, r, rfl, true, rfl, iteF ?_⟩
      refine ⟨_, rfl, ixP0 hy0 ⟨_, rfl, ixP0 hx0 ⟨_, _, rfl, rfl, _, rfl, ?_⟩⟩⟩
      rw [decide_eq_false (show ¬ u.1 < l.1 by omega)]
      refine iteF ?_
      -- the row's entry
      obtain ⟨r0, rs, er, h0⟩ := ok.first
      obtain ⟨row, hrow, mrow⟩ := filter_head (d := u.1 - l.1) er h0 (by omega)
      have hgm : gm m u l r = (row.e r).map fun c => (moved m u c.1 (decide (r = .up)), moved m l c.2 (decide (r = .lo))) := by
        unfold gm
        rw [hrow]
      refine ⟨_, rfl, fB_table T hB0 fun tv htv => ⟨_, rfl, ixP0 hx0 ⟨_, rfl, ixP0 hy0 ⟨_, _, rfl, rfl, tv, _, m.rows, row, rfl, htv, ok.n6, hrow, fun v1 H1 e1 hv1 => ?_⟩⟩⟩⟩
      obtain ⟨o, ho1, ho2, ho3⟩ := T.resTy
      refine ⟨.inr (.inl ⟨rfl, o, ho1, ho2, ho3⟩), _, rfl, aR K, ["upper", "draw", "lower"], r.s, r.n, rfl, rfl, T.resAt _, res_at r, res_first r, _, _, rfl, rfl, ?_⟩
      refine ixT (K := K) hv1 (row_at_r row r) fun v5 hv5 => ?_
      have hB1 := hB0.ex e1
      have hx1 := Dp.ex e1 _ _ hx0
      have hy1 := Dp.ex e1 _ _ hy0
      cases hc : row.e r with
      | none =>
        rw [hc] at hv5 hgm
        cases dp_non hv5
        refine ⟨_, rfl, rfl, _, rfl, iteT ?_⟩
        refine k _ H1 (e0.trans e1) ?_
        rw [hgm]
        rfl
      | some c =>
        rw [hc] at hv5 hgm
        obtain ⟨a5, rfl, s5⟩ := dp_pl hv5
        refine ⟨_, rfl, rfl, _, rfl, iteF ?_⟩
        refine ⟨_, rfl, mB hB1 (by decide +kernel) ⟨_, rfl, _, rfl, ixP0 hv5 ⟨_, rfl, rfl, b, m, x, u, c.1, _, rfl, hB1, ok, hx1, fun v6 H6 e6 hv6 => ?_⟩⟩⟩
        have hB6 := hB1.ex e6
        refine ⟨_, rfl, mB hB6 (by decide +kernel) ⟨_, rfl, _, rfl, ixP1 (Dp.ex e6 _ _ hv5) ⟨_, rfl, rfl, b, m, y, l, c.2, _, rfl, hB6, ok, Dp.ex e6 _ _ hy1, fun v7 H7 e7 hv7 => ?_⟩⟩⟩
        refine mkT (ds := [_, _]) (.cons (Dp.ex e7 _ _ hv6) (.cons hv7 .nil)) (by show 2 ≤ sizeLine; decide) fun v8 H8 e8 hv8 => ?_
        refine k v8 H8 (((e0.trans e1).trans (e6.trans e7)).trans e8) ?_
        rw [hgm]
        rw [up_eq, lo_eq] at hv8
        exact hv8

theorem Bk.Ok.tab {m : Bk} (ok : m.Ok) : TabOk m.rows := ⟨ok.n6, ok.first, ok.asc, ok.rows⟩
def spBInit (K : PySem.W.Frag) : Sp := fun vs H Q _ => ∃ (H0 : Hp) (x dx : Addr) (m : Bk) (tv : V), vs = [.ref x, .int m.low, .int m.high, tv, .int m.fresh, .int m.times, .int m.bonus] ∧ m.Ok ∧ Dp K H0 tv (.list (m.rows.map dRow)) ∧ Ex H0 H ∧ H0 x = none ∧
  H x = some (.ins (CB K) dx []) ∧ ∀ H', Ex H0 H' → BookAt K H' x m → Q .non H'
theorem noLs_rows (rows : List Row) : noL.noLs (rows.map dRow) = true := noLs_mem fun z hz => by
  obtain ⟨q, _, rfl⟩ := List.mem_map.mp hz
  exact noL_Row q
theorem sc_b_init : FnScope ["self", "low", "high", "table", "fresh", "times", "bonus"] ["self", "low", "high", "table", "fresh", "times", "bonus"] (defScope s_b_init) := ⟨rfl, rfl, rfl, by decide +kernel, rfl, by decide +kernel, by decide +kernel⟩
theorem ok_b_init (D : DfB K mg s_b_init ["self", "low", "high", "table", "fresh", "times", "bonus"]) (T : Txt K mg) (C_is_integer : Cal P w K mg base 2 "is_integer" spIsInteger) (C_is_table : Cal P w K mg base 5 "is_table" (spIsTable K))
    (C_b_len : Met P w K mg base 3 (CB K) "__len__" (spLen K)) : MakB P w K mg base 6 (spBInit K) := by
  refine makB_mk D sc_b_init (fun vs H Q E h => ?_) (fun f cdv A outer s H vs Q E hr h => ?_)
  · obtain ⟨H0, x, dx, m, tv, rfl, _⟩ := h
    rfl
  · obtain ⟨H0, x, dx, m, tv, rfl, ok, ht, e0, nx, hx, k⟩ := h
    have nd := sc_b_init.nd
    have hu1 := hu_of hr
    have hu9 := hu9_of hr
    have hu64 := hu64_of hr
    have hu65 := hu65_of hr
    refine ⟨_, (pss_cons (ps_if (pt_not (pt_val (pe_c C_is_integer hr (by decide) rfl (pa_cons (pv 1) (pa_cons pe_int (pa_cons (pe_globI rfl T.most_rating) pa_nil))))))
    (pss_one ps_never)
    pss_nil)
    (pss_cons (ps_if (pt_not (pt_val (pe_c C_is_integer hr (by decide) rfl (pa_cons (pv 2) (pa_cons (pv 1) (pa_cons (pe_globI rfl T.most_rating) pa_nil))))))
    (pss_one ps_never)
    pss_nil)
    (pss_cons (ps_if (pt_not (pt_val (pe_c C_is_table hr (by decide) rfl (pa_cons (pv 3) pa_nil))))
    (pss_one ps_never)
    pss_nil)
    (pss_cons (ps_if (pt_not (pt_val (pe_c C_is_integer hr (by decide) rfl (pa_cons (pv 4) (pa_cons pe_int (pa_cons pe_int pa_nil))))))
    (pss_one ps_never)
    pss_nil)
    (pss_cons (ps_if (pt_not (pt_val (pe_c C_is_integer hr (by decide) rfl (pa_cons (pv 5) (pa_cons pe_int (pa_cons (pe_ifExp (pt_cmpR op_gt (pv 4) pe_int (nomark _)) pe_int pe_int) pa_nil))))))
    (pss_one ps_never)
    pss_nil)
    (pss_cons (ps_if (pt_not (pt_val (pe_c C_is_integer hr (by decide) rfl (pa_cons (pv 6) (pa_cons pe_int (pa_cons (pe_ifExp (pt_cmpR op_eq (pv 4) pe_int (nomark _)) pe_int pe_int) pa_nil))))))
    (pss_one ps_never)
    pss_nil)
    (pss_cons (ps_fld (pv 0) (pv 1) rfl)
    (pss_cons (ps_fld (pv 0) (pv 2) rfl)
    (pss_cons (ps_fld (pv 0) (pe_callTy call_tuple_of (by rfl) T.tuple_ PyProof.Rows.boot_tuple (pa_cons (pv 3) pa_nil)) rfl)
    (pss_cons (ps_fld (pv 0) (pv 4) rfl)
    (pss_cons (ps_fld (pv 0) (pv 5) rfl)
    (pss_cons (ps_fld (pv 0) (pv 6) rfl)
    (pss_one (ps_if (pt_cmpR op_gt (pe_callB (call_ownLen' C_b_len hr (by decide)) (by rfl) T.len_ PySem.boot_len (pa_cons (pv 0) pa_nil)) (pe_globI rfl T.most_places) (nomark _))
    (pss_one ps_never)
    pss_nil)))))))))))))), ?_⟩
    -- slots: 0 self, 1 low, 2 high, 3 table, 4 fresh, 5 times, 6 bonus
    have := ok.l0; have := ok.lh; have := ok.h1; have := ok.f0; have := ok.f2; have := ok.t1; have := ok.t3; have := ok.o0; have := ok.o5
    refine ⟨_, rfl, m.low, 0, 23, rfl, _, rfl, ?_⟩
    rw [decide_eq_true ok.l0, decide_eq_true (show m.low ≤ 23 by omega)]
    refine iteF ?_
    refine ⟨_, rfl, _, rfl, m.high, m.low, 23, rfl, _, rfl, ?_⟩
    rw [decide_eq_true ok.lh, decide_eq_true ok.h1]
    refine iteF ?_
    refine ⟨_, rfl, tv, m.rows, rfl, Dp.ex e0 _ _ ht, ok.tab, fun H1 e1 => ⟨_, rfl, iteF ?_⟩⟩
    have e01 := e0.trans e1
    have hx1 := e1 _ _ hx
    refine ⟨_, rfl, m.fresh, 0, 2, rfl, _, rfl, ?_⟩
    rw [decide_eq_true ok.f0, decide_eq_true ok.f2]
    refine iteF ?_
    -- times
    refine ⟨_, rfl, _, rfl, _, _, rfl, rfl, _, rfl, ?_⟩
    have hfc : (0 < m.fresh ∧ m.bonus = 0) ∨ (¬ 0 < m.fresh ∧ m.fresh = 0 ∧ m.times = 1) := by
      by_cases h : 0 < m.fresh
      · exact .inl ⟨h, ok.of h⟩
      · exact .inr ⟨h, by omega, ok.tf (by omega)⟩
    rcases hfc with ⟨f1, f2⟩ | ⟨f1, f2, f3⟩
    · refine ifT (decide_eq_true f1) ⟨m.times, 1, 3, rfl, _, rfl, ?_⟩
      rw [decide_eq_true ok.t1, decide_eq_true ok.t3]
      refine iteF ?_
      refine ⟨_, rfl, _, rfl, rfl, _, rfl, ifF (decN (fun z => by injection z with z; omega)) ⟨m.bonus, 0, 0, rfl, _, rfl, ?_⟩⟩
      rw [decide_eq_true ok.o0, decide_eq_true (show m.bonus ≤ 0 by omega)]
      refine iteF ?_
      -- the attributes
      refine ⟨_, rfl, _, rfl, x, _, dx, _, rfl, hx1, T.clB, T.bLow, by decide, ?_⟩
      have nxl : ∀ o, Ex H0 (upd H1 x o) := fun o => e01.mut nx
      generalize hA : upd H1 x (.ins (CB K) dx (putF "low" (.int m.low) [])) = HA
      have eA : Ex H0 HA := by rw [← hA]; exact e01.mut nx
      have xA : HA x = some (.ins (CB K) dx (putF "low" (.int m.low) [])) := by rw [← hA]; exact upd_same
      refine ⟨_, rfl, _, rfl, x, _, dx, _, rfl, xA, T.clB, T.bHigh, (by show (1 : Nat) < 1000; decide), ?_⟩
      generalize hB : upd HA x (.ins (CB K) dx (putF "high" (.int m.high) (putF "low" (.int m.low) []))) = HB
      have eB : Ex H0 HB := by rw [← hB]; exact eA.mut nx
      have xB : HB x = some (.ins (CB K) dx (putF "high" (.int m.high) (putF "low" (.int m.low) []))) := by rw [← hB]; exact upd_same
      obtain ⟨ta, txs, rfl, hts, hta⟩ := dp_lst (Dp.ex eB _ _ ht)
      refine ⟨_, rfl, ta, txs, rfl, .inl ⟨hts, fun tl ntl => ?_⟩⟩
      have eC : Ex HB (upd HB tl (.tup txs)) := Ex.new ntl
      have htl : upd HB tl (.tup txs) tl = some (.tup txs) := upd_same
      generalize upd HB tl (.tup txs) = HC at eC htl ⊢
      have htd : Dp K HC (.ref tl) (.tuple (m.rows.map dRow)) := .tup (SqT.of htl) (DpAll.ex eC _ _ hta)
      refine ⟨_, rfl, x, _, dx, _, rfl, eC _ _ xB, T.clB, T.bTable, (by show (2 : Nat) < 1000; decide), ?_⟩
      generalize hD : upd HC x (.ins (CB K) dx (putF "table" (.ref tl) (putF "high" (.int m.high) (putF "low" (.int m.low) [])))) = HD
      have eD : Ex H0 HD := by rw [← hD]; exact (eB.trans eC).mut nx
      have xD : HD x = some (.ins (CB K) dx (putF "table" (.ref tl) (putF "high" (.int m.high) (putF "low" (.int m.low) [])))) := by rw [← hD]; exact upd_same
      have tD : Dp K HD (.ref tl) (.tuple (m.rows.map dRow)) := by
        rw [← hD]
        exact Dp.tx (Tx.upd (eC _ _ xB) (fun _ e => nomatch e) (fun _ _ e => nomatch e)) _ _ (by show noL.noLs _ = true; exact noLs_rows _) htd
      refine ⟨_, rfl, _, rfl, x, _, dx, _, rfl, xD, T.clB, T.bFresh, (by show (3 : Nat) < 1000; decide), ?_⟩
      generalize hE : upd HD x (.ins (CB K) dx (putF "fresh" (.int m.fresh) (putF "table" (.ref tl) (putF "high" (.int m.high) (putF "low" (.int m.low) []))))) = HE
      have eE : Ex H0 HE := by rw [← hE]; exact eD.mut nx
      have xE : HE x = some (.ins (CB K) dx (putF "fresh" (.int m.fresh) (putF "table" (.ref tl) (putF "high" (.int m.high) (putF "low" (.int m.low) []))))) := by rw [← hE]; exact upd_same
      have tE : Dp K HE (.ref tl) (.tuple (m.rows.map dRow)) := by
        rw [← hE]
        exact Dp.tx (Tx.upd xD (fun _ e => nomatch e) (fun _ _ e => nomatch e)) _ _ (by show noL.noLs _ = true; exact noLs_rows _) tD
      refine ⟨_, rfl, _, rfl, x, _, dx, _, rfl, xE, T.clB, T.bTimes, (by show (4 : Nat) < 1000; decide), ?_⟩
      generalize hF : upd HE x (.ins (CB K) dx (putF "times" (.int m.times) (putF "fresh" (.int m.fresh) (putF "table" (.ref tl) (putF "high" (.int m.high) (putF "low" (.int m.low) [])))))) = HF
      have eF : Ex H0 HF := by rw [← hF]; exact eE.mut nx
      have xF : HF x = some (.ins (CB K) dx (putF "times" (.int m.times) (putF "fresh" (.int m.fresh) (putF "table" (.ref tl) (putF "high" (.int m.high) (putF "low" (.int m.low) [])))))) := by rw [← hF]; exact upd_same
      have tF : Dp K HF (.ref tl) (.tuple (m.rows.map dRow)) := by
        rw [← hF]
        exact Dp.tx (Tx.upd xE (fun _ e => nomatch e) (fun _ _ e => nomatch e)) _ _ (by show noL.noLs _ = true; exact noLs_rows _) tE
      refine ⟨_, rfl, _, rfl, x, _, dx, _, rfl, xF, T.clB, T.bBonus, (by show (5 : Nat) < 1000; decide), ?_⟩
      generalize hG : upd HF x (.ins (CB K) dx (putF "bonus" (.int m.bonus) (putF "times" (.int m.times) (putF "fresh" (.int m.fresh) (putF "table" (.ref tl) (putF "high" (.int m.high) (putF "low" (.int m.low) []))))))) = HG
      have eG : Ex H0 HG := by rw [← hG]; exact eF.mut nx
      have xG : HG x = some (.ins (CB K) dx (bkF m (.ref tl))) := by rw [← hG]; exact upd_same
      have tG : Dp K HG (.ref tl) (.tuple (m.rows.map dRow)) := by
        rw [← hG]
        exact Dp.tx (Tx.upd xF (fun _ e => nomatch e) (fun _ _ e => nomatch e)) _ _ (by show noL.noLs _ = true; exact noLs_rows _) tF
      have BG : BookAt K HG x m := ⟨dx, .ref tl, xG, tG⟩
      refine ⟨_, rfl, x, dx, _, rfl, xG, x, m, rfl, BG, ok, fun n H2 e2 n0 n24 => ⟨n, rfl, n0, Int.lt_of_le_of_lt n24 (by decide), ?_⟩⟩
      refine ⟨_, _, rfl, rfl, _, rfl, ?_⟩
      rw [decide_eq_false (show ¬ (24 : Int) < n by omega)]
      refine iteF ?_
      exact k H2 (eG.trans e2) (BG.ex e2)
    · refine ifF (decide_eq_false f1) ⟨m.times, 1, 1, rfl, _, rfl, ?_⟩
      rw [decide_eq_true ok.t1, decide_eq_true (show m.times ≤ 1 by omega)]
      refine iteF ?_
      refine ⟨_, rfl, _, rfl, rfl, _, rfl, ifT (decV (by rw [f2])) ⟨m.bonus, 0, 5, rfl, _, rfl, ?_⟩⟩
      rw [decide_eq_true ok.o0, decide_eq_true ok.o5]
      refine iteF ?_
      -- the attributes
      refine ⟨_, rfl, _, rfl, x, _, dx, _, rfl, hx1, T.clB, T.bLow, by decide, ?_⟩
      have nxl : ∀ o, Ex H0 (upd H1 x o) := fun o => e01.mut nx
      generalize hA : upd H1 x (.ins (CB K) dx (putF "low" (.int m.low) [])) = HA
      have eA : Ex H0 HA := by rw [← hA]; exact e01.mut nx
      have xA : HA x = some (.ins (CB K) dx (putF "low" (.int m.low) [])) := by rw [← hA]; exact upd_same
      refine ⟨_, rfl, _, rfl, x, _, dx, _, rfl, xA, T.clB, T.bHigh, (by show (1 : Nat) < 1000; decide), ?_⟩
      generalize hB : upd HA x (.ins (CB K) dx (putF "high" (.int m.high) (putF "low" (.int m.low) []))) = HB
      have eB : Ex H0 HB := by rw [← hB]; exact eA.mut nx
      have xB : HB x = some (.ins (CB K) dx (putF "high" (.int m.high) (putF "low" (.int m.low) []))) := by rw [← hB]; exact upd_same
      obtain ⟨ta, txs, rfl, hts, hta⟩ := dp_lst (Dp.ex eB _ _ ht)
      refine ⟨_, rfl, ta, txs, rfl, .inl ⟨hts, fun tl ntl => ?_⟩⟩
      have eC : Ex HB (upd HB tl (.tup txs)) := Ex.new ntl
      have htl : upd HB tl (.tup txs) tl = some (.tup txs) := upd_same
      generalize upd HB tl (.tup txs) = HC at eC htl ⊢
      have htd : Dp K HC (.ref tl) (.tuple (m.rows.map dRow)) := .tup (SqT.of htl) (DpAll.ex eC _ _ hta)
      refine ⟨_, rfl, x, _, dx, _, rfl, eC _ _ xB, T.clB, T.bTable, (by show (2 : Nat) < 1000; decide), ?_⟩
      generalize hD : upd HC x (.ins (CB K) dx (putF "table" (.ref tl) (putF "high" (.int m.high) (putF "low" (.int m.low) [])))) = HD
      have eD : Ex H0 HD := by rw [← hD]; exact (eB.trans eC).mut nx
      have xD : HD x = some (.ins (CB K) dx (putF "table" (.ref tl) (putF "high" (.int m.high) (putF "low" (.int m.low) [])))) := by rw [← hD]; exact upd_same
      have tD : Dp K HD (.ref tl) (.tuple (m.rows.map dRow)) := by
        rw [← hD]
        exact Dp.tx (Tx.upd (eC _ _ xB) (fun _ e => nomatch e) (fun _ _ e => nomatch e)) _ _ (by show noL.noLs _ = true; exact noLs_rows _) htd
      refine ⟨_, rfl, _, rfl, x, _, dx, _, rfl, xD, T.clB, T.bFresh, (by show (3 : Nat) < 1000; decide), ?_⟩
      generalize hE : upd HD x (.ins (CB K) dx (putF "fresh" (.int m.fresh) (putF "table" (.ref tl) (putF "high" (.int m.high) (putF "low" (.int m.low) []))))) = HE
      have eE : Ex H0 HE := by rw [← hE]; exact eD.mut nx
      have xE : HE x = some (.ins (CB K) dx (putF "fresh" (.int m.fresh) (putF "table" (.ref tl) (putF "high" (.int m.high) (putF "low" (.int m.low) []))))) := by rw [← hE]; exact upd_same
      have tE : Dp K HE (.ref tl) (.tuple (m.rows.map dRow)) := by
        rw [← hE]
        exact Dp.tx (Tx.upd xD (fun _ e => nomatch e) (fun _ _ e => nomatch e)) _ _ (by show noL.noLs _ = true; exact noLs_rows _) tD
      refine ⟨_, rfl, _, rfl, x, _, dx, _, rfl, xE, T.clB, T.bTimes, (by show (4 : Nat) < 1000; decide), ?_⟩
      generalize hF : upd HE x (.ins (CB K) dx (putF "times" (.int m.times) (putF "fresh" (.int m.fresh) (putF "table" (.ref tl) (putF "high" (.int m.high) (putF "low" (.int m.low) [])))))) = HF
      have eF : Ex H0 HF := by rw [← hF]; exact eE.mut nx
      have xF : HF x = some (.ins (CB K) dx (putF "times" (.int m.times) (putF "fresh" (.int m.fresh) (putF "table" (.ref tl) (putF "high" (.int m.high) (putF "low" (.int m.low) [])))))) := by rw [← hF]; exact upd_same
      have tF : Dp K HF (.ref tl) (.tuple (m.rows.map dRow)) := by
        rw [← hF]
        exact Dp.tx (Tx.upd xE (fun _ e => nomatch e) (fun _ _ e => nomatch e)) _ _ (by show noL.noLs _ = true; exact noLs_rows _) tE
      refine ⟨_, rfl, _, rfl, x, _, dx, _, rfl, xF, T.clB, T.bBonus, (by show (5 : Nat) < 1000; decide), ?_⟩
      generalize hG : upd HF x (.ins (CB K) dx (putF "bonus" (.int m.bonus) (putF "times" (.int m.times) (putF "fresh" (.int m.fresh) (putF "table" (.ref tl) (putF "high" (.int m.high) (putF "low" (.int m.low) []))))))) = HG
      have eG : Ex H0 HG := by rw [← hG]; exact eF.mut nx
      have xG : HG x = some (.ins (CB K) dx (bkF m (.ref tl))) := by rw [← hG]; exact upd_same
      have tG : Dp K HG (.ref tl) (.tuple (m.rows.map dRow)) := by
        rw [← hG]
        exact Dp.tx (Tx.upd xF (fun _ e => nomatch e) (fun _ _ e => nomatch e)) _ _ (by show noL.noLs _ = true; exact noLs_rows _) tF
      have BG : BookAt K HG x m := ⟨dx, .ref tl, xG, tG⟩
      refine ⟨_, rfl, x, dx, _, rfl, xG, x, m, rfl, BG, ok, fun n H2 e2 n0 n24 => ⟨n, rfl, n0, Int.lt_of_le_of_lt n24 (by decide), ?_⟩⟩
      refine ⟨_, _, rfl, rfl, _, rfl, ?_⟩
      rw [decide_eq_false (show ¬ (24 : Int) < n by omega)]
      refine iteF ?_
      exact k H2 (eG.trans e2) (BG.ex e2)
end
end Tw
/-! The Twins object: what stands, how it changes. -/
namespace Tw
open PySem PySem.Spec PyProof.Rows L2

def dSrc : Option Src → PyData
  | none => .none
  | some s => .tuple [dPr s.1, dPr s.2.1, .str s.2.2.1.s, .int s.2.2.2]
def kindS (c : Bool) : Str := if c then "counts" else "ratings"
def dFault : Option (Pr × Pr × Res × Bool) → PyData
  | none => .none
  | some s => .tuple [dPr s.1, dPr s.2.1, .str s.2.2.1.s, .str (kindS s.2.2.2)]
theorem noL_Pr (q : Pr) : noL (dPr q) = true := by simp [dPr, dPl, noL, noL.noLs]
theorem noL_Src (o : Option Src) : noL (dSrc o) = true := by cases o <;> simp [dSrc, noL, noL.noLs, noL_Pr]
theorem noL_Fault (o : Option (Pr × Pr × Res × Bool)) : noL (dFault o) = true := by cases o <;> simp [dFault, noL, noL.noLs, noL_Pr]
theorem noLs_prs (l : List Pr) : noL.noLs (l.map dPr) = true := noLs_mem fun z hz => by
  obtain ⟨q, _, rfl⟩ := List.mem_map.mp hz
  exact noL_Pr q
def twF (b1 b2 lp sd : Addr) (fv : V) (mp : Int) : List (Str × V) := [("one", .ref b1), ("other", .ref b2), ("pairs", .ref lp), ("sources", .ref sd), ("fault", fv), ("many_players", .int mp)]
section
variable {P : Program} {w : World} {K : PySem.W.Frag} {H0 H H' : Hp} {t b1 b2 : Addr} {s : TS} {mp : Int}
/-- the entries of the sources' dict are those of s -/
abbrev EsAt (K : PySem.W.Frag) (H : Hp) : List (Pr × V) → List (Pr × Option Src) → Prop := Paired fun kv e => kv.1 = e.1 ∧ Dp K H kv.2 (dSrc e.2)
/-- the parts of a Twins object, told by where they stand -/
structure TwIn (P : Program) (w : World) (K : PySem.W.Frag) (H0 H : Hp) (t b1 b2 dx lp sd : Addr) (fv : V) (pvs : List V) (kvs : List (Pr × V)) (s : TS) (mp : Int) : Prop where
  e : Ex H0 H
  nt : H0 t = none
  nl : H0 lp = none
  ns : H0 sd = none
  obj : H t = some (.ins (CT K) dx (twF b1 b2 lp sd fv mp))
  lst : H lp = some (.lst pvs)
  prs : DpAll K H pvs (s.keys.map dPr)
  nd : ND P w K H sd kvs
  ents : EsAt K H kvs s.es
  flt : Dp K H fv (dFault s.fault)
def TwAt (P : Program) (w : World) (K : PySem.W.Frag) (H0 H : Hp) (t b1 b2 : Addr) (s : TS) (mp : Int) : Prop := ∃ dx lp sd fv pvs kvs, TwIn P w K H0 H t b1 b2 dx lp sd fv pvs kvs s mp
theorem EsAt.tx (h : Tx H H') {kvs : List (Pr × V)} {es : List (Pr × Option Src)} (r : EsAt K H kvs es) : EsAt K H' kvs es :=
  Paired.mapP r fun _ _ z => ⟨z.1, Dp.tx h _ _ (noL_Src _) z.2⟩
theorem TwIn.ex {dx lp sd : Addr} {fv : V} {pvs : List V} {kvs : List (Pr × V)} (h : TwIn P w K H0 H t b1 b2 dx lp sd fv pvs kvs s mp) (e : Ex H H') : TwIn P w K H0 H' t b1 b2 dx lp sd fv pvs kvs s mp :=
  ⟨h.e.trans e, h.nt, h.nl, h.ns, e _ _ h.obj, e _ _ h.lst, DpAll.ex e _ _ h.prs, h.nd.ex e, h.ents.tx e.tx, Dp.ex e _ _ h.flt⟩
theorem TwAt.ex (h : TwAt P w K H0 H t b1 b2 s mp) (e : Ex H H') : TwAt P w K H0 H' t b1 b2 s mp := by
  obtain ⟨dx, lp, sd, fv, pvs, kvs, h⟩ := h
  exact ⟨dx, lp, sd, fv, pvs, kvs, h.ex e⟩
/-- a field of it -/
theorem fT {C dx : Addr} {fs : List (Str × V)} {x : Str} {v : V} {Q : V → Prop} (ht : H t = some (.ins C dx fs)) (c : Cls K C) (na : NoAttr K C x) (l : fs.lookup x = some v) (q : Q v) :
    ∃ a C dx fs v, V.ref t = .ref a ∧ H a = some (.ins C dx fs) ∧ Cls K C ∧ NoAttr K C x ∧ fs.lookup x = some v ∧ Q v := ⟨_, _, _, _, _, rfl, ht, c, na, l, q⟩
theorem mT {C dx : Addr} {fs : List (Str × V)} {x : Str} {R : Prop} (ht : H t = some (.ins C dx fs)) (l : fs.lookup x = none) (q : R) :
    ∃ a dx fs, V.ref t = .ref a ∧ H a = some (.ins C dx fs) ∧ fs.lookup x = none ∧ R := ⟨_, _, _, rfl, ht, l, q⟩
theorem tw_none {b1 b2 lp sd : Addr} {fv : V} {mp : Int} {x : Str} (h : (["one", "other", "pairs", "sources", "fault", "many_players"] : List Str).contains x = false) : (twF b1 b2 lp sd fv mp).lookup x = none := by
  have e : ∀ (ks : List Str) (fs : List (Str × V)), fs.map (·.1) = ks → ks.contains x = false → fs.lookup x = none := by
    intro ks fs
    induction fs generalizing ks with
    | nil => intro _ _; rfl
    | cons p r ih =>
      intro e1 e2
      subst e1
      rw [List.map_cons, List.contains_cons, Bool.or_eq_false_iff] at e2
      obtain ⟨a, b⟩ := p
      show (match x == a with | true => some b | false => r.lookup x) = none
      rw [show (x == a) = false from e2.1]
      exact ih _ rfl e2.2
  exact e _ _ rfl h
/-- the fault is set -/
theorem TwIn.setFault {dx lp sd : Addr} {fv fv' : V} {pvs : List V} {kvs : List (Pr × V)} {f : Option (Pr × Pr × Res × Bool)} (h : TwIn P w K H0 H t b1 b2 dx lp sd fv pvs kvs s mp) (hf : Dp K H fv' (dFault f)) :
    Tx H (upd H t (.ins (CT K) dx (putF "fault" fv' (twF b1 b2 lp sd fv mp)))) ∧ TwIn P w K H0 (upd H t (.ins (CT K) dx (putF "fault" fv' (twF b1 b2 lp sd fv mp)))) t b1 b2 dx lp sd fv' pvs kvs { s with fault := f } mp := by
  have tx : Tx H (upd H t (.ins (CT K) dx (putF "fault" fv' (twF b1 b2 lp sd fv mp)))) := Tx.upd h.obj (fun _ e => nomatch e) (fun _ _ e => nomatch e)
  obtain ⟨φ, hsd⟩ := h.nd.tracked
  exact ⟨tx, h.e.mut h.nt, h.nt, h.nl, h.ns, upd_same, by rw [upd_ne (ne_of h.lst h.obj (fun e => nomatch e))]; exact h.lst, DpAll.tx tx _ _ (noLs_prs _) h.prs,
    h.nd.mono tx (upd_ne (ne_of hsd h.obj (fun e => nomatch e))), h.ents.tx tx, Dp.tx tx _ _ (noL_Fault _) hf⟩
/-- many_players is set -/
theorem TwIn.setMany {dx lp sd : Addr} {fv : V} {pvs : List V} {kvs : List (Pr × V)} {mp' : Int} (h : TwIn P w K H0 H t b1 b2 dx lp sd fv pvs kvs s mp) :
    Tx H (upd H t (.ins (CT K) dx (putF "many_players" (.int mp') (twF b1 b2 lp sd fv mp)))) ∧ TwIn P w K H0 (upd H t (.ins (CT K) dx (putF "many_players" (.int mp') (twF b1 b2 lp sd fv mp)))) t b1 b2 dx lp sd fv pvs kvs s mp' := by
  have tx : Tx H (upd H t (.ins (CT K) dx (putF "many_players" (.int mp') (twF b1 b2 lp sd fv mp)))) := Tx.upd h.obj (fun _ e => nomatch e) (fun _ _ e => nomatch e)
  obtain ⟨φ, hsd⟩ := h.nd.tracked
  exact ⟨tx, h.e.mut h.nt, h.nt, h.nl, h.ns, upd_same, by rw [upd_ne (ne_of h.lst h.obj (fun e => nomatch e))]; exact h.lst, DpAll.tx tx _ _ (noLs_prs _) h.prs,
    h.nd.mono tx (upd_ne (ne_of hsd h.obj (fun e => nomatch e))), h.ents.tx tx, Dp.tx tx _ _ (noL_Fault _) h.flt⟩
theorem EsAt.look {kvs : List (Pr × V)} {es : List (Pr × Option Src)} (r : EsAt K H kvs es) (q : Pr) : (valV kvs q).isSome = decide (q ∈ es.map (·.1)) := by
  induction r with
  | nil => rfl
  | @cons p e ps es h _ ih =>
    by_cases hq : p.1 = q
    · rw [valV_pos hq, List.map_cons, ← h.1, hq]
      simp
    · rw [valV_neg hq, ih, List.map_cons, ← h.1]
      have : ¬ q = p.1 := fun z => hq z.symm
      simp [this]
theorem EsAt.get {kvs : List (Pr × V)} {es : List (Pr × Option Src)} (r : EsAt K H kvs es) {q : Pr} {o : Option Src} (nd : (es.map (·.1)).Nodup) (h : (q, o) ∈ es) : ∃ v, valV kvs q = some v ∧ Dp K H v (dSrc o) := by
  induction r with
  | nil => exact nomatch h
  | @cons p e ps es hpe _ ih =>
    rw [List.map_cons, List.nodup_cons] at nd
    rcases List.mem_cons.mp h with h | h
    · subst h
      exact ⟨p.2, valV_pos hpe.1, hpe.2⟩
    · have hne : ¬ p.1 = q := fun z => nd.1 (by rw [← hpe.1, z]; exact List.mem_map.mpr ⟨_, h, rfl⟩)
      rw [valV_neg hne]
      exact ih nd.2 h
theorem EsAt.len {kvs : List (Pr × V)} {es : List (Pr × Option Src)} (r : EsAt K H kvs es) : kvs.length = es.length := Paired.length r
end
end Tw
namespace Tw
open PySem PySem.Spec PyProof.Rows L2
section
variable {P : Program} {w : World} {K : PySem.W.Frag} {H0 H H' : Hp} {t b1 b2 : Addr} {s : TS} {mp : Int}
theorem Tx.same {d : Addr} {φ : Heap → Prop} (hd : H d = some (.ext φ)) (h : ∀ b, b ≠ d → H' b = H b) : Tx H H' := by
  refine ⟨fun a xs e => ?_, fun a o u e => ?_⟩
  · rw [h a (fun z => by rw [z, hd] at e; cases e)]; exact e
  · rw [h a (fun z => by rw [z, hd] at e; cases e)]; exact e
/-- a pair is put into both the sources and the list -/
theorem TwIn.add {dx lp sd : Addr} {fv : V} {pvs : List V} {kvs : List (Pr × V)} {q : Pr} {src : Src} {y v : V} (h : TwIn P w K H0 H t b1 b2 dx lp sd fv pvs kvs s mp) (hy : Dp K H y (dPr q)) (hv : Dp K H v (dSrc (some src)))
    (h8 : ∀ b, b ≠ sd → H' b = H b) (nd8 : ND P w K H' sd (kvs ++ [(q, v)])) :
    H' t = some (.ins (CT K) dx (twF b1 b2 lp sd fv mp)) ∧ H' lp = some (.lst pvs) ∧ Tx H (upd H' lp (.lst (pvs ++ [y]))) ∧
      TwIn P w K H0 (upd H' lp (.lst (pvs ++ [y]))) t b1 b2 dx lp sd fv (pvs ++ [y]) (kvs ++ [(q, v)]) { s with es := s.es ++ [(q, some src)] } mp := by
  obtain ⟨φ, hsd⟩ := h.nd.tracked
  obtain ⟨φ8, hsd8⟩ := nd8.tracked
  have ntd : t ≠ sd := ne_of h.obj hsd (fun e => nomatch e)
  have nld : lp ≠ sd := ne_of h.lst hsd (fun e => nomatch e)
  have o8 : H' t = some (.ins (CT K) dx (twF b1 b2 lp sd fv mp)) := (h8 t ntd).trans h.obj
  have l8 : H' lp = some (.lst pvs) := (h8 lp nld).trans h.lst
  have t8 : Tx H H' := Tx.same hsd h8
  have t9 : Tx H' (upd H' lp (.lst (pvs ++ [y]))) := tx_lst l8
  have tx := t8.trans t9
  have e8 : Ex H0 H' := fun a o e => by
    rw [h8 a (fun z => by rw [z, h.ns] at e; cases e)]
    exact h.e a o e
  refine ⟨o8, l8, tx, e8.mut h.nl, h.nt, h.nl, h.ns, by rw [upd_ne (ne_of o8 l8 (fun e => nomatch e))]; exact o8, upd_same, ?_, nd8.mono t9 (upd_ne nld.symm), ?_, Dp.tx tx _ _ (noL_Fault _) h.flt⟩
  · show DpAll K _ (pvs ++ [y]) ((s.es ++ [(q, some src)]).map (·.1) |>.map dPr)
    rw [List.map_append, List.map_append]
    exact dpAll_snoc (DpAll.tx tx _ _ (noLs_prs _) h.prs) (Dp.pr tx hy)
  · exact Paired.snoc (h.ents.tx tx) ⟨rfl, Dp.tx tx _ _ (noL_Src _) hv⟩
end
end Tw
/-! Twins: take. -/
namespace Tw
open PySem PySem.Spec PyProof.Rows L2
section
variable {P : Program} {w : World} {K : PySem.W.Frag} {mg : Str → Option Value} {base : Heap}

theorem gmV_none {H : Hp} {v : V} {o : Option (Pl × Pl)} (h : gmV K H v o) (e : o = none) : v = .non := by subst e; exact h
theorem gmV_some {H : Hp} {v : V} {o : Option (Pl × Pl)} {z : Pl × Pl} (h : gmV K H v o) (e : o = some z) : ∃ a, v = .ref a ∧ Dp K H (.ref a) (.tuple [dPl z.1, dPl z.2]) := by
  subst e
  obtain ⟨a, xs, rfl, hs, ha⟩ := dp_tup h
  exact ⟨a, rfl, h⟩
theorem gmV_ex {H H' : Hp} {v : V} {o : Option (Pl × Pl)} (h : gmV K H v o) (e : Ex H H') : gmV K H' v o := by
  cases o with
  | none => exact h
  | some z => exact Dp.ex e _ _ h
theorem ints_eqv (a b c d : Int) : (!PyData.eqv (.list [.int a, .int b]) (.list [.int c, .int d])) = !decide (a = c ∧ b = d) := by
  have e : PyData.eqv (.list [.int a, .int b]) (.list [.int c, .int d]) = ((a == c) && ((b == d) && true)) := by simp only [PyData.eqv, PyData.eqvAll]
  rw [e]
  by_cases h1 : a = c
  · by_cases h2 : b = d
    · subst h1; subst h2; simp
    · simp [h1, h2]
  · simp [h1]
theorem newT {H : Hp} {p : Addr} {vs : List V} {ds : List PyData} (np : H p = none) (hs : DpAll K H vs ds) : Ex H (upd H p (.tup vs)) ∧ Dp K (upd H p (.tup vs)) (.ref p) (.tuple ds) :=
  ⟨Ex.new np, .tup (SqT.of upd_same) (DpAll.ex (Ex.new np) _ _ hs)⟩
theorem newFault {H : Hp} {p : Addr} {x y : V} {u l : Pr} {r : Res} {c : Bool} {cs : Str} (np : H p = none) (hc : cs = kindS c) (hx : Dp K H x (dPr u)) (hy : Dp K H y (dPr l)) :
    Ex H (upd H p (.tup [x, y, .str r.s, .str cs])) ∧ Dp K (upd H p (.tup [x, y, .str r.s, .str cs])) (.ref p) (dFault (some (u, l, r, c))) := by
  subst hc
  exact newT np (.cons hx (.cons hy (.cons (.str _) (.cons (.str _) .nil))))
theorem newSrc {H : Hp} {p : Addr} {x y : V} {u l : Pr} {r : Res} {k0 : Int} (np : H p = none) (hx : Dp K H x (dPr u)) (hy : Dp K H y (dPr l)) :
    Ex H (upd H p (.tup [x, y, .str r.s, .int k0])) ∧ Dp K (upd H p (.tup [x, y, .str r.s, .int k0])) (.ref p) (dSrc (some (u, l, r, k0))) :=
  newT np (.cons hx (.cons hy (.cons (.str _) (.cons (.int _) .nil))))
theorem addF_len (s : TS) (p : Pr) (src : Src) : (addF s p src).es.length ≤ s.es.length + 1 := by
  unfold addF
  split
  · omega
  · simp
def takeS (s : TS) (z1 z2 : Pl × Pl) (u l : Pr) (r : Res) : Nat → TS
  | 0 => s
  | 1 => addF s (z1.1, z2.1) (u, l, r, 0)
  | _ => addF (addF s (z1.1, z2.1) (u, l, r, 0)) (z1.2, z2.2) (u, l, r, 1)
def spTake (P : Program) (w : World) (K : PySem.W.Frag) : Sp := fun vs H Q _ => ∃ (H0 : Hp) (t b1 b2 : Addr) (m n : Bk) (s : TS) (mp : Int) (x y : V) (u l : Pr) (r : Res), vs = [.ref t, x, y, .str r.s] ∧ TwAt P w K H0 H t b1 b2 s mp ∧ BookAt K H0 b1 m ∧ m.Ok ∧ BookAt K H0 b2 n ∧ n.Ok ∧
  Dp K H x (dPr u) ∧ Dp K H y (dPr l) ∧ OkPl m u.1 ∧ OkPl n u.2 ∧ OkPl m l.1 ∧ OkPl n l.2 ∧ l.1.1 ≤ u.1.1 ∧ l.2.1 ≤ u.2.1 ∧ s.es.length ≤ 1000 ∧ ∀ H', Tx H H' → TwAt P w K H0 H' t b1 b2 (takeF m n s u l r) mp → Q .non H'
theorem sc_t_take : FnScope ["self", "upper", "lower", "result", "one", "other", "number", "pair", "place"] ["self", "upper", "lower", "result"] (defScope s_t_take) := ⟨rfl, rfl, rfl, by decide +kernel, rfl, by decide +kernel, by decide +kernel⟩
theorem ok_t_take (D : Dm K (CT K) "take" "Twins.take" s_t_take ["self", "upper", "lower", "result"]) (T : Txt K mg) (C_b_game : Met P w K mg base 4 (CB K) "game" (spGame K)) : Met P w K mg base 5 (CT K) "take" (spTake P w K) := by
  refine met_mk T.clT D sc_t_take (fun vs H Q E h => ?_) (fun f cdv A outer st H vs Q E hr h => ?_)
  · obtain ⟨H0, t, b1, b2, m, n, s, mp, x, y, u, l, r, rfl, _⟩ := h
    rfl
  · obtain ⟨H0, t, b1, b2, m, n, s, mp, x, y, u, l, r, rfl, tw, hm, okm, hn, okn, hx, hy, u1, u2, l1, l2, le1, le2, hlen, k⟩ := h
    have nd := sc_t_take.nd
    have hu1 := hu_of hr
    have hu9 := hu9_of hr
    have hu64 := hu64_of hr
    have hu65 := hu65_of hr
    refine ⟨_, (pss_cons (ps_set (i := 4) nd rfl (Or.inl rfl) (pe_mt C_b_game hr (by decide) (pe_fld (pv 0) rfl) (pa_cons (pe_ix ix_tup (pv 1) pe_int (fun _ _ => rfl)) (pa_cons (pe_ix ix_tup (pv 2) pe_int (fun _ _ => rfl)) (pa_cons (pv 3) pa_nil)))))
    (pss_cons (ps_set (i := 5) nd rfl (Or.inl rfl) (pe_mt C_b_game hr (by decide) (pe_fld (pv 0) rfl) (pa_cons (pe_ix ix_tup (pv 1) pe_int (fun _ _ => rfl)) (pa_cons (pe_ix ix_tup (pv 2) pe_int (fun _ _ => rfl)) (pa_cons (pv 3) pa_nil)))))
    (pss_cons (ps_if (PW.pt (pw_and (pt_cmpR op_isN (pv 4) pe_non (nomark _)) (pw_and1 (pt_cmpR op_isN (pv 5) pe_non (nomark _)))))
    (pss_one ps_retN)
    pss_nil)
    (pss_one (ps_if (PW.pt (pw_or (pt_cmpR op_isN (pv 4) pe_non (nomark _)) (pw_or1 (pt_cmpR op_isN (pv 5) pe_non (nomark _)))))
    (pss_one (ps_fld (pv 0) (pe_tup (pa_cons (pv 1) (pa_cons (pv 2) (pa_cons (pv 3) (pa_cons pe_str pa_nil))))) rfl))
    (pss_one (ps_if (pt_cmpR (op_neD hu64) (pe_lc (own := [("place", 8)]) rfl nd (pi_tup (pv 4)) (blkOk_by (own := [("place", 8)]) (N := ["self", "upper", "lower", "result", "one", "other", "number", "pair", "place"]) (sc := defScope s_t_take) (by decide +kernel)) (fun _ _ _ _ _ => (pg_name (i := 8) nd rfl (Or.inl rfl) (hf := Or.inr rfl))) (fun _ _ _ _ _ => pts_nil) (fun _ _ _ _ _ => (pe_ix (r := rIxT K) ix_tup (pv 8) pe_int (fun _ _ => rfl)))) (pe_lc (own := [("place", 8)]) rfl nd (pi_tup (pv 5)) (blkOk_by (own := [("place", 8)]) (N := ["self", "upper", "lower", "result", "one", "other", "number", "pair", "place"]) (sc := defScope s_t_take) (by decide +kernel)) (fun _ _ _ _ _ => (pg_name (i := 8) nd rfl (Or.inl rfl) (hf := Or.inr rfl))) (fun _ _ _ _ _ => pts_nil) (fun _ _ _ _ _ => (pe_ix (r := rIxT K) ix_tup (pv 8) pe_int (fun _ _ => rfl)))) (nomark _))
    (pss_one (ps_fld (pv 0) (pe_tup (pa_cons (pv 1) (pa_cons (pv 2) (pa_cons (pv 3) (pa_cons pe_str pa_nil))))) rfl))
    (pss_one (ps_for PassesOwn.never rfl (pi_tup (pe_tup (pa_cons pe_int (pa_cons pe_int pa_nil)))) (pg_name (i := 6) nd rfl (Or.inl rfl))
    (pss_cons (ps_set (i := 7) nd rfl (Or.inl rfl) (pe_tup (pa_cons (pe_ix ix_tup (pv 4) (pv 6) (fun _ _ => rfl)) (pa_cons (pe_ix ix_tup (pv 5) (pv 6) (fun _ _ => rfl)) pa_nil))))
    (pss_one (ps_if (pt_cmpR (op_nnotin hu9) (pv 7) (pe_fld (pv 0) rfl) (by rfl))
    (pss_cons (ps_asg (pe_tup (pa_cons (pv 1) (pa_cons (pv 2) (pa_cons (pv 3) (pa_cons (pv 6) pa_nil))))) (pg_sub (pe_fld (pv 0) rfl) (pv 7) (set_nd hu9)))
    (pss_one (ps_expr (pe_bm PySem.F.plainAttrs_list PySem.F.slot_list_append PySem.F.type_list_append mt_append (pe_fld (pv 0) rfl) (pa_cons (pv 7) pa_nil)))))
    pss_nil)))))))))))), ?_⟩
    -- slots: 0 self, 1 upper, 2 lower, 3 result, 4 one, 5 other, 6 number, 7 pair, 8 place
    obtain ⟨dx, lp, sd, fv, pvs, kvs, ti⟩ := tw
    have hmB := hm.ex ti.e
    refine ⟨_, rfl, fT ti.obj T.clT T.tOne rfl (mB hmB (by decide +kernel) ⟨_, rfl, ixQ0 hx fun v0 hv0 => ⟨_, rfl, ixQ0 hy fun v1 hv1 => ⟨_, rfl, b1, m, v0, v1, u.1, l.1, r, rfl, hmB, okm, hv0, hv1, u1, l1, le1, fun g1 H1 e1 hg1 => ?_⟩⟩⟩)⟩
    have ti1 := ti.ex e1
    have hx1 := Dp.ex e1 _ _ hx
    have hy1 := Dp.ex e1 _ _ hy
    have hnB := hn.ex ti1.e
    refine ⟨_, rfl, fT ti1.obj T.clT T.tOther rfl (mB hnB (by decide +kernel) ⟨_, rfl, ixQ1 hx1 fun v2 hv2 => ⟨_, rfl, ixQ1 hy1 fun v3 hv3 => ⟨_, rfl, b2, n, v2, v3, u.2, l.2, r, rfl, hnB, okn, hv2, hv3, u2, l2, le2, fun g2 H2 e2 hg2 => ?_⟩⟩⟩)⟩
    have ti2 := ti1.ex e2
    have e12 := e1.trans e2
    have hx2 := Dp.ex e2 _ _ hx1
    have hy2 := Dp.ex e2 _ _ hy1
    have hg1 := gmV_ex hg1 e2
    have fault : ∀ (c : Bool) (cs : Str), cs = kindS c → takeF m n s u l r = { s with fault := some (u, l, r, c) } → ∀ v H3, Ex H2 H3 → Dp K H3 v (dFault (some (u, l, r, c))) →
        ∃ a C dx fs, V.ref t = .ref a ∧ H3 a = some (.ins C dx fs) ∧ Cls K C ∧ NoAttr K C "fault" ∧ fs.length < 1000 ∧ Q .non (upd H3 a (.ins C dx (putF "fault" v fs))) := fun c cs _ et v H3 e3 hv => by
      have ti3 := ti2.ex e3
      refine ⟨t, _, dx, _, rfl, ti3.obj, T.clT, T.tFault, (by show (6 : Nat) < 1000; decide), ?_⟩
      obtain ⟨tx, ti4⟩ := ti3.setFault hv
      refine k _ ((e12.trans e3).tx.trans tx) ?_
      rw [et]
      exact ⟨dx, lp, sd, v, pvs, kvs, ti4⟩
    cases h1 : gm m u.1 l.1 r with
    | none =>
      cases gmV_none hg1 h1
      cases h2 : gm n u.2 l.2 r with
      | none =>
        cases gmV_none hg2 h2
        refine ⟨_, rfl, rfl, _, rfl, iteT ⟨_, rfl, rfl, _, rfl, iteT ?_⟩⟩
        refine k H2 e12.tx ?_
        rw [show takeF m n s u l r = s by unfold takeF; rw [h1, h2]]
        exact ⟨dx, lp, sd, fv, pvs, kvs, ti2⟩
      | some z2 =>
        obtain ⟨a2, rfl, hz2⟩ := gmV_some hg2 h2
        refine ⟨_, rfl, rfl, _, rfl, iteT ⟨_, rfl, rfl, _, rfl, iteF ?_⟩⟩
        refine ⟨_, rfl, rfl, _, rfl, iteT (iteT ?_)⟩
        refine ⟨_, rfl, _, rfl, _, rfl, (by show 4 ≤ sizeLine; decide), fun p np => ?_⟩
        obtain ⟨e3, hv⟩ := newFault (c := true) (cs := "counts") (r := r) np rfl hx2 hy2
        generalize upd _ p (.tup [x, y, .str r.s, .str "counts"]) = H3 at e3 hv ⊢
        refine ⟨_, rfl, ?_⟩
        exact fault true "counts" rfl (by unfold takeF; rw [h1, h2]) _ H3 e3 hv
    | some z1 =>
      obtain ⟨a1, rfl, hz1⟩ := gmV_some hg1 h1
      cases h2 : gm n u.2 l.2 r with
      | none =>
        cases gmV_none hg2 h2
        refine ⟨_, rfl, rfl, _, rfl, iteF (iteF ?_)⟩
        refine ⟨_, rfl, rfl, _, rfl, iteF ⟨_, rfl, rfl, _, rfl, iteT ?_⟩⟩
        refine ⟨_, rfl, _, rfl, _, rfl, (by show 4 ≤ sizeLine; decide), fun p np => ?_⟩
        obtain ⟨e3, hv⟩ := newFault (c := true) (cs := "counts") (r := r) np rfl hx2 hy2
        generalize upd _ p (.tup [x, y, .str r.s, .str "counts"]) = H3 at e3 hv ⊢
        refine ⟨_, rfl, ?_⟩
        exact fault true "counts" rfl (by unfold takeF; rw [h1, h2]) _ H3 e3 hv
      | some z2 =>
        obtain ⟨a2, rfl, hz2⟩ := gmV_some hg2 h2
        refine ⟨_, rfl, rfl, _, rfl, iteF (iteF ?_)⟩
        refine ⟨_, rfl, rfl, _, rfl, iteF ⟨_, rfl, rfl, _, rfl, iteF ?_⟩⟩
        -- the ratings
        obtain ⟨q1, xs1, eq1, hs1, hxs1⟩ := dp_tup hz1
        injection eq1 with eq1
        subst eq1
        obtain ⟨q2, xs2, eq2, hs2, hxs2⟩ := dp_tup hz2
        injection eq2 with eq2
        subst eq2
        have n1 : xs1.length = 2 := dpAll_len hxs1
        have n2 : xs2.length = 2 := dpAll_len hxs2
        refine ⟨_, rfl, a1, rfl, ⟨_, hs1⟩, fun D1 nD1 => ?_⟩
        refine lc_map (K := K) (H := H2) (xs := xs1) (ds := [.int z1.1.1, .int z1.2.1]) walk_tup (fun H' e => e.tx.sqT hs1) nD1 (by omega) n1.symm (by intro d hd; rcases List.mem_cons.mp hd with rfl | hd; rfl; rcases List.mem_cons.mp hd with rfl | hd; rfl; cases hd) (fun _ => rfl) (fun i v d H' k2 hv hd e kk => ?_) (fun H3 acc1 e3 hD1 hacc1 => ?_)
        · obtain ⟨dd, hdd, hvd⟩ := dpAll_at i v hxs1 hv
          match i, hdd, hd with
          | 0, hdd, hd =>
            cases hdd; cases hd
            exact ⟨_, rfl, ixP0 (Dp.ex e _ _ hvd) (kk _ _ (Ex.refl _) (.int _))⟩
          | 1, hdd, hd =>
            cases hdd; cases hd
            exact ⟨_, rfl, ixP0 (Dp.ex e _ _ hvd) (kk _ _ (Ex.refl _) (.int _))⟩
          | i + 2, hdd, hd => simp at hd
        refine ⟨_, rfl, a2, rfl, ⟨_, e3.tx.sqT hs2⟩, fun D2 nD2 => ?_⟩
        refine lc_map (K := K) (H := H3) (xs := xs2) (ds := [.int z2.1.1, .int z2.2.1]) walk_tup (fun H' e => (e3.trans e).tx.sqT hs2) nD2 (by omega) n2.symm (by intro d hd; rcases List.mem_cons.mp hd with rfl | hd; rfl; rcases List.mem_cons.mp hd with rfl | hd; rfl; cases hd) (fun _ => rfl) (fun i v d H' k2 hv hd e kk => ?_) (fun H4 acc2 e4 hD2 hacc2 => ?_)
        · obtain ⟨dd, hdd, hvd⟩ := dpAll_at i v hxs2 hv
          match i, hdd, hd with
          | 0, hdd, hd =>
            cases hdd; cases hd
            exact ⟨_, rfl, ixP0 (Dp.ex (e3.trans e) _ _ hvd) (kk _ _ (Ex.refl _) (.int _))⟩
          | 1, hdd, hd =>
            cases hdd; cases hd
            exact ⟨_, rfl, ixP0 (Dp.ex (e3.trans e) _ _ hvd) (kk _ _ (Ex.refl _) (.int _))⟩
          | i + 2, hdd, hd => simp at hd
        have e34 := e3.trans e4
        refine ⟨_, _, .lst (SqL.of (e4 _ _ hD1)) (DpAll.ex e4 _ _ hacc1), .lst (SqL.of hD2) hacc2, rfl, rfl, _, rfl, ?_⟩
        rw [ints_eqv]
        have ti4 := ti2.ex e34
        have hx4 := Dp.ex e34 _ _ hx2
        have hy4 := Dp.ex e34 _ _ hy2
        by_cases hlike : z1.1.1 = z2.1.1 ∧ z1.2.1 = z2.2.1
        · rw [decide_eq_true hlike]
          refine iteF ?_
          have htake : takeF m n s u l r = addF (addF s (z1.1, z2.1) (u, l, r, 0)) (z1.2, z2.2) (u, l, r, 1) := by
            unfold takeF; rw [h1, h2]; exact if_pos hlike
          refine ⟨(by show 2 ≤ sizeLine; decide), fun p np => ?_⟩
          have e5 : Ex H4 (upd H4 p (.tup [.int 0, .int 1])) := Ex.new np
          have hp5 : upd H4 p (.tup [.int 0, .int 1]) p = some (.tup [.int 0, .int 1]) := upd_same
          generalize upd H4 p (.tup [.int 0, .int 1]) = H5 at e5 hp5 ⊢
          have e45 := e34.trans e5
          have noz : ∀ z : Pl × Pl, noL (.tuple [dPl z.1, dPl z.2]) = true := fun z => by simp [dPl, noL, noL.noLs]
          refine ⟨p, rfl, ⟨_, SqT.of hp5⟩, for_tup (K := K) (a := p) (xs := [.int 0, .int 1]) (fun i σ H' => Tx H5 H' ∧ TwAt P w K H0 H' t b1 b2 (takeS s z1 z2 u l r i) mp ∧ ∃ v6 v7, σ = [some (.ref t), some x, some y, some (.str r.s), some (.ref a1), some (.ref a2), v6, v7, none])
            ⟨Tx.refl _, ⟨dx, lp, sd, fv, pvs, kvs, ti4.ex e5⟩, none, none, rfl⟩ (fun i σ H' _ z => z.1.sqT (SqT.of hp5)) ?_ ?_⟩
          · rintro i v σ H6 hv ⟨t6, tw6, v6, v7, rfl⟩
            obtain ⟨j, q, S, S', rfl, hj, hq1, hq2, hS, hS', hSl, hSn⟩ : ∃ (j : Nat) (q : Pr) (S S' : TS), v = .int j ∧ i = j ∧ atI [dPl z1.1, dPl z1.2] (j : Int) = some (dPl q.1) ∧ atI [dPl z2.1, dPl z2.2] (j : Int) = some (dPl q.2) ∧
                S = takeS s z1 z2 u l r i ∧
                S' = takeS s z1 z2 u l r (i + 1) ∧ S' = addF S q (u, l, r, (j : Int)) ∧ S.es.length ≤ 1001 := by
              match i, hv with
              | 0, hv => cases hv; exact ⟨0, (z1.1, z2.1), s, _, rfl, rfl, rfl, rfl, rfl, rfl, rfl, by omega⟩
              | 1, hv => cases hv; exact ⟨1, (z1.2, z2.2), _, _, rfl, rfl, rfl, rfl, rfl, rfl, rfl, Nat.le_trans (addF_len _ _ _) (by omega)⟩
              | i + 2, hv => simp at hv
            rw [← hS] at tw6
            rw [← hS']
            clear hS hS'
            subst hj
            obtain ⟨dx6, lp6, sd6, fv6, pvs6, kvs6, ti6⟩ := tw6
            have hz16 := Dp.tx t6 _ _ (noz z1) (Dp.ex e45 _ _ hz1)
            have hz26 := Dp.tx t6 _ _ (noz z2) (Dp.ex e45 _ _ hz2)
            refine ⟨_, rfl, _, rfl, ixT (i := (i : Int)) hz16 hq1 fun w1 hw1 => ⟨_, rfl, _, rfl, ixT (i := (i : Int)) hz26 hq2 fun w2 hw2 => ⟨(by show 2 ≤ sizeLine; decide), fun p7 np7 => ?_⟩⟩⟩
            obtain ⟨e7, hq7⟩ := newT (K := K) (ds := [dPl q.1, dPl q.2]) np7 (.cons hw1 (.cons hw2 .nil))
            have hq7 : Dp K (upd H6 p7 (.tup [w1, w2])) (.ref p7) (dPr q) := hq7
            generalize upd H6 p7 (.tup [w1, w2]) = H7 at e7 hq7 ⊢
            have ti7 := ti6.ex e7
            refine ⟨_, rfl, _, rfl, fT ti7.obj T.clT T.tSources rfl ⟨sd6, kvs6, q, rfl, ti7.nd, hq7, _, rfl, ?_⟩⟩
            rw [ti7.ents.look q]
            by_cases hmem : q ∈ S.es.map (·.1)
            · rw [decide_eq_true hmem]
              refine iteF ⟨t6.trans e7.tx, ?_, _, _, rfl⟩
              rw [hSl, show addF S q (u, l, r, (i : Int)) = S from if_pos hmem]
              exact ⟨dx6, lp6, sd6, fv6, pvs6, kvs6, ti7⟩
            · rw [decide_eq_false hmem]
              refine iteT ?_
              have hx7 := Dp.pr (e5.tx.trans (t6.trans e7.tx)) hx4
              have hy7 := Dp.pr (e5.tx.trans (t6.trans e7.tx)) hy4
              refine ⟨_, rfl, _, rfl, _, rfl, _, rfl, (by show 4 ≤ sizeLine; decide), fun p8 np8 => ?_⟩
              obtain ⟨e8, hs8⟩ := newSrc (K := K) (u := u) (l := l) (r := r) (k0 := (i : Int)) np8 hx7 hy7
              generalize upd H7 p8 (.tup [x, y, .str r.s, .int (i : Int)]) = H8 at e8 hs8 ⊢
              have ti8 := ti7.ex e8
              have hq8 := Dp.ex e8 _ _ hq7
              have hnone : valV kvs6 q = none := by
                have z := ti8.ents.look q
                rw [decide_eq_false hmem] at z
                exact Option.isNone_iff_eq_none.mp (by rw [Option.isNone_iff_eq_none]; exact Option.isSome_eq_false_iff.mp z |> Option.isNone_iff_eq_none.mp)
              have hkl : kvs6.length < sizeLine := by
                rw [ti8.ents.len]
                exact Nat.lt_of_lt_of_le (show S.es.length < 2000 by omega) (by decide)
              refine ⟨_, rfl, fT ti8.obj T.clT T.tSources rfl ⟨_, rfl, sd6, kvs6, q, rfl, ti8.nd, hq8, hnone, hkl, fun H9 h9 nd9 => ?_⟩⟩
              obtain ⟨o9, l9, tx9, ti9⟩ := ti8.add hq8 hs8 h9 nd9
              have hpl : pvs6.length < sizeLine := by
                have z := dpAll_len ti8.prs
                rw [z, List.length_map, show S.keys.length = S.es.length from List.length_map _]
                exact Nat.lt_of_lt_of_le (show S.es.length < 2000 by omega) (by decide)
              refine ⟨_, rfl, fT o9 T.clT T.tPairs rfl ⟨.inl ⟨rfl, _, SqL.of l9⟩, _, rfl, lp6, pvs6, _, rfl, rfl, l9, hpl, ?_⟩⟩
              refine ⟨(t6.trans e7.tx).trans (e8.tx.trans tx9), ?_, _, _, rfl⟩
              rw [hSl, show addF S q (u, l, r, (i : Int)) = { S with es := S.es ++ [(q, some (u, l, r, (i : Int)))] } from if_neg hmem]
              exact ⟨dx6, lp6, sd6, fv6, _, _, ti9⟩
          · rintro σ H6 ⟨t6, tw6, v6, v7, rfl⟩
            refine k H6 ((e12.trans e45).tx.trans t6) ?_
            rw [htake]
            exact tw6
        · rw [decide_eq_false hlike]
          refine iteT ?_
          refine ⟨_, rfl, _, rfl, _, rfl, (by show 4 ≤ sizeLine; decide), fun p np => ?_⟩
          obtain ⟨e5, hv⟩ := newFault (c := false) (cs := "ratings") (r := r) np rfl hx4 hy4
          generalize upd _ p (.tup [x, y, .str r.s, .str "ratings"]) = H5 at e5 hv ⊢
          refine ⟨_, rfl, ?_⟩
          exact fault false "ratings" rfl (by unfold takeF; rw [h1, h2]; exact if_neg hlike) _ H5 (e34.trans e5) hv
end
end Tw
/-! The mathematics of the search. Core Lean alone. -/
namespace Tw
theorem clamp_ok {m : Bk} (h : m.low ≤ m.high) (x : Int) : m.low ≤ clamp m x ∧ clamp m x ≤ m.high := by
  unfold clamp
  dsimp only
  by_cases h1 : x > m.low
  · rw [if_pos h1]
    by_cases h2 : x < m.high
    · rw [if_pos h2]; omega
    · rw [if_neg h2]; omega
  · rw [if_neg h1]
    by_cases h2 : m.low < m.high
    · rw [if_pos h2]; omega
    · rw [if_neg h2]; omega
theorem moved_ok {m : Bk} (ok : m.Ok) {p : Pl} (hp : OkPl m p) (c : Int) (w : Bool) : OkPl m (moved m p c w) := by
  have h0 := hp.p0
  have h1 := hp.p1
  have f0 := ok.f0
  unfold moved
  by_cases hf : m.fresh > 0
  · rw [if_pos hf]
    have hc := clamp_ok ok.lh (p.1 + (if p.2 > 0 then c * m.times else c))
    have hl : lastPh m = m.fresh := by unfold lastPh; rw [if_pos hf]
    refine ⟨hc.1, hc.2, ?_, ?_⟩
    · dsimp only; split <;> omega
    · dsimp only; rw [hl] at h1 ⊢; split <;> omega
  · rw [if_neg hf]
    have hc := clamp_ok ok.lh (p.1 + (if w = true ∧ p.2 > 0 then c + m.bonus else c))
    refine ⟨hc.1, hc.2, ?_, ?_⟩
    · dsimp only; split <;> omega
    · dsimp only
      unfold lastPh
      rw [if_neg hf]
      by_cases hb : m.bonus > 0
      · rw [if_pos hb]; split <;> omega
      · rw [if_neg hb, if_neg (fun z => hb z.2)]; omega
theorem gm_ok {m : Bk} (ok : m.Ok) {u l : Pl} {r : Res} {z : Pl × Pl} (hu : OkPl m u) (hl : OkPl m l) (h : gm m u l r = some z) : OkPl m z.1 ∧ OkPl m z.2 := by
  unfold gm at h
  cases e : rowAt m.rows (u.1 - l.1) with
  | none => rw [e] at h; cases h
  | some row =>
    rw [e] at h
    dsimp only at h
    cases e2 : row.e r with
    | none => rw [e2] at h; cases h
    | some c =>
      rw [e2] at h
      cases h
      exact ⟨moved_ok ok hu _ _, moved_ok ok hl _ _⟩
/-- a pair of places with like ratings -/
structure OkP (m n : Bk) (p : Pr) : Prop where
  a : OkPl m p.1
  b : OkPl n p.2
  r : p.1.1 = p.2.1
theorem out_ok {m n : Bk} (okm : m.Ok) (okn : n.Ok) {u l a b : Pr} {r : Res} (hu : OkP m n u) (hl : OkP m n l) (h : out m n u l r = some (some (a, b))) : OkP m n a ∧ OkP m n b := by
  unfold out at h
  cases e1 : gm m u.1 l.1 r with
  | none => rw [e1] at h; cases e2 : gm n u.2 l.2 r <;> rw [e2] at h <;> cases h
  | some x =>
    rw [e1] at h
    cases e2 : gm n u.2 l.2 r with
    | none => rw [e2] at h; cases h
    | some y =>
      rw [e2] at h
      dsimp only at h
      by_cases hl2 : x.1.1 = y.1.1 ∧ x.2.1 = y.2.1
      · rw [if_pos hl2] at h
        cases h
        obtain ⟨p1, p2⟩ := gm_ok okm hu.a hl.a e1
        obtain ⟨q1, q2⟩ := gm_ok okn hu.b hl.b e2
        exact ⟨⟨p1, q1, hl2.1⟩, ⟨p2, q2, hl2.2⟩⟩
      · rw [if_neg hl2] at h; cases h
/-- takeF told by out -/
theorem takeF_out (m n : Bk) (s : TS) (u l : Pr) (r : Res) : (out m n u l r = some none ∧ takeF m n s u l r = s) ∨
    (∃ a b, out m n u l r = some (some (a, b)) ∧ takeF m n s u l r = addF (addF s a (u, l, r, 0)) b (u, l, r, 1)) ∨
    (∃ c, out m n u l r = none ∧ takeF m n s u l r = { s with fault := some (u, l, r, c) } ∧ (c = true ↔ ¬ ((gm m u.1 l.1 r).isSome = (gm n u.2 l.2 r).isSome))) := by
  unfold takeF out
  cases e1 : gm m u.1 l.1 r with
  | none =>
    cases e2 : gm n u.2 l.2 r with
    | none => exact .inl ⟨rfl, rfl⟩
    | some y => exact .inr (.inr ⟨true, rfl, rfl, by simp⟩)
  | some x =>
    cases e2 : gm n u.2 l.2 r with
    | none => exact .inr (.inr ⟨true, rfl, rfl, by simp⟩)
    | some y =>
      dsimp only
      by_cases h : x.1.1 = y.1.1 ∧ x.2.1 = y.2.1
      · rw [if_pos h, if_pos h]
        exact .inr (.inl ⟨_, _, rfl, rfl⟩)
      · rw [if_neg h, if_neg h]
        exact .inr (.inr ⟨false, rfl, rfl, by simp⟩)
/-- s' goes on from s -/
def Pre (s s' : TS) : Prop := ∃ more, s'.es = s.es ++ more
theorem Pre.refl (s : TS) : Pre s s := ⟨[], by simp⟩
theorem Pre.trans {a b c : TS} (h1 : Pre a b) (h2 : Pre b c) : Pre a c := by
  obtain ⟨x, e1⟩ := h1
  obtain ⟨y, e2⟩ := h2
  exact ⟨x ++ y, by rw [e2, e1, List.append_assoc]⟩
theorem Pre.nth {s s' : TS} (h : Pre s s') {i : Nat} (hi : i < s.es.length) : s'.nth i = s.nth i := by
  obtain ⟨x, e⟩ := h
  unfold TS.nth
  rw [e, List.getElem?_append_left hi]
theorem Pre.len {s s' : TS} (h : Pre s s') : s.es.length ≤ s'.es.length := by
  obtain ⟨x, e⟩ := h
  rw [e, List.length_append]; omega
theorem Pre.mem {s s' : TS} (h : Pre s s') {p : Pr} (hp : p ∈ s.keys) : p ∈ s'.keys := by
  obtain ⟨x, e⟩ := h
  unfold TS.keys at hp ⊢
  rw [e, List.map_append]
  exact List.mem_append_left _ hp
theorem addF_pre (s : TS) (p : Pr) (src : Src) : Pre s (addF s p src) := by
  unfold addF
  split
  · exact Pre.refl s
  · exact ⟨_, rfl⟩
theorem addF_mem (s : TS) (p : Pr) (src : Src) : p ∈ (addF s p src).keys := by
  unfold addF
  split
  · assumption
  · unfold TS.keys; simp
theorem addF_fault (s : TS) (p : Pr) (src : Src) : (addF s p src).fault = s.fault := by
  unfold addF; split <;> rfl
theorem addF_keys {s : TS} {p : Pr} {src : Src} {q : Pr} (h : q ∈ (addF s p src).keys) : q ∈ s.keys ∨ q = p := by
  unfold addF at h
  split at h
  · exact .inl h
  · unfold TS.keys at h
    rw [List.map_append, List.mem_append] at h
    rcases h with h | h
    · exact .inl h
    · simp at h; exact .inr h
theorem addF_nodup {s : TS} {p : Pr} {src : Src} (h : s.keys.Nodup) : (addF s p src).keys.Nodup := by
  unfold addF
  split
  · exact h
  · rename_i hp
    unfold TS.keys
    rw [List.map_append, List.nodup_append]
    refine ⟨h, by simp, fun a ha b hb e => ?_⟩
    simp at hb
    subst hb; subst e
    exact hp ha
theorem takeF_pre (m n : Bk) (s : TS) (u l : Pr) (r : Res) : Pre s (takeF m n s u l r) := by
  rcases takeF_out m n s u l r with ⟨_, e⟩ | ⟨a, b, _, e⟩ | ⟨c, _, e, _⟩
  · rw [e]; exact Pre.refl s
  · rw [e]; exact (addF_pre _ _ _).trans (addF_pre _ _ _)
  · rw [e]; exact ⟨[], by simp⟩
/-- the keys are apart and in order -/
structure KeysOk (m n : Bk) (s : TS) : Prop where
  nd : s.keys.Nodup
  ok : ∀ p ∈ s.keys, OkP m n p
theorem takeF_ok {m n : Bk} (okm : m.Ok) (okn : n.Ok) {s : TS} (h : KeysOk m n s) {u l : Pr} {r : Res} (hu : OkP m n u) (hl : OkP m n l) : KeysOk m n (takeF m n s u l r) := by
  rcases takeF_out m n s u l r with ⟨_, e⟩ | ⟨a, b, ho, e⟩ | ⟨c, _, e, _⟩
  · rw [e]; exact h
  · rw [e]
    obtain ⟨ha, hb⟩ := out_ok okm okn hu hl ho
    refine ⟨addF_nodup (addF_nodup h.nd), fun p hp => ?_⟩
    rcases addF_keys hp with hp | rfl
    · rcases addF_keys hp with hp | rfl
      · exact h.ok p hp
      · exact ha
    · exact hb
  · rw [e]; exact ⟨h.nd, h.ok⟩
theorem stepR_pre (m n : Bk) (u l : Pr) (s : TS) (r : Res) : Pre s (stepR m n u l s r) := by
  unfold stepR
  split
  · exact takeF_pre _ _ _ _ _ _
  · exact Pre.refl s
theorem stepR_ok {m n : Bk} (okm : m.Ok) (okn : n.Ok) {s : TS} (h : KeysOk m n s) {u l : Pr} {r : Res} (hu : OkP m n u) (hl : OkP m n l) : KeysOk m n (stepR m n u l s r) := by
  unfold stepR
  split
  · exact takeF_ok okm okn h hu hl
  · exact h
theorem foldR_pre (m n : Bk) (u l : Pr) : ∀ (rs : List Res) (s : TS), Pre s (rs.foldl (stepR m n u l) s)
  | [], s => Pre.refl s
  | r :: rs, s => (stepR_pre m n u l s r).trans (foldR_pre m n u l rs _)
theorem foldR_ok {m n : Bk} (okm : m.Ok) (okn : n.Ok) {u l : Pr} (hu : OkP m n u) (hl : OkP m n l) : ∀ (rs : List Res) (s : TS), KeysOk m n s → KeysOk m n (rs.foldl (stepR m n u l) s)
  | [], s, h => h
  | r :: rs, s, h => foldR_ok okm okn hu hl rs _ (stepR_ok okm okn h hu hl)
theorem step3_pre (m n : Bk) (s : TS) (u l : Pr) : Pre s (step3 m n s u l) := by
  unfold step3
  split
  · exact foldR_pre _ _ _ _ _ _
  · exact Pre.refl s
theorem step3_ok {m n : Bk} (okm : m.Ok) (okn : n.Ok) {s : TS} (h : KeysOk m n s) {u l : Pr} (hu : OkP m n u) (hl : OkP m n l) : KeysOk m n (step3 m n s u l) := by
  unfold step3
  split
  · exact foldR_ok okm okn hu hl _ _ h
  · exact h
theorem nth_mem {s : TS} {i : Nat} (h : i < s.es.length) : s.nth i ∈ s.keys := by
  unfold TS.nth TS.keys
  rw [List.getElem?_eq_getElem h]
  exact List.mem_map.mpr ⟨_, List.getElem_mem h, rfl⟩
theorem stepI_pre (m n : Bk) (at_ : Nat) (s : TS) (i : Nat) : Pre s (stepI m n at_ s i) := (step3_pre _ _ _ _ _).trans (step3_pre _ _ _ _ _)
theorem stepI_ok {m n : Bk} (okm : m.Ok) (okn : n.Ok) {s : TS} (h : KeysOk m n s) {at_ i : Nat} (ha : at_ < s.es.length) (hi : i < s.es.length) : KeysOk m n (stepI m n at_ s i) :=
  step3_ok okm okn (step3_ok okm okn h (h.ok _ (nth_mem ha)) (h.ok _ (nth_mem hi))) (h.ok _ (nth_mem hi)) (h.ok _ (nth_mem ha))
theorem lookF_zero (m n : Bk) (s : TS) (at_ : Nat) : lookF m n s at_ 0 = s := rfl
theorem lookF_succ (m n : Bk) (s : TS) (at_ k : Nat) : lookF m n s at_ (k + 1) = stepI m n at_ (lookF m n s at_ k) k := by
  unfold lookF
  rw [List.range_succ, List.foldl_append]
  rfl
theorem lookF_pre (m n : Bk) (s : TS) (at_ : Nat) : ∀ k, Pre s (lookF m n s at_ k)
  | 0 => Pre.refl s
  | k + 1 => by rw [lookF_succ]; exact (lookF_pre m n s at_ k).trans (stepI_pre _ _ _ _ _)
theorem lookF_ok {m n : Bk} (okm : m.Ok) (okn : n.Ok) {s : TS} (h : KeysOk m n s) {at_ : Nat} (ha : at_ < s.es.length) : ∀ k, k ≤ at_ + 1 → KeysOk m n (lookF m n s at_ k)
  | 0, _ => h
  | k + 1, hk => by
    rw [lookF_succ]
    have hl := (lookF_pre m n s at_ k).len
    exact stepI_ok okm okn (lookF_ok okm okn h ha k (by omega)) (by omega) (by omega)
/-! ### few pairs -/
theorem nodup_sub {α : Type} [DecidableEq α] : ∀ {l m : List α}, l.Nodup → (∀ x ∈ l, x ∈ m) → l.length ≤ m.length
  | [], _, _, _ => Nat.zero_le _
  | a :: l, m, hn, hs => by
    rw [List.nodup_cons] at hn
    have ha : a ∈ m := hs a List.mem_cons_self
    have h := nodup_sub (m := m.erase a) hn.2 fun x hx => by
      have hne : x ≠ a := fun e => hn.1 (e ▸ hx)
      exact (List.mem_erase_of_ne hne).mpr (hs x (List.mem_cons_of_mem _ hx))
    rw [List.length_erase_of_mem ha] at h
    have : 0 < m.length := List.length_pos_of_mem ha
    rw [List.length_cons]; omega
/-- all pairs with ratings from lo, five of them, and phases up to 2 -/
def allPairs (lo : Int) : List Pr := (List.range 5).flatMap fun (i : Nat) => (List.range 3).flatMap fun (a : Nat) => (List.range 3).map fun (b : Nat) => ((lo + (i : Int), (a : Int)), (lo + (i : Int), (b : Int)))
theorem allPairs_len (lo : Int) : (allPairs lo).length = 45 := by
  unfold allPairs
  simp [List.length_flatMap]
  decide
theorem lastPh_2 {m : Bk} (ok : m.Ok) : lastPh m ≤ 2 := by
  have := ok.f2
  unfold lastPh
  split
  · omega
  · split <;> omega
theorem mem_allPairs {m n : Bk} (okm : m.Ok) (okn : n.Ok) {p : Pr} (h : OkP m n p) : p ∈ allPairs m.low := by
  have h0 := h.a.r0; have h1 := h.a.r1; have h2 := h.a.p0; have h3 := h.a.p1
  have h4 := h.b.p0; have h5 := h.b.p1
  have l1 := lastPh_2 okm; have l2 := lastPh_2 okn
  have hl := okm.hl
  unfold allPairs
  rw [List.mem_flatMap]
  refine ⟨(p.1.1 - m.low).toNat, List.mem_range.mpr (by omega), ?_⟩
  rw [List.mem_flatMap]
  refine ⟨p.1.2.toNat, List.mem_range.mpr (by omega), ?_⟩
  rw [List.mem_map]
  refine ⟨p.2.2.toNat, List.mem_range.mpr (by omega), ?_⟩
  obtain ⟨⟨a, b⟩, ⟨c, d⟩⟩ := p
  have hr : a = c := h.r
  subst hr
  dsimp only at *
  rw [Int.toNat_of_nonneg (by omega), Int.toNat_of_nonneg (by omega), Int.toNat_of_nonneg (by omega), show m.low + (a - m.low) = a by omega]
theorem KeysOk.few {m n : Bk} (okm : m.Ok) (okn : n.Ok) {s : TS} (h : KeysOk m n s) : s.es.length ≤ 45 := by
  have := nodup_sub h.nd fun p hp => mem_allPairs okm okn (h.ok p hp)
  rw [allPairs_len] at this
  rw [show s.keys.length = s.es.length from List.length_map _] at this
  exact this
end Tw
/-! Twins: look_at. -/
namespace Tw
open PySem PySem.Spec PyProof.Rows L2
section
variable {P : Program} {w : World} {K : PySem.W.Frag} {mg : Str → Option Value} {base : Heap}

theorem nth_at {H : Hp} {pvs : List V} {s : TS} {i : Nat} (h : DpAll K H pvs (s.keys.map dPr)) (hi : i < s.es.length) : ∃ v, pvs[i]? = some v ∧ Dp K H v (dPr (s.nth i)) := by
  refine dpAll_get i (dPr (s.nth i)) h ?_
  unfold TS.keys TS.nth
  rw [List.getElem?_map, List.getElem?_map, List.getElem?_eq_getElem hi]
  rfl
theorem vRes_at {k : Nat} {x : V} (h : vRes[k]? = some x) : ∃ r : Res, x = .str r.s ∧ allR[k]? = some r := by
  match k, h with
  | 0, h => cases h; exact ⟨.up, rfl, rfl⟩
  | 1, h => cases h; exact ⟨.dr, rfl, rfl⟩
  | 2, h => cases h; exact ⟨.lo, rfl, rfl⟩
  | k + 3, h => simp at h
theorem take_foldl {α β : Type} (f : β → α → β) (s : β) {l : List α} {k : Nat} {a : α} (h : l[k]? = some a) : (l.take (k + 1)).foldl f s = f ((l.take k).foldl f s) a := by
  have hk : k < l.length := (List.getElem?_eq_some_iff.mp h).1
  rw [List.take_succ_eq_append_getElem hk, List.foldl_append]
  have e : l[k] = a := by
    have := List.getElem?_eq_getElem hk
    rw [h] at this
    exact (Option.some.inj this).symm
  rw [e]
  rfl
theorem fault_non {H : Hp} {fv : V} {f : Option (Pr × Pr × Res × Bool)} (h : Dp K H fv (dFault f)) : decide (fv = .non) = decide (f = none) := by
  cases f with
  | none => cases dp_non h; rfl
  | some z =>
    obtain ⟨a, xs, rfl, _, _⟩ := dp_tup h
    rfl
def spLook (P : Program) (w : World) (K : PySem.W.Frag) : Sp := fun vs H Q _ => ∃ (H0 : Hp) (t b1 b2 : Addr) (m n : Bk) (s : TS) (mp : Int) (at_ : Nat), vs = [.ref t, .int (at_ : Int)] ∧ TwAt P w K H0 H t b1 b2 s mp ∧ BookAt K H0 b1 m ∧ m.Ok ∧ BookAt K H0 b2 n ∧ n.Ok ∧
  KeysOk m n s ∧ at_ < s.es.length ∧ ∀ H', Tx H H' → TwAt P w K H0 H' t b1 b2 (lookF m n s at_ (at_ + 1)) mp → Q .non H'
theorem sc_t_look_at : FnScope ["self", "at", "index", "upper", "lower", "result"] ["self", "at"] (defScope s_t_look_at) := ⟨rfl, rfl, rfl, by decide +kernel, rfl, by decide +kernel, by decide +kernel⟩
theorem ok_t_look_at (D : Dm K (CT K) "look_at" "Twins.look_at" s_t_look_at ["self", "at"]) (T : Txt K mg) (C_t_take : Met P w K mg base 5 (CT K) "take" (spTake P w K)) : Met P w K mg base 6 (CT K) "look_at" (spLook P w K) := by
  refine met_mk T.clT D sc_t_look_at (fun vs H Q E h => ?_) (fun f cdv A outer st H vs Q E hr h => ?_)
  · obtain ⟨H0, t, b1, b2, m, n, s, mp, at_, rfl, _⟩ := h
    rfl
  · obtain ⟨H0, t, b1, b2, m, n, s, mp, at_, rfl, tw, hm, okm, hn, okn, ks, hat, k⟩ := h
    have nd := sc_t_look_at.nd
    have hu1 := hu_of hr
    have hu9 := hu9_of hr
    have hu64 := hu64_of hr
    have hu65 := hu65_of hr
    refine ⟨_, (pss_one (ps_for PassesOwn.never rfl (pi_range1 (by rfl) T.range_ (pa_cons (pe_op op_add (pv 1) pe_int) pa_nil)) (pg_name (i := 2) nd rfl (Or.inl rfl))
    (pss_one (ps_for PassesOwn.never rfl (pi_tup (pe_tup (pa_cons (pe_tup (pa_cons (pe_ix ix_list (pe_fld (pv 0) rfl) (pv 1) (fun _ _ => rfl)) (pa_cons (pe_ix ix_list (pe_fld (pv 0) rfl) (pv 2) (fun _ _ => rfl)) pa_nil))) (pa_cons (pe_tup (pa_cons (pe_ix ix_list (pe_fld (pv 0) rfl) (pv 2) (fun _ _ => rfl)) (pa_cons (pe_ix ix_list (pe_fld (pv 0) rfl) (pv 1) (fun _ _ => rfl)) pa_nil))) pa_nil)))) (pg_tup rfl (pgs_cons (pg_name (i := 3) nd rfl (Or.inl rfl)) (pgs_cons (pg_name (i := 4) nd rfl (Or.inl rfl)) pgs_nil)))
    (pss_one (ps_for PassesOwn.never rfl (pi_tup (pe_ifExp (pt_cmpR op_le (pe_ix ix_tup (pe_ix ix_tup (pv 4) pe_int (fun _ _ => rfl)) pe_int (fun _ _ => rfl)) (pe_ix ix_tup (pe_ix ix_tup (pv 3) pe_int (fun _ _ => rfl)) pe_int (fun _ _ => rfl)) (nomark _)) (pe_glob (v := .ref (aR K)) rfl T.results rfl) (pe_tup pa_nil))) (pg_name (i := 5) nd rfl (Or.inl rfl))
    (pss_one (ps_if (pt_cmpR op_isN (pe_fld (pv 0) rfl) pe_non (nomark _))
    (pss_one (ps_expr (pe_mt C_t_take hr (by decide) (pv 0) (pa_cons (pv 3) (pa_cons (pv 4) (pa_cons (pv 5) pa_nil))))))
    pss_nil)))))))), ?_⟩
    -- slots: 0 self, 1 at, 2 index, 3 upper, 4 lower, 5 result
    have h45 := ks.few okm okn
    have etn : ((at_ : Int) + 1).toNat = at_ + 1 := by omega
    refine ⟨_, rfl, _, _, rfl, rfl, _, rfl, by omega, by omega, ?_⟩
    rw [etn]
    refine for_range (lo := 0) (n := at_ + 1) (fun i σ H' => Tx H H' ∧ TwAt P w K H0 H' t b1 b2 (lookF m n s at_ i) mp ∧ ∃ v2 v3 v4 v5, σ = [some (.ref t), some (.int (at_ : Int)), v2, v3, v4, v5])
      ⟨Tx.refl _, tw, none, none, none, none, rfl⟩ ?_ ?_
    · rintro i σ H1 hi ⟨t1, tw1, v2, v3, v4, v5, rfl⟩
      have ki := lookF_ok okm okn ks hat i (by omega)
      have pl := (lookF_pre m n s at_ i).len
      rw [lookF_succ]
      generalize hS : lookF m n s at_ i = S at tw1 ki pl ⊢
      obtain ⟨dx, lp, sd, fv, pvs, kvs, ti⟩ := tw1
      have ha : at_ < S.es.length := by omega
      have hi' : i < S.es.length := by omega
      obtain ⟨va, hva, dva⟩ := nth_at ti.prs ha
      obtain ⟨vi, hvi, dvi⟩ := nth_at ti.prs hi'
      have iva : atI pvs (at_ : Int) = some va := atI_nat hva
      have ivi : atI pvs (0 + (i : Int)) = some vi := by rw [Int.zero_add]; exact atI_nat hvi
      -- ((pairs[at], pairs[index]), (pairs[index], pairs[at]))
      refine ⟨_, rfl, fT ti.obj T.clT T.tPairs rfl ⟨_, rfl, lp, pvs, _, va, rfl, rfl, SqL.of ti.lst, iva, ?_⟩⟩
      refine ⟨_, rfl, fT ti.obj T.clT T.tPairs rfl ⟨_, rfl, lp, pvs, _, vi, rfl, rfl, SqL.of ti.lst, ivi, (by show 2 ≤ sizeLine; decide), fun p1 np1 => ?_⟩⟩
      have e1 : Ex H1 (upd H1 p1 (.tup [va, vi])) := Ex.new np1
      have hp1 : upd H1 p1 (.tup [va, vi]) p1 = some (.tup [va, vi]) := upd_same
      generalize upd H1 p1 (.tup [va, vi]) = H2 at e1 hp1 ⊢
      have ti2 := ti.ex e1
      refine ⟨_, rfl, fT ti2.obj T.clT T.tPairs rfl ⟨_, rfl, lp, pvs, _, vi, rfl, rfl, SqL.of ti2.lst, ivi, ?_⟩⟩
      refine ⟨_, rfl, fT ti2.obj T.clT T.tPairs rfl ⟨_, rfl, lp, pvs, _, va, rfl, rfl, SqL.of ti2.lst, iva, (by show 2 ≤ sizeLine; decide), fun p2 np2 => ?_⟩⟩
      have e2 : Ex H2 (upd H2 p2 (.tup [vi, va])) := Ex.new np2
      have hp2 : upd H2 p2 (.tup [vi, va]) p2 = some (.tup [vi, va]) := upd_same
      generalize upd H2 p2 (.tup [vi, va]) = H3 at e2 hp2 ⊢
      refine ⟨(by show 2 ≤ sizeLine; decide), fun p3 np3 => ?_⟩
      have e3 : Ex H3 (upd H3 p3 (.tup [.ref p1, .ref p2])) := Ex.new np3
      have hp3 : upd H3 p3 (.tup [.ref p1, .ref p2]) p3 = some (.tup [.ref p1, .ref p2]) := upd_same
      generalize upd H3 p3 (.tup [.ref p1, .ref p2]) = H4 at e3 hp3 ⊢
      have ti4 := ti2.ex (e2.trans e3)
      have e14 := (e1.trans e2).trans e3
      have q1 := (e2.trans e3) _ _ hp1
      have q2 := e3 _ _ hp2
      have da4 := Dp.ex e14 _ _ dva
      have di4 := Dp.ex e14 _ _ dvi
      refine ⟨p3, rfl, ⟨_, SqT.of hp3⟩, for_tup (K := K) (a := p3) (xs := [.ref p1, .ref p2]) (fun j σ H' => Tx H4 H' ∧ TwAt P w K H0 H' t b1 b2 (if j = 0 then S else if j = 1 then step3 m n S (S.nth at_) (S.nth i) else stepI m n at_ S i) mp ∧ ∃ v2 v3 v4 v5, σ = [some (.ref t), some (.int (at_ : Int)), v2, v3, v4, v5])
        ⟨Tx.refl _, ⟨dx, lp, sd, fv, pvs, kvs, ti4⟩, _, _, _, _, rfl⟩ (fun j σ H' _ z => z.1.sqT (SqT.of hp3)) ?_ ?_⟩
      · rintro j v σ H5 hv ⟨t5, tw5, v2, v3, v4, v5, rfl⟩
        obtain ⟨pj, x, y, u, l, S5, rfl, hpj, hx, hy, hu, hl, hS5, hS6, k5⟩ : ∃ (pj : Addr) (x y : V) (u l : Pr) (S5 : TS), v = .ref pj ∧ H4 pj = some (.tup [x, y]) ∧ Dp K H4 x (dPr u) ∧ Dp K H4 y (dPr l) ∧ OkP m n u ∧ OkP m n l ∧
            S5 = (if j = 0 then S else if j = 1 then step3 m n S (S.nth at_) (S.nth i) else stepI m n at_ S i) ∧ step3 m n S5 u l = (if j + 1 = 0 then S else if j + 1 = 1 then step3 m n S (S.nth at_) (S.nth i) else stepI m n at_ S i) ∧ KeysOk m n S5 := by
          have oa := ki.ok _ (nth_mem ha)
          have oi := ki.ok _ (nth_mem hi')
          match j, hv with
          | 0, hv => cases hv; exact ⟨p1, va, vi, _, _, S, rfl, q1, da4, di4, oa, oi, rfl, rfl, ki⟩
          | 1, hv => cases hv; exact ⟨p2, vi, va, _, _, step3 m n S (S.nth at_) (S.nth i), rfl, q2, di4, da4, oi, oa, rfl, rfl, step3_ok okm okn ki oa oi⟩
          | j + 2, hv => simp at hv
        rw [← hS5] at tw5
        rw [← hS6]
        clear hS5 hS6
        have hpj5 := t5.1 _ _ hpj
        have hx5 := Dp.pr t5 hx
        have hy5 := Dp.pr t5 hy
        refine ⟨pj, [x, y], rfl, SqT.of hpj5, rfl, x, [y], rfl, y, [], rfl, rfl, ?_⟩
        -- the results
        refine ⟨_, rfl, ixQ0 hy5 fun w1 hw1 => ixP0 hw1 ⟨_, rfl, ixQ0 hx5 fun w2 hw2 => ixP0 hw2 ⟨_, _, rfl, rfl, _, rfl, ite2 (fun hle => ?_) (fun hle => ?_)⟩⟩⟩
        · have hle' : l.1.1 ≤ u.1.1 := of_decide_eq_true hle
          have hle2 : l.2.1 ≤ u.2.1 := by rw [← hl.r, ← hu.r]; exact hle'
          refine ⟨aR K, rfl, ⟨_, T.resAt _⟩, for_tup (K := K) (a := aR K) (xs := vRes) (fun k σ H' => Tx H5 H' ∧ TwAt P w K H0 H' t b1 b2 ((allR.take k).foldl (stepR m n u l) S5) mp ∧ ∃ v5, σ = [some (.ref t), some (.int (at_ : Int)), v2, some x, some y, v5])
            ⟨Tx.refl _, tw5, _, rfl⟩ (fun k σ H' _ _ => T.resAt _) ?_ ?_⟩
          · rintro k rv σ H6 hrv ⟨t6, tw6, v5, rfl⟩
            obtain ⟨r, rfl, hr'⟩ := vRes_at hrv
            rw [take_foldl _ _ hr']
            have k6 := foldR_ok okm okn hu hl (allR.take k) S5 k5
            generalize (allR.take k).foldl (stepR m n u l) S5 = S6 at tw6 k6 ⊢
            obtain ⟨dx6, lp6, sd6, fv6, pvs6, kvs6, ti6⟩ := tw6
            refine ⟨_, rfl, fT ti6.obj T.clT T.tFault rfl ⟨rfl, _, rfl, ?_⟩⟩
            rw [fault_non ti6.flt]
            by_cases hf : S6.fault = none
            · rw [decide_eq_true hf]
              refine iteT ?_
              have f6 := k6.few okm okn
              refine ⟨_, rfl, mT ti6.obj (tw_none (by decide +kernel)) ⟨_, rfl, _, rfl, _, rfl, H0, t, b1, b2, m, n, S6, mp, x, y, u, l, r, rfl, ⟨dx6, lp6, sd6, fv6, pvs6, kvs6, ti6⟩, hm, okm, hn, okn, Dp.pr t6 hx5, Dp.pr t6 hy5, hu.a, hu.b, hl.a, hl.b, hle', hle2, by omega, fun H7 t7 tw7 => ?_⟩⟩
              refine ⟨t6.trans t7, ?_, _, rfl⟩
              rw [show stepR m n u l S6 r = takeF m n S6 u l r from if_pos hf]
              exact tw7
            · rw [decide_eq_false hf]
              refine iteF ⟨t6, ?_, _, rfl⟩
              rw [show stepR m n u l S6 r = S6 from if_neg hf]
              exact ⟨dx6, lp6, sd6, fv6, pvs6, kvs6, ti6⟩
          · rintro σ H6 ⟨t6, tw6, v5, rfl⟩
            refine ⟨t5.trans t6, ?_, _, _, _, _, rfl⟩
            rw [show step3 m n S5 u l = allR.foldl (stepR m n u l) S5 from if_pos hle']
            exact tw6
        · have hle' : ¬ l.1.1 ≤ u.1.1 := fun z => hle (decide_eq_true z)
          refine ⟨Nat.zero_le _, fun p6 np6 => ?_⟩
          have e6 : Ex H5 (upd H5 p6 (.tup [])) := Ex.new np6
          have hp6 : upd H5 p6 (.tup []) p6 = some (.tup []) := upd_same
          generalize upd H5 p6 (.tup []) = H6 at e6 hp6 ⊢
          refine ⟨p6, rfl, ⟨_, SqT.of hp6⟩, for_tup (K := K) (a := p6) (xs := []) (fun k σ H' => H' = H6 ∧ σ = [some (.ref t), some (.int (at_ : Int)), v2, some x, some y, v5]) ⟨rfl, rfl⟩ (fun k σ H' _ z => by rw [z.1]; exact SqT.of hp6) (fun k rv σ H' hrv _ => by simp at hrv) ?_⟩
          rintro σ H' ⟨rfl, rfl⟩
          refine ⟨t5.trans e6.tx, ?_, _, _, _, _, rfl⟩
          rw [show step3 m n S5 u l = S5 from if_neg hle']
          exact tw5.ex e6
      · rintro σ H5 ⟨t5, tw5, v2, v3, v4, v5, rfl⟩
        exact ⟨t1.trans (e14.tx.trans t5), tw5, _, _, _, _, rfl⟩
    · rintro σ H1 ⟨t1, tw1, v2, v3, v4, v5, rfl⟩
      exact k H1 t1 tw1
end
end Tw
/-! The mathematics of the search: what it has found. Core Lean alone. -/
namespace Tw
/-- the entries in order: the start, then places that a game of earlier ones leads to -/
inductive Chain (m n : Bk) (r0 : Int) : List (Pr × Option Src) → Prop where
  | start : Chain m n r0 [(startP m n r0, none)]
  | add {es : List (Pr × Option Src)} {u l a b p : Pr} {r : Res} {k : Int} : Chain m n r0 es → u ∈ es.map (·.1) → l ∈ es.map (·.1) → l.1.1 ≤ u.1.1 → out m n u l r = some (some (a, b)) → (p = a ∧ k = 0 ∨ p = b ∧ k = 1) → p ∉ es.map (·.1) →
      Chain m n r0 (es ++ [(p, some (u, l, r, k))])
structure Good (m n : Bk) (r0 : Int) (s : TS) : Prop where
  ch : Chain m n r0 s.es
  flt : ∀ u l r c, s.fault = some (u, l, r, c) → u ∈ s.keys ∧ l ∈ s.keys ∧ l.1.1 ≤ u.1.1 ∧ out m n u l r = none ∧ (c = true ↔ ¬ ((gm m u.1 l.1 r).isSome = (gm n u.2 l.2 r).isSome))
theorem start_ok {m n : Bk} (okm : m.Ok) (okn : n.Ok) {r0 : Int} (h1 : m.low ≤ r0) (h2 : r0 ≤ m.high) (h3 : n.low ≤ r0) (h4 : r0 ≤ n.high) : OkP m n (startP m n r0) := by
  have f1 := okm.f0
  have f2 := okn.f0
  have e : ∀ {m : Bk}, 0 ≤ m.fresh → m.fresh ≤ lastPh m := by
    intro m hf
    unfold lastPh
    split
    · omega
    · split <;> omega
  exact ⟨⟨h1, h2, f1, e f1⟩, ⟨h3, h4, f2, e f2⟩, rfl⟩
theorem Chain.keysOk {m n : Bk} (okm : m.Ok) (okn : n.Ok) {r0 : Int} (h0 : OkP m n (startP m n r0)) {es : List (Pr × Option Src)} (h : Chain m n r0 es) (f : Option (Pr × Pr × Res × Bool)) : KeysOk m n ⟨es, f⟩ := by
  induction h with
  | start => exact ⟨by simp [TS.keys], by intro p hp; simp [TS.keys] at hp; subst hp; exact h0⟩
  | @add es u l a b p r k hc hu hl hle ho hp hnp ih =>
    have hab := out_ok okm okn (ih.ok u hu) (ih.ok l hl) ho
    have hpk : OkP m n p := by
      rcases hp with ⟨rfl, _⟩ | ⟨rfl, _⟩
      · exact hab.1
      · exact hab.2
    refine ⟨?_, fun q hq => ?_⟩
    · show ((es ++ [(p, some (u, l, r, k))]).map (·.1)).Nodup
      rw [List.map_append, List.nodup_append]
      refine ⟨ih.nd, by simp, fun x hx y hy e => ?_⟩
      simp at hy
      subst hy; subst e
      exact hnp hx
    · have hq2 : q ∈ (es ++ [(p, some (u, l, r, k))]).map (·.1) := hq
      rw [List.map_append, List.mem_append] at hq2
      rcases hq2 with hq2 | hq2
      · exact ih.ok q hq2
      · simp at hq2
        subst hq2
        exact hpk
theorem Chain.reach {m n : Bk} {r0 : Int} {es : List (Pr × Option Src)} (h : Chain m n r0 es) : ∀ p ∈ es.map (·.1), Reach m n r0 p := by
  induction h with
  | start => intro p hp; simp at hp; subst hp; exact .start
  | @add es u l a b p r k hc hu hl hle ho hp hnp ih =>
    intro q hq
    rw [List.map_append, List.mem_append] at hq
    rcases hq with hq | hq
    · exact ih q hq
    · simp at hq
      subst hq
      rcases hp with ⟨rfl, _⟩ | ⟨rfl, _⟩
      · exact .one (ih u hu) (ih l hl) hle ho
      · exact .two (ih u hu) (ih l hl) hle ho
theorem Chain.start_mem {m n : Bk} {r0 : Int} {es : List (Pr × Option Src)} (h : Chain m n r0 es) : startP m n r0 ∈ es.map (·.1) := by
  induction h with
  | start => simp
  | add _ _ _ _ _ _ _ ih => rw [List.map_append, List.mem_append]; exact .inl ih
theorem addF_chain {m n : Bk} {r0 : Int} {s : TS} {u l a b p : Pr} {r : Res} {k : Int} (h : Chain m n r0 s.es) (hu : u ∈ s.keys) (hl : l ∈ s.keys) (hle : l.1.1 ≤ u.1.1) (ho : out m n u l r = some (some (a, b))) (hp : p = a ∧ k = 0 ∨ p = b ∧ k = 1) : Chain m n r0 (addF s p (u, l, r, k)).es := by
  unfold addF
  split
  · exact h
  · rename_i hn
    exact .add h hu hl hle ho hp hn
theorem takeF_good {m n : Bk} {r0 : Int} {s : TS} {u l : Pr} {r : Res} (h : Good m n r0 s) (hf : s.fault = none) (hu : u ∈ s.keys) (hl : l ∈ s.keys) (hle : l.1.1 ≤ u.1.1) : Good m n r0 (takeF m n s u l r) := by
  rcases takeF_out m n s u l r with ⟨_, e⟩ | ⟨a, b, ho, e⟩ | ⟨c, ho, e, hc⟩
  · rw [e]; exact h
  · rw [e]
    refine ⟨addF_chain (addF_chain h.ch hu hl hle ho (.inl ⟨rfl, rfl⟩)) ((addF_pre _ _ _).mem hu) ((addF_pre _ _ _).mem hl) hle ho (.inr ⟨rfl, rfl⟩), fun u' l' r' c' hf' => ?_⟩
    rw [addF_fault, addF_fault, hf] at hf'
    cases hf'
  · rw [e]
    refine ⟨h.ch, fun u' l' r' c' hf' => ?_⟩
    cases hf'
    exact ⟨hu, hl, hle, ho, hc⟩
theorem stepR_good {m n : Bk} {r0 : Int} {s : TS} {u l : Pr} {r : Res} (h : Good m n r0 s) (hu : u ∈ s.keys) (hl : l ∈ s.keys) (hle : l.1.1 ≤ u.1.1) : Good m n r0 (stepR m n u l s r) := by
  unfold stepR
  split
  · rename_i hf
    exact takeF_good h hf hu hl hle
  · exact h
theorem foldR_good {m n : Bk} {r0 : Int} {u l : Pr} (hle : l.1.1 ≤ u.1.1) : ∀ (rs : List Res) (s : TS), Good m n r0 s → u ∈ s.keys → l ∈ s.keys → Good m n r0 (rs.foldl (stepR m n u l) s)
  | [], s, h, _, _ => h
  | r :: rs, s, h, hu, hl => foldR_good hle rs _ (stepR_good h hu hl hle) ((stepR_pre _ _ _ _ _ _).mem hu) ((stepR_pre _ _ _ _ _ _).mem hl)
theorem step3_good {m n : Bk} {r0 : Int} {s : TS} {u l : Pr} (h : Good m n r0 s) (hu : u ∈ s.keys) (hl : l ∈ s.keys) : Good m n r0 (step3 m n s u l) := by
  unfold step3
  split
  · rename_i hle
    exact foldR_good hle _ _ h hu hl
  · exact h
theorem stepI_good {m n : Bk} {r0 : Int} {s : TS} {at_ i : Nat} (h : Good m n r0 s) (ha : at_ < s.es.length) (hi : i < s.es.length) : Good m n r0 (stepI m n at_ s i) :=
  step3_good (step3_good h (nth_mem ha) (nth_mem hi)) ((step3_pre _ _ _ _ _).mem (nth_mem hi)) ((step3_pre _ _ _ _ _).mem (nth_mem ha))
theorem lookF_good {m n : Bk} {r0 : Int} {s : TS} {at_ : Nat} (h : Good m n r0 s) (ha : at_ < s.es.length) : ∀ k, k ≤ at_ + 1 → Good m n r0 (lookF m n s at_ k)
  | 0, _ => h
  | k + 1, hk => by
    rw [lookF_succ]
    have hl := (lookF_pre m n s at_ k).len
    exact stepI_good (lookF_good h ha k (by omega)) (by omega) (by omega)
/-! ### what is done -/
/-- s' goes on from s; a fault stays -/
def Gr (s s' : TS) : Prop := Pre s s' ∧ (s'.fault = none → s.fault = none)
theorem Gr.refl (s : TS) : Gr s s := ⟨Pre.refl s, id⟩
theorem Gr.trans {a b c : TS} (h1 : Gr a b) (h2 : Gr b c) : Gr a c := ⟨h1.1.trans h2.1, fun z => h1.2 (h2.2 z)⟩
theorem takeF_gr (m n : Bk) (s : TS) (u l : Pr) (r : Res) (hf : s.fault = none) : Gr s (takeF m n s u l r) := ⟨takeF_pre _ _ _ _ _ _, fun _ => hf⟩
theorem stepR_gr (m n : Bk) (u l : Pr) (s : TS) (r : Res) : Gr s (stepR m n u l s r) := by
  unfold stepR
  split
  · rename_i hf
    exact takeF_gr _ _ _ _ _ _ hf
  · exact Gr.refl s
theorem foldR_gr (m n : Bk) (u l : Pr) : ∀ (rs : List Res) (s : TS), Gr s (rs.foldl (stepR m n u l) s)
  | [], s => Gr.refl s
  | r :: rs, s => (stepR_gr m n u l s r).trans (foldR_gr m n u l rs _)
theorem step3_gr (m n : Bk) (s : TS) (u l : Pr) : Gr s (step3 m n s u l) := by
  unfold step3
  split
  · exact foldR_gr _ _ _ _ _ _
  · exact Gr.refl s
theorem stepI_gr (m n : Bk) (at_ : Nat) (s : TS) (i : Nat) : Gr s (stepI m n at_ s i) := (step3_gr _ _ _ _ _).trans (step3_gr _ _ _ _ _)
theorem lookF_gr (m n : Bk) (s : TS) (at_ : Nat) : ∀ k, Gr s (lookF m n s at_ k)
  | 0 => Gr.refl s
  | k + 1 => by rw [lookF_succ]; exact (lookF_gr m n s at_ k).trans (stepI_gr _ _ _ _ _)
def DoneR (m n : Bk) (s : TS) (u l : Pr) (r : Res) : Prop := s.fault = none → ∃ o, out m n u l r = some o ∧ ∀ a b, o = some (a, b) → a ∈ s.keys ∧ b ∈ s.keys
def Done (m n : Bk) (s : TS) (u l : Pr) : Prop := l.1.1 ≤ u.1.1 → ∀ r, DoneR m n s u l r
theorem DoneR.gr {m n : Bk} {s s' : TS} {u l : Pr} {r : Res} (h : DoneR m n s u l r) (g : Gr s s') : DoneR m n s' u l r := fun hf => by
  obtain ⟨o, h1, h2⟩ := h (g.2 hf)
  exact ⟨o, h1, fun a b e => ⟨g.1.mem (h2 a b e).1, g.1.mem (h2 a b e).2⟩⟩
theorem Done.gr {m n : Bk} {s s' : TS} {u l : Pr} (h : Done m n s u l) (g : Gr s s') : Done m n s' u l := fun hle r => (h hle r).gr g
theorem stepR_done (m n : Bk) (u l : Pr) (s : TS) (r : Res) : DoneR m n (stepR m n u l s r) u l r := by
  unfold stepR
  split
  · rename_i hf
    intro hf'
    rcases takeF_out m n s u l r with ⟨ho, e⟩ | ⟨a, b, ho, e⟩ | ⟨c, ho, e, hc⟩
    · exact ⟨none, ho, fun a b e => nomatch e⟩
    · refine ⟨_, ho, fun a' b' e' => ?_⟩
      cases e'
      rw [e]
      exact ⟨(addF_pre _ _ _).mem (addF_mem _ _ _), addF_mem _ _ _⟩
    · rw [e] at hf'
      cases hf'
  · rename_i hf
    exact fun z => (hf z).elim
theorem foldR_done (m n : Bk) (u l : Pr) (rs : List Res) : ∀ (s : TS) (r : Res), r ∈ rs → DoneR m n (rs.foldl (stepR m n u l) s) u l r := by
  induction rs with
  | nil => intro s r h; cases h
  | cons r' rs ih =>
    intro s r h
    rw [List.foldl_cons]
    rcases List.mem_cons.mp h with h | h
    · subst h
      exact (stepR_done m n u l s r).gr (foldR_gr m n u l rs (stepR m n u l s r))
    · exact ih _ r h
theorem mem_allR (r : Res) : r ∈ allR := by cases r <;> simp [allR]
theorem step3_done (m n : Bk) (s : TS) (u l : Pr) : Done m n (step3 m n s u l) u l := by
  intro hle r
  unfold step3
  rw [if_pos hle]
  exact foldR_done m n u l _ _ r (mem_allR r)
theorem lookF_done (m n : Bk) (s : TS) (at_ : Nat) (ha : at_ < s.es.length) : ∀ k, k ≤ at_ + 1 → ∀ i, i < k → Done m n (lookF m n s at_ k) (s.nth at_) (s.nth i) ∧ Done m n (lookF m n s at_ k) (s.nth i) (s.nth at_)
  | k + 1, hk, i, hi => by
    rw [lookF_succ]
    have pl := lookF_pre m n s at_ k
    by_cases h : i < k
    · obtain ⟨h1, h2⟩ := lookF_done m n s at_ ha k (by omega) i h
      exact ⟨h1.gr (stepI_gr _ _ _ _ _), h2.gr (stepI_gr _ _ _ _ _)⟩
    · have e : i = k := by omega
      subst e
      have ea := pl.nth ha
      have ei := pl.nth (show i < s.es.length by omega)
      unfold stepI
      rw [ea, ei]
      exact ⟨(step3_done m n _ _ _).gr (step3_gr _ _ _ _ _), step3_done m n _ _ _⟩
/-- closed up to k -/
def Clo (m n : Bk) (s : TS) (k : Nat) : Prop := ∀ i j, i < k → j < k → Done m n s (s.nth i) (s.nth j)
theorem lookF_clo {m n : Bk} {s : TS} {at_ : Nat} (ha : at_ < s.es.length) (h : Clo m n s at_) : Clo m n (lookF m n s at_ (at_ + 1)) (at_ + 1) := by
  intro i j hi hj
  have pl := lookF_pre m n s at_ (at_ + 1)
  rw [pl.nth (by omega), pl.nth (by omega)]
  by_cases h1 : i < at_
  · by_cases h2 : j < at_
    · exact (h i j h1 h2).gr (lookF_gr _ _ _ _ _)
    · have e : j = at_ := by omega
      subst e
      exact (lookF_done m n s j ha (j + 1) (Nat.le_refl _) i (by omega)).2
  · have e : i = at_ := by omega
    subst e
    exact (lookF_done m n s i ha (i + 1) (Nat.le_refl _) j (by omega)).1
/-- the search is at its end -/
structure Fin (m n : Bk) (r0 : Int) (s : TS) : Prop where
  g : Good m n r0 s
  c : s.fault = none → Clo m n s s.es.length
theorem key_nth {s : TS} {p : Pr} (h : p ∈ s.keys) : ∃ i, i < s.es.length ∧ s.nth i = p := by
  unfold TS.keys at h
  obtain ⟨e, he, rfl⟩ := List.mem_map.mp h
  obtain ⟨i, hi, rfl⟩ := List.mem_iff_getElem.mp he
  refine ⟨i, hi, ?_⟩
  unfold TS.nth
  rw [List.getElem?_eq_getElem hi]
  rfl
theorem Fin.noFault {m n : Bk} {r0 : Int} {s : TS} (h : Fin m n r0 s) : s.fault = none ↔ NoFault m n r0 := by
  constructor
  · intro hf
    have hc := h.c hf
    have done : ∀ u l, u ∈ s.keys → l ∈ s.keys → Done m n s u l := fun u l hu hl => by
      obtain ⟨i, hi, rfl⟩ := key_nth hu
      obtain ⟨j, hj, rfl⟩ := key_nth hl
      exact hc i j hi hj
    have all : ∀ p, Reach m n r0 p → p ∈ s.keys := by
      intro p hp
      induction hp with
      | start => exact h.g.ch.start_mem
      | @one u l a b r _ _ hle ho hu hl =>
        obtain ⟨o, h1, h2⟩ := done u l hu hl hle r hf
        rw [ho] at h1
        cases h1
        exact (h2 _ _ rfl).1
      | @two u l a b r _ _ hle ho hu hl =>
        obtain ⟨o, h1, h2⟩ := done u l hu hl hle r hf
        rw [ho] at h1
        cases h1
        exact (h2 _ _ rfl).2
    intro u l r hu hl hle
    obtain ⟨o, h1, _⟩ := done u l (all u hu) (all l hl) hle r hf
    rw [h1]
    exact fun e => nomatch e
  · intro hn
    cases hf : s.fault with
    | none => rfl
    | some z =>
      obtain ⟨u, l, r, c⟩ := z
      obtain ⟨hu, hl, hle, ho, _⟩ := h.g.flt u l r c hf
      exact (hn u l r (h.g.ch.reach u hu) (h.g.ch.reach l hl) hle ho).elim
theorem Good.init {m n : Bk} {r0 : Int} : Good m n r0 (startS m n r0) := ⟨.start, fun _ _ _ _ e => nomatch e⟩
end Tw
/-! Twins: made. -/
namespace Tw
open PySem PySem.Spec PyProof.Rows L2
section
variable {P : Program} {w : World} {K : PySem.W.Frag} {mg : Str → Option Value} {base : Heap}
def spTInit (P : Program) (w : World) (K : PySem.W.Frag) : Sp := fun vs H Q _ => ∃ (H0 : Hp) (x dx b1 b2 : Addr) (m n : Bk) (r0 : Int), vs = [.ref x, .ref b1, .ref b2, .int r0] ∧ BookAt K H0 b1 m ∧ m.Ok ∧ BookAt K H0 b2 n ∧ n.Ok ∧ m.low ≤ r0 ∧ r0 ≤ m.high ∧ n.low ≤ r0 ∧ r0 ≤ n.high ∧
  Ex H0 H ∧ H0 x = none ∧ H x = some (.ins (CT K) dx []) ∧ ∀ s H', TwAt P w K H0 H' x b1 b2 s 0 → Fin m n r0 s → Q .non H'
theorem sc_t_init : FnScope ["self", "one", "other", "rating", "start", "at"] ["self", "one", "other", "rating"] (defScope s_t_init) := ⟨rfl, rfl, rfl, by decide +kernel, rfl, by decide +kernel, by decide +kernel⟩
theorem ok_t_init (D : DfT K mg s_t_init ["self", "one", "other", "rating"]) (T : Txt K mg) (C_b_start : Met P w K mg base 3 (CB K) "start" (spStart K)) (C_t_look_at : Met P w K mg base 6 (CT K) "look_at" (spLook P w K)) : MakT P w K mg base 7 (spTInit P w K) := by
  refine makT_mk D sc_t_init (fun vs H Q E h => ?_) (fun f cdv A outer st H vs Q E hr h => ?_)
  · obtain ⟨H0, x, dx, b1, b2, m, n, r0, rfl, _⟩ := h
    rfl
  · obtain ⟨H0, x, dx, b1, b2, m, n, r0, rfl, hm, okm, hn, okn, m1, m2, n1, n2, e0, nx, hx, k⟩ := h
    have nd := sc_t_init.nd
    have hu1 := hu_of hr
    have hu9 := hu9_of hr
    have hu64 := hu64_of hr
    have hu65 := hu65_of hr
    refine ⟨_, (pss_cons (ps_fld (pv 0) (pv 1) rfl)
    (pss_cons (ps_fld (pv 0) (pv 2) rfl)
    (pss_cons (ps_set (i := 4) nd rfl (Or.inl rfl) (pe_tup (pa_cons (pe_mt C_b_start hr (by decide) (pv 1) (pa_cons (pv 3) pa_nil)) (pa_cons (pe_mt C_b_start hr (by decide) (pv 2) (pa_cons (pv 3) pa_nil)) pa_nil))))
    (pss_cons (ps_fld (pv 0) (pe_lst (pa_cons (pv 4) pa_nil)) rfl)
    (pss_cons (ps_fld (pv 0) (pe_ndisp hu9 (pv 4) pe_non) rfl)
    (pss_cons (ps_fld (pv 0) pe_non rfl)
    (pss_cons (ps_fld (pv 0) pe_int rfl)
    (pss_cons (ps_set (i := 5) nd rfl (Or.inl rfl) pe_int)
    (pss_one (ps_while PassesOwn.never (PW.pt (pw_and (pt_cmpR op_isN (pe_fld (pv 0) rfl) pe_non (nomark _)) (pw_and1 (pt_cmpR op_lt (pv 5) (pe_callB call_len_seq (by rfl) T.len_ PySem.boot_len (pa_cons (pe_fld (pv 0) rfl) pa_nil)) (nomark _)))))
    (pss_cons (ps_expr (pe_mt C_t_look_at hr (by decide) (pv 0) (pa_cons (pv 5) pa_nil)))
    (pss_one (ps_aug (i := 5) nd rfl (Or.inl rfl) pe_int ip_add))))))))))))), ?_⟩
    -- slots: 0 self, 1 one, 2 other, 3 rating, 4 start, 5 at
    refine ⟨_, rfl, _, rfl, x, _, dx, _, rfl, hx, T.clT, T.tOne, by decide, ?_⟩
    generalize hA : upd H x (.ins (CT K) dx (putF "one" (.ref b1) [])) = HA
    have eA : Ex H0 HA := by rw [← hA]; exact e0.mut nx
    have xA : HA x = some (.ins (CT K) dx (putF "one" (.ref b1) [])) := by rw [← hA]; exact upd_same
    refine ⟨_, rfl, _, rfl, x, _, dx, _, rfl, xA, T.clT, T.tOther, (by show (1 : Nat) < 1000; decide), ?_⟩
    generalize hB : upd HA x (.ins (CT K) dx (putF "other" (.ref b2) (putF "one" (.ref b1) []))) = HB
    have eB : Ex H0 HB := by rw [← hB]; exact eA.mut nx
    have xB : HB x = some (.ins (CT K) dx (putF "other" (.ref b2) (putF "one" (.ref b1) []))) := by rw [← hB]; exact upd_same
    -- start
    refine ⟨_, rfl, mB (hm.ex eB) (by decide +kernel) ⟨_, rfl, b1, m, r0, rfl, hm.ex eB, m1, m2, fun v1 H1 e1 hv1 => ?_⟩⟩
    refine ⟨_, rfl, mB (hn.ex (eB.trans e1)) (by decide +kernel) ⟨_, rfl, b2, n, r0, rfl, hn.ex (eB.trans e1), n1, n2, fun v2 H2 e2 hv2 => ?_⟩⟩
    refine ⟨(by show 2 ≤ sizeLine; decide), fun p3 np3 => ?_⟩
    obtain ⟨e3, hp3⟩ := newT (K := K) (ds := [dPl (r0, m.fresh), dPl (r0, n.fresh)]) np3 (.cons (Dp.ex e2 _ _ hv1) (.cons hv2 .nil))
    have hp3 : Dp K (upd H2 p3 (.tup [v1, v2])) (.ref p3) (dPr (startP m n r0)) := hp3
    generalize upd H2 p3 (.tup [v1, v2]) = H3 at e3 hp3 ⊢
    have eB3 : Ex HB H3 := (e1.trans e2).trans e3
    -- pairs
    refine ⟨_, rfl, (by show 1 ≤ sizeLine; decide), fun lp nlp => ?_⟩
    have nl0 : H0 lp = none := (eB.trans eB3).back nlp
    have e4 : Ex H3 (upd H3 lp (.lst [.ref p3])) := Ex.new nlp
    have hl4 : upd H3 lp (.lst [.ref p3]) lp = some (.lst [.ref p3]) := upd_same
    generalize upd H3 lp (.lst [.ref p3]) = H4 at e4 hl4 ⊢
    refine ⟨_, rfl, x, _, dx, _, rfl, (eB3.trans e4) _ _ xB, T.clT, T.tPairs, (by show (2 : Nat) < 1000; decide), ?_⟩
    have hxl : lp ≠ x := ne_of hl4 ((eB3.trans e4) _ _ xB) (fun e => nomatch e)
    generalize hC : upd H4 x (.ins (CT K) dx (putF "pairs" (.ref lp) (putF "other" (.ref b2) (putF "one" (.ref b1) [])))) = HC
    have eC : Ex H0 HC := by rw [← hC]; exact ((eB.trans eB3).trans e4).mut nx
    have tC : Tx H4 HC := by rw [← hC]; exact Tx.upd ((eB3.trans e4) _ _ xB) (fun _ e => nomatch e) (fun _ _ e => nomatch e)
    have xC : HC x = some (.ins (CT K) dx (putF "pairs" (.ref lp) (putF "other" (.ref b2) (putF "one" (.ref b1) [])))) := by rw [← hC]; exact upd_same
    have lC : HC lp = some (.lst [.ref p3]) := by rw [← hC, upd_ne hxl]; exact hl4
    have pC : Dp K HC (.ref p3) (dPr (startP m n r0)) := Dp.pr tC (Dp.ex e4 _ _ hp3)
    -- sources
    refine fun sd nsd => ⟨_, rfl, ?_⟩
    refine ⟨upd_same, startP m n r0, Dp.ex (Ex.new nsd) _ _ pC, fun HD hD ndD => ?_⟩
    have ns0 : H0 sd = none := eC.back nsd
    have eD : Ex HC HD := fun a o e => by
      have hne : a ≠ sd := fun z => by rw [z, nsd] at e; cases e
      rw [hD a hne, upd_ne hne]; exact e
    refine ⟨_, rfl, x, _, dx, _, rfl, eD _ _ xC, T.clT, T.tSources, (by show (3 : Nat) < 1000; decide), ?_⟩
    obtain ⟨φ, hsd⟩ := ndD.tracked
    have hxs : sd ≠ x := ne_of hsd (eD _ _ xC) (fun e => nomatch e)
    generalize hE : upd HD x (.ins (CT K) dx (putF "sources" (.ref sd) (putF "pairs" (.ref lp) (putF "other" (.ref b2) (putF "one" (.ref b1) []))))) = HE
    have tE : Tx HD HE := by rw [← hE]; exact Tx.upd (eD _ _ xC) (fun _ e => nomatch e) (fun _ _ e => nomatch e)
    have eE : Ex H0 HE := by rw [← hE]; exact (eC.trans eD).mut nx
    have xE : HE x = some (.ins (CT K) dx (putF "sources" (.ref sd) (putF "pairs" (.ref lp) (putF "other" (.ref b2) (putF "one" (.ref b1) []))))) := by rw [← hE]; exact upd_same
    have lE : HE lp = some (.lst [.ref p3]) := by rw [← hE, upd_ne hxl]; exact eD _ _ lC
    have ndE : ND P w K HE sd [(startP m n r0, .non)] := ndD.mono tE (by rw [← hE, upd_ne hxs])
    have pE : Dp K HE (.ref p3) (dPr (startP m n r0)) := Dp.pr tE (Dp.ex eD _ _ pC)
    -- fault
    refine ⟨_, rfl, x, _, dx, _, rfl, xE, T.clT, T.tFault, (by show (4 : Nat) < 1000; decide), ?_⟩
    generalize hF : upd HE x (.ins (CT K) dx (putF "fault" .non (putF "sources" (.ref sd) (putF "pairs" (.ref lp) (putF "other" (.ref b2) (putF "one" (.ref b1) [])))))) = HF
    have tF : Tx HE HF := by rw [← hF]; exact Tx.upd xE (fun _ e => nomatch e) (fun _ _ e => nomatch e)
    have eF : Ex H0 HF := by rw [← hF]; exact eE.mut nx
    have xF : HF x = some (.ins (CT K) dx (putF "fault" .non (putF "sources" (.ref sd) (putF "pairs" (.ref lp) (putF "other" (.ref b2) (putF "one" (.ref b1) [])))))) := by rw [← hF]; exact upd_same
    have lF : HF lp = some (.lst [.ref p3]) := by rw [← hF, upd_ne hxl]; exact lE
    have ndF : ND P w K HF sd [(startP m n r0, .non)] := ndE.mono tF (by rw [← hF, upd_ne hxs])
    have pF : Dp K HF (.ref p3) (dPr (startP m n r0)) := Dp.pr tF pE
    -- many_players
    refine ⟨_, rfl, x, _, dx, _, rfl, xF, T.clT, T.tMany, (by show (5 : Nat) < 1000; decide), ?_⟩
    generalize hG : upd HF x (.ins (CT K) dx (putF "many_players" (.int 0) (putF "fault" .non (putF "sources" (.ref sd) (putF "pairs" (.ref lp) (putF "other" (.ref b2) (putF "one" (.ref b1) []))))))) = HG
    have tG : Tx HF HG := by rw [← hG]; exact Tx.upd xF (fun _ e => nomatch e) (fun _ _ e => nomatch e)
    have eG : Ex H0 HG := by rw [← hG]; exact eF.mut nx
    have xG : HG x = some (.ins (CT K) dx (twF b1 b2 lp sd .non 0)) := by rw [← hG]; exact upd_same
    have lG : HG lp = some (.lst [.ref p3]) := by rw [← hG, upd_ne hxl]; exact lF
    have ndG : ND P w K HG sd [(startP m n r0, .non)] := ndF.mono tG (by rw [← hG, upd_ne hxs])
    have pG : Dp K HG (.ref p3) (dPr (startP m n r0)) := Dp.pr tG pF
    have ti : TwIn P w K H0 HG x b1 b2 dx lp sd .non [.ref p3] [(startP m n r0, .non)] (startS m n r0) 0 := ⟨eG, nx, nl0, ns0, xG, lG, .cons pG .nil, ndG, .cons ⟨rfl, .non⟩ .nil, .non⟩
    have okS := start_ok okm okn m1 m2 n1 n2
    refine while_by (fun σ H' => ∃ (at_ : Nat) (s : TS), σ = [some (.ref x), some (.ref b1), some (.ref b2), some (.int r0), some (.ref p3), some (.int (at_ : Int))] ∧ TwAt P w K H0 H' x b1 b2 s 0 ∧ Good m n r0 s ∧ at_ ≤ s.es.length ∧ (s.fault = none → Clo m n s at_))
      (fun σ _ => match σ with
        | [_, _, _, _, _, some (.int i)] => (45 - i).toNat
        | _ => 0) ⟨0, startS m n r0, rfl, ⟨_, _, _, _, _, _, ti⟩, Good.init, Nat.zero_le _, fun _ i j hi => absurd hi (Nat.not_lt_zero _)⟩ ?_ ?_
    · rintro σ H' ⟨at_, s, rfl, tw, hg, hle, hc⟩
      obtain ⟨dx', lp', sd', fv, pvs, kvs, ti'⟩ := tw
      have ks := hg.ch.keysOk okm okn okS s.fault
      have h45 : s.es.length ≤ 45 := ks.few okm okn
      refine ⟨_, rfl, fT ti'.obj T.clT T.tFault rfl ⟨rfl, _, rfl, ?_⟩⟩
      rw [fault_non ti'.flt]
      by_cases hf : s.fault = none
      · rw [decide_eq_true hf]
        refine iteT ?_
        have hlen := dpAll_len ti'.prs
        rw [List.length_map, show s.keys.length = s.es.length from List.length_map _] at hlen
        refine ⟨_, rfl, _, rfl, fT ti'.obj T.clT T.tPairs rfl ⟨lp', pvs, rfl, .inl (SqL.of ti'.lst), ?_⟩⟩
        refine ⟨_, _, rfl, rfl, _, rfl, ?_⟩
        rw [hlen]
        by_cases ha : at_ < s.es.length
        · rw [decide_eq_true (show (at_ : Int) < (s.es.length : Int) by omega)]
          refine iteT ?_
          refine ⟨_, rfl, mT ti'.obj (tw_none (by decide +kernel)) ⟨_, rfl, H0, x, b1, b2, m, n, s, 0, at_, rfl, ⟨_, _, _, _, _, _, ti'⟩, hm, okm, hn, okn, ks, ha, fun H2 t2 tw2 => ?_⟩⟩
          refine ⟨_, rfl, _, _, rfl, rfl, ⟨at_ + 1, lookF m n s at_ (at_ + 1), rfl, tw2, lookF_good hg ha (at_ + 1) (Nat.le_refl _), ?_, fun hf2 => ?_⟩, ?_⟩
          · have := (lookF_pre m n s at_ (at_ + 1)).len
            omega
          · exact lookF_clo ha (hc hf)
          · show (45 - ((at_ : Int) + 1)).toNat < (45 - (at_ : Int)).toNat
            omega
        · rw [decide_eq_false (show ¬ (at_ : Int) < (s.es.length : Int) by omega)]
          refine iteF ?_
          have e : at_ = s.es.length := by omega
          subst e
          exact k s H' ⟨_, _, _, _, _, _, ti'⟩ ⟨hg, hc⟩
      · rw [decide_eq_false hf]
        refine iteF ?_
        exact k s H' ⟨_, _, _, _, _, _, ti'⟩ ⟨hg, fun z => (hf z).elim⟩
    · intro σ H' Q Q' hq h
      obtain ⟨v, hv, a, C, d, fs, z, e1, e2, e3, e4, e5, e6, k, e7, h⟩ := h
      refine ⟨v, hv, a, C, d, fs, z, e1, e2, e3, e4, e5, e6, k, e7, ?_⟩
      cases k with
      | false => exact hq _ _ h
      | true =>
        obtain ⟨v, hv, v2, hv2, a, C, d, fs, z, e1, e2, e3, e4, e5, p, ys, e6, e8, i, j, e9, e10, k, e11, h⟩ := h
        exact ⟨v, hv, v2, hv2, a, C, d, fs, z, e1, e2, e3, e4, e5, p, ys, e6, e8, i, j, e9, e10, k, e11, hq _ _ h⟩
end
end Tw
/-! check_rating, are_alike. -/
namespace Tw
open PySem PySem.Spec PyProof.Rows L2
section
variable {P : Program} {w : World} {K : PySem.W.Frag} {mg : Str → Option Value} {base : Heap}
/-- two books and a rating of both -/
structure Two (K : PySem.W.Frag) (H : Hp) (b1 b2 : Addr) (m n : Bk) (r0 : Int) : Prop where
  hm : BookAt K H b1 m
  okm : m.Ok
  hn : BookAt K H b2 n
  okn : n.Ok
  m1 : m.low ≤ r0
  m2 : r0 ≤ m.high
  n1 : n.low ≤ r0
  n2 : r0 ≤ n.high
theorem Two.ex {H H' : Hp} {b1 b2 : Addr} {m n : Bk} {r0 : Int} (h : Two K H b1 b2 m n r0) (e : Ex H H') : Two K H' b1 b2 m n r0 := ⟨h.hm.ex e, h.okm, h.hn.ex e, h.okn, h.m1, h.m2, h.n1, h.n2⟩
def spCheck (K : PySem.W.Frag) : Sp := fun vs H Q _ => ∃ (b1 b2 : Addr) (m n : Bk) (r0 : Int), vs = [.ref b1, .ref b2, .int r0] ∧ Two K H b1 b2 m n r0 ∧ ∀ H', Ex H H' → Q .non H'
theorem sc_check_rating : FnScope ["one", "other", "rating", "book"] ["one", "other", "rating"] (defScope s_check_rating) := ⟨rfl, rfl, rfl, by decide +kernel, rfl, by decide +kernel, by decide +kernel⟩
theorem ok_check_rating (D : Df K mg "check_rating" s_check_rating ["one", "other", "rating"]) (T : Txt K mg) (C_is_integer : Cal P w K mg base 2 "is_integer" spIsInteger) : Cal P w K mg base 3 "check_rating" (spCheck K) := by
  refine cal_mk D sc_check_rating (fun vs H Q E h => ?_) (fun f cdv A outer st H vs Q E hr h => ?_)
  · obtain ⟨b1, b2, m, n, r0, rfl, _⟩ := h
    rfl
  · obtain ⟨b1, b2, m, n, r0, rfl, two, k⟩ := h
    have nd := sc_check_rating.nd
    have hu1 := hu_of hr
    have hu9 := hu9_of hr
    have hu64 := hu64_of hr
    have hu65 := hu65_of hr
    refine ⟨_, (pss_one (ps_for PassesOwn.never rfl (pi_tup (pe_tup (pa_cons (pv 0) (pa_cons (pv 1) pa_nil)))) (pg_name (i := 3) nd rfl (Or.inl rfl))
    (pss_one (ps_if (pt_not (pt_val (pe_c C_is_integer hr (by decide) rfl (pa_cons (pv 2) (pa_cons (pe_fld (pv 3) rfl) (pa_cons (pe_fld (pv 3) rfl) pa_nil))))))
    (pss_one ps_never)
    pss_nil)))), ?_⟩
    -- slots: 0 one, 1 other, 2 rating, 3 book
    refine ⟨_, rfl, _, rfl, (by show 2 ≤ sizeLine; decide), fun p np => ?_⟩
    have e1 : Ex H (upd H p (.tup [.ref b1, .ref b2])) := Ex.new np
    have hp : upd H p (.tup [.ref b1, .ref b2]) p = some (.tup [.ref b1, .ref b2]) := upd_same
    generalize upd H p (.tup [.ref b1, .ref b2]) = H1 at e1 hp ⊢
    have two1 := two.ex e1
    refine ⟨p, rfl, ⟨_, SqT.of hp⟩, for_tup (K := K) (a := p) (xs := [.ref b1, .ref b2]) (fun i σ H' => H' = H1 ∧ ∃ v, σ = [some (.ref b1), some (.ref b2), some (.int r0), v]) ⟨rfl, none, rfl⟩ (fun i σ H' _ z => by rw [z.1]; exact SqT.of hp) ?_ ?_⟩
    · rintro i v σ H' hv ⟨rfl, v0, rfl⟩
      obtain ⟨b, m', rfl, hb, h1, h2⟩ : ∃ (b : Addr) (m' : Bk), v = .ref b ∧ BookAt K H' b m' ∧ m'.low ≤ r0 ∧ r0 ≤ m'.high := by
        match i, hv with
        | 0, hv => cases hv; exact ⟨b1, m, rfl, two1.hm, two1.m1, two1.m2⟩
        | 1, hv => cases hv; exact ⟨b2, n, rfl, two1.hn, two1.n1, two1.n2⟩
        | i + 2, hv => simp at hv
      refine ⟨_, rfl, _, rfl, fB_low T hb ⟨_, rfl, fB_high T hb ⟨r0, m'.low, m'.high, rfl, _, rfl, ?_⟩⟩⟩
      rw [decide_eq_true h1, decide_eq_true h2]
      exact iteF ⟨rfl, _, rfl⟩
    · rintro σ H' ⟨rfl, v0, rfl⟩
      exact k H' e1
def spAlike (K : PySem.W.Frag) : Sp := fun vs H Q _ => ∃ (b1 b2 : Addr) (m n : Bk) (r0 : Int), vs = [.ref b1, .ref b2, .int r0] ∧ Two K H b1 b2 m n r0 ∧ ∀ b H', Ex H H' → (b = true ↔ NoFault m n r0) → Q (.bl b) H'
theorem sc_are_alike : FnScope ["one", "other", "rating"] ["one", "other", "rating"] (defScope s_are_alike) := ⟨rfl, rfl, rfl, by decide +kernel, rfl, by decide +kernel, by decide +kernel⟩
theorem ok_are_alike (D : Df K mg "are_alike" s_are_alike ["one", "other", "rating"]) (T : Txt K mg) (C_check_rating : Cal P w K mg base 3 "check_rating" (spCheck K)) (C_t_init : MakT P w K mg base 7 (spTInit P w K)) : Cal P w K mg base 9 "are_alike" (spAlike K) := by
  refine cal_mk D sc_are_alike (fun vs H Q E h => ?_) (fun f cdv A outer st H vs Q E hr h => ?_)
  · obtain ⟨b1, b2, m, n, r0, rfl, _⟩ := h
    rfl
  · obtain ⟨b1, b2, m, n, r0, rfl, two, k⟩ := h
    have nd := sc_are_alike.nd
    have hu1 := hu_of hr
    have hu9 := hu9_of hr
    have hu64 := hu64_of hr
    have hu65 := hu65_of hr
    refine ⟨_, (pss_cons (ps_expr (pe_c C_check_rating hr (by decide) rfl (pa_cons (pv 0) (pa_cons (pv 1) (pa_cons (pv 2) pa_nil)))))
    (pss_one (ps_ret (pe_cmpR op_isN (pe_fld (pe_mk C_t_init hr (by decide) rfl (pa_cons (pv 0) (pa_cons (pv 1) (pa_cons (pv 2) pa_nil)))) rfl) pe_non (nomark _))))), ?_⟩
    -- slots: 0 one, 1 other, 2 rating
    refine ⟨_, rfl, _, rfl, _, rfl, b1, b2, m, n, r0, rfl, two, fun H1 e1 => ?_⟩
    have two1 := two.ex e1
    refine ⟨_, rfl, _, rfl, _, rfl, fun x dx nx ndx hne => ?_⟩
    refine ⟨H1, x, dx, b1, b2, m, n, r0, rfl, two1.hm, two1.okm, two1.hn, two1.okn, two1.m1, two1.m2, two1.n1, two1.n2, (Ex.new ndx).mut nx, nx, upd_same, fun s H2 tw fin => ⟨rfl, ?_⟩⟩
    obtain ⟨dx', lp', sd', fv, pvs, kvs, ti⟩ := tw
    refine fT ti.obj T.clT T.tFault rfl ⟨rfl, ?_⟩
    rw [fault_non ti.flt]
    refine k _ H2 (e1.trans ti.e) ?_
    rw [decide_eq_true_iff]
    exact fin.noFault
end
end Tw
/-! many_games. -/
namespace Tw
open PySem PySem.Spec PyProof.Rows L2
/-- c counts the games behind each entry -/
def CntE (c : Pr → Int) (pre : List Pr) (p : Pr) : Option Src → Prop
  | none => c p = 0
  | some s => s.1 ∈ pre ∧ s.2.1 ∈ pre ∧ c p = 1 + c s.1 + c s.2.1
def CntAt (c : Pr → Int) (es : List (Pr × Option Src)) : Prop := ∀ i p o, es[i]? = some (p, o) → CntE c ((es.take i).map (·.1)) p o
def cntK (c : Pr → Int) (es : List (Pr × Option Src)) : List (Pr × V) := es.map fun e => (e.1, V.int (c e.1))
theorem cntK_in {c : Pr → Int} {q : Pr} : ∀ {es : List (Pr × Option Src)}, q ∈ es.map (·.1) → valV (cntK c es) q = some (.int (c q))
  | [], h => nomatch h
  | e :: es, h => by
    by_cases he : e.1 = q
    · subst he
      exact valV_pos (p := (e.1, V.int (c e.1))) rfl
    · rw [show cntK c (e :: es) = (e.1, V.int (c e.1)) :: cntK c es from rfl, valV_neg (p := (e.1, V.int (c e.1))) he]
      rw [List.map_cons] at h
      rcases List.mem_cons.mp h with h | h
      · exact (he h.symm).elim
      · exact cntK_in h
theorem cntK_out {c : Pr → Int} {q : Pr} : ∀ {es : List (Pr × Option Src)}, q ∉ es.map (·.1) → valV (cntK c es) q = none
  | [], h => rfl
  | e :: es, h => by
    rw [List.map_cons, List.mem_cons, not_or] at h
    rw [show cntK c (e :: es) = (e.1, V.int (c e.1)) :: cntK c es from rfl, valV_neg (p := (e.1, V.int (c e.1))) (fun z => h.1 z.symm)]
    exact cntK_out h.2
section
variable {P : Program} {w : World} {K : PySem.W.Frag} {mg : Str → Option Value} {base : Heap}
theorem dp_src {H : Hp} {v : V} {s : Src} (h : Dp K H v (dSrc (some s))) : ∃ a, v = .ref a ∧ Dp K H (.ref a) (.tuple [dPr s.1, dPr s.2.1, .str s.2.2.1.s, .int s.2.2.2]) := by
  obtain ⟨a, xs, rfl, _, _⟩ := dp_tup h
  exact ⟨a, rfl, h⟩
def spMany (P : Program) (w : World) (K : PySem.W.Frag) : Sp := fun vs H Q _ => ∃ (H0 : Hp) (t b1 b2 : Addr) (s : TS) (mp : Int) (c : Pr → Int), vs = [.ref t] ∧ TwAt P w K H0 H t b1 b2 s mp ∧ s.keys.Nodup ∧ s.es.length ≤ 1000 ∧ CntAt c s.es ∧
  ∀ d H', Ex H H' → ND P w K H' d (cntK c s.es) → Q (.ref d) H'
theorem sc_t_many_games : FnScope ["self", "found", "pair", "source"] ["self"] (defScope s_t_many_games) := ⟨rfl, rfl, rfl, by decide +kernel, rfl, by decide +kernel, by decide +kernel⟩
theorem ok_t_many_games (D : Dm K (CT K) "many_games" "Twins.many_games" s_t_many_games ["self"]) (T : Txt K mg) : Met P w K mg base 1 (CT K) "many_games" (spMany P w K) := by
  refine met_mk T.clT D sc_t_many_games (fun vs H Q E h => ?_) (fun f cdv A outer st H vs Q E hr h => ?_)
  · obtain ⟨H0, t, b1, b2, s, mp, c, rfl, _⟩ := h
    rfl
  · obtain ⟨H0, t, b1, b2, s, mp, c, rfl, tw, nodup, few, hc, k⟩ := h
    have nd := sc_t_many_games.nd
    have hu1 := hu_of hr
    have hu9 := hu9_of hr
    have hu64 := hu64_of hr
    have hu65 := hu65_of hr
    refine ⟨_, (pss_cons (ps_set (i := 1) nd rfl (Or.inl rfl) pe_nnew)
    (pss_cons (ps_for PassesOwn.never rfl (pi_list (pe_fld (pv 0) rfl)) (pg_name (i := 2) nd rfl (Or.inl rfl))
    (pss_cons (ps_set (i := 3) nd rfl (Or.inl rfl) (pe_nget hu9 (pe_fld (pv 0) rfl) (pv 2) (fun _ _ => rfl)))
    (pss_one (ps_asg (pe_ifExp (pt_cmpR op_isN (pv 3) pe_non (nomark _)) pe_int (pe_op op_add (pe_op op_add pe_int (pe_nget hu9 (pv 1) (pe_ix ix_tup (pv 3) pe_int (fun _ _ => rfl)) (fun _ _ => rfl))) (pe_nget hu9 (pv 1) (pe_ix ix_tup (pv 3) pe_int (fun _ _ => rfl)) (fun _ _ => rfl)))) (pg_sub (pv 1) (pv 2) (set_nd hu9))))))
    (pss_one (ps_ret (pv 1))))), ?_⟩
    -- slots: 0 self, 1 found, 2 pair, 3 source
    obtain ⟨dx, lp, sd, fv, pvs, kvs, ti⟩ := tw
    refine fun d H1 nd1 e1 s1 nd1' => ?_
    have ti1 := ti.ex e1
    have hlen := dpAll_len ti.prs
    rw [List.length_map, show s.keys.length = s.es.length from List.length_map _] at hlen
    refine ⟨_, rfl, fT ti1.obj T.clT T.tPairs rfl ⟨lp, rfl, ⟨_, SqL.of ti1.lst⟩, for_list (K := K) (a := lp) (xs := pvs) (fun i σ H' => Ex H H' ∧ ND P w K H' d (cntK c (s.es.take i)) ∧ ∃ v2 v3, σ = [some (.ref t), some (.ref d), v2, v3])
      ⟨e1, nd1', none, none, rfl⟩ (fun i σ H' _ z => SqL.of ((ti.ex z.1).lst)) ?_ ?_⟩⟩
    · rintro i v σ H2 hv ⟨e2, nd2, v2, v3, rfl⟩
      have ti2 := ti.ex e2
      have hi : i < s.es.length := by have := (List.getElem?_eq_some_iff.mp hv).1; omega
      obtain ⟨p, o, hpo⟩ : ∃ p o, s.es[i] = (p, o) := ⟨_, _, rfl⟩
      have hei : s.es[i]? = some (p, o) := by rw [List.getElem?_eq_getElem hi, hpo]
      have hkey : (s.keys.map dPr)[i]? = some (dPr p) := by
        unfold TS.keys
        rw [List.getElem?_map, List.getElem?_map, hei]
        rfl
      obtain ⟨v', hv', dv⟩ := dpAll_get i (dPr p) ti2.prs hkey
      rw [hv] at hv'
      cases hv'
      have hmem : (p, o) ∈ s.es := List.mem_of_getElem? hei
      obtain ⟨sv, hsv, dsv⟩ := ti2.ents.get nodup hmem
      refine ⟨_, rfl, fT ti2.obj T.clT T.tSources rfl ⟨_, rfl, sd, kvs, p, sv, rfl, ti2.nd, dv, hsv, ?_⟩⟩
      have hcs := hc i p o hei
      have hnotin : p ∉ (s.es.take i).map (·.1) := by
        intro hin
        have hn := nodup
        unfold TS.keys at hn
        rw [← List.take_append_drop i s.es, List.map_append, List.nodup_append] at hn
        refine hn.2.2 p hin p ?_ rfl
        rw [List.drop_eq_getElem_cons hi, hpo]
        exact List.mem_cons_self
      have put : ∀ z, z = c p → ∃ d' kvs' q, V.ref d = .ref d' ∧ ND P w K H2 d' kvs' ∧ Dp K H2 v (dPr q) ∧ valV kvs' q = none ∧ kvs'.length < sizeLine ∧
          ∀ H', (∀ b, b ≠ d' → H' b = H2 b) → ND P w K H' d' (kvs' ++ [(q, .int z)]) → Ex H H' ∧ ND P w K H' d (cntK c (s.es.take (i + 1))) ∧ ∃ v2 v3, [some (.ref t), some (.ref d), some v, some sv] = [some (.ref t), some (.ref d), v2, v3] := by
        rintro z rfl
        refine ⟨d, _, p, rfl, nd2, dv, cntK_out hnotin, ?_, fun H3 s3 nd3 => ⟨fun a o' e => ?_, ?_, _, _, rfl⟩⟩
        · show (cntK c (s.es.take i)).length < sizeLine
          unfold cntK
          rw [List.length_map, List.length_take]
          exact Nat.lt_of_lt_of_le (show min i s.es.length < 2000 by omega) (by decide)
        · have hne : a ≠ d := fun z => by rw [z, nd1] at e; cases e
          rw [s3 a hne]
          exact e2 a o' e
        · have e : cntK c (s.es.take (i + 1)) = cntK c (s.es.take i) ++ [(p, .int (c p))] := by
            rw [List.take_succ_eq_append_getElem hi, hpo]
            unfold cntK
            rw [List.map_append]
            rfl
          rw [e]
          exact nd3
      cases o with
      | none =>
        cases dp_non dsv
        refine ⟨_, rfl, rfl, _, rfl, iteT ?_⟩
        refine ⟨_, rfl, _, rfl, ?_⟩
        exact put 0 (show c p = 0 from hcs).symm
      | some src =>
        obtain ⟨a, rfl, da⟩ := dp_src dsv
        obtain ⟨hu, hl, hcp⟩ := hcs
        refine ⟨_, rfl, rfl, _, rfl, iteF ?_⟩
        refine ⟨_, rfl, _, rfl, ixT (i := 0) da rfl fun w1 hw1 => ⟨d, _, _, _, rfl, nd2, hw1, cntK_in hu, ?_⟩⟩
        refine ⟨_, _, rfl, rfl, ?_⟩
        refine ⟨_, rfl, _, rfl, ixT (i := 1) da rfl fun w2 hw2 => ⟨d, _, _, _, rfl, nd2, hw2, cntK_in hl, ?_⟩⟩
        refine ⟨_, _, rfl, rfl, ?_⟩
        refine ⟨_, rfl, _, rfl, ?_⟩
        exact put _ hcp.symm
    · rintro σ H2 ⟨e2, nd2, v2, v3, rfl⟩
      rw [hlen, List.take_of_length_le (Nat.le_refl _)] at nd2
      exact ⟨_, rfl, k d H2 e2 nd2⟩
end
end Tw
/-! The mathematics of the games behind a pair. Core Lean alone. -/
namespace Tw
abbrev Gm : Type := Int × Int × Res
/-- a player's number, and how many there are then -/
def NoOf (a mp : Int) : Int × Int := if a < 0 then (mp, mp + 1) else (a, mp)
/-- the games of p from mp players on: the number of the player, the players then, the games -/
inductive Put (es : List (Pr × Option Src)) : Pr → Int → Int → Int → List Gm → Prop where
  | start {p : Pr} {mp : Int} : (p, none) ∈ es → Put es p mp (-1) mp []
  | game {p u l : Pr} {r : Res} {k mp a1 mp1 a2 mp3 : Int} {G1 G2 : List Gm} : (p, some (u, l, r, k)) ∈ es → Put es u mp a1 mp1 G1 → Put es l (NoOf a1 mp1).2 a2 mp3 G2 →
      Put es p mp (if k = 0 then (NoOf a1 mp1).1 else (NoOf a2 mp3).1) (NoOf a2 mp3).2 (G1 ++ G2 ++ [((NoOf a1 mp1).1, (NoOf a2 mp3).1, r)])
/-- the loop of put_game -/
def PutSt (es : List (Pr × Option Src)) (u l : Pr) (mp : Int) : Nat → List Int → List Gm → Int → Prop
  | 0, ns, G, mp' => ns = [] ∧ G = [] ∧ mp' = mp
  | 1, ns, G, mp' => ∃ a1 mp1, Put es u mp a1 mp1 G ∧ ns = [(NoOf a1 mp1).1] ∧ mp' = (NoOf a1 mp1).2
  | _, ns, G, mp' => ∃ a1 mp1 G1 a2 mp3 G2, Put es u mp a1 mp1 G1 ∧ Put es l (NoOf a1 mp1).2 a2 mp3 G2 ∧ ns = [(NoOf a1 mp1).1, (NoOf a2 mp3).1] ∧ G = G1 ++ G2 ∧ mp' = (NoOf a2 mp3).2
end Tw
/-! put_games, put_game. -/
namespace Tw
open PySem PySem.Spec PyProof.Rows L2
def dGm (g : Gm) : PyData := .tuple [.int g.1, .int g.2.1, .str g.2.2.s]
theorem noL_Gm (g : Gm) : noL (dGm g) = true := by simp [dGm, noL, noL.noLs]
theorem noLs_gms (l : List Gm) : noL.noLs (l.map dGm) = true := noLs_mem fun z hz => by
  obtain ⟨q, _, rfl⟩ := List.mem_map.mp hz
  exact noL_Gm q
theorem CntE.len {c : Pr → Int} {es : List (Pr × Option Src)} (nd : (es.map (·.1)).Nodup) (h : CntAt c es) {p : Pr} {o : Option Src} (hm : (p, o) ∈ es) : CntE c (es.map (·.1)) p o := by
  obtain ⟨i, hi, e⟩ := List.mem_iff_getElem.mp hm
  have z := h i p o (by rw [List.getElem?_eq_getElem hi, e])
  cases o with
  | none => exact z
  | some s =>
    have sub : ∀ q, q ∈ (es.take i).map (·.1) → q ∈ es.map (·.1) := fun q hq => by
      obtain ⟨e, he, rfl⟩ := List.mem_map.mp hq
      exact List.mem_map.mpr ⟨e, List.mem_of_mem_take he, rfl⟩
    exact ⟨sub _ z.1, sub _ z.2.1, z.2.2⟩
theorem Put.len {c : Pr → Int} {es : List (Pr × Option Src)} (nd : (es.map (·.1)).Nodup) (h : CntAt c es) {p : Pr} {mp a mp' : Int} {G : List Gm} (hp : Put es p mp a mp' G) : (G.length : Int) = c p := by
  induction hp with
  | start hm => exact (CntE.len nd h hm).symm
  | game hm _ _ h1 h2 =>
    have z := (CntE.len nd h hm).2.2
    rw [List.length_append, List.length_append, z]
    simp
    omega
section
variable {P : Program} {w : World} {K : PySem.W.Frag} {mg : Str → Option Value} {base : Heap}
/-- where the games are put -/
structure PutAt (P : Program) (w : World) (K : PySem.W.Frag) (H0 H : Hp) (t b1 b2 dx lp sd : Addr) (fv : V) (pvs : List V) (kvs : List (Pr × V)) (s : TS) (mp : Int) (g : Addr) (gvs : List V) (G : List Gm) : Prop where
  ti : TwIn P w K H0 H t b1 b2 dx lp sd fv pvs kvs s mp
  ng : H0 g = none
  gl : g ≠ lp
  gat : H g = some (.lst gvs)
  gam : DpAll K H gvs (G.map dGm)
structure PutOk (c : Pr → Int) (s : TS) : Prop where
  nd : s.keys.Nodup
  cnt : CntAt c s.es
  pos : ∀ p, 0 ≤ c p
  kk : ∀ p u l r k, (p, some (u, l, r, k)) ∈ s.es → k = 0 ∨ k = 1
/-- key p stands before n -/
def Below (s : TS) (n : Nat) (p : Pr) : Prop := p ∈ (s.es.take n).map (·.1)
def spPuts (P : Program) (w : World) (K : PySem.W.Frag) (n : Nat) : Sp := fun vs H Q _ => ∃ (H0 : Hp) (t b1 b2 dx lp sd : Addr) (fv : V) (pvs : List V) (kvs : List (Pr × V)) (s : TS) (mp : Int) (g : Addr) (gvs : List V) (G : List Gm) (c : Pr → Int) (y : V) (p : Pr), vs = [.ref t, y, .ref g] ∧
  PutAt P w K H0 H t b1 b2 dx lp sd fv pvs kvs s mp g gvs G ∧ PutOk c s ∧ Dp K H y (dPr p) ∧ Below s n p ∧ (G.length : Int) + c p ≤ 30000 ∧
  ∀ a mp' G' gvs' H', Tx H H' → PutAt P w K H0 H' t b1 b2 dx lp sd fv pvs kvs s mp' g gvs' (G ++ G') → Put s.es p mp a mp' G' → Q (.int a) H'
def spPut (P : Program) (w : World) (K : PySem.W.Frag) (n : Nat) : Sp := fun vs H Q _ => ∃ (H0 : Hp) (t b1 b2 dx lp sd : Addr) (fv : V) (pvs : List V) (kvs : List (Pr × V)) (s : TS) (mp : Int) (g : Addr) (gvs : List V) (G : List Gm) (c : Pr → Int) (y : V) (u l : Pr) (r : Res) (d : PyData), vs = [.ref t, y, .ref g] ∧
  PutAt P w K H0 H t b1 b2 dx lp sd fv pvs kvs s mp g gvs G ∧ PutOk c s ∧ Dp K H y (.tuple [dPr u, dPr l, .str r.s, d]) ∧ noL d = true ∧ Below s n u ∧ Below s n l ∧ (G.length : Int) + 1 + c u + c l ≤ 30000 ∧
  ∀ v a1 mp1 G1 a2 mp3 G2 gvs' H', Tx H H' → PutAt P w K H0 H' t b1 b2 dx lp sd fv pvs kvs s (NoOf a2 mp3).2 g gvs' (G ++ (G1 ++ G2 ++ [((NoOf a1 mp1).1, (NoOf a2 mp3).1, r)])) → Put s.es u mp a1 mp1 G1 → Put s.es l (NoOf a1 mp1).2 a2 mp3 G2 →
    Dp K H' v (.tuple [.int (NoOf a1 mp1).1, .int (NoOf a2 mp3).1]) → Q v H'
theorem ne_lst_ins {H : Hp} {a b C dx : Addr} {xs : List V} {fs : List (Str × V)} (h : H a = some (.lst xs)) (h' : H b = some (.ins C dx fs)) : a ≠ b := fun e => by
  rw [e, h'] at h
  cases h
/-- something changes that is not of the base heap -/
theorem PutAt.mut {H0 H : Hp} {t b1 b2 dx lp sd g q : Addr} {fv : V} {pvs : List V} {kvs : List (Pr × V)} {s : TS} {mp : Int} {gvs xs : List V} {G : List Gm} {o : HO} (h : PutAt P w K H0 H t b1 b2 dx lp sd fv pvs kvs s mp g gvs G) (hq : H q = some (.lst xs)) (nq : H0 q = none) (ql : q ≠ lp) (qg : q ≠ g) :
    PutAt P w K H0 (upd H q o) t b1 b2 dx lp sd fv pvs kvs s mp g gvs G := by
  have tx : Tx H (upd H q o) := tx_lst hq
  obtain ⟨φ, hsd⟩ := h.ti.nd.tracked
  have n1 : t ≠ q := (ne_lst_ins hq h.ti.obj).symm
  have n2 : sd ≠ q := ne_of hsd hq (fun e => nomatch e)
  refine ⟨⟨h.ti.e.mut nq, h.ti.nt, h.ti.nl, h.ti.ns, by rw [upd_ne n1]; exact h.ti.obj, by rw [upd_ne ql.symm]; exact h.ti.lst, DpAll.tx tx _ _ (noLs_prs _) h.ti.prs, h.ti.nd.mono tx (upd_ne n2), h.ti.ents.tx tx, Dp.tx tx _ _ (noL_Fault _) h.ti.flt⟩,
    h.ng, h.gl, by rw [upd_ne qg.symm]; exact h.gat, DpAll.tx tx _ _ (noLs_gms _) h.gam⟩
theorem PutAt.ex {H0 H H' : Hp} {t b1 b2 dx lp sd g : Addr} {fv : V} {pvs : List V} {kvs : List (Pr × V)} {s : TS} {mp : Int} {gvs : List V} {G : List Gm} (h : PutAt P w K H0 H t b1 b2 dx lp sd fv pvs kvs s mp g gvs G) (e : Ex H H') : PutAt P w K H0 H' t b1 b2 dx lp sd fv pvs kvs s mp g gvs G :=
  ⟨h.ti.ex e, h.ng, h.gl, e _ _ h.gat, DpAll.ex e _ _ h.gam⟩
/-- the base heap takes one list more -/
theorem PutAt.grow {H0 H : Hp} {t b1 b2 dx lp sd g q : Addr} {fv : V} {pvs : List V} {kvs : List (Pr × V)} {s : TS} {mp : Int} {gvs xs : List V} {G : List Gm} (h : PutAt P w K H0 H t b1 b2 dx lp sd fv pvs kvs s mp g gvs G) (hq : H q = some (.lst xs)) (nq : H0 q = none) (ql : q ≠ lp) (qg : q ≠ g) :
    PutAt P w K (upd H0 q (.lst xs)) H t b1 b2 dx lp sd fv pvs kvs s mp g gvs G := by
  obtain ⟨φ, hsd⟩ := h.ti.nd.tracked
  have n1 : t ≠ q := (ne_lst_ins hq h.ti.obj).symm
  have n2 : sd ≠ q := ne_of hsd hq (fun e => nomatch e)
  refine ⟨⟨fun a o e => ?_, by rw [upd_ne n1]; exact h.ti.nt, by rw [upd_ne ql.symm]; exact h.ti.nl, by rw [upd_ne n2]; exact h.ti.ns, h.ti.obj, h.ti.lst, h.ti.prs, h.ti.nd, h.ti.ents, h.ti.flt⟩, by rw [upd_ne qg.symm]; exact h.ng, h.gl, h.gat, h.gam⟩
  by_cases ha : a = q
  · subst ha
    rw [upd_same] at e
    cases e
    exact hq
  · rw [upd_ne ha] at e
    exact h.ti.e a o e
theorem PutAt.shrink {H0 H : Hp} {t b1 b2 dx lp sd g q : Addr} {fv : V} {pvs : List V} {kvs : List (Pr × V)} {s : TS} {mp : Int} {gvs xs : List V} {G : List Gm} (h : PutAt P w K (upd H0 q (.lst xs)) H t b1 b2 dx lp sd fv pvs kvs s mp g gvs G) (nq : H0 q = none) :
    PutAt P w K H0 H t b1 b2 dx lp sd fv pvs kvs s mp g gvs G ∧ H q = some (.lst xs) := by
  have ex : Ex H0 (upd H0 q (.lst xs)) := Ex.new nq
  exact ⟨⟨⟨ex.trans h.ti.e, ex.back h.ti.nt, ex.back h.ti.nl, ex.back h.ti.ns, h.ti.obj, h.ti.lst, h.ti.prs, h.ti.nd, h.ti.ents, h.ti.flt⟩, ex.back h.ng, h.gl, h.gat, h.gam⟩, h.ti.e _ _ upd_same⟩
theorem PutAt.many {H0 H : Hp} {t b1 b2 dx lp sd g : Addr} {fv : V} {pvs : List V} {kvs : List (Pr × V)} {s : TS} {mp mp' : Int} {gvs : List V} {G : List Gm} (h : PutAt P w K H0 H t b1 b2 dx lp sd fv pvs kvs s mp g gvs G) :
    Tx H (upd H t (.ins (CT K) dx (putF "many_players" (.int mp') (twF b1 b2 lp sd fv mp)))) ∧ PutAt P w K H0 (upd H t (.ins (CT K) dx (putF "many_players" (.int mp') (twF b1 b2 lp sd fv mp)))) t b1 b2 dx lp sd fv pvs kvs s mp' g gvs G := by
  obtain ⟨tx, ti⟩ := h.ti.setMany (mp' := mp')
  exact ⟨tx, ti, h.ng, h.gl, by rw [upd_ne (ne_lst_ins h.gat h.ti.obj)]; exact h.gat, DpAll.tx tx _ _ (noLs_gms _) h.gam⟩
theorem sc_t_put_games : FnScope ["self", "pair", "games", "source"] ["self", "pair", "games"] (defScope s_t_put_games) := ⟨rfl, rfl, rfl, by decide +kernel, rfl, by decide +kernel, by decide +kernel⟩
theorem sc_t_put_game : FnScope ["self", "source", "games", "players", "pair", "number"] ["self", "source", "games"] (defScope s_t_put_game) := ⟨rfl, rfl, rfl, by decide +kernel, rfl, by decide +kernel, by decide +kernel⟩
theorem ok_puts0 (D : Dm K (CT K) "put_games" "Twins.put_games" s_t_put_games ["self", "pair", "games"]) (T : Txt K mg) : Met P w K mg base (2 * 0 + 1) (CT K) "put_games" (spPuts P w K 0) := by
  refine met_mk T.clT D sc_t_put_games (fun vs H Q E h => ?_) (fun f cdv A outer st H vs Q E hr h => ?_)
  · obtain ⟨H0, t, b1, b2, dx, lp, sd, fv, pvs, kvs, s, mp, g, gvs, G, c, y, p, rfl, _⟩ := h
    rfl
  · obtain ⟨H0, t, b1, b2, dx, lp, sd, fv, pvs, kvs, s, mp, g, gvs, G, c, y, p, rfl, _, _, _, hb, _⟩ := h
    unfold Below at hb
    simp at hb
theorem ok_puts {n : Nat} (D : Dm K (CT K) "put_games" "Twins.put_games" s_t_put_games ["self", "pair", "games"]) (T : Txt K mg) (C_t_put_game : Met P w K mg base (2 * n + 2) (CT K) "put_game" (spPut P w K n)) : Met P w K mg base (2 * (n + 1) + 1) (CT K) "put_games" (spPuts P w K (n + 1)) := by
  refine met_mk T.clT D sc_t_put_games (fun vs H Q E h => ?_) (fun f cdv A outer st H vs Q E hr h => ?_)
  · obtain ⟨H0, t, b1, b2, dx, lp, sd, fv, pvs, kvs, s, mp, g, gvs, G, c, y, p, rfl, _⟩ := h
    rfl
  · obtain ⟨H0, t, b1, b2, dx, lp, sd, fv, pvs, kvs, s, mp, g, gvs, G, c, y, p, rfl, pa, po, hy, hb, hlen, k⟩ := h
    have nd := sc_t_put_games.nd
    have hu1 := hu_of hr
    have hu9 := hu9_of hr
    have hu64 := hu64_of hr
    have hu65 := hu65_of hr
    refine ⟨_, (pss_cons (ps_set (i := 3) nd rfl (Or.inl rfl) (pe_nget hu9 (pe_fld (pv 0) rfl) (pv 1) (fun _ _ => rfl)))
    (pss_cons (ps_if (pt_cmpR op_isN (pv 3) pe_non (nomark _))
    (pss_one (ps_ret (pe_un un_neg pe_int)))
    pss_nil)
    (pss_one (ps_ret (pe_ix ix_tup (pe_mt C_t_put_game hr (Nat.le_refl _) (pv 0) (pa_cons (pv 3) (pa_cons (pv 2) pa_nil))) (pe_ix ix_tup (pv 3) pe_int (fun _ _ => rfl)) (fun _ _ => rfl)))))), ?_⟩
    -- slots: 0 self, 1 pair, 2 games, 3 source
    obtain ⟨⟨p0, o⟩, hmem, rfl⟩ := List.mem_map.mp hb
    obtain ⟨i, hi, hei⟩ := List.mem_iff_getElem.mp hmem
    rw [List.length_take] at hi
    rw [List.getElem_take] at hei
    have hin : (p0, o) ∈ s.es := List.mem_of_mem_take hmem
    obtain ⟨sv, hsv, dsv⟩ := pa.ti.ents.get po.nd hin
    refine ⟨_, rfl, fT pa.ti.obj T.clT T.tSources rfl ⟨_, rfl, sd, kvs, p0, sv, rfl, pa.ti.nd, hy, hsv, ?_⟩⟩
    have hc := po.cnt i p0 o (by rw [List.getElem?_eq_getElem (by omega), hei])
    cases o with
    | none =>
      cases dp_non dsv
      refine ⟨_, rfl, rfl, _, rfl, iteT ?_⟩
      refine ⟨_, rfl, ?_⟩
      exact k (-1) mp [] gvs H (Tx.refl _) (by rw [List.append_nil]; exact pa) (.start hin)
    | some src =>
      obtain ⟨a, rfl, da⟩ := dp_src dsv
      obtain ⟨hu, hl, hcp⟩ := hc
      have sub : ∀ q, q ∈ (s.es.take i).map (·.1) → Below s n q := fun q hq => by
        obtain ⟨e, he, rfl⟩ := List.mem_map.mp hq
        refine List.mem_map.mpr ⟨e, ?_, rfl⟩
        have e1 : s.es.take i = (s.es.take n).take i := by rw [List.take_take, Nat.min_eq_left (by omega)]
        rw [e1] at he
        exact List.mem_of_mem_take he
      refine ⟨_, rfl, rfl, _, rfl, iteF ?_⟩
      have hcp' : c p0 = 1 + c src.1 + c src.2.1 := hcp
      have hlen' : (G.length : Int) + c p0 ≤ 30000 := hlen
      refine ⟨_, rfl, mT pa.ti.obj (tw_none (by decide +kernel)) ⟨_, rfl, _, rfl, H0, t, b1, b2, dx, lp, sd, fv, pvs, kvs, s, mp, g, gvs, G, c, .ref a, src.1, src.2.1, src.2.2.1, .int src.2.2.2, rfl, pa, po, da, rfl, sub _ hu, sub _ hl, by omega, fun v a1 mp1 G1 a2 mp3 G2 gvs' H1 t1 pa1 hp1 hp2 hv => ?_⟩⟩
      have da1 := Dp.tx t1 _ _ (noL_Src (some src)) da
      obtain ⟨u, l, r, k0⟩ := src
      have hput := Put.game hin hp1 hp2
      refine ⟨_, rfl, ixT (i := 3) da1 rfl fun w1 hw1 => ?_⟩
      cases dp_int hw1
      have hk := po.kk p0 u l r k0 hin
      refine ixT (i := k0) (d := .int (if k0 = 0 then (NoOf a1 mp1).1 else (NoOf a2 mp3).1)) hv ?_ fun w2 hw2 => ?_
      · rcases hk with rfl | rfl <;> rfl
      · cases dp_int hw2
        exact k _ _ _ gvs' H1 t1 pa1 hput
theorem ok_put {n : Nat} (D : Dm K (CT K) "put_game" "Twins.put_game" s_t_put_game ["self", "source", "games"]) (T : Txt K mg) (C_t_put_games : Met P w K mg base (2 * n + 1) (CT K) "put_games" (spPuts P w K n)) : Met P w K mg base (2 * n + 2) (CT K) "put_game" (spPut P w K n) := by
  refine met_mk T.clT D sc_t_put_game (fun vs H Q E h => ?_) (fun f cdv A outer st H vs Q E hr h => ?_)
  · obtain ⟨H0, t, b1, b2, dx, lp, sd, fv, pvs, kvs, s, mp, g, gvs, G, c, y, u, l, r, d, rfl, _⟩ := h
    rfl
  · obtain ⟨H0, t, b1, b2, dx, lp, sd, fv, pvs, kvs, s, mp, g, gvs, G, c, y, u, l, r, d, rfl, pa, po, hy, hnd, hu, hl, hlen, k⟩ := h
    have nd := sc_t_put_game.nd
    have hu1 := hu_of hr
    have hu9 := hu9_of hr
    have hu64 := hu64_of hr
    have hu65 := hu65_of hr
    refine ⟨_, (pss_cons (ps_set (i := 3) nd rfl (Or.inl rfl) (pe_lst pa_nil))
    (pss_cons (ps_for PassesOwn.never rfl (pi_tup (pe_slice sl_tup (pv 1) po_none (po_some pe_int))) (pg_name (i := 4) nd rfl (Or.inl rfl))
    (pss_cons (ps_set (i := 5) nd rfl (Or.inl rfl) (pe_mt C_t_put_games hr (Nat.le_refl _) (pv 0) (pa_cons (pv 4) (pa_cons (pv 2) pa_nil))))
    (pss_cons (ps_if (pt_cmpR op_lt (pv 5) pe_int (nomark _))
    (pss_cons (ps_set (i := 5) nd rfl (Or.inl rfl) (pe_fld (pv 0) rfl))
    (pss_one (ps_fldaug (pv 0) pe_int in_add)))
    pss_nil)
    (pss_one (ps_expr (pe_bm PySem.F.plainAttrs_list PySem.F.slot_list_append PySem.F.type_list_append mt_append (pv 3) (pa_cons (pv 5) pa_nil)))))))
    (pss_cons (ps_expr (pe_bm PySem.F.plainAttrs_list PySem.F.slot_list_append PySem.F.type_list_append mt_append (pv 2) (pa_cons (pe_tup (pa_cons (pe_ix ix_list (pv 3) pe_int (fun _ _ => rfl)) (pa_cons (pe_ix ix_list (pv 3) pe_int (fun _ _ => rfl)) (pa_cons (pe_ix ix_tup (pv 1) pe_int (fun _ _ => rfl)) pa_nil)))) pa_nil)))
    (pss_one (ps_ret (pe_tup (pa_cons (pe_ix ix_list (pv 3) pe_int (fun _ _ => rfl)) (pa_cons (pe_ix ix_list (pv 3) pe_int (fun _ _ => rfl)) pa_nil)))))))), ?_⟩
    -- slots: 0 self, 1 source, 2 games, 3 players, 4 pair, 5 number
    refine ⟨Nat.zero_le _, fun q nq => ?_⟩
    have e1 : Ex H (upd H q (.lst [])) := Ex.new nq
    have hq1 : upd H q (.lst []) q = some (.lst []) := upd_same
    generalize upd H q (.lst []) = H1 at e1 hq1 ⊢
    have nq0 : H0 q = none := pa.ti.e.back nq
    have ql : q ≠ lp := fun z => by rw [z, pa.ti.lst] at nq; cases nq
    have qg : q ≠ g := fun z => by rw [z, pa.gat] at nq; cases nq
    have pa1 := pa.ex e1
    have hnoL : noL (.tuple [dPr u, dPr l, .str r.s, d]) = true := by
      show noL.noLs [dPr u, dPr l, .str r.s, d] = true
      exact noLs_mem fun z hz => by
        rcases List.mem_cons.mp hz with rfl | hz
        · exact noL_Pr _
        rcases List.mem_cons.mp hz with rfl | hz
        · exact noL_Pr _
        rcases List.mem_cons.mp hz with rfl | hz
        · rfl
        rcases List.mem_cons.mp hz with rfl | hz
        · exact hnd
        cases hz
    have hy1 := Dp.ex e1 _ _ hy
    obtain ⟨ya, ys, rfl, hys, hyd⟩ := dp_tup hy1
    obtain ⟨y1, yr1, rfl, d1, hyd1⟩ := dp_cons hyd
    obtain ⟨y2, yr2, rfl, d2, hyd2⟩ := dp_cons hyd1
    obtain ⟨y3, yr3, rfl, d3, hyd3⟩ := dp_cons hyd2
    obtain ⟨y4, yr4, rfl, d4, hyd4⟩ := dp_cons hyd3
    cases dp_nil hyd4
    refine ⟨_, rfl, _, rfl, ya, [y1, y2, y3, y4], rfl, hys, (by show ¬ (HT.sIx 4 0 none = 0 ∧ HT.sIx 4 4 (some 2) = 4); decide), fun p2 np2 => ?_⟩
    rw [show cutV [y1, y2, y3, y4] none (some 2) = [y1, y2] from rfl]
    have e2 : Ex H1 (upd H1 p2 (.tup [y1, y2])) := Ex.new np2
    have hp2 : upd H1 p2 (.tup [y1, y2]) p2 = some (.tup [y1, y2]) := upd_same
    generalize upd H1 p2 (.tup [y1, y2]) = H2 at e2 hp2 ⊢
    have pa2 := pa1.ex e2
    have hq2 := e2 _ _ hq1
    have hu2 := Dp.ex e2 _ _ d1
    have hl2 := Dp.ex e2 _ _ d2
    have pc := po.pos u
    have pc2 := po.pos l
    refine ⟨p2, rfl, ⟨_, SqT.of hp2⟩, for_tup (K := K) (a := p2) (xs := [y1, y2]) (fun i σ H' => Tx H2 H' ∧ ∃ ns G' mp' gvs', PutSt s.es u l mp i ns G' mp' ∧ PutAt P w K H0 H' t b1 b2 dx lp sd fv pvs kvs s mp' g gvs' (G ++ G') ∧ H' q = some (.lst (ns.map V.int)) ∧ ns.length = i ∧ ∃ v4 v5, σ = [some (.ref t), some (.ref ya), some (.ref g), some (.ref q), v4, v5])
      ⟨Tx.refl _, [], [], mp, gvs, ⟨rfl, rfl, rfl⟩, by rw [List.append_nil]; exact pa2, hq2, rfl, none, none, rfl⟩ (fun i σ H' _ z => z.1.sqT (SqT.of hp2)) ?_ ?_⟩
    · rintro i v σ H3 hv ⟨t3, ns, G', mp', gvs', st, pa3, hq3, hns, v4, v5, rfl⟩
      obtain ⟨z, hz, hbz, hlz, hi2, stn⟩ : ∃ z, Dp K H2 v (dPr z) ∧ Below s n z ∧ ((G ++ G').length : Int) + c z ≤ 30000 ∧ i < 2 ∧ ∀ a mp1 G2, Put s.es z mp' a mp1 G2 → PutSt s.es u l mp (i + 1) (ns ++ [(NoOf a mp1).1]) (G' ++ G2) (NoOf a mp1).2 := by
        match i, hv, st with
        | 0, hv, st =>
          cases hv
          obtain ⟨rfl, rfl, rfl⟩ := st
          exact ⟨u, hu2, hu, by rw [List.append_nil]; omega, by omega, fun a mp1 G2 h => ⟨a, mp1, h, rfl, rfl⟩⟩
        | 1, hv, st =>
          cases hv
          obtain ⟨a1, mp1, h1, rfl, rfl⟩ := st
          refine ⟨l, hl2, hl, ?_, by omega, fun a mp2 G2 h => ⟨a1, mp1, G', a, mp2, G2, h1, h, rfl, rfl, rfl⟩⟩
          have := h1.len po.nd po.cnt
          rw [List.length_append]
          omega
        | i + 2, hv, st => simp at hv
      have pa3' := pa3.grow hq3 nq0 ql qg
      refine ⟨_, rfl, mT pa3.ti.obj (tw_none (by decide +kernel)) ⟨_, rfl, _, rfl, _, t, b1, b2, dx, lp, sd, fv, pvs, kvs, s, mp', g, gvs', G ++ G', c, v, z, rfl, pa3', po, Dp.pr t3 hz, hbz, hlz, fun a mp1 G2 gvs4 H4 t4 pa4 hput => ?_⟩⟩
      obtain ⟨pa4, hq4⟩ := pa4.shrink nq0
      rw [List.append_assoc] at pa4
      have stn' := stn a mp1 G2 hput
      have fin : ∀ (H5 : Hp) (no mpn : Int) (w4 w5 : Option V), no = (NoOf a mp1).1 → mpn = (NoOf a mp1).2 → Tx H4 H5 → PutAt P w K H0 H5 t b1 b2 dx lp sd fv pvs kvs s mpn g gvs4 (G ++ (G' ++ G2)) → H5 q = some (.lst (ns.map V.int)) →
          Tx H2 (upd H5 q (.lst (ns.map V.int ++ [.int no]))) ∧ ∃ ns' G'' mp'' gvs'', PutSt s.es u l mp (i + 1) ns' G'' mp'' ∧ PutAt P w K H0 (upd H5 q (.lst (ns.map V.int ++ [.int no]))) t b1 b2 dx lp sd fv pvs kvs s mp'' g gvs'' (G ++ G'') ∧ upd H5 q (.lst (ns.map V.int ++ [.int no])) q = some (.lst (ns'.map V.int)) ∧ ns'.length = i + 1 ∧
            ∃ v4 v5, [some (V.ref t), some (.ref ya), some (.ref g), some (.ref q), w4, w5] = [some (.ref t), some (.ref ya), some (.ref g), some (.ref q), v4, v5] := by
        rintro H5 no mpn w4 w5 rfl rfl t5 pa5 hq5
        refine ⟨(t3.trans t4).trans (t5.trans (tx_lst hq5)), _, _, _, gvs4, stn', pa5.mut hq5 nq0 ql qg, ?_, by simp [hns], _, _, rfl⟩
        rw [upd_same, List.map_append]
        rfl
      have hsz : (ns.map V.int).length < sizeLine := by
        rw [List.length_map]
        exact Nat.lt_of_lt_of_le (show ns.length < 2000 by omega) (by decide)
      refine ⟨_, rfl, _, _, rfl, rfl, _, rfl, ?_⟩
      by_cases ha : a < 0
      · rw [decide_eq_true ha]
        refine iteT ?_
        refine ⟨_, rfl, fT pa4.ti.obj T.clT T.tMany rfl ?_⟩
        refine ⟨_, rfl, t, _, _, _, _, rfl, pa4.ti.obj, T.clT, T.tMany, rfl, ?_⟩
        refine ⟨_, _, rfl, rfl, _, _, pa4.ti.obj, (by show (6 : Nat) < 1000; decide), ?_⟩
        obtain ⟨t5, pa5⟩ := pa4.many (mp' := mp1 + 1)
        have hq5 : upd H4 t (.ins (CT K) dx (putF "many_players" (.int (mp1 + 1)) (twF b1 b2 lp sd fv mp1))) q = some (.lst (ns.map V.int)) := by rw [upd_ne (ne_lst_ins hq4 pa4.ti.obj)]; exact hq4
        refine ⟨_, rfl, .inl ⟨rfl, _, SqL.of hq5⟩, _, rfl, q, _, _, rfl, rfl, hq5, hsz, ?_⟩
        exact fin _ _ _ _ _ (by unfold NoOf; rw [if_pos ha]) (by unfold NoOf; rw [if_pos ha]) t5 pa5 hq5
      · rw [decide_eq_false ha]
        refine iteF ?_
        refine ⟨_, rfl, .inl ⟨rfl, _, SqL.of hq4⟩, _, rfl, q, _, _, rfl, rfl, hq4, hsz, ?_⟩
        exact fin _ _ _ _ _ (by unfold NoOf; rw [if_neg ha]) (by unfold NoOf; rw [if_neg ha]) (Tx.refl _) pa4 hq4
    · rintro σ H3 ⟨t3, ns, G', mp', gvs', st, pa3, hq3, hns, v4, v5, rfl⟩
      have st' : ∃ a1 mp1 G1 a2 mp3 G2, Put s.es u mp a1 mp1 G1 ∧ Put s.es l (NoOf a1 mp1).2 a2 mp3 G2 ∧ ns = [(NoOf a1 mp1).1, (NoOf a2 mp3).1] ∧ G' = G1 ++ G2 ∧ mp' = (NoOf a2 mp3).2 := st
      obtain ⟨a1, mp1, G1, a2, mp3, G2, p1, p2', rfl, rfl, rfl⟩ := st'
      have hy3 : SqT K H3 ya [y1, y2, y3, y4] := t3.sqT (e2.tx.sqT hys)
      have hl3 : SqL K H3 q [.int (NoOf a1 mp1).1, .int (NoOf a2 mp3).1] := SqL.of hq3
      refine ⟨_, rfl, .inl ⟨rfl, _, SqL.of pa3.gat⟩, ?_⟩
      refine ⟨_, rfl, q, _, 0, _, rfl, rfl, hl3, rfl, ?_⟩
      refine ⟨_, rfl, q, _, 1, _, rfl, rfl, hl3, rfl, ?_⟩
      cases dp_str d3
      refine ⟨_, rfl, ya, _, 2, _, rfl, rfl, hy3, rfl, ?_⟩
      refine ⟨(by show 3 ≤ sizeLine; decide), fun p4 np4 => ?_⟩
      obtain ⟨e4, hv4⟩ := newT (K := K) (ds := [.int (NoOf a1 mp1).1, .int (NoOf a2 mp3).1, .str r.s]) np4 (.cons (.int _) (.cons (.int _) (.cons (.str _) .nil)))
      have hv4 : Dp K (upd H3 p4 (.tup [.int (NoOf a1 mp1).1, .int (NoOf a2 mp3).1, .str r.s])) (.ref p4) (dGm ((NoOf a1 mp1).1, (NoOf a2 mp3).1, r)) := hv4
      generalize upd H3 p4 (.tup [.int (NoOf a1 mp1).1, .int (NoOf a2 mp3).1, .str r.s]) = H4 at e4 hv4 ⊢
      have pa4 := pa3.ex e4
      have hgl := dpAll_len pa4.gam
      have hlens : gvs'.length < sizeLine := by
        have q1 := p1.len po.nd po.cnt
        have q2 := p2'.len po.nd po.cnt
        rw [List.length_map, List.length_append, List.length_append] at hgl
        exact Nat.lt_of_lt_of_le (show gvs'.length < 60000 by omega) (by decide)
      refine ⟨g, _, _, rfl, rfl, pa4.gat, hlens, ?_⟩
      have t5 : Tx H4 (upd H4 g (.lst (gvs' ++ [.ref p4]))) := tx_lst pa4.gat
      have hq5 : upd H4 g (.lst (gvs' ++ [.ref p4])) q = some (.lst [.int (NoOf a1 mp1).1, .int (NoOf a2 mp3).1]) := by rw [upd_ne qg]; exact e4 _ _ hq3
      obtain ⟨φ, hsd⟩ := pa4.ti.nd.tracked
      have pa5 : PutAt P w K H0 (upd H4 g (.lst (gvs' ++ [.ref p4]))) t b1 b2 dx lp sd fv pvs kvs s (NoOf a2 mp3).2 g (gvs' ++ [.ref p4]) (G ++ (G1 ++ G2 ++ [((NoOf a1 mp1).1, (NoOf a2 mp3).1, r)])) := by
        have h := pa4
        have n1 : t ≠ g := (ne_lst_ins h.gat h.ti.obj).symm
        have n2 : sd ≠ g := ne_of hsd h.gat (fun e => nomatch e)
        refine ⟨⟨h.ti.e.mut h.ng, h.ti.nt, h.ti.nl, h.ti.ns, by rw [upd_ne n1]; exact h.ti.obj, by rw [upd_ne h.gl.symm]; exact h.ti.lst, DpAll.tx t5 _ _ (noLs_prs _) h.ti.prs, h.ti.nd.mono t5 (upd_ne n2), h.ti.ents.tx t5, Dp.tx t5 _ _ (noL_Fault _) h.ti.flt⟩,
          h.ng, h.gl, upd_same, ?_⟩
        rw [← List.append_assoc, List.map_append]
        exact dpAll_snoc (DpAll.tx t5 _ _ (noLs_gms _) h.gam) (Dp.tx t5 _ _ (noL_Gm _) hv4)
      generalize upd H4 g (.lst (gvs' ++ [.ref p4])) = H5 at t5 hq5 pa5 ⊢
      have hl5 : SqL K H5 q [.int (NoOf a1 mp1).1, .int (NoOf a2 mp3).1] := SqL.of hq5
      refine ⟨_, rfl, q, _, 0, _, rfl, rfl, hl5, rfl, ?_⟩
      refine ⟨_, rfl, q, _, 1, _, rfl, rfl, hl5, rfl, ?_⟩
      refine ⟨(by show 2 ≤ sizeLine; decide), fun p6 np6 => ?_⟩
      obtain ⟨e6, hv6⟩ := newT (K := K) (ds := [.int (NoOf a1 mp1).1, .int (NoOf a2 mp3).1]) np6 (.cons (.int _) (.cons (.int _) .nil))
      generalize upd H5 p6 (.tup [.int (NoOf a1 mp1).1, .int (NoOf a2 mp3).1]) = H6 at e6 hv6 ⊢
      exact k _ a1 mp1 G1 a2 mp3 G2 _ H6 ((e1.trans e2).tx.trans (t3.trans (e4.tx.trans (t5.trans e6.tx)))) (pa5.ex e6) p1 p2' hv6
/-- both, by the number of the entries -/
theorem ok_puts_all (D1 : Dm K (CT K) "put_games" "Twins.put_games" s_t_put_games ["self", "pair", "games"]) (D2 : Dm K (CT K) "put_game" "Twins.put_game" s_t_put_game ["self", "source", "games"]) (T : Txt K mg) : ∀ n, Met P w K mg base (2 * n + 1) (CT K) "put_games" (spPuts P w K n)
  | 0 => ok_puts0 D1 T
  | n + 1 => ok_puts D1 T (ok_put D2 T (ok_puts_all D1 D2 T n))
end
end Tw
/-! The mathematics of the games told: how many, what they show. -/
namespace Tw
theorem Chain.src_ok {m n : Bk} {r0 : Int} {es : List (Pr × Option Src)} (h : Chain m n r0 es) : ∀ p u l r k, (p, some (u, l, r, k)) ∈ es → l.1.1 ≤ u.1.1 ∧ ∃ a b, out m n u l r = some (some (a, b)) ∧ (p = a ∧ k = 0 ∨ p = b ∧ k = 1) := by
  induction h with
  | start => intro p u l r k hm; simp at hm
  | @add es u l a b p r k hc hu hl hle ho hp hnp ih =>
    intro p' u' l' r' k' hm
    rcases List.mem_append.mp hm with hm | hm
    · exact ih _ _ _ _ _ hm
    · simp at hm
      obtain ⟨rfl, rfl, rfl, rfl, rfl⟩ := hm
      exact ⟨hle, a, b, ho, hp⟩
theorem Chain.non_ok {m n : Bk} {r0 : Int} {es : List (Pr × Option Src)} (h : Chain m n r0 es) : ∀ p, (p, none) ∈ es → p = startP m n r0 := by
  induction h with
  | start => intro p hm; simpa using hm
  | @add es u l a b p r k hc hu hl hle ho hp hnp ih =>
    intro p' hm
    rcases List.mem_append.mp hm with hm | hm
    · exact ih _ hm
    · simp at hm
/-! ### how many -/
def ph1 (m : Bk) (w : Bool) : Int := if m.fresh > 0 then (if m.fresh - 1 > 0 then m.fresh - 1 else 0) else if w = true ∧ m.bonus > 0 then 1 else 0
def ph2 (m : Bk) (w : Bool) : Int := if m.fresh > 0 then 0 else if w = true ∧ m.bonus > 0 then 1 else 0
def spread (f g : Bool → Int) (lo : Int) : List Pr := (List.range 4).flatMap fun (i : Nat) => [true, false].map fun w => ((lo + (i : Int), f w), (lo + (i : Int), g w))
theorem spread_len (f g : Bool → Int) (lo : Int) : (spread f g lo).length = 8 := by
  unfold spread
  simp [List.length_flatMap]
  decide
theorem mem_spread {f g : Bool → Int} {lo : Int} {p : Pr} {w : Bool} (h0 : lo ≤ p.1.1) (h1 : p.1.1 < lo + 4) (hr : p.1.1 = p.2.1) (ha : p.1.2 = f w) (hb : p.2.2 = g w) : p ∈ spread f g lo := by
  unfold spread
  rw [List.mem_flatMap]
  refine ⟨(p.1.1 - lo).toNat, List.mem_range.mpr (by omega), ?_⟩
  rw [List.mem_map]
  refine ⟨w, by cases w <;> simp, ?_⟩
  obtain ⟨⟨a, b⟩, ⟨c, d⟩⟩ := p
  dsimp only at *
  subst hr; subst ha; subst hb
  rw [Int.toNat_of_nonneg (by omega), show lo + (a - lo) = a by omega]
def Late (m : Bk) (x : Pl) : Prop := 0 < m.fresh → x.2 ≤ 1
theorem moved_ph1 {m : Bk} {x : Pl} (c : Int) (w : Bool) (h : x.2 = m.fresh) : (moved m x c w).2 = ph1 m w := by
  unfold moved ph1
  by_cases hf : m.fresh > 0
  · rw [if_pos hf, if_pos hf, h]
  · rw [if_neg hf, if_neg hf]
theorem moved_ph2 {m : Bk} {x : Pl} (c : Int) (w : Bool) (h : Late m x) : (moved m x c w).2 = ph2 m w := by
  unfold moved ph2
  by_cases hf : m.fresh > 0
  · rw [if_pos hf, if_pos hf]
    have := h hf
    show (if x.2 - 1 > 0 then x.2 - 1 else 0) = 0
    rw [if_neg (by omega)]
  · rw [if_neg hf, if_neg hf]
theorem moved_late {m : Bk} (ok : m.Ok) {x : Pl} (hx : OkPl m x) (c : Int) (w : Bool) : Late m (moved m x c w) := by
  intro hf
  have h1 := hx.p1
  have h2 := ok.f2
  have hl : lastPh m = m.fresh := by unfold lastPh; rw [if_pos hf]
  unfold moved
  rw [if_pos hf]
  show (if x.2 - 1 > 0 then x.2 - 1 else 0) ≤ 1
  split <;> omega
theorem gm_moved {m : Bk} {u l : Pl} {r : Res} {z : Pl × Pl} (h : gm m u l r = some z) : ∃ c d, z = (moved m u c (decide (r = .up)), moved m l d (decide (r = .lo))) := by
  unfold gm at h
  cases e : rowAt m.rows (u.1 - l.1) with
  | none => rw [e] at h; cases h
  | some row =>
    rw [e] at h
    dsimp only at h
    cases e2 : row.e r with
    | none => rw [e2] at h; cases h
    | some c =>
      rw [e2] at h
      cases h
      exact ⟨_, _, rfl⟩
theorem out_moved {m n : Bk} {u l a b : Pr} {r : Res} (h : out m n u l r = some (some (a, b))) : ∃ c1 c2 d1 d2, a = (moved m u.1 c1 (decide (r = .up)), moved n u.2 c2 (decide (r = .up))) ∧ b = (moved m l.1 d1 (decide (r = .lo)), moved n l.2 d2 (decide (r = .lo))) := by
  unfold out at h
  cases e1 : gm m u.1 l.1 r with
  | none => rw [e1] at h; cases e2 : gm n u.2 l.2 r <;> rw [e2] at h <;> cases h
  | some x =>
    rw [e1] at h
    cases e2 : gm n u.2 l.2 r with
    | none => rw [e2] at h; cases h
    | some y =>
      rw [e2] at h
      dsimp only at h
      by_cases hl2 : x.1.1 = y.1.1 ∧ x.2.1 = y.2.1
      · rw [if_pos hl2] at h
        cases h
        obtain ⟨c1, d1, rfl⟩ := gm_moved e1
        obtain ⟨c2, d2, rfl⟩ := gm_moved e2
        exact ⟨c1, c2, d1, d2, rfl, rfl⟩
      · rw [if_neg hl2] at h; cases h
theorem CntAt.snoc {c : Pr → Int} {es : List (Pr × Option Src)} {p u l : Pr} {r : Res} {k : Int} (h : CntAt c es) (hu : u ∈ es.map (·.1)) (hl : l ∈ es.map (·.1)) (hp : p ∉ es.map (·.1)) : CntAt (fun q => if q = p then 1 + c u + c l else c q) (es ++ [(p, some (u, l, r, k))]) := by
  have ne : ∀ q, q ∈ es.map (·.1) → (if q = p then 1 + c u + c l else c q) = c q := fun q hq => if_neg (fun (z : q = p) => hp (z ▸ hq))
  intro i q o he
  by_cases hi : i < es.length
  · rw [List.getElem?_append_left hi] at he
    have z := h i q o he
    rw [List.take_append_of_le_length (by omega)]
    have hq : q ∈ es.map (·.1) := List.mem_map.mpr ⟨_, List.mem_of_getElem? he, rfl⟩
    have sub : ∀ x, x ∈ (es.take i).map (·.1) → x ∈ es.map (·.1) := fun x hx => by
      obtain ⟨e, he, rfl⟩ := List.mem_map.mp hx
      exact List.mem_map.mpr ⟨e, List.mem_of_mem_take he, rfl⟩
    cases o with
    | none => show (if q = p then _ else _) = (0 : Int); rw [ne q hq]; exact z
    | some s =>
      refine ⟨z.1, z.2.1, ?_⟩
      show (if q = p then _ else _) = 1 + (if s.1 = p then _ else _) + (if s.2.1 = p then _ else _)
      rw [ne q hq, ne _ (sub _ z.1), ne _ (sub _ z.2.1)]
      exact z.2.2
  · have hi2 : i = es.length := by
      have := (List.getElem?_eq_some_iff.mp he).1
      rw [List.length_append] at this
      simp at this
      omega
    subst hi2
    simp at he
    obtain ⟨rfl, rfl⟩ := he
    rw [List.take_left' rfl]
    refine ⟨hu, hl, ?_⟩
    show (if p = p then _ else _) = 1 + (if u = p then _ else _) + (if l = p then _ else _)
    rw [ne u hu, ne l hl, if_pos rfl]
structure CntUp (m n : Bk) (r0 lo : Int) (es : List (Pr × Option Src)) (c : Pr → Int) (L1 L2 : List Pr) : Prop where
  pos : ∀ p, 0 ≤ c p
  cnt : CntAt c es
  st : c (startP m n r0) = 0
  n1 : L1.Nodup
  n2 : L2.Nodup
  s1 : ∀ p ∈ L1, p ∈ spread (ph1 m) (ph1 n) lo
  s2 : ∀ p ∈ L2, p ∈ spread (ph2 m) (ph2 n) lo
  k1 : ∀ p ∈ L1, p ∈ es.map (·.1)
  k2 : ∀ p ∈ L2, p ∈ es.map (·.1)
  late : ∀ p ∈ es.map (·.1), p = startP m n r0 ∨ (Late m p.1 ∧ Late n p.2)
  up : ∀ p ∈ es.map (·.1), c p + 1 ≤ (1 + L1.length : Int) * 2 ^ L2.length
theorem Chain.cnt {m n : Bk} (okm : m.Ok) (okn : n.Ok) {r0 lo : Int} (h0 : OkP m n (startP m n r0)) (few : ∀ p, OkP m n p → lo ≤ p.1.1 ∧ p.1.1 < lo + 4) {es : List (Pr × Option Src)} (h : Chain m n r0 es) : ∃ c L1 L2, CntUp m n r0 lo es c L1 L2 := by
  induction h with
  | start =>
    refine ⟨fun _ => 0, [], [], ⟨fun _ => by simp, fun i p o he => ?_, rfl, by simp, by simp, by simp, by simp, by simp, by simp, fun p hp => ?_, fun p hp => by simp⟩⟩
    · match i, he with
      | 0, he => simp at he; obtain ⟨rfl, rfl⟩ := he; rfl
      | i + 1, he => simp at he
    · simp at hp; exact .inl hp
  | @add es u l a b p r k hc hu hl hle ho hp hnp ih =>
    obtain ⟨c, L1, L2, q⟩ := ih
    have ks := hc.keysOk okm okn h0 none
    have hab := out_ok okm okn (ks.ok u hu) (ks.ok l hl) ho
    obtain ⟨c1, c2, d1, d2, ea, eb⟩ := out_moved ho
    -- whose game it was
    obtain ⟨own, oth, w, e1, e2, hown, hoth, hpe, hsum, hpok⟩ : ∃ (own oth : Pr) (w : Bool) (e1 e2 : Int), own ∈ es.map (·.1) ∧ oth ∈ es.map (·.1) ∧ p = (moved m own.1 e1 w, moved n own.2 e2 w) ∧ c u + c l = c own + c oth ∧ OkP m n p := by
      rcases hp with ⟨rfl, _⟩ | ⟨rfl, _⟩
      · exact ⟨u, l, _, c1, c2, hu, hl, ea, rfl, hab.1⟩
      · exact ⟨l, u, _, d1, d2, hl, hu, eb, by omega, hab.2⟩
    have hfew := few p hpok
    have okown := ks.ok own hown
    have hk : ∀ x, x ∈ (es ++ [(p, some (u, l, r, k))]).map (·.1) → x ∈ es.map (·.1) ∨ x = p := fun x hx => by
      rw [List.map_append, List.mem_append] at hx
      rcases hx with hx | hx
      · exact .inl hx
      · simp at hx; exact .inr hx
    have hk1 : ∀ x, x ∈ es.map (·.1) → x ∈ (es ++ [(p, some (u, l, r, k))]).map (·.1) := fun x hx => by
      rw [List.map_append, List.mem_append]; exact .inl hx
    have hk2 : p ∈ (es ++ [(p, some (u, l, r, k))]).map (·.1) := by
      rw [List.map_append, List.mem_append]; exact .inr (by simp)
    have hlate : Late m p.1 ∧ Late n p.2 := by
      rw [hpe]
      exact ⟨moved_late okm okown.a _ _, moved_late okn okown.b _ _⟩
    have hpos : ∀ x, 0 ≤ (if x = p then 1 + c u + c l else c x) := fun x => by
      have := q.pos u; have := q.pos l; have := q.pos x
      split <;> omega
    have hst : (if startP m n r0 = p then 1 + c u + c l else c (startP m n r0)) = 0 := by
      rw [if_neg (fun (z : startP m n r0 = p) => hnp (z ▸ hc.start_mem))]
      exact q.st
    have ne : ∀ x, x ∈ es.map (·.1) → (if x = p then 1 + c u + c l else c x) = c x := fun x hx => if_neg (fun (z : x = p) => hnp (z ▸ hx))
    have hlate' : ∀ x ∈ (es ++ [(p, some (u, l, r, k))]).map (·.1), x = startP m n r0 ∨ (Late m x.1 ∧ Late n x.2) := fun x hx => by
      rcases hk x hx with hx | rfl
      · exact q.late x hx
      · exact .inr hlate
    have uo := q.up oth hoth
    have uw := q.up own hown
    have hX : (1 : Int) ≤ 2 ^ L2.length := by
      have : (0 : Int) < 2 ^ L2.length := Int.pow_pos (by decide)
      omega
    by_cases ho1 : own = startP m n r0
    · refine ⟨fun x => if x = p then 1 + c u + c l else c x, p :: L1, L2, ⟨hpos, q.cnt.snoc hu hl hnp, hst, List.nodup_cons.mpr ⟨fun z => hnp (q.k1 p z), q.n1⟩, q.n2, ?_, q.s2, ?_, fun x hx => hk1 x (q.k2 x hx), hlate', ?_⟩⟩
      · intro x hx
        rcases List.mem_cons.mp hx with rfl | hx
        · refine mem_spread (w := w) hfew.1 hfew.2 hpok.r ?_ ?_
          · rw [hpe]; exact moved_ph1 _ _ (by rw [ho1]; rfl)
          · rw [hpe]; exact moved_ph1 _ _ (by rw [ho1]; rfl)
        · exact q.s1 x hx
      · intro x hx
        rcases List.mem_cons.mp hx with rfl | hx
        · exact hk2
        · exact hk1 x (q.k1 x hx)
      · intro x hx
        have e : ((1 : Int) + ((p :: L1).length : Nat)) * 2 ^ L2.length = (1 + (L1.length : Int)) * 2 ^ L2.length + 2 ^ L2.length := by
          rw [List.length_cons, show ((L1.length + 1 : Nat) : Int) = (L1.length : Int) + 1 from by simp, show (1 : Int) + ((L1.length : Int) + 1) = (1 + (L1.length : Int)) + 1 by omega, Int.add_mul, Int.one_mul]
        show (if x = p then _ else _) + 1 ≤ _
        rw [e]
        rcases hk x hx with hx | rfl
        · rw [ne x hx]
          have := q.up x hx
          omega
        · rw [if_pos rfl]
          have hz : c own = 0 := by rw [ho1]; exact q.st
          omega
    · have hl1 : Late m own.1 ∧ Late n own.2 := by
        rcases q.late own hown with z | z
        · exact (ho1 z).elim
        · exact z
      refine ⟨fun x => if x = p then 1 + c u + c l else c x, L1, p :: L2, ⟨hpos, q.cnt.snoc hu hl hnp, hst, q.n1, List.nodup_cons.mpr ⟨fun z => hnp (q.k2 p z), q.n2⟩, q.s1, ?_, fun x hx => hk1 x (q.k1 x hx), ?_, hlate', ?_⟩⟩
      · intro x hx
        rcases List.mem_cons.mp hx with rfl | hx
        · refine mem_spread (w := w) hfew.1 hfew.2 hpok.r ?_ ?_
          · rw [hpe]; exact moved_ph2 _ _ hl1.1
          · rw [hpe]; exact moved_ph2 _ _ hl1.2
        · exact q.s2 x hx
      · intro x hx
        rcases List.mem_cons.mp hx with rfl | hx
        · exact hk2
        · exact hk1 x (q.k2 x hx)
      · intro x hx
        have e : ((1 : Int) + (L1.length : Int)) * 2 ^ (p :: L2).length = (1 + (L1.length : Int)) * 2 ^ L2.length * 2 := by
          rw [List.length_cons, Int.pow_succ, Int.mul_assoc]
        show (if x = p then _ else _) + 1 ≤ _
        rw [e]
        rcases hk x hx with hx | rfl
        · rw [ne x hx]
          have := q.up x hx
          have := q.pos x
          omega
        · rw [if_pos rfl]
          have := q.pos u; have := q.pos l
          omega
theorem CntUp.few {m n : Bk} {r0 lo : Int} {es : List (Pr × Option Src)} {c : Pr → Int} {L1 L2 : List Pr} (h : CntUp m n r0 lo es c L1 L2) : ∀ p ∈ es.map (·.1), c p ≤ 2303 := by
  intro p hp
  have l1 := nodup_sub h.n1 h.s1
  have l2 := nodup_sub h.n2 h.s2
  rw [spread_len] at l1 l2
  have hX : (2 : Int) ^ L2.length ≤ 2 ^ 8 := by
    have : (2 : Nat) ^ L2.length ≤ 2 ^ 8 := Nat.pow_le_pow_right (by decide) l2
    exact_mod_cast this
  have hX0 : (0 : Int) ≤ 2 ^ L2.length := Int.le_of_lt (Int.pow_pos (by decide))
  have h1 : (1 + (L1.length : Int)) * 2 ^ L2.length ≤ 9 * 2 ^ 8 := Int.mul_le_mul (by omega) hX hX0 (by decide)
  have := h.up p hp
  have e : (9 : Int) * 2 ^ 8 = 2304 := by decide
  omega
end Tw
/-! The mathematics of the games told: played again. Core Lean alone. -/
namespace Tw
def setP (st : Int → Pr) (i : Int) (q : Pr) : Int → Pr := fun j => if j = i then q else st j
/-- a row of games, each of which counts alike in both books -/
inductive Run (m n : Bk) : List Gm → (Int → Pr) → (Int → Pr) → Prop where
  | nil {st : Int → Pr} : Run m n [] st st
  | cons {a b : Int} {r : Res} {x y : Pr} {G : List Gm} {st st' : Int → Pr} : a ≠ b → (st b).1.1 ≤ (st a).1.1 → out m n (st a) (st b) r = some (some (x, y)) → Run m n G (setP (setP st a x) b y) st' → Run m n ((a, b, r) :: G) st st'
theorem Run.append {m n : Bk} {G1 G2 : List Gm} {s1 s2 s3 : Int → Pr} (h1 : Run m n G1 s1 s2) (h2 : Run m n G2 s2 s3) : Run m n (G1 ++ G2) s1 s3 := by
  induction h1 with
  | nil => exact h2
  | cons a b c _ ih => exact .cons a b c (ih h2)
theorem NoOf_fact {m n : Bk} {r0 : Int} {a mp mp' : Int} {p : Pr} {st : Int → Pr} (hm : 0 ≤ mp) (hle : mp ≤ mp') (hs : ∀ i, mp' ≤ i → st i = startP m n r0) (h : (a = -1 ∧ p = startP m n r0) ∨ (mp ≤ a ∧ a < mp' ∧ st a = p)) :
    mp ≤ (NoOf a mp').1 ∧ (NoOf a mp').1 < (NoOf a mp').2 ∧ mp' ≤ (NoOf a mp').2 ∧ st (NoOf a mp').1 = p := by
  unfold NoOf
  rcases h with ⟨rfl, rfl⟩ | ⟨h1, h2, h3⟩
  · rw [if_pos (by decide)]
    exact ⟨hle, by show mp' < mp' + 1; omega, by show mp' ≤ mp' + 1; omega, hs _ (Int.le_refl _)⟩
  · rw [if_neg (by omega)]
    exact ⟨h1, h2, Int.le_refl _, h3⟩
theorem Put.run {m n : Bk} {r0 : Int} {es : List (Pr × Option Src)} (ch : Chain m n r0 es) {p : Pr} {mp a mp' : Int} {G : List Gm} (h : Put es p mp a mp' G) : 0 ≤ mp → mp ≤ mp' ∧ ∀ st, (∀ i, mp ≤ i → st i = startP m n r0) →
    ∃ st', Run m n G st st' ∧ (∀ i, i < mp → st' i = st i) ∧ (∀ i, mp' ≤ i → st' i = startP m n r0) ∧ ((a = -1 ∧ p = startP m n r0) ∨ (mp ≤ a ∧ a < mp' ∧ st' a = p)) := by
  induction h with
  | start hm =>
    intro _
    exact ⟨Int.le_refl _, fun st hs => ⟨st, .nil, fun _ _ => rfl, hs, .inl ⟨rfl, ch.non_ok _ hm⟩⟩⟩
  | @game p u l r k mp a1 mp1 a2 mp3 G1 G2 hm h1 h2 ih1 ih2 =>
    intro h0
    obtain ⟨hle1, ih1⟩ := ih1 h0
    have hmp2 : mp1 ≤ (NoOf a1 mp1).2 := by
      unfold NoOf
      split
      · show mp1 ≤ mp1 + 1; omega
      · exact Int.le_refl _
    obtain ⟨hle2, ih2⟩ := ih2 (by omega)
    have hmp4 : mp3 ≤ (NoOf a2 mp3).2 := by
      unfold NoOf
      split
      · show mp3 ≤ mp3 + 1; omega
      · exact Int.le_refl _
    refine ⟨by omega, fun st hs => ?_⟩
    obtain ⟨st1, r1, k1, s1, f1⟩ := ih1 st hs
    obtain ⟨a1l, a1u, _, e1⟩ := NoOf_fact h0 hle1 s1 f1
    obtain ⟨st2, r2, k2, s2, f2⟩ := ih2 st1 (fun i hi => s1 i (by omega))
    obtain ⟨a2l, a2u, _, e2⟩ := NoOf_fact (by omega) hle2 s2 f2
    obtain ⟨hle, x, y, ho, hp⟩ := ch.src_ok p u l r k hm
    have hne : (NoOf a1 mp1).1 ≠ (NoOf a2 mp3).1 := by omega
    have e1' : st2 (NoOf a1 mp1).1 = u := by rw [k2 _ (by omega)]; exact e1
    refine ⟨setP (setP st2 (NoOf a1 mp1).1 x) (NoOf a2 mp3).1 y, (r1.append r2).append (.cons hne (by rw [e1', e2]; exact hle) (by rw [e1', e2]; exact ho) .nil), fun i hi => ?_, fun i hi => ?_, .inr ?_⟩
    · unfold setP
      rw [if_neg (by omega), if_neg (by omega), k2 i (by omega), k1 i hi]
    · unfold setP
      rw [if_neg (by omega), if_neg (by omega)]
      exact s2 i (by omega)
    · rcases hp with ⟨rfl, rfl⟩ | ⟨rfl, rfl⟩
      · rw [if_pos rfl]
        refine ⟨by omega, by omega, ?_⟩
        unfold setP
        rw [if_neg hne, if_pos rfl]
      · rw [if_neg (by decide)]
        refine ⟨by omega, by omega, ?_⟩
        unfold setP
        rw [if_pos rfl]
/-- games that tell the books apart at the last -/
def Told (m n : Bk) (r0 : Int) (G : List Gm) (cc : Bool) : Prop := ∃ G0 a b r st, G = G0 ++ [(a, b, r)] ∧ Run m n G0 (fun _ => startP m n r0) st ∧ a ≠ b ∧ (st b).1.1 ≤ (st a).1.1 ∧ out m n (st a) (st b) r = none ∧
  (cc = true ↔ ¬ ((gm m (st a).1 (st b).1 r).isSome = (gm n (st a).2 (st b).2 r).isSome))
theorem Fin.told {m n : Bk} {r0 : Int} {s : TS} (h : Fin m n r0 s) {u l : Pr} {r : Res} {cc : Bool} (hf : s.fault = some (u, l, r, cc)) {a1 mp1 a2 mp3 : Int} {G1 G2 : List Gm} (h1 : Put s.es u 0 a1 mp1 G1) (h2 : Put s.es l (NoOf a1 mp1).2 a2 mp3 G2) :
    Told m n r0 (G1 ++ G2 ++ [((NoOf a1 mp1).1, (NoOf a2 mp3).1, r)]) cc := by
  obtain ⟨_, _, hle, ho, hc⟩ := h.g.flt u l r cc hf
  obtain ⟨hle1, ih1⟩ := h1.run h.g.ch (Int.le_refl _)
  obtain ⟨st1, r1, k1, s1, f1⟩ := ih1 (fun _ => startP m n r0) (fun _ _ => rfl)
  obtain ⟨a1l, a1u, hm2, e1⟩ := NoOf_fact (Int.le_refl _) hle1 s1 f1
  obtain ⟨hle2, ih2⟩ := h2.run h.g.ch (by omega)
  obtain ⟨st2, r2, k2, s2, f2⟩ := ih2 st1 (fun i hi => s1 i (by omega))
  obtain ⟨a2l, a2u, _, e2⟩ := NoOf_fact (by omega) hle2 s2 f2
  have e1' : st2 (NoOf a1 mp1).1 = u := by rw [k2 _ (by omega)]; exact e1
  refine ⟨G1 ++ G2, _, _, r, st2, rfl, r1.append r2, by omega, ?_, ?_, ?_⟩
  · rw [e1', e2]; exact hle
  · rw [e1', e2]; exact ho
  · rw [e1', e2]; exact hc
theorem Told.fault {m n : Bk} {r0 : Int} {s : TS} (h : Fin m n r0 s) {f : Pr × Pr × Res × Bool} (hf : s.fault = some f) : ¬ NoFault m n r0 := fun z => by
  have := h.noFault.mpr z
  rw [hf] at this
  cases this
end Tw
/-! first_unlike. -/
namespace Tw
open PySem PySem.Spec PyProof.Rows L2
section
variable {P : Program} {w : World} {K : PySem.W.Frag} {mg : Str → Option Value} {base : Heap}
def spUnlike (K : PySem.W.Frag) : Sp := fun vs H Q _ => ∃ (b1 b2 : Addr) (m n : Bk) (r0 lo : Int), vs = [.ref b1, .ref b2, .int r0] ∧ Two K H b1 b2 m n r0 ∧ (∀ p, OkP m n p → lo ≤ p.1.1 ∧ p.1.1 < lo + 4) ∧
  (∀ H', Ex H H' → NoFault m n r0 → Q .non H') ∧ ∀ a G cc H', Ex H H' → ¬ NoFault m n r0 → Told m n r0 G cc → G.length ≤ 30000 → Dp K H' (.ref a) (.tuple [.list (G.map dGm), .str (kindS cc)]) → Q (.ref a) H'
theorem sc_first_unlike : FnScope ["one", "other", "rating", "twins", "counts", "games"] ["one", "other", "rating"] (defScope s_first_unlike) := ⟨rfl, rfl, rfl, by decide +kernel, rfl, by decide +kernel, by decide +kernel⟩
theorem ok_first_unlike (D : Df K mg "first_unlike" s_first_unlike ["one", "other", "rating"]) (T : Txt K mg) (C_check_rating : Cal P w K mg base 3 "check_rating" (spCheck K)) (C_t_init : MakT P w K mg base 7 (spTInit P w K))
    (C_t_many_games : Met P w K mg base 1 (CT K) "many_games" (spMany P w K)) (C_t_put_game : Met P w K mg base 92 (CT K) "put_game" (spPut P w K 45)) : Cal P w K mg base 93 "first_unlike" (spUnlike K) := by
  refine cal_mk D sc_first_unlike (fun vs H Q E h => ?_) (fun f cdv A outer st H vs Q E hr h => ?_)
  · obtain ⟨b1, b2, m, n, r0, lo, rfl, _⟩ := h
    rfl
  · obtain ⟨b1, b2, m, n, r0, lo, rfl, two, few, k1, k2⟩ := h
    have nd := sc_first_unlike.nd
    have hu1 := hu_of hr
    have hu9 := hu9_of hr
    have hu64 := hu64_of hr
    have hu65 := hu65_of hr
    refine ⟨_, (pss_cons (ps_expr (pe_c C_check_rating hr (by decide) rfl (pa_cons (pv 0) (pa_cons (pv 1) (pa_cons (pv 2) pa_nil)))))
    (pss_cons (ps_set (i := 3) nd rfl (Or.inl rfl) (pe_mk C_t_init hr (by decide) rfl (pa_cons (pv 0) (pa_cons (pv 1) (pa_cons (pv 2) pa_nil)))))
    (pss_cons (ps_if (pt_cmpR op_isN (pe_fld (pv 3) rfl) pe_non (nomark _))
    (pss_one (ps_ret pe_non))
    pss_nil)
    (pss_cons (ps_set (i := 4) nd rfl (Or.inl rfl) (pe_mt0 C_t_many_games hr (by decide) (pv 3)))
    (pss_cons (ps_if (pt_cmpR op_gt (pe_op op_add (pe_op op_add pe_int (pe_nget hu9 (pv 4) (pe_ix ix_tup (pe_fld (pv 3) rfl) pe_int (fun _ _ => rfl)) (fun _ _ => rfl))) (pe_nget hu9 (pv 4) (pe_ix ix_tup (pe_fld (pv 3) rfl) pe_int (fun _ _ => rfl)) (fun _ _ => rfl))) (pe_globI rfl T.most_games) (nomark _))
    (pss_one ps_never)
    pss_nil)
    (pss_cons (ps_set (i := 5) nd rfl (Or.inl rfl) (pe_lst pa_nil))
    (pss_cons (ps_expr (pe_mt C_t_put_game hr (by decide) (pv 3) (pa_cons (pe_fld (pv 3) rfl) (pa_cons (pv 5) pa_nil))))
    (pss_one (ps_ret (pe_tup (pa_cons (pv 5) (pa_cons (pe_ix ix_tup (pe_fld (pv 3) rfl) pe_int (fun _ _ => rfl)) pa_nil)))))))))))), ?_⟩
    -- slots: 0 one, 1 other, 2 rating, 3 twins, 4 counts, 5 games
    refine ⟨_, rfl, _, rfl, _, rfl, b1, b2, m, n, r0, rfl, two, fun H1 e1 => ?_⟩
    have two1 := two.ex e1
    refine ⟨_, rfl, _, rfl, _, rfl, fun x dx nx ndx hne => ?_⟩
    refine ⟨H1, x, dx, b1, b2, m, n, r0, rfl, two1.hm, two1.okm, two1.hn, two1.okn, two1.m1, two1.m2, two1.n1, two1.n2, (Ex.new ndx).mut nx, nx, upd_same, fun s H2 tw fin => ⟨rfl, ?_⟩⟩
    obtain ⟨dx', lp, sd, fv, pvs, kvs, ti⟩ := tw
    refine ⟨_, rfl, fT ti.obj T.clT T.tFault rfl ⟨rfl, _, rfl, ?_⟩⟩
    rw [fault_non ti.flt]
    cases hf : s.fault with
    | none =>
      refine iteT ?_
      exact k1 H2 (e1.trans ti.e) (fin.noFault.mp hf)
    | some z =>
      obtain ⟨u, l, r, cc⟩ := z
      refine iteF ?_
      have hnf := Told.fault fin hf
      have okS := start_ok two.okm two.okn two.m1 two.m2 two.n1 two.n2
      have ks := fin.g.ch.keysOk two.okm two.okn okS s.fault
      have h45 : s.es.length ≤ 45 := ks.few two.okm two.okn
      obtain ⟨c, L1, L2, cu⟩ := fin.g.ch.cnt two.okm two.okn okS few
      have few2 := cu.few
      obtain ⟨hu, hl, hle, ho, hcc⟩ := fin.g.flt u l r cc hf
      have cu0 := cu.pos u; have cl0 := cu.pos l
      have cu1 := few2 u hu; have cl1 := few2 l hl
      have po : PutOk c s := ⟨ks.nd, cu.cnt, cu.pos, fun p u l r k hm => by
        obtain ⟨_, _, _, _, hp⟩ := fin.g.ch.src_ok p u l r k hm
        rcases hp with ⟨_, rfl⟩ | ⟨_, rfl⟩
        · exact .inl rfl
        · exact .inr rfl⟩
      refine ⟨_, rfl, mT ti.obj (tw_none (by decide +kernel)) ⟨H1, x, b1, b2, s, 0, c, rfl, ⟨_, _, _, _, _, _, ti⟩, ks.nd, by omega, cu.cnt, fun d H3 e3 nd3 => ?_⟩⟩
      have ti3 := ti.ex e3
      have df := ti3.flt
      rw [hf] at df
      have hfv : ∃ fa, fv = .ref fa := by
        obtain ⟨fa, _, e, _⟩ := dp_tup df
        exact ⟨fa, e⟩
      obtain ⟨fa, rfl⟩ := hfv
      have df : Dp K H3 (.ref fa) (.tuple [dPr u, dPr l, .str r.s, .str (kindS cc)]) := df
      refine ⟨_, rfl, _, rfl, fT ti3.obj T.clT T.tFault rfl (ixT (i := 0) df rfl fun w1 hw1 => ⟨d, _, u, _, rfl, nd3, hw1, cntK_in hu, ?_⟩)⟩
      refine ⟨_, _, rfl, rfl, ?_⟩
      refine ⟨_, rfl, _, rfl, fT ti3.obj T.clT T.tFault rfl (ixT (i := 1) df rfl fun w2 hw2 => ⟨d, _, l, _, rfl, nd3, hw2, cntK_in hl, ?_⟩)⟩
      refine ⟨_, _, rfl, rfl, ?_⟩
      refine ⟨_, _, rfl, rfl, _, rfl, ?_⟩
      rw [decide_eq_false (show ¬ (20000 : Int) < 1 + c u + c l by omega)]
      refine iteF ?_
      refine ⟨Nat.zero_le _, fun g ng => ?_⟩
      have e4 : Ex H3 (upd H3 g (.lst [])) := Ex.new ng
      have hg : upd H3 g (.lst []) g = some (.lst []) := upd_same
      have gl : g ≠ lp := fun z => by rw [z, ti3.lst] at ng; cases ng
      have ng0 : H1 g = none := ti3.e.back ng
      generalize upd H3 g (.lst []) = H4 at e4 hg ⊢
      have ti4 := ti3.ex e4
      have pa4 : PutAt P w K H1 H4 x b1 b2 dx' lp sd (.ref fa) pvs kvs s 0 g [] [] := ⟨ti4, ng0, gl, hg, .nil⟩
      have bel : ∀ q, q ∈ s.keys → Below s 45 q := fun q hq => by
        unfold Below
        rw [List.take_of_length_le h45]
        exact hq
      refine ⟨_, rfl, mT ti4.obj (tw_none (by decide +kernel)) ⟨_, rfl, fT ti4.obj T.clT T.tFault rfl ⟨_, rfl, H1, x, b1, b2, dx', lp, sd, .ref fa, pvs, kvs, s, 0, g, [], [], c, .ref fa, u, l, r, .str (kindS cc), rfl, pa4, po, Dp.ex e4 _ _ df, rfl, bel u hu, bel l hl, by
        show (0 : Int) + 1 + c u + c l ≤ 30000
        omega, fun v a1 mp1 G1 a2 mp3 G2 gvs' H5 t5 pa5 hp1 hp2 hv => ?_⟩⟩⟩
      rw [List.nil_append] at pa5
      have ti5 := pa5.ti
      have df5 := ti5.flt
      rw [hf] at df5
      have df5 : Dp K H5 (.ref fa) (.tuple [dPr u, dPr l, .str r.s, .str (kindS cc)]) := df5
      refine ⟨_, rfl, _, rfl, fT ti5.obj T.clT T.tFault rfl (ixT (i := 3) df5 rfl fun w3 hw3 => ?_)⟩
      cases dp_str hw3
      refine ⟨(by show 2 ≤ sizeLine; decide), fun p6 np6 => ?_⟩
      obtain ⟨e6, hv6⟩ := newT (K := K) (ds := [.list ((G1 ++ G2 ++ [((NoOf a1 mp1).1, (NoOf a2 mp3).1, r)]).map dGm), .str (kindS cc)]) np6 (.cons (.lst (SqL.of pa5.gat) pa5.gam) (.cons (.str _) .nil))
      generalize upd H5 p6 (.tup [.ref g, .str (kindS cc)]) = H6 at e6 hv6 ⊢
      refine k2 p6 _ cc H6 (e1.trans (ti5.e.trans e6)) hnf (fin.told hf hp1 hp2) ?_ hv6
      have q1 := hp1.len po.nd po.cnt
      have q2 := hp2.len po.nd po.cnt
      rw [List.length_append, List.length_append]
      simp
      omega
end
end Tw
/-! The law's draws. -/
namespace Tw
open PySem PySem.Spec PyProof.Rows L2
/-! ### the heap without the pool -/
def wo (H : Hp) (pa : Addr) : Hp := fun a => if a = pa then none else H a
def PoolAt (H : Hp) (pa : Addr) : Prop := ∃ i j : Int, H pa = some (.lst [.int i, .int j])
/-- all but the pool is kept -/
def Po (pa : Addr) (H H' : Hp) : Prop := Ex (wo H pa) (wo H' pa) ∧ PoolAt H' pa
section
variable {H H' H2 : Hp} {pa p : Addr} {o : HO}
theorem wo_self : wo H pa pa = none := if_pos rfl
theorem wo_ne {a : Addr} (h : a ≠ pa) : wo H pa a = H a := if_neg h
theorem wo_ex : Ex (wo H pa) H := fun a o h => by
  unfold wo at h
  by_cases e : a = pa
  · rw [if_pos e] at h; cases h
  · rw [if_neg e] at h; exact h
theorem wo_mono (e : Ex H H') : Ex (wo H pa) (wo H' pa) := fun a o h => by
  by_cases q : a = pa
  · subst q; rw [wo_self] at h; cases h
  · rw [wo_ne q] at h ⊢; exact e _ _ h
theorem wo_upd : wo (upd H pa o) pa = wo H pa := by
  funext a
  by_cases q : a = pa
  · subst q; rw [wo_self, wo_self]
  · rw [wo_ne q, wo_ne q, upd_ne q]
theorem Po.refl (h : PoolAt H pa) : Po pa H H := ⟨Ex.refl _, h⟩
theorem Po.trans (a : Po pa H H') (b : Po pa H' H2) : Po pa H H2 := ⟨a.1.trans b.1, b.2⟩
theorem Po.ex (h : PoolAt H pa) (e : Ex H H') : Po pa H H' := by
  obtain ⟨i, j, q⟩ := h
  exact ⟨wo_mono e, i, j, e _ _ q⟩
theorem Po.tx (h : PoolAt H pa) (e : Po pa H H') : Tx H H' := by
  obtain ⟨i, j, q⟩ := h
  refine ⟨fun a xs z => ?_, fun a o u z => ?_⟩
  · have hne : a ≠ pa := fun y => by rw [y, q] at z; cases z
    have := e.1 a _ (by rw [wo_ne hne]; exact z)
    rw [wo_ne hne] at this
    exact this
  · have hne : a ≠ pa := fun y => by rw [y, q] at z; cases z
    have := e.1 a _ (by rw [wo_ne hne]; exact z)
    rw [wo_ne hne] at this
    exact this
theorem wo_at {a : Addr} (h : wo H pa a = some o) : a ≠ pa ∧ H a = some o := by
  refine ⟨fun e => ?_, wo_ex a o h⟩
  rw [e, wo_self] at h
  cases h
theorem wo_of {a : Addr} (h : PoolAt H pa) (e : H a = some o) (n : ∀ i j : Int, o ≠ .lst [.int i, .int j]) : wo H pa a = some o := by
  obtain ⟨i, j, q⟩ := h
  have hne : a ≠ pa := fun y => by rw [y, q] at e; exact n i j (Option.some.inj e).symm
  rw [wo_ne hne]; exact e
theorem wo_none (h : H p = none) : wo H pa p = none := by
  unfold wo; split
  · rfl
  · exact h
end
section
variable {P : Program} {w : World} {K : PySem.W.Frag} {mg : Str → Option Value} {base : Heap}
def spDraw : Sp := fun vs H Q _ => ∃ (pa : Addr) (many : Int), vs = [.ref pa, .int many] ∧ PoolAt H pa ∧ 1 ≤ many ∧ many < 1073741824 ∧ ∀ d H', Po pa H H' → 0 ≤ d → d < many → Q (.int d) H'
theorem sc_l_draw : FnScope ["_law_pool_here", "_law_many", "_law_found"] ["_law_pool_here", "_law_many"] (defScope s_l_draw) := ⟨rfl, rfl, rfl, by decide +kernel, rfl, by decide +kernel, by decide +kernel⟩
theorem ok_l_draw (D : Df K mg "_law_draw" s_l_draw ["_law_pool_here", "_law_many"]) (T : Txt K mg) : Cal P w K mg base 1 "_law_draw" spDraw := by
  refine cal_mk D sc_l_draw (fun vs H Q E h => ?_) (fun f cdv A outer st H vs Q E hr h => ?_)
  · obtain ⟨pa, many, rfl, _⟩ := h
    rfl
  · obtain ⟨pa, many, rfl, hp, h1, h2, k⟩ := h
    have nd := sc_l_draw.nd
    have hu1 := hu_of hr
    have hu9 := hu9_of hr
    have hu64 := hu64_of hr
    have hu65 := hu65_of hr
    refine ⟨_, (pss_cons (ps_if (pt_cmpR op_gt (pe_ix ix_list (pv 0) pe_int (fun _ _ => rfl)) pe_int (nomark _))
    (pss_cons (ps_set (i := 2) nd rfl (Or.inl rfl) (pe_op op_mod (pe_callTy call_int1 (by rfl) T.int_ PyProof.Rows.boot_int (pa_cons (pe_ix ix_list (pv 0) pe_int (fun _ _ => rfl)) pa_nil)) (pv 1)))
    (pss_cons (ps_asg (pe_op op_fdiv (pe_ix ix_list (pv 0) pe_int (fun _ _ => rfl)) (pv 1)) (pg_sub (pv 0) pe_int set_list))
    (pss_one (ps_ret (pv 2)))))
    pss_nil)
    (pss_cons (ps_asg (pe_op op_mod (pe_callTy call_int1 (by rfl) T.int_ PyProof.Rows.boot_int (pa_cons (pe_op op_add (pe_op op_mul (pe_ix ix_list (pv 0) pe_int (fun _ _ => rfl)) pe_int) pe_int) pa_nil)) pe_int) (pg_sub (pv 0) pe_int set_list))
    (pss_one (ps_ret (pe_op op_mod (pe_callTy call_int1 (by rfl) T.int_ PyProof.Rows.boot_int (pa_cons (pe_op op_fdiv (pe_op op_mod (pe_callTy call_int1 (by rfl) T.int_ PyProof.Rows.boot_int (pa_cons (pe_op op_mul (pe_ix ix_list (pv 0) pe_int (fun _ _ => rfl)) (pe_ix ix_list (pv 0) pe_int (fun _ _ => rfl))) pa_nil)) pe_int) pe_int) pa_nil)) (pv 1)))))), ?_⟩
    -- slots: 0 _law_pool_here, 1 _law_many, 2 _law_found
    obtain ⟨i, j, hpa⟩ := hp
    have hsl : SqL K H pa [.int i, .int j] := SqL.of hpa
    have drawn : ∀ (z : V) (i' j' : Int) (H' : Hp), H' = upd H pa (.lst [.int i', .int j']) → Po pa H H' := fun z i' j' H' e => by
      subst e
      exact ⟨by rw [wo_upd]; exact Ex.refl _, i', j', upd_same⟩
    refine ⟨_, rfl, pa, _, 0, _, rfl, rfl, hsl, rfl, ?_⟩
    refine ⟨_, _, rfl, rfl, _, rfl, ?_⟩
    by_cases hi : 0 < i
    · rw [decide_eq_true hi]
      refine iteT ?_
      refine ⟨_, rfl, pa, _, 0, _, rfl, rfl, hsl, rfl, .inl ⟨i, rfl, ?_⟩⟩
      refine ⟨_, rfl, i, many, rfl, rfl, (by show 0 < many; omega), ?_⟩
      refine ⟨_, rfl, pa, _, 0, _, rfl, rfl, hsl, rfl, ?_⟩
      refine ⟨_, rfl, i, many, rfl, rfl, ⟨(by omega), h2⟩, ?_⟩
      refine ⟨_, rfl, pa, _, 0, 0, rfl, rfl, hpa, rfl, ?_⟩
      refine ⟨_, rfl, ?_⟩
      exact k (i % many) _ (drawn .non _ _ _ rfl) (Int.emod_nonneg _ (by omega)) (Int.emod_lt_of_pos _ (by omega))
    · rw [decide_eq_false hi]
      refine iteF ?_
      refine ⟨_, rfl, pa, _, 1, _, rfl, rfl, hsl, rfl, ?_⟩
      refine ⟨j, 48271, rfl, rfl, .inr (by decide), ?_⟩
      refine ⟨_, _, rfl, rfl, .inl ⟨_, rfl, ?_⟩⟩
      refine ⟨_, _, rfl, rfl, (by show (0 : Int) < 2147483647; decide), ?_⟩
      refine ⟨_, rfl, pa, _, 1, 1, rfl, rfl, hpa, rfl, ?_⟩
      simp only [List.set]
      generalize hj : (j * 48271 + 11) % 2147483647 = j'
      have hj1 : 0 ≤ j' := by rw [← hj]; exact Int.emod_nonneg _ (by decide)
      have hj2 : j' < 2147483647 := by rw [← hj]; exact Int.emod_lt_of_pos _ (by decide)
      have hsl2 : SqL K (upd H pa (.lst [.int i, .int j'])) pa [.int i, .int j'] := SqL.of upd_same
      refine ⟨_, rfl, pa, _, 1, _, rfl, rfl, hsl2, rfl, ?_⟩
      refine ⟨_, rfl, pa, _, 1, _, rfl, rfl, hsl2, rfl, ?_⟩
      refine ⟨_, _, rfl, rfl, .inl ⟨by omega, by omega⟩, ?_⟩
      refine .inl ⟨_, rfl, ?_⟩
      refine ⟨_, _, rfl, rfl, (by show (0 : Int) < 2147483629; decide), ?_⟩
      refine ⟨_, _, rfl, rfl, ⟨(by show (0 : Int) < 16; decide), (by show (16 : Int) < 1073741824; decide)⟩, ?_⟩
      refine .inl ⟨_, rfl, ?_⟩
      refine ⟨_, rfl, _, many, rfl, rfl, (by show 0 < many; omega), ?_⟩
      exact k _ _ (drawn .non _ _ _ rfl) (Int.emod_nonneg _ (by omega)) (Int.emod_lt_of_pos _ (by omega))
theorem b01 (b : Bool) : -(2 ^ 64) < (if b = true then (1 : Int) else 0) ∧ (if b = true then (1 : Int) else 0) < 2 ^ 64 := by cases b <;> decide
def spPool (K : PySem.W.Frag) : Sp := fun vs H Q _ => ∃ (a : Addr) (ns : List Int), vs = [.ref a, .int 0] ∧ SqL K H a (ns.map V.int) ∧ ∀ pa H', H pa = none → Ex H H' → PoolAt H' pa → Q (.ref pa) H'
theorem sc_l_pool : FnScope ["_law_script", "_law_k", "_law_size", "_law_mixed"] ["_law_script", "_law_k"] (defScope s_l_pool) := ⟨rfl, rfl, rfl, by decide +kernel, rfl, by decide +kernel, by decide +kernel⟩
theorem ok_l_pool (D : Df K mg "_law_pool" s_l_pool ["_law_script", "_law_k"]) (T : Txt K mg) : Cal P w K mg base 1 "_law_pool" (spPool K) := by
  refine cal_mk D sc_l_pool (fun vs H Q E h => ?_) (fun f cdv A outer st H vs Q E hr h => ?_)
  · obtain ⟨a, ns, rfl, _⟩ := h
    rfl
  · obtain ⟨a, ns, rfl, hs, k⟩ := h
    have nd := sc_l_pool.nd
    have hu1 := hu_of hr
    have hu9 := hu9_of hr
    have hu64 := hu64_of hr
    have hu65 := hu65_of hr
    refine ⟨_, (pss_cons (ps_set (i := 2) nd rfl (Or.inl rfl) (pe_ifExp (pt_cmpR op_lt (pv 1) (pe_callB call_len_seq (by rfl) T.len_ PySem.boot_len (pa_cons (pv 0) pa_nil)) (nomark _)) (pe_callB (call_max2 rfl) (by rfl) T.max_ PyProof.Rows.boot_max (pa_cons (pe_callTy call_int1 (by rfl) T.int_ PyProof.Rows.boot_int (pa_cons (pe_ix ix_list (pv 0) (pv 1) (fun _ _ => rfl)) pa_nil)) (pa_cons (pe_callTy call_int1 (by rfl) T.int_ PyProof.Rows.boot_int (pa_cons (pe_op op_sub (pe_un un_neg pe_int) (pe_ix ix_list (pv 0) (pv 1) (fun _ _ => rfl))) pa_nil)) pa_nil))) pe_int))
    (pss_cons (ps_set (i := 3) nd rfl (Or.inl rfl) (pe_op op_add (pe_op op_mod (pe_callTy call_int1 (by rfl) T.int_ PyProof.Rows.boot_int (pa_cons (pe_op op_mul (pe_op op_add (pe_op op_mod (pe_callTy call_int1 (by rfl) T.int_ PyProof.Rows.boot_int (pa_cons (pv 2) pa_nil)) pe_int) (pe_op op_mul pe_int (pe_op op_add (pv 1) pe_int))) pe_int) pa_nil)) pe_int) pe_int))
    (pss_one (ps_ret (pe_lst (pa_cons (pe_op op_mul (pv 2) (pe_callTy call_int1 (by rfl) T.int_ PyProof.Rows.boot_int (pa_cons (pe_cmpR op_ge (pv 2) (pe_op op_pow pe_int pe_int) (nomark _)) pa_nil))) (pa_cons (pe_op op_mod (pe_callTy call_int1 (by rfl) T.int_ PyProof.Rows.boot_int (pa_cons (pe_op op_mul (pv 3) (pv 3)) pa_nil)) pe_int) pa_nil))))))), ?_⟩
    -- slots: 0 _law_script, 1 _law_k, 2 _law_size, 3 _law_mixed
    refine ⟨_, rfl, _, rfl, a, _, rfl, .inl hs, ?_⟩
    refine ⟨_, _, rfl, rfl, _, rfl, ?_⟩
    cases ns with
    | cons n0 ns =>
      refine ifT (decide_eq_true (by rw [List.length_map, List.length_cons]; omega)) ?_
      refine ⟨_, rfl, _, rfl, a, _, 0, _, rfl, rfl, hs, atI_nat (j := 0) rfl, .inl ⟨_, rfl, ?_⟩⟩
      refine ⟨_, rfl, _, rfl, _, rfl, a, _, 0, _, rfl, rfl, hs, atI_nat (j := 0) rfl, _, _, rfl, rfl, .inl ⟨_, rfl, ?_⟩⟩
      refine ⟨_, _, rfl, ?_⟩
      refine ⟨_, rfl, .inl ⟨_, rfl, ?_⟩⟩
      refine ⟨_, _, rfl, rfl, (by show (0 : Int) < 2147483629; decide), ?_⟩
      refine ⟨_, rfl, _, _, rfl, rfl, ?_⟩
      refine ⟨_, _, rfl, rfl, .inl (by decide), ?_⟩
      refine ⟨_, _, rfl, rfl, ?_⟩
      refine ⟨_, _, rfl, rfl, .inr (by decide), ?_⟩
      refine .inl ⟨_, rfl, ?_⟩
      refine ⟨_, _, rfl, rfl, (by show (0 : Int) < 2147483629; decide), ?_⟩
      refine ⟨_, _, rfl, rfl, ?_⟩
      refine ⟨_, rfl, _, rfl, _, _, rfl, rfl, ⟨by decide, by decide, by decide⟩, ?_⟩
      refine ⟨_, _, rfl, rfl, .inr ⟨_, rfl, ?_⟩⟩
      refine ⟨_, _, rfl, rfl, .inr (b01 _), ?_⟩
      refine ⟨_, rfl, _, rfl, _, _, rfl, rfl, .inl (by constructor <;> omega), .inl ⟨_, rfl, ?_⟩⟩
      refine ⟨_, _, rfl, rfl, (by show (0 : Int) < 2147483629; decide), ?_⟩
      refine ⟨(by show 2 ≤ sizeLine; decide), fun p np => ?_⟩
      exact k p _ np (Ex.new np) ⟨_, _, upd_same⟩
    | nil =>
      refine ifF (decide_eq_false (by simp)) ?_
      refine ⟨_, rfl, .inl ⟨_, rfl, ?_⟩⟩
      refine ⟨_, _, rfl, rfl, (by show (0 : Int) < 2147483629; decide), ?_⟩
      refine ⟨_, rfl, _, _, rfl, rfl, ?_⟩
      refine ⟨_, _, rfl, rfl, .inl (by decide), ?_⟩
      refine ⟨_, _, rfl, rfl, ?_⟩
      refine ⟨_, _, rfl, rfl, .inr (by decide), ?_⟩
      refine .inl ⟨_, rfl, ?_⟩
      refine ⟨_, _, rfl, rfl, (by show (0 : Int) < 2147483629; decide), ?_⟩
      refine ⟨_, _, rfl, rfl, ?_⟩
      refine ⟨_, rfl, _, rfl, _, _, rfl, rfl, ⟨by decide, by decide, by decide⟩, ?_⟩
      refine ⟨_, _, rfl, rfl, .inr ⟨_, rfl, ?_⟩⟩
      refine ⟨_, _, rfl, rfl, .inr (b01 _), ?_⟩
      refine ⟨_, rfl, _, rfl, _, _, rfl, rfl, .inl (by constructor <;> omega), .inl ⟨_, rfl, ?_⟩⟩
      refine ⟨_, _, rfl, rfl, (by show (0 : Int) < 2147483629; decide), ?_⟩
      refine ⟨(by show 2 ≤ sizeLine; decide), fun p np => ?_⟩
      exact k p _ np (Ex.new np) ⟨_, _, upd_same⟩
end
end Tw
/-! The law's models. -/
namespace Tw
open PySem PySem.Spec PyProof.Rows L2
/-- d[k] = v within a target -/
def rDSet : V → V → V → Hp → (Hp → Prop) → Prop := fun x y v H Q => ∃ a H', x = .ref a ∧ DPut H a y v H' ∧ Q H'
theorem set_dict {X : Cx} (hu : X.A.units + 1 < cLine) : PSet X rDSet := by
  intro pins s σ H o i v ov iv u Q I ro ri rv h
  obtain ⟨a, H', rfl, g, q⟩ := h
  obtain rfl : ov = Value.ref a := ro
  exact d_setItem hu I g ri rv fun s' I' => ⟨H', I', q⟩
section
variable {H H' Hs : Hp} {pa p : Addr} {o : HO}
theorem tx_wo (h : PoolAt H pa) : Tx H (wo H pa) := by
  obtain ⟨i, j, q⟩ := h
  refine ⟨fun a xs z => ?_, fun a o u z => ?_⟩
  · rw [wo_ne (fun y => by rw [y, q] at z; cases z)]; exact z
  · rw [wo_ne (fun y => by rw [y, q] at z; cases z)]; exact z
theorem Po.mut (h : Po pa Hs H) (n : Hs p = none) (ne : p ≠ pa) : Po pa Hs (upd H p o) := by
  obtain ⟨e, i, j, q⟩ := h
  refine ⟨fun a u z => ?_, i, j, by rw [upd_ne ne.symm]; exact q⟩
  have hap : a ≠ p := fun y => by rw [y, wo_none n] at z; cases z
  have := e a u z
  obtain ⟨n1, h1⟩ := wo_at this
  rw [wo_ne n1, upd_ne hap]
  exact h1
theorem Po.keep {a : Addr} (h : Po pa H H') (e : H a = some o) (ne : a ≠ pa) : H' a = some o := by
  have := h.1 a o (by rw [wo_ne ne]; exact e)
  rw [wo_ne ne] at this
  exact this
theorem PoolAt.ne_none (h : PoolAt H pa) (n : H p = none) : p ≠ pa := fun e => by
  obtain ⟨i, j, q⟩ := h
  rw [e, q] at n
  cases n
end
def mdK (m : Bk) (tv : V) : List (Key × V) := [(.inr "low", .int m.low), (.inr "high", .int m.high), (.inr "table", tv), (.inr "fresh", .int m.fresh), (.inr "times", .int m.times), (.inr "bonus", .int m.bonus)]
/-- a model: the law's dict -/
def MdAt (K : PySem.W.Frag) (H : Hp) (d : Addr) (m : Bk) : Prop := ∃ tv, H d = some (.dK (mdK m tv)) ∧ Dp K H tv (.list (m.rows.map dRow))
/-- what _law_model makes -/
structure Small (m : Bk) : Prop where
  ok : m.Ok
  h3 : m.high ≤ m.low + 3
  l1 : m.low ≤ 1
  r2 : m.rows.length ≤ 2
  b2 : ∀ r ∈ m.rows, r.b ≤ 2
def SmallE : Option (Int × Int) → Prop
  | none => True
  | some c => -2 ≤ c.1 ∧ c.1 ≤ 2 ∧ -2 ≤ c.2 ∧ c.2 ≤ 2
section
variable {K : PySem.W.Frag} {H H' : Hp} {d : Addr} {m : Bk} {Q : V → Prop}
theorem MdAt.ex (h : MdAt K H d m) (e : Ex H H') : MdAt K H' d m := by
  obtain ⟨tv, h1, h2⟩ := h
  exact ⟨tv, e _ _ h1, Dp.ex e _ _ h2⟩
theorem md_low (m : Bk) (tv : V) : valV (mdK m tv) (.inr "low") = some (.int m.low) := by rfl
theorem md_high (m : Bk) (tv : V) : valV (mdK m tv) (.inr "high") = some (.int m.high) := by rfl
theorem md_table (m : Bk) (tv : V) : valV (mdK m tv) (.inr "table") = some tv := by rfl
theorem md_fresh (m : Bk) (tv : V) : valV (mdK m tv) (.inr "fresh") = some (.int m.fresh) := by rfl
theorem md_times (m : Bk) (tv : V) : valV (mdK m tv) (.inr "times") = some (.int m.times) := by rfl
theorem md_bonus (m : Bk) (tv : V) : valV (mdK m tv) (.inr "bonus") = some (.int m.bonus) := by rfl
theorem dget {kvs : List (Key × V)} {x : Str} {v : V} (h : H d = some (.dK kvs)) (e : valV kvs (.inr x) = some v) (q : Q v) : ∃ a v, V.ref d = .ref a ∧ DGet H a (.str x) (some v) ∧ Q v :=
  ⟨d, v, rfl, by rw [← e]; exact DGet.k (k := .inr x) h, q⟩
theorem dM_low (h : MdAt K H d m) (q : Q (.int m.low)) : ∃ a v, V.ref d = .ref a ∧ DGet H a (.str "low") (some v) ∧ Q v := by
  obtain ⟨tv, h1, _⟩ := h
  exact dget h1 (md_low m tv) q
theorem dM_high (h : MdAt K H d m) (q : Q (.int m.high)) : ∃ a v, V.ref d = .ref a ∧ DGet H a (.str "high") (some v) ∧ Q v := by
  obtain ⟨tv, h1, _⟩ := h
  exact dget h1 (md_high m tv) q
theorem dM_fresh (h : MdAt K H d m) (q : Q (.int m.fresh)) : ∃ a v, V.ref d = .ref a ∧ DGet H a (.str "fresh") (some v) ∧ Q v := by
  obtain ⟨tv, h1, _⟩ := h
  exact dget h1 (md_fresh m tv) q
theorem dM_times (h : MdAt K H d m) (q : Q (.int m.times)) : ∃ a v, V.ref d = .ref a ∧ DGet H a (.str "times") (some v) ∧ Q v := by
  obtain ⟨tv, h1, _⟩ := h
  exact dget h1 (md_times m tv) q
theorem dM_bonus (h : MdAt K H d m) (q : Q (.int m.bonus)) : ∃ a v, V.ref d = .ref a ∧ DGet H a (.str "bonus") (some v) ∧ Q v := by
  obtain ⟨tv, h1, _⟩ := h
  exact dget h1 (md_bonus m tv) q
theorem dM_table (h : MdAt K H d m) (q : ∀ tv, Dp K H tv (.list (m.rows.map dRow)) → Q tv) : ∃ a v, V.ref d = .ref a ∧ DGet H a (.str "table") (some v) ∧ Q v := by
  obtain ⟨tv, h1, h2⟩ := h
  exact dget h1 (md_table m tv) (q tv h2)
theorem put_high (m : Bk) (tv : V) (x : Int) : putK (mdK m tv) (.inr "high") (.int x) = mdK { m with high := x } tv := by rfl
theorem put_table (m : Bk) (tv tv' : V) : putK (mdK m tv) (.inr "table") tv' = mdK m tv' := by rfl
theorem put_fresh (m : Bk) (tv : V) (x : Int) : putK (mdK m tv) (.inr "fresh") (.int x) = mdK { m with fresh := x } tv := by rfl
theorem put_times (m : Bk) (tv : V) (x : Int) : putK (mdK m tv) (.inr "times") (.int x) = mdK { m with times := x } tv := by rfl
theorem put_bonus (m : Bk) (tv : V) (x : Int) : putK (mdK m tv) (.inr "bonus") (.int x) = mdK { m with bonus := x } tv := by rfl
end
section
variable {P : Program} {w : World} {K : PySem.W.Frag} {mg : Str → Option Value} {base : Heap}
def spPick : Sp := fun vs H Q _ => ∃ (pa row : Addr) (ys : List V), vs = [.ref pa, .ref row] ∧ PoolAt H pa ∧ H row = some (.lst ys) ∧ row ≠ pa ∧ 1 ≤ ys.length ∧ ys.length < 1073741824 ∧ ∀ v H', Po pa H H' → v ∈ ys → Q v H'
theorem sc_l_pick : FnScope ["_law_pool_here", "_law_row"] ["_law_pool_here", "_law_row"] (defScope s_l_pick) := ⟨rfl, rfl, rfl, by decide +kernel, rfl, by decide +kernel, by decide +kernel⟩
theorem ok_l_pick (D : Df K mg "_law_pick" s_l_pick ["_law_pool_here", "_law_row"]) (T : Txt K mg) (C_l_draw : Cal P w K mg base 1 "_law_draw" spDraw) : Cal P w K mg base 2 "_law_pick" spPick := by
  refine cal_mk D sc_l_pick (fun vs H Q E h => ?_) (fun f cdv A outer st H vs Q E hr h => ?_)
  · obtain ⟨pa, row, ys, rfl, _⟩ := h
    rfl
  · obtain ⟨pa, row, ys, rfl, hp, hrow, hne, h1, h2, k⟩ := h
    have nd := sc_l_pick.nd
    have hu1 := hu_of hr
    have hu9 := hu9_of hr
    have hu64 := hu64_of hr
    have hu65 := hu65_of hr
    refine ⟨_, (pss_one (ps_ret (pe_ix ix_list (pv 1) (pe_c C_l_draw hr (by decide) rfl (pa_cons (pv 0) (pa_cons (pe_callB call_len_seq (by rfl) T.len_ PySem.boot_len (pa_cons (pv 1) pa_nil)) pa_nil))) (fun _ _ => rfl)))), ?_⟩
    -- slots: 0 _law_pool_here, 1 _law_row
    refine ⟨_, rfl, _, rfl, _, rfl, row, ys, rfl, .inl (SqL.of hrow), pa, _, rfl, hp, by omega, by omega, fun d H' po d0 d1 => ?_⟩
    have hr' : H' row = some (.lst ys) := po.keep hrow hne
    have hd : d.toNat < ys.length := by omega
    have e : ((d.toNat : Nat) : Int) = d := Int.toNat_of_nonneg d0
    refine ⟨row, ys, d, ys[d.toNat], rfl, rfl, SqL.of hr', ?_, k _ H' po (List.getElem_mem hd)⟩
    have z : atI ys ((d.toNat : Nat) : Int) = some ys[d.toNat] := atI_nat (List.getElem?_eq_getElem hd)
    rw [e] at z
    exact z
def spEntry (K : PySem.W.Frag) : Sp := fun vs H Q _ => ∃ (pa : Addr), vs = [.ref pa, .int 2] ∧ PoolAt H pa ∧ ∀ v e H', Po pa H H' → Dp K H' v (dEn e) → SmallE e → Q v H'
theorem sc_l_entry : FnScope ["_law_pool_here", "_law_most"] ["_law_pool_here", "_law_most"] (defScope s_l_entry) := ⟨rfl, rfl, rfl, by decide +kernel, rfl, by decide +kernel, by decide +kernel⟩
theorem ok_l_entry (D : Df K mg "_law_entry" s_l_entry ["_law_pool_here", "_law_most"]) (T : Txt K mg) (C_l_draw : Cal P w K mg base 1 "_law_draw" spDraw) : Cal P w K mg base 2 "_law_entry" (spEntry K) := by
  refine cal_mk D sc_l_entry (fun vs H Q E h => ?_) (fun f cdv A outer st H vs Q E hr h => ?_)
  · obtain ⟨pa, rfl, _⟩ := h
    rfl
  · obtain ⟨pa, rfl, hp, k⟩ := h
    have nd := sc_l_entry.nd
    have hu1 := hu_of hr
    have hu9 := hu9_of hr
    have hu64 := hu64_of hr
    have hu65 := hu65_of hr
    refine ⟨_, (pss_cons (ps_if (pt_cmpR op_eq (pe_c C_l_draw hr (by decide) rfl (pa_cons (pv 0) (pa_cons pe_int pa_nil))) pe_int (nomark _))
    (pss_one (ps_ret pe_non))
    pss_nil)
    (pss_one (ps_ret (pe_tup (pa_cons (pe_op op_sub (pe_c C_l_draw hr (by decide) rfl (pa_cons (pv 0) (pa_cons (pe_op op_add (pe_op op_mul pe_int (pv 1)) pe_int) pa_nil))) (pv 1)) (pa_cons (pe_op op_sub (pe_c C_l_draw hr (by decide) rfl (pa_cons (pv 0) (pa_cons (pe_op op_add (pe_op op_mul pe_int (pv 1)) pe_int) pa_nil))) (pv 1)) pa_nil)))))), ?_⟩
    -- slots: 0 _law_pool_here, 1 _law_most
    refine ⟨_, rfl, pa, 6, rfl, hp, by decide, by decide, fun d H1 p1 d0 d1 => ?_⟩
    refine ⟨rfl, _, rfl, ?_⟩
    by_cases hd : V.int d = V.int 0
    · rw [decide_eq_true hd]
      refine iteT ?_
      exact k .non none H1 p1 .non trivial
    · rw [decide_eq_false hd]
      refine iteF ?_
      refine ⟨_, rfl, _, rfl, _, _, rfl, rfl, .inl (by decide), ?_⟩
      refine ⟨_, _, rfl, rfl, pa, 5, rfl, p1.2, by decide, by decide, fun x H2 p2 x0 x1 => ?_⟩
      refine ⟨_, rfl, _, _, rfl, rfl, ?_⟩
      refine ⟨_, rfl, _, rfl, _, _, rfl, rfl, .inl (by decide), ?_⟩
      refine ⟨_, _, rfl, rfl, pa, 5, rfl, p2.2, by decide, by decide, fun y H3 p3 y0 y1 => ?_⟩
      refine ⟨_, rfl, _, _, rfl, rfl, ?_⟩
      refine ⟨(by show 2 ≤ sizeLine; decide), fun p np => ?_⟩
      obtain ⟨e4, hv⟩ := newT (K := K) (ds := [.int (x - 2), .int (y - 2)]) np (.cons (.int _) (.cons (.int _) .nil))
      exact k _ (some (x - 2, y - 2)) _ (((p1.trans p2).trans p3).trans (.ex p3.2 e4)) hv ⟨by show -2 ≤ x - 2; omega, by show x - 2 ≤ 2; omega, by show -2 ≤ y - 2; omega, by show y - 2 ≤ 2; omega⟩
end
end Tw
/-! The law's models, made. -/
namespace Tw
open PySem PySem.Spec PyProof.Rows L2
/-- rows over borders -/
def RowsOver (bs : List Int) (rows : List Row) : Prop := rows.map (·.b) = bs ∧ ∀ r ∈ rows, ∀ x, SmallE (r.e x)
theorem smallE_ok {e : Option (Int × Int)} (h : SmallE e) : entOk e := by
  cases e with
  | none => trivial
  | some c =>
    obtain ⟨h1, h2, h3, h4⟩ := h
    exact ⟨by omega, by omega, by omega, by omega⟩
def rowOf (b : Int) (e1 e2 e3 : Option (Int × Int)) : Row := ⟨b, fun
  | .up => e1
  | .dr => e2
  | .lo => e3⟩
structure TabS (rows : List Row) : Prop where
  n2 : rows.length ≤ 2
  first : ∃ r rs, rows = r :: rs ∧ r.b = 0
  asc : Asc rows
  b2 : ∀ r ∈ rows, r.b ≤ 2
  b0 : ∀ r ∈ rows, 0 ≤ r.b
  e : ∀ r ∈ rows, ∀ x, SmallE (r.e x)
theorem TabS.ok {rows : List Row} (h : TabS rows) : ∀ r ∈ rows, r.Ok := fun r hr => ⟨h.b0 r hr, by have := h.b2 r hr; omega, fun x => smallE_ok (h.e r hr x)⟩
theorem tabS_of {rows : List Row} {bs : List Int} (h : RowsOver bs rows) (hb : bs = [0] ∨ ∃ b, 1 ≤ b ∧ b ≤ 2 ∧ bs = [0, b]) : TabS rows := by
  obtain ⟨hm, he⟩ := h
  rcases hb with rfl | ⟨b, h1, h2, rfl⟩
  · match rows, hm with
    | [r], hm =>
      simp at hm
      exact ⟨by simp, ⟨r, [], rfl, hm⟩, trivial, fun x hx => by simp at hx; subst hx; omega, fun x hx => by simp at hx; subst hx; omega, he⟩
    | [], hm => simp at hm
    | _ :: _ :: _, hm => simp at hm
  · match rows, hm with
    | [r, q], hm =>
      simp at hm
      obtain ⟨e1, e2⟩ := hm
      refine ⟨by simp, ⟨r, [q], rfl, e1⟩, ⟨by omega, trivial⟩, fun x hx => ?_, fun x hx => ?_, he⟩
      · simp at hx; rcases hx with rfl | rfl <;> omega
      · simp at hx; rcases hx with rfl | rfl <;> omega
    | [], hm => simp at hm
    | [_], hm => simp at hm
    | _ :: _ :: _ :: _, hm => simp at hm
theorem small_mk {low high f t b : Int} {rows : List Row} (h : TabS rows) (l0 : 0 ≤ low) (l1 : low ≤ 1) (h1 : low + 1 ≤ high) (h2 : high ≤ low + 3) (c : (1 ≤ f ∧ f ≤ 2 ∧ 1 ≤ t ∧ t ≤ 3 ∧ b = 0) ∨ (f = 0 ∧ t = 1 ∧ 0 ≤ b ∧ b ≤ 2)) : Small ⟨low, high, rows, f, t, b⟩ := by
  have := h.n2
  exact ⟨⟨l0, by show low ≤ high; omega, by show high ≤ 23; omega, by show high ≤ low + 4; omega, by show rows.length ≤ 6; omega, h.first, h.asc, h.ok, by show 0 ≤ f; omega, by show f ≤ 2; omega, by show 1 ≤ t; omega, by show t ≤ 3; omega, by show f = 0 → t = 1; omega, by show 0 ≤ b; omega, by show b ≤ 5; omega, by show 0 < f → b = 0; omega⟩,
    h2, l1, h.n2, h.b2⟩
theorem Po.back {H H' : Hp} {pa p : Addr} (h : Po pa H H') (ne : p ≠ pa) (n : H' p = none) : H p = none := by
  cases e : H p with
  | none => rfl
  | some o => rw [h.keep e ne] at n; cases n
section
variable {P : Program} {w : World} {K : PySem.W.Frag} {mg : Str → Option Value} {base : Heap}
def spModel (K : PySem.W.Frag) : Sp := fun vs H Q _ => ∃ (pa : Addr), vs = [.ref pa, .int 3, .int 2] ∧ PoolAt H pa ∧ ∀ md m H', Po pa H H' → MdAt K (wo H' pa) md m → Small m → Q (.ref md) H'
theorem sc_l_model : FnScope ["_law_pool_here", "_law_size", "_law_most", "_law_low", "_law_borders", "_law_table", "_law_border", "_law_m", "_law_way"] ["_law_pool_here", "_law_size", "_law_most"] (defScope s_l_model) := ⟨rfl, rfl, rfl, by decide +kernel, rfl, by decide +kernel, by decide +kernel⟩
theorem ok_l_model (D : Df K mg "_law_model" s_l_model ["_law_pool_here", "_law_size", "_law_most"]) (T : Txt K mg) (C_l_draw : Cal P w K mg base 1 "_law_draw" spDraw) (C_l_entry : Cal P w K mg base 2 "_law_entry" (spEntry K)) : Cal P w K mg base 3 "_law_model" (spModel K) := by
  refine cal_mk D sc_l_model (fun vs H Q E h => ?_) (fun f cdv A outer st H vs Q E hr h => ?_)
  · obtain ⟨pa, rfl, _⟩ := h
    rfl
  · obtain ⟨pa, rfl, hp, k⟩ := h
    have nd := sc_l_model.nd
    have hu1 := hu_of hr
    have hu9 := hu9_of hr
    have hu64 := hu64_of hr
    have hu65 := hu65_of hr
    refine ⟨_, (pss_cons (ps_par (i := 3) (j := 4) rfl nd rfl rfl (by decide) rfl rfl (pa_cons (pe_c C_l_draw hr (by decide) rfl (pa_cons (pv 0) (pa_cons pe_int pa_nil))) (pa_cons (pe_op op_cat (pe_lst (pa_cons pe_int pa_nil)) (pe_op op_rep (pe_lst (pa_cons (pe_op op_add pe_int (pe_c C_l_draw hr (by decide) rfl (pa_cons (pv 0) (pa_cons pe_int pa_nil)))) pa_nil)) (pe_c C_l_draw hr (by decide) rfl (pa_cons (pv 0) (pa_cons pe_int pa_nil))))) pa_nil)) (by rfl))
    (pss_cons (ps_set (i := 5) nd rfl (Or.inl rfl) (pe_lst pa_nil))
    (pss_cons (ps_for PassesOwn.never rfl (pi_list (pv 4)) (pg_name (i := 6) nd rfl (Or.inl rfl))
    (pss_one (ps_expr (pe_bm PySem.F.plainAttrs_list PySem.F.slot_list_append PySem.F.type_list_append mt_append (pv 5) (pa_cons (pe_tup (pa_cons (pv 6) (pa_cons (pe_c C_l_entry hr (by decide) rfl (pa_cons (pv 0) (pa_cons (pv 2) pa_nil))) (pa_cons (pe_c C_l_entry hr (by decide) rfl (pa_cons (pv 0) (pa_cons (pv 2) pa_nil))) (pa_cons (pe_c C_l_entry hr (by decide) rfl (pa_cons (pv 0) (pa_cons (pv 2) pa_nil))) pa_nil))))) pa_nil)))))
    (pss_cons (ps_set (i := 7) nd rfl (Or.inl rfl) (pe_disp (pps_cons pe_str (pv 3) (pps_cons pe_str (pe_op op_add (pe_op op_add (pv 3) pe_int) (pe_c C_l_draw hr (by decide) rfl (pa_cons (pv 0) (pa_cons (pv 1) pa_nil)))) (pps_cons pe_str (pv 5) (pps_cons pe_str pe_int (pps_cons pe_str pe_int (pps_cons pe_str pe_int pps_nil)))))) (by rfl) (by rfl) (fun z => by cases z) (by decide)))
    (pss_cons (ps_set (i := 8) nd rfl (Or.inl rfl) (pe_c C_l_draw hr (by decide) rfl (pa_cons (pv 0) (pa_cons pe_int pa_nil))))
    (pss_cons (ps_if (pt_cmpR op_eq (pv 8) pe_int (nomark _))
    (pss_one (ps_asg (pe_tup (pa_cons (pe_op op_add pe_int (pe_c C_l_draw hr (by decide) rfl (pa_cons (pv 0) (pa_cons pe_int pa_nil)))) (pa_cons (pe_op op_add pe_int (pe_c C_l_draw hr (by decide) rfl (pa_cons (pv 0) (pa_cons pe_int pa_nil)))) pa_nil))) (pg_tup rfl (pgs_cons (pg_sub (pv 7) pe_str (set_dict hu1)) (pgs_cons (pg_sub (pv 7) pe_str (set_dict hu1)) pgs_nil)))))
    pss_nil)
    (pss_cons (ps_if (pt_cmpR op_eq (pv 8) pe_int (nomark _))
    (pss_one (ps_dput hu1 (pv 7) pe_str (pe_op op_add pe_int (pe_c C_l_draw hr (by decide) rfl (pa_cons (pv 0) (pa_cons pe_int pa_nil)))) rfl))
    pss_nil)
    (pss_one (ps_ret (pv 7)))))))))), ?_⟩
    -- slots: 0 _law_pool_here, 1 _law_size, 2 _law_most, 3 _law_low, 4 _law_borders, 5 _law_table, 6 _law_border, 7 _law_m, 8 _law_way
    -- low, borders
    refine ⟨_, rfl, pa, 2, rfl, hp, by decide, by decide, fun low H1 p1 l0 l1 => ?_⟩
    refine ⟨(by show 1 ≤ sizeLine; decide), fun a1 n1 => ?_⟩
    have e2 : Ex H1 (upd H1 a1 (.lst [.int 0])) := Ex.new n1
    have hl1 : upd H1 a1 (.lst [.int 0]) a1 = some (.lst [.int 0]) := upd_same
    have ne1 := p1.2.ne_none n1
    generalize upd H1 a1 (.lst [.int 0]) = H2 at e2 hl1 ⊢
    have p2 := Po.ex p1.2 e2
    refine ⟨_, rfl, pa, 2, rfl, p2.2, by decide, by decide, fun b0 H3 p3 b00 b01 => ?_⟩
    refine ⟨_, _, rfl, rfl, ?_⟩
    refine ⟨(by show 1 ≤ sizeLine; decide), fun a2 n2 => ?_⟩
    have e4 : Ex H3 (upd H3 a2 (.lst [.int (1 + b0)])) := Ex.new n2
    have hl2 : upd H3 a2 (.lst [.int (1 + b0)]) a2 = some (.lst [.int (1 + b0)]) := upd_same
    have ne2 := p3.2.ne_none n2
    generalize upd H3 a2 (.lst [.int (1 + b0)]) = H4 at e4 hl2 ⊢
    have p4 := Po.ex p3.2 e4
    refine ⟨_, rfl, pa, 2, rfl, p4.2, by decide, by decide, fun rep H5 p5 r0 r1 => ?_⟩
    have hl1' : H5 a1 = some (.lst [.int 0]) := ((p3.trans p4).trans p5).keep hl1 ne1
    have hl2' : H5 a2 = some (.lst [.int (1 + b0)]) := p5.keep hl2 ne2
    refine ⟨a2, rep, _, rfl, rfl, hl2', by omega, by omega, Nat.le_trans (show 1 * rep.toNat ≤ 2 by omega) (by decide), fun a3 n3 => ?_⟩
    obtain ⟨bs2, hbs2, hbs⟩ : ∃ bs2 : List Int, (List.replicate rep.toNat [V.int (1 + b0)]).flatten = bs2.map V.int ∧ (0 :: bs2 = [0] ∨ ∃ b, 1 ≤ b ∧ b ≤ 2 ∧ 0 :: bs2 = [0, b]) := by
      have hr2 : rep = 0 ∨ rep = 1 := by omega
      rcases hr2 with rfl | rfl
      · exact ⟨[], rfl, .inl rfl⟩
      · exact ⟨[1 + b0], rfl, .inr ⟨1 + b0, by omega, by omega, rfl⟩⟩
    rw [hbs2]
    have hbl : bs2.length ≤ 1 := by
      rcases hbs with h | ⟨b, _, _, h⟩
      · cases h; simp
      · cases h; simp
    have e6 : Ex H5 (upd H5 a3 (.lst (bs2.map V.int))) := Ex.new n3
    have hl3 : upd H5 a3 (.lst (bs2.map V.int)) a3 = some (.lst (bs2.map V.int)) := upd_same
    generalize upd H5 a3 (.lst (bs2.map V.int)) = H6 at e6 hl3 ⊢
    refine ⟨a1, a3, _, _, rfl, rfl, e6 _ _ hl1', hl3, Nat.le_trans (show 1 + (bs2.map V.int).length ≤ 2 by rw [List.length_map]; omega) (by decide), fun bl nbl => ?_⟩
    have p6 := Po.ex p5.2 e6
    have nebl := p6.2.ne_none nbl
    have e7 : Ex H6 (upd H6 bl (.lst ([.int 0] ++ bs2.map V.int))) := Ex.new nbl
    have hbl3 : upd H6 bl (.lst ([.int 0] ++ bs2.map V.int)) bl = some (.lst ((0 :: bs2).map V.int)) := upd_same
    generalize upd H6 bl (.lst ([.int 0] ++ bs2.map V.int)) = H7 at e7 hbl3 ⊢
    have p7 := Po.ex p6.2 e7
    have P7 := (((p1.trans p2).trans (p3.trans p4)).trans (p5.trans p6)).trans p7
    -- the table
    refine ⟨_, _, rfl, ?_⟩
    refine ⟨Nat.zero_le _, fun lt nlt => ?_⟩
    have nelt := p7.2.ne_none nlt
    generalize hbsd : 0 :: bs2 = bs at hbs hbl3
    refine ⟨_, rfl, bl, rfl, ⟨_, SqL.of (by rw [upd_ne (fun z => by rw [z, nlt] at hbl3; cases hbl3)]; exact hbl3)⟩, ?_⟩
    have hblen : bs.length ≤ 2 := by
      rcases hbs with h | ⟨b, _, _, h⟩ <;> rw [h] <;> simp
    have hltbl : lt ≠ bl := fun z => by rw [z, hbl3] at nlt; cases nlt
    have hblpa := nebl
    refine for_list (K := K) (a := bl) (xs := bs.map V.int) (fun i σ H' => Po pa H7 H' ∧ (∃ acc rows, H' lt = some (.lst acc) ∧ DpAll K H' acc (rows.map dRow) ∧ rows.length = i ∧ RowsOver (bs.take i) rows) ∧ ∃ v6, σ = [some (.ref pa), some (.int 3), some (.int 2), some (.int low), some (.ref bl), some (.ref lt), v6, none, none])
      ⟨Po.mut (Po.refl p7.2) nlt nelt, ⟨[], [], upd_same, .nil, rfl, rfl, fun r hr => by cases hr⟩, none, rfl⟩ (fun i σ H' _ z => SqL.of (z.1.keep hbl3 hblpa)) ?_ ?_
    · rintro i v σ H8 hv ⟨p8, ⟨acc, rows, hlt8, hrows, hlen, hov⟩, v6, rfl⟩
      have hi : i < bs.length := by
        have := (List.getElem?_eq_some_iff.mp hv).1
        rw [List.length_map] at this
        exact this
      have hv' : v = .int bs[i] := by
        rw [List.getElem?_map, List.getElem?_eq_getElem hi] at hv
        exact (Option.some.inj hv).symm
      subst hv'
      refine ⟨_, rfl, .inl ⟨rfl, _, SqL.of hlt8⟩, ?_⟩
      refine ⟨_, rfl, _, rfl, _, rfl, pa, rfl, p8.2, fun w1 x1 H9 p9 d1 s1 => ?_⟩
      refine ⟨_, rfl, _, rfl, pa, rfl, p9.2, fun w2 x2 H10 p10 d2 s2 => ?_⟩
      refine ⟨_, rfl, _, rfl, pa, rfl, p10.2, fun w3 x3 H11 p11 d3 s3 => ?_⟩
      refine ⟨(by show 4 ≤ sizeLine; decide), fun p12 n12 => ?_⟩
      have t10 := Po.tx p9.2 p10
      have t11 := Po.tx p10.2 p11
      obtain ⟨e12, hv12⟩ := newT (K := K) (ds := [.int bs[i], dEn x1, dEn x2, dEn x3]) n12 (.cons (.int _) (.cons (Dp.tx t11 _ _ (noL_En _) (Dp.tx t10 _ _ (noL_En _) d1)) (.cons (Dp.tx t11 _ _ (noL_En _) d2) (.cons d3 .nil))))
      have hv12 : Dp K (upd H11 p12 (.tup [.int bs[i], w1, w2, w3])) (.ref p12) (dRow (rowOf bs[i] x1 x2 x3)) := hv12
      generalize upd H11 p12 (.tup [.int bs[i], w1, w2, w3]) = H12 at e12 hv12 ⊢
      have p12' := ((p9.trans p10).trans p11).trans (Po.ex p11.2 e12)
      have hlt12 : H12 lt = some (.lst acc) := p12'.keep hlt8 nelt
      have hal := dpAll_len hrows
      rw [List.length_map] at hal
      refine ⟨lt, acc, _, rfl, rfl, hlt12, Nat.lt_of_lt_of_le (show acc.length < 2000 by omega) (by decide), ?_⟩
      have t13 : Tx H12 (upd H12 lt (.lst (acc ++ [.ref p12]))) := tx_lst hlt12
      refine ⟨(p8.trans p12').mut nlt nelt, ⟨_, rows ++ [rowOf bs[i] x1 x2 x3], upd_same, ?_, ?_, ?_, ?_⟩, _, rfl⟩
      · rw [List.map_append]
        exact dpAll_snoc (DpAll.tx t13 _ _ (noLs_rows _) (DpAll.tx (Po.tx p8.2 p12') _ _ (noLs_rows _) hrows)) (Dp.tx t13 _ _ (noL_Row _) hv12)
      · rw [List.length_append, hlen]; rfl
      · rw [List.map_append, hov.1, List.take_succ_eq_append_getElem hi]; rfl
      · intro r hr x
        rcases List.mem_append.mp hr with hr | hr
        · exact hov.2 r hr x
        · simp at hr
          subst hr
          cases x
          · exact s1
          · exact s2
          · exact s3
    · rintro σ H8 ⟨p8, ⟨acc, rows, hlt8, hrows, hlen, hov⟩, v6, rfl⟩
      rw [List.length_map, List.take_of_length_le (Nat.le_refl _)] at hov
      have tab := tabS_of hov hbs
      refine fun md nmd => ?_
      have nemd := p8.2.ne_none nmd
      have e9 : Ex H8 (upd H8 md (.dK [])) := Ex.new nmd
      have hmd9 : upd H8 md (.dK []) md = some (.dK []) := upd_same
      generalize upd H8 md (.dK []) = H9 at e9 hmd9 ⊢
      have p9 := Po.ex p8.2 e9
      refine ⟨_, rfl, ?_⟩
      refine ⟨_, rfl, _, _, rfl, rfl, ?_⟩
      refine ⟨_, rfl, _, rfl, pa, 3, rfl, p9.2, by decide, by decide, fun hd H10 p10 h0 h1 => ?_⟩
      refine ⟨_, _, rfl, rfl, ?_⟩
      refine ⟨_, rfl, ?_⟩
      have hmd10 := p10.keep hmd9 nemd
      have P10 := (P7.trans p8).trans (p9.trans p10)
      have hmd0 : H md = none := (P7.trans p8).back nemd nmd
      have hltmd : lt ≠ md := fun z => by rw [z, nmd] at hlt8; cases hlt8
      refine ⟨hmd10, [(.inr "low", .int low), (.inr "high", .int (low + 1 + hd)), (.inr "table", .ref lt), (.inr "fresh", .int 0), (.inr "times", .int 1), (.inr "bonus", .int 0)], rfl, (by show 6 ≤ 15; decide), ?_⟩
      rw [show mergeK [] ([(.inr "low", .int low), (.inr "high", .int (low + 1 + hd)), (.inr "table", .ref lt), (.inr "fresh", .int 0), (.inr "times", .int 1), (.inr "bonus", .int 0)] : List (Key × V)) = mdK ⟨low, low + 1 + hd, rows, 0, 1, 0⟩ (.ref lt) from rfl]
      have P11 : Po pa H (upd H10 md (.dK (mdK ⟨low, low + 1 + hd, rows, 0, 1, 0⟩ (.ref lt)))) := P10.mut hmd0 nemd
      have t11 : Tx H10 (upd H10 md (.dK (mdK ⟨low, low + 1 + hd, rows, 0, 1, 0⟩ (.ref lt)))) := Tx.upd hmd10 (fun _ e => nomatch e) (fun _ _ e => nomatch e)
      have hmd11 : upd H10 md (.dK (mdK ⟨low, low + 1 + hd, rows, 0, 1, 0⟩ (.ref lt))) md = some (.dK (mdK ⟨low, low + 1 + hd, rows, 0, 1, 0⟩ (.ref lt))) := upd_same
      have hlt11 : upd H10 md (.dK (mdK ⟨low, low + 1 + hd, rows, 0, 1, 0⟩ (.ref lt))) lt = some (.lst acc) := by rw [upd_ne hltmd]; exact (p9.trans p10).keep hlt8 nelt
      have T11 : Tx H8 (upd H10 md (.dK (mdK ⟨low, low + 1 + hd, rows, 0, 1, 0⟩ (.ref lt)))) := (Po.tx p8.2 (p9.trans p10)).trans t11
      generalize upd H10 md (.dK (mdK ⟨low, low + 1 + hd, rows, 0, 1, 0⟩ (.ref lt))) = H11 at P11 hmd11 hlt11 T11 ⊢
      have fin : ∀ m' H', Po pa H H' → H' md = some (.dK (mdK m' (.ref lt))) → H' lt = some (.lst acc) → Tx H8 H' → m'.rows = rows → Small m' → Q (.ref md) H' := by
        intro m' H' po h1 h2 h3 h4 h5
        have tw := h3.trans (tx_wo po.2)
        refine k md m' H' po ⟨.ref lt, by rw [wo_ne nemd]; exact h1, .lst (SqL.of (by rw [wo_ne nelt]; exact h2)) ?_⟩ h5
        rw [h4]
        exact DpAll.tx tw _ _ (noLs_rows _) hrows
      -- the way
      refine ⟨_, rfl, pa, 4, rfl, P11.2, by decide, by decide, fun way H12 p12 w0 w1 => ?_⟩
      have hmd12 := p12.keep hmd11 nemd
      have hlt12 := p12.keep hlt11 nelt
      have P12 := P11.trans p12
      have T12 := T11.trans (Po.tx P11.2 p12)
      refine ⟨_, rfl, rfl, _, rfl, ?_⟩
      by_cases hw0 : V.int way = V.int 0
      · rw [decide_eq_true hw0]
        have hway : way = 0 := by injection hw0
        refine iteT ?_
        refine ⟨_, rfl, pa, 2, rfl, P12.2, by decide, by decide, fun f H13 p13 f0 f1 => ?_⟩
        refine ⟨_, _, rfl, rfl, ?_⟩
        refine ⟨_, rfl, pa, 3, rfl, p13.2, by decide, by decide, fun t H14 p14 t0 t1 => ?_⟩
        refine ⟨_, _, rfl, rfl, ?_⟩
        refine ⟨(by show 2 ≤ sizeLine; decide), fun p15 n15 => ?_⟩
        have e15 : Ex H14 (upd H14 p15 (.tup [.int (1 + f), .int (1 + t)])) := Ex.new n15
        have hp15 : upd H14 p15 (.tup [.int (1 + f), .int (1 + t)]) p15 = some (.tup [.int (1 + f), .int (1 + t)]) := upd_same
        generalize upd H14 p15 (.tup [.int (1 + f), .int (1 + t)]) = H15 at e15 hp15 ⊢
        have q15 := (p13.trans p14).trans (Po.ex p14.2 e15)
        have hmd15 := q15.keep hmd12 nemd
        have hlt15 := q15.keep hlt12 nelt
        have ld : ∀ m' tv, (mdK m' tv).length < sizeLine := fun m' tv => by show 6 < sizeLine; decide
        refine ⟨p15, _, rfl, SqT.of hp15, rfl, _, _, rfl, _, rfl, md, _, rfl, DPut.k (k := .inr "fresh") hmd15 (ld _ _), ?_⟩
        rw [put_fresh]
        have t16 : Tx H15 (upd H15 md (.dK (mdK ⟨low, low + 1 + hd, rows, 1 + f, 1, 0⟩ (.ref lt)))) := Tx.upd hmd15 (fun _ e => nomatch e) (fun _ _ e => nomatch e)
        have p16 : Po pa H (upd H15 md (.dK (mdK ⟨low, low + 1 + hd, rows, 1 + f, 1, 0⟩ (.ref lt)))) := (P12.trans q15).mut hmd0 nemd
        have hmd16 : upd H15 md (.dK (mdK ⟨low, low + 1 + hd, rows, 1 + f, 1, 0⟩ (.ref lt))) md = some (.dK (mdK ⟨low, low + 1 + hd, rows, 1 + f, 1, 0⟩ (.ref lt))) := upd_same
        have hlt16 : upd H15 md (.dK (mdK ⟨low, low + 1 + hd, rows, 1 + f, 1, 0⟩ (.ref lt))) lt = some (.lst acc) := by rw [upd_ne hltmd]; exact hlt15
        generalize upd H15 md (.dK (mdK ⟨low, low + 1 + hd, rows, 1 + f, 1, 0⟩ (.ref lt))) = H16 at t16 p16 hmd16 hlt16 ⊢
        refine ⟨_, _, rfl, _, rfl, md, _, rfl, DPut.k (k := .inr "times") hmd16 (ld _ _), rfl, ?_⟩
        rw [put_times]
        have t17 : Tx H16 (upd H16 md (.dK (mdK ⟨low, low + 1 + hd, rows, 1 + f, 1 + t, 0⟩ (.ref lt)))) := Tx.upd hmd16 (fun _ e => nomatch e) (fun _ _ e => nomatch e)
        have p17 : Po pa H (upd H16 md (.dK (mdK ⟨low, low + 1 + hd, rows, 1 + f, 1 + t, 0⟩ (.ref lt)))) := p16.mut hmd0 nemd
        have hmd17 : upd H16 md (.dK (mdK ⟨low, low + 1 + hd, rows, 1 + f, 1 + t, 0⟩ (.ref lt))) md = some (.dK (mdK ⟨low, low + 1 + hd, rows, 1 + f, 1 + t, 0⟩ (.ref lt))) := upd_same
        have hlt17 : upd H16 md (.dK (mdK ⟨low, low + 1 + hd, rows, 1 + f, 1 + t, 0⟩ (.ref lt))) lt = some (.lst acc) := by rw [upd_ne hltmd]; exact hlt16
        generalize upd H16 md (.dK (mdK ⟨low, low + 1 + hd, rows, 1 + f, 1 + t, 0⟩ (.ref lt))) = H17 at t17 p17 hmd17 hlt17 ⊢
        refine ⟨_, rfl, rfl, _, rfl, ifF (decN (fun z => by injection z with z; omega)) ?_⟩
        refine ⟨_, rfl, ?_⟩
        exact fin _ H17 p17 hmd17 hlt17 (T12.trans ((Po.tx p12.2 q15).trans (t16.trans t17))) rfl (small_mk tab l0 (by omega) (by omega) (by omega) (.inl ⟨by omega, by omega, by omega, by omega, rfl⟩))
      · rw [decide_eq_false hw0]
        refine iteF ?_
        refine ⟨_, rfl, rfl, _, rfl, ?_⟩
        by_cases hw1 : V.int way = V.int 1
        · rw [decide_eq_true hw1]
          refine iteT ?_
          refine ⟨_, rfl, pa, 2, rfl, P12.2, by decide, by decide, fun b H13 p13 b0 b1 => ?_⟩
          have hmd13 := p13.keep hmd12 nemd
          have hlt13 := p13.keep hlt12 nelt
          refine ⟨_, _, rfl, rfl, ?_⟩
          refine ⟨_, rfl, md, _, rfl, DPut.k (k := .inr "bonus") hmd13 (by show 6 < sizeLine; decide), ?_⟩
          rw [put_bonus]
          have t17 : Tx H13 (upd H13 md (.dK (mdK ⟨low, low + 1 + hd, rows, 0, 1, 1 + b⟩ (.ref lt)))) := Tx.upd hmd13 (fun _ e => nomatch e) (fun _ _ e => nomatch e)
          have p17 : Po pa H (upd H13 md (.dK (mdK ⟨low, low + 1 + hd, rows, 0, 1, 1 + b⟩ (.ref lt)))) := (P12.trans p13).mut hmd0 nemd
          have hmd17 : upd H13 md (.dK (mdK ⟨low, low + 1 + hd, rows, 0, 1, 1 + b⟩ (.ref lt))) md = some (.dK (mdK ⟨low, low + 1 + hd, rows, 0, 1, 1 + b⟩ (.ref lt))) := upd_same
          have hlt17 : upd H13 md (.dK (mdK ⟨low, low + 1 + hd, rows, 0, 1, 1 + b⟩ (.ref lt))) lt = some (.lst acc) := by rw [upd_ne hltmd]; exact hlt13
          generalize upd H13 md (.dK (mdK ⟨low, low + 1 + hd, rows, 0, 1, 1 + b⟩ (.ref lt))) = H17 at t17 p17 hmd17 hlt17 ⊢
          refine ⟨_, rfl, ?_⟩
          exact fin _ H17 p17 hmd17 hlt17 (T12.trans ((Po.tx p12.2 p13).trans t17)) rfl (small_mk tab l0 (by omega) (by omega) (by omega) (.inr ⟨rfl, rfl, by omega, by omega⟩))
        · rw [decide_eq_false hw1]
          refine iteF ?_
          refine ⟨_, rfl, ?_⟩
          exact fin _ H12 P12 hmd12 hlt12 T12 rfl (small_mk tab l0 (by omega) (by omega) (by omega) (.inr ⟨rfl, rfl, by omega, by omega⟩))
def spMade (K : PySem.W.Frag) : Sp := fun vs H Q _ => ∃ (d : Addr) (m : Bk), vs = [.ref d] ∧ MdAt K H d m ∧ m.Ok ∧ ∀ b H', Ex H H' → BookAt K H' b m → Q (.ref b) H'
theorem sc_l_made : FnScope ["_law_m"] ["_law_m"] (defScope s_l_made) := ⟨rfl, rfl, rfl, by decide +kernel, rfl, by decide +kernel, by decide +kernel⟩
theorem ok_l_made (D : Df K mg "_law_made" s_l_made ["_law_m"]) (T : Txt K mg) (C_b_init : MakB P w K mg base 6 (spBInit K)) : Cal P w K mg base 8 "_law_made" (spMade K) := by
  refine cal_mk D sc_l_made (fun vs H Q E h => ?_) (fun f cdv A outer st H vs Q E hr h => ?_)
  · obtain ⟨d, m, rfl, _⟩ := h
    rfl
  · obtain ⟨d, m, rfl, hd, ok, k⟩ := h
    have nd := sc_l_made.nd
    have hu1 := hu_of hr
    have hu9 := hu9_of hr
    have hu64 := hu64_of hr
    have hu65 := hu65_of hr
    refine ⟨_, (pss_one (ps_ret (pe_mkB C_b_init hr (by decide) rfl (pa_cons (pe_dget hu1 (pv 0) pe_str (fun _ _ => rfl)) (pa_cons (pe_dget hu1 (pv 0) pe_str (fun _ _ => rfl)) (pa_cons (pe_dget hu1 (pv 0) pe_str (fun _ _ => rfl)) pa_nil))) (pk_cons (pe_dget hu1 (pv 0) pe_str (fun _ _ => rfl)) (pk_cons (pe_dget hu1 (pv 0) pe_str (fun _ _ => rfl)) (pk_cons (pe_dget hu1 (pv 0) pe_str (fun _ _ => rfl)) pk_nil)))))), ?_⟩
    -- slots: 0 _law_m
    refine ⟨_, rfl, dM_low hd ⟨_, rfl, dM_high hd ⟨_, rfl, dM_table hd fun tv ht => ⟨_, rfl, dM_fresh hd ⟨_, rfl, dM_times hd ⟨_, rfl, dM_bonus hd ?_⟩⟩⟩⟩⟩⟩
    refine ⟨rfl, rfl, fun x dx nx ndx hne => ?_⟩
    exact ⟨H, x, dx, m, tv, rfl, ok, ht, (Ex.new ndx).mut nx, nx, upd_same, fun H' e hb => ⟨rfl, k x H' e hb⟩⟩
end
end Tw
/-! The law's own games. -/
namespace Tw
open PySem PySem.Spec PyProof.Rows L2
section
variable {P : Program} {w : World} {K : PySem.W.Frag} {mg : Str → Option Value} {base : Heap}
def spCut (K : PySem.W.Frag) : Sp := fun vs H Q _ => ∃ (d : Addr) (m : Bk) (x : Int), vs = [.ref d, .int x] ∧ MdAt K H d m ∧ Q (.int (clamp m x)) H
theorem sc_l_cut : FnScope ["_law_m", "_law_rating"] ["_law_m", "_law_rating"] (defScope s_l_cut) := ⟨rfl, rfl, rfl, by decide +kernel, rfl, by decide +kernel, by decide +kernel⟩
theorem ok_l_cut (D : Df K mg "_law_cut" s_l_cut ["_law_m", "_law_rating"]) (T : Txt K mg) : Cal P w K mg base 1 "_law_cut" (spCut K) := by
  refine cal_mk D sc_l_cut (fun vs H Q E h => ?_) (fun f cdv A outer st H vs Q E hr h => ?_)
  · obtain ⟨d, m, x, rfl, _⟩ := h
    rfl
  · obtain ⟨d, m, x, rfl, hd, k⟩ := h
    have nd := sc_l_cut.nd
    have hu1 := hu_of hr
    have hu9 := hu9_of hr
    have hu64 := hu64_of hr
    have hu65 := hu65_of hr
    refine ⟨_, (pss_one (ps_ret (pe_callB (call_min2 rfl) (by rfl) T.min_ PyProof.Rows.boot_min (pa_cons (pe_callTy call_int1 (by rfl) T.int_ PyProof.Rows.boot_int (pa_cons (pe_dget hu1 (pv 0) pe_str (fun _ _ => rfl)) pa_nil)) (pa_cons (pe_callB (call_max2 rfl) (by rfl) T.max_ PyProof.Rows.boot_max (pa_cons (pe_callTy call_int1 (by rfl) T.int_ PyProof.Rows.boot_int (pa_cons (pe_dget hu1 (pv 0) pe_str (fun _ _ => rfl)) pa_nil)) (pa_cons (pe_callTy call_int1 (by rfl) T.int_ PyProof.Rows.boot_int (pa_cons (pv 1) pa_nil)) pa_nil))) pa_nil))))), ?_⟩
    -- slots: 0 _law_m, 1 _law_rating
    refine ⟨_, rfl, dM_high hd (.inl ⟨_, rfl, ?_⟩)⟩
    refine ⟨_, rfl, dM_low hd (.inl ⟨_, rfl, ?_⟩)⟩
    refine ⟨_, rfl, .inl ⟨_, rfl, ?_⟩⟩
    refine ⟨_, _, rfl, ?_⟩
    refine ⟨_, _, rfl, ?_⟩
    exact k
def spOne (K : PySem.W.Frag) : Sp := fun vs H Q _ => ∃ (d : Addr) (m : Bk) (x : V) (p : Pl) (c : Int) (wn : Bool), vs = [.ref d, x, .int c, .bl wn] ∧ MdAt K H d m ∧ m.Ok ∧ Dp K H x (dPl p) ∧ ∀ v H', Ex H H' → Dp K H' v (dPl (moved m p c wn)) → Q v H'
theorem sc_l_one : FnScope ["_law_m", "_law_spot", "_law_change", "_law_has_won", "_law_rating", "_law_phase", "_law_more"] ["_law_m", "_law_spot", "_law_change", "_law_has_won"] (defScope s_l_one) := ⟨rfl, rfl, rfl, by decide +kernel, rfl, by decide +kernel, by decide +kernel⟩
theorem ok_l_one (D : Df K mg "_law_one" s_l_one ["_law_m", "_law_spot", "_law_change", "_law_has_won"]) (T : Txt K mg) (C_l_cut : Cal P w K mg base 1 "_law_cut" (spCut K)) : Cal P w K mg base 2 "_law_one" (spOne K) := by
  refine cal_mk D sc_l_one (fun vs H Q E h => ?_) (fun f cdv A outer st H vs Q E hr h => ?_)
  · obtain ⟨d, m, x, p, c, wn, rfl, _⟩ := h
    rfl
  · obtain ⟨d, m, x, p, c, wn, rfl, hd, ok, hx, k⟩ := h
    have nd := sc_l_one.nd
    have hu1 := hu_of hr
    have hu9 := hu9_of hr
    have hu64 := hu64_of hr
    have hu65 := hu65_of hr
    refine ⟨_, (pss_cons (ps_asg (pv 1) (pg_tup rfl (pgs_cons (pg_name (i := 4) nd rfl (Or.inl rfl)) (pgs_cons (pg_name (i := 5) nd rfl (Or.inl rfl)) pgs_nil))))
    (pss_cons (ps_if (pt_cmpR op_gt (pe_dget hu1 (pv 0) pe_str (fun _ _ => rfl)) pe_int (nomark _))
    (pss_one (ps_ret (pe_tup (pa_cons (pe_c C_l_cut hr (by decide) rfl (pa_cons (pv 0) (pa_cons (pe_op op_add (pv 4) (pe_op op_mul (pv 2) (pe_ifExp (pt_cmpR op_gt (pv 5) pe_int (nomark _)) (pe_dget hu1 (pv 0) pe_str (fun _ _ => rfl)) pe_int))) pa_nil))) (pa_cons (pe_callB (call_max2 rfl) (by rfl) T.max_ PyProof.Rows.boot_max (pa_cons pe_int (pa_cons (pe_op op_sub (pv 5) pe_int) pa_nil))) pa_nil)))))
    pss_nil)
    (pss_cons (ps_set (i := 6) nd rfl (Or.inl rfl) (pe_ifExp (PW.pt (pw_and (pt_val (pv 3)) (pw_and1 (pt_cmpR op_gt (pv 5) pe_int (nomark _))))) (pe_dget hu1 (pv 0) pe_str (fun _ _ => rfl)) pe_int))
    (pss_one (ps_ret (pe_tup (pa_cons (pe_c C_l_cut hr (by decide) rfl (pa_cons (pv 0) (pa_cons (pe_op op_add (pe_op op_add (pv 4) (pv 2)) (pv 6)) pa_nil))) (pa_cons (pe_callTy call_int1 (by rfl) T.int_ PyProof.Rows.boot_int (pa_cons (pe_and (pv 3) (pe_one (pe_cmpR op_gt (pe_dget hu1 (pv 0) pe_str (fun _ _ => rfl)) pe_int (nomark _)))) pa_nil)) pa_nil)))))))), ?_⟩
    -- slots: 0 _law_m, 1 _law_spot, 2 _law_change, 3 _law_has_won, 4 _law_rating, 5 _law_phase, 6 _law_more
    obtain ⟨q, rfl, hq⟩ := dp_pl hx
    have t1 := ok.t1; have t3 := ok.t3
    refine ⟨_, rfl, q, [.int p.1, .int p.2], rfl, hq, rfl, _, _, rfl, _, _, rfl, rfl, ?_⟩
    refine ⟨_, rfl, dM_fresh hd ⟨_, _, rfl, rfl, _, rfl, ?_⟩⟩
    by_cases hf : 0 < m.fresh
    · rw [decide_eq_true hf]
      refine iteT ?_
      refine ⟨_, rfl, _, rfl, _, rfl, _, rfl, _, _, rfl, rfl, _, rfl, ?_⟩
      by_cases hp : 0 < p.2
      · rw [decide_eq_true hp]
        refine iteT ?_
        refine ⟨_, rfl, dM_times hd ⟨_, _, rfl, rfl, CMul_r (by omega) (by omega), ?_⟩⟩
        refine ⟨_, _, rfl, rfl, d, m, _, rfl, hd, ?_⟩
        refine ⟨_, rfl, _, _, rfl, rfl, _, _, rfl, ?_⟩
        refine ⟨(by show 2 ≤ sizeLine; decide), fun p8 n8 => ?_⟩
        obtain ⟨e8, hv⟩ := newT (K := K) (ds := [.int (clamp m (p.1 + c * m.times)), .int (if p.2 - 1 > 0 then p.2 - 1 else 0)]) n8 (.cons (.int _) (.cons (.int _) .nil))
        refine k _ _ e8 ?_
        unfold moved
        rw [if_pos hf, if_pos hp]
        exact hv
      · rw [decide_eq_false hp]
        refine iteF ?_
        refine ⟨_, _, rfl, rfl, .inr (by decide), ?_⟩
        refine ⟨_, _, rfl, rfl, d, m, _, rfl, hd, ?_⟩
        refine ⟨_, rfl, _, _, rfl, rfl, _, _, rfl, ?_⟩
        refine ⟨(by show 2 ≤ sizeLine; decide), fun p8 n8 => ?_⟩
        obtain ⟨e8, hv⟩ := newT (K := K) (ds := [.int (clamp m (p.1 + c * 1)), .int (if p.2 - 1 > 0 then p.2 - 1 else 0)]) n8 (.cons (.int _) (.cons (.int _) .nil))
        refine k _ _ e8 ?_
        unfold moved
        rw [if_pos hf, if_neg hp]
        rw [Int.mul_one] at hv
        rw [Int.mul_one]
        exact hv
    · rw [decide_eq_false hf]
      refine iteF ?_
      cases wn with
      | true =>
        refine ⟨_, rfl, true, rfl, iteT ⟨_, rfl, _, _, rfl, rfl, _, rfl, ?_⟩⟩
        by_cases hp : 0 < p.2
        · rw [decide_eq_true hp]
          refine iteT ⟨_, rfl, dM_bonus hd ?_⟩
          refine ⟨_, rfl, _, rfl, _, rfl, _, _, rfl, rfl, _, rfl, _, _, rfl, rfl, d, m, _, rfl, hd, ?_⟩
          refine ⟨_, rfl, true, rfl, iteT ?_⟩
          refine ⟨_, rfl, dM_bonus hd ⟨_, _, rfl, rfl, .inr ⟨_, rfl, ?_⟩⟩⟩
          refine ⟨(by show 2 ≤ sizeLine; decide), fun p8 n8 => ?_⟩
          obtain ⟨e8, hv⟩ := newT (K := K) (ds := [.int (clamp m (p.1 + c + m.bonus)), .int (if decide (0 < m.bonus) = true then 1 else 0)]) n8 (.cons (.int _) (.cons (.int _) .nil))
          refine k _ _ e8 ?_
          have e : moved m p c true = (clamp m (p.1 + c + m.bonus), if decide (0 < m.bonus) = true then 1 else 0) := by
            unfold moved; rw [if_neg hf, if_pos ⟨rfl, hp⟩, Int.add_assoc]; simp
          rw [e]
          exact hv
        · rw [decide_eq_false hp]
          refine iteF ?_
          refine ⟨_, rfl, _, rfl, _, rfl, _, _, rfl, rfl, _, rfl, _, _, rfl, rfl, d, m, _, rfl, hd, ?_⟩
          refine ⟨_, rfl, true, rfl, iteT ?_⟩
          refine ⟨_, rfl, dM_bonus hd ⟨_, _, rfl, rfl, .inr ⟨_, rfl, ?_⟩⟩⟩
          refine ⟨(by show 2 ≤ sizeLine; decide), fun p8 n8 => ?_⟩
          obtain ⟨e8, hv⟩ := newT (K := K) (ds := [.int (clamp m (p.1 + c + 0)), .int (if decide (0 < m.bonus) = true then 1 else 0)]) n8 (.cons (.int _) (.cons (.int _) .nil))
          refine k _ _ e8 ?_
          have e : moved m p c true = (clamp m (p.1 + c + 0), if decide (0 < m.bonus) = true then 1 else 0) := by
            unfold moved; rw [if_neg hf, if_neg (fun z => hp z.2), Int.add_zero]; simp
          rw [e]
          exact hv
      | false =>
        refine ⟨_, rfl, false, rfl, iteF (iteF ?_)⟩
        refine ⟨_, rfl, _, rfl, _, rfl, _, _, rfl, rfl, _, rfl, _, _, rfl, rfl, d, m, _, rfl, hd, ?_⟩
        refine ⟨_, rfl, false, rfl, iteF ?_⟩
        refine .inr ⟨_, rfl, ?_⟩
        refine ⟨(by show 2 ≤ sizeLine; decide), fun p8 n8 => ?_⟩
        obtain ⟨e8, hv⟩ := newT (K := K) (ds := [.int (clamp m (p.1 + c + 0)), .int (if false = true then 1 else 0)]) n8 (.cons (.int _) (.cons (.int _) .nil))
        refine k _ _ e8 ?_
        have e : moved m p c false = (clamp m (p.1 + c + 0), if false = true then 1 else 0) := by
          unfold moved; rw [if_neg hf, if_neg (fun z => nomatch z.1), Int.add_zero]; simp
        rw [e]
        exact hv
theorem vres_at (r : Res) : vRes[r.n]? = some (.str r.s) := by cases r <;> rfl
theorem vres_eq (r : Res) : eqV (.str r.s) (.str r.s) = true := by cases r <;> decide +kernel
theorem vres_first (r : Res) : ∀ (m : Nat) (z' : V), m < r.n → vRes[m]? = some z' → eqV z' (.str r.s) = false := by
  intro m z' hm hz
  cases r with
  | up => exact absurd hm (Nat.not_lt_zero _)
  | dr =>
    match m, hm, hz with
    | 0, _, hz => cases hz; decide +kernel
  | lo =>
    match m, hm, hz with
    | 0, _, hz => cases hz; decide +kernel
    | 1, _, hz => cases hz; decide +kernel
def spLGame (K : PySem.W.Frag) : Sp := fun vs H Q _ => ∃ (d : Addr) (m : Bk) (x y : V) (u l : Pl) (r : Res), vs = [.ref d, x, y, .str r.s] ∧ MdAt K H d m ∧ m.Ok ∧ Dp K H x (dPl u) ∧ Dp K H y (dPl l) ∧ l.1 ≤ u.1 ∧
  ∀ v H', Ex H H' → gmV K H' v (gm m u l r) → Q v H'
theorem sc_l_game : FnScope ["_law_m", "_law_upper", "_law_lower", "_law_result", "_law_row", "_law_entry_here"] ["_law_m", "_law_upper", "_law_lower", "_law_result"] (defScope s_l_game) := ⟨rfl, rfl, rfl, by decide +kernel, rfl, by decide +kernel, by decide +kernel⟩
theorem ok_l_game (D : Df K mg "_law_game" s_l_game ["_law_m", "_law_upper", "_law_lower", "_law_result"]) (T : Txt K mg) (C_l_one : Cal P w K mg base 2 "_law_one" (spOne K)) : Cal P w K mg base 3 "_law_game" (spLGame K) := by
  refine cal_mk D sc_l_game (fun vs H Q E h => ?_) (fun f cdv A outer st H vs Q E hr h => ?_)
  · obtain ⟨d, m, x, y, u, l, r, rfl, _⟩ := h
    rfl
  · obtain ⟨d, m, x, y, u, l, r, rfl, hd, ok, hx, hy, hle, k⟩ := h
    have nd := sc_l_game.nd
    have hu1 := hu_of hr
    have hu9 := hu9_of hr
    have hu64 := hu64_of hr
    have hu65 := hu65_of hr
    refine ⟨_, (pss_cons (ps_set (i := 4) nd rfl (Or.inl rfl) (pe_ix ix_list (pe_lc (own := [("_law_row", 4)]) rfl nd (pi_list (pe_dget hu1 (pv 0) pe_str (fun _ _ => rfl))) (blkOk_by (own := [("_law_row", 4)]) (N := ["_law_m", "_law_upper", "_law_lower", "_law_result", "_law_row", "_law_entry_here"]) (sc := defScope s_l_game) (by decide +kernel)) (fun _ _ _ _ _ => (pg_name (i := 4) nd rfl (Or.inl rfl) (hf := Or.inr rfl))) (fun _ _ _ _ _ => (pts_one (pt_cmpR op_le (pe_ix (r := rIxT K) ix_tup (pv 4) pe_int (fun _ _ => rfl)) (pe_op op_sub (pe_ix (r := rIxT K) ix_tup (pv 1) pe_int (fun _ _ => rfl)) (pe_ix (r := rIxT K) ix_tup (pv 2) pe_int (fun _ _ => rfl))) (nomark _)))) (fun _ _ _ _ _ => (pv 4))) (pe_un un_neg pe_int) (fun _ _ => rfl)))
    (pss_cons (ps_set (i := 5) nd rfl (Or.inl rfl) (pe_ix ix_tup (pv 4) (pe_op op_add pe_int (pe_bm PySem.F.plainAttrs_list PySem.F.slot_list_index PySem.F.type_list_index mt_index (pe_lst (pa_cons pe_str (pa_cons pe_str (pa_cons pe_str pa_nil)))) (pa_cons (pv 3) pa_nil))) (fun _ _ => rfl)))
    (pss_cons (ps_if (pt_cmpR op_isN (pv 5) pe_non (nomark _))
    (pss_one (ps_ret pe_non))
    pss_nil)
    (pss_one (ps_ret (pe_tup (pa_cons (pe_c C_l_one hr (by decide) rfl (pa_cons (pv 0) (pa_cons (pv 1) (pa_cons (pe_ix ix_tup (pv 5) pe_int (fun _ _ => rfl)) (pa_cons (pe_cmpR op_eq (pv 3) pe_str (nomark _)) pa_nil))))) (pa_cons (pe_c C_l_one hr (by decide) rfl (pa_cons (pv 0) (pa_cons (pv 2) (pa_cons (pe_ix ix_tup (pv 5) pe_int (fun _ _ => rfl)) (pa_cons (pe_cmpR op_eq (pv 3) pe_str (nomark _)) pa_nil))))) pa_nil)))))))), ?_⟩
    -- slots: 0 _law_m, 1 _law_upper, 2 _law_lower, 3 _law_result, 4 _law_row, 5 _law_entry_here
    obtain ⟨r0, rs, er, h0⟩ := ok.first
    obtain ⟨row, hrow, mrow⟩ := filter_head (d := u.1 - l.1) er h0 (by omega)
    have hgm : gm m u l r = (row.e r).map fun c => (moved m u c.1 (decide (r = .up)), moved m l c.2 (decide (r = .lo))) := by
      unfold gm
      rw [hrow]
    have h6 := ok.n6
    refine ⟨_, rfl, dM_table hd fun tv ht => ?_⟩
    obtain ⟨a, xs, rfl, hs, ha⟩ := dp_lst ht
    have hl : xs.length = m.rows.length := by rw [dpAll_len ha, List.length_map]
    refine ⟨a, rfl, ⟨xs, hs⟩, fun D nD => ?_⟩
    refine lc_list (K := K) (a := a) (xs := xs) (fun i H' => Ex H H' ∧ ∃ acc, H' D = some (.lst acc) ∧ DpAll K H' acc (((m.rows.take i).filter fun r => decide (r.b ≤ u.1 - l.1)).map dRow)) ⟨Ex.new nD, [], upd_same, .nil⟩ (fun i H' _ z => Same.seq z.1 hs) ?_ ?_
    · rintro i z H1 hz ⟨e, acc, hD, hacc⟩
      have hi : i < m.rows.length := by rw [← hl]; exact (List.getElem?_eq_some_iff.mp hz).1
      obtain ⟨dd, hdd, hxd⟩ := dpAll_at i z (DpAll.ex e _ _ ha) hz
      rw [List.getElem?_map, List.getElem?_eq_getElem hi] at hdd
      have edd : dRow m.rows[i] = dd := Option.some.inj hdd
      subst edd
      refine ⟨rfl, _, rfl, ixT (i := 0) hxd rfl fun v0 hv0 => ?_⟩
      cases dp_int hv0
      refine ⟨_, rfl, ixP0 (Dp.ex e _ _ hx) ⟨_, rfl, ixP0 (Dp.ex e _ _ hy) ⟨_, _, rfl, rfl, _, _, rfl, rfl, _, rfl, ?_⟩⟩⟩
      have step : (m.rows.take (i + 1)).filter (fun r => decide (r.b ≤ u.1 - l.1)) = (m.rows.take i).filter (fun r => decide (r.b ≤ u.1 - l.1)) ++ (if m.rows[i].b ≤ u.1 - l.1 then [m.rows[i]] else []) := by
        rw [List.take_succ_eq_append_getElem hi, List.filter_append]
        by_cases hb : m.rows[i].b ≤ u.1 - l.1
        · simp [hb]
        · simp [hb]
      refine ite2 (fun hb => ?_) (fun hb => ?_)
      · have hb' : m.rows[i].b ≤ u.1 - l.1 := of_decide_eq_true hb
        refine ⟨_, rfl, acc, hD, ?_, e.mut nD, acc ++ [z], upd_same, ?_⟩
        · have := dpAll_len hacc
          rw [List.length_map] at this
          have h2 := List.length_filter_le (fun r : Row => decide (r.b ≤ u.1 - l.1)) (m.rows.take i)
          rw [List.length_take] at h2
          exact Nat.lt_of_lt_of_le (show acc.length < 100 by omega) (by decide)
        · rw [step, if_pos hb', List.map_append]
          have hsub : noL.noLs (((m.rows.take i).filter fun r => decide (r.b ≤ u.1 - l.1)).map dRow) = true := noLs_mem fun z hz => by
            obtain ⟨q, _, rfl⟩ := List.mem_map.mp hz
            exact noL_Row q
          exact dpAll_snoc (DpAll.tx (tx_lst hD) _ _ hsub hacc) (Dp.tx (tx_lst hD) _ _ (noL_Row _) hxd)
      · have hb' : ¬ m.rows[i].b ≤ u.1 - l.1 := fun z => hb (decide_eq_true z)
        refine ⟨e, acc, hD, ?_⟩
        rw [step, if_neg hb', List.append_nil]
        exact hacc
    · rintro H1 ⟨e1, acc, hD, hacc⟩
      rw [hl, List.take_length] at hacc
      obtain ⟨v1, hv1, hvd⟩ := dpAll_last (d := dRow row) hacc (by
        rw [List.getLast?_map]
        unfold rowAt at hrow
        rw [hrow]
        rfl)
      refine ⟨_, rfl, D, acc, -1, v1, rfl, rfl, SqL.of hD, atI_back hv1, ?_⟩
      -- the entry
      refine ⟨_, rfl, ?_⟩
      refine ⟨(by show 3 ≤ sizeLine; decide), fun p2 n2 => ?_⟩
      have e2 : Ex H1 (upd H1 p2 (.lst [.str "upper", .str "draw", .str "lower"])) := Ex.new n2
      have hp2 : upd H1 p2 (.lst [.str "upper", .str "draw", .str "lower"]) p2 = some (.lst vRes) := upd_same
      generalize upd H1 p2 (.lst [.str "upper", .str "draw", .str "lower"]) = H2 at e2 hp2 ⊢
      refine ⟨.inl ⟨rfl, _, SqL.of hp2⟩, _, rfl, p2, vRes, .str r.s, r.n, .str r.s, rfl, rfl, SqL.of hp2, rfl, rfl, vres_at r, vres_eq r, vres_first r, ?_⟩
      refine ⟨_, _, rfl, rfl, ?_⟩
      have hvd2 := Dp.ex e2 _ _ hvd
      refine ixT (K := K) hvd2 (row_at_r row r) fun v5 hv5 => ?_
      have e12 := e1.trans e2
      have hd2 := hd.ex e12
      have hx2 := Dp.ex e12 _ _ hx
      have hy2 := Dp.ex e12 _ _ hy
      cases hc : row.e r with
      | none =>
        rw [hc] at hv5 hgm
        cases dp_non hv5
        refine ⟨_, rfl, rfl, _, rfl, iteT ?_⟩
        refine k _ H2 e12 ?_
        rw [hgm]
        rfl
      | some c =>
        rw [hc] at hv5 hgm
        obtain ⟨a5, rfl, s5⟩ := dp_pl hv5
        refine ⟨_, rfl, rfl, _, rfl, iteF ?_⟩
        refine ⟨_, rfl, _, rfl, _, rfl, ixP0 hv5 ⟨_, rfl, rfl, d, m, x, u, c.1, _, rfl, hd2, ok, hx2, fun v6 H6 e6 hv6 => ?_⟩⟩
        have hd6 := hd2.ex e6
        refine ⟨_, rfl, _, rfl, _, rfl, ixP1 (Dp.ex e6 _ _ hv5) ⟨_, rfl, rfl, d, m, y, l, c.2, _, rfl, hd6, ok, Dp.ex e6 _ _ hy2, fun v7 H7 e7 hv7 => ?_⟩⟩
        refine mkT (ds := [_, _]) (.cons (Dp.ex e7 _ _ hv6) (.cons hv7 .nil)) (by show 2 ≤ sizeLine; decide) fun v8 H8 e8 hv8 => ?_
        refine k v8 H8 ((e12.trans (e6.trans e7)).trans e8) ?_
        rw [hgm]
        rw [up_eq, lo_eq] at hv8
        exact hv8
end
end Tw
/-! The law's own search. Core Lean alone. -/
namespace Tw
/-- one result more: none: unlike -/
def lookS (m n : Bk) (u l : Pr) (acc : Option (List Pr)) (r : Res) : Option (List Pr) :=
  match acc, out m n u l r with
  | some ps, some none => some ps
  | some ps, some (some (a, b)) => some (ps ++ [a, b])
  | _, _ => none
def lookL (m n : Bk) (u l : Pr) (rs : List Res) : Option (List Pr) := rs.foldl (lookS m n u l) (some [])
theorem lookS_none (m n : Bk) (u l : Pr) (r : Res) : lookS m n u l none r = none := by unfold lookS; cases out m n u l r <;> rfl
theorem lookL_fold_none (m n : Bk) (u l : Pr) : ∀ rs : List Res, rs.foldl (lookS m n u l) none = none
  | [] => rfl
  | r :: rs => by rw [List.foldl_cons, lookS_none]; exact lookL_fold_none m n u l rs
theorem lookF_some {m n : Bk} {u l : Pr} : ∀ (rs : List Res) (ps qs : List Pr), rs.foldl (lookS m n u l) (some ps) = some qs →
    (∀ r ∈ rs, ∃ o, out m n u l r = some o ∧ ∀ a b, o = some (a, b) → a ∈ qs ∧ b ∈ qs) ∧ (∀ p ∈ ps, p ∈ qs) ∧ ∀ p ∈ qs, p ∈ ps ∨ ∃ r ∈ rs, ∃ a b, out m n u l r = some (some (a, b)) ∧ (p = a ∨ p = b)
  | [], ps, qs, h => by
    cases h
    exact ⟨fun r hr => (nomatch hr), fun p hp => hp, fun p hp => .inl hp⟩
  | r :: rs, ps, qs, h => by
    rw [List.foldl_cons] at h
    cases ho : out m n u l r with
    | none =>
      have e : lookS m n u l (some ps) r = none := by unfold lookS; rw [ho]
      rw [e, lookL_fold_none] at h
      cases h
    | some o =>
      cases o with
      | none =>
        have e : lookS m n u l (some ps) r = some ps := by unfold lookS; rw [ho]
        rw [e] at h
        obtain ⟨h1, h2, h3⟩ := lookF_some rs ps qs h
        refine ⟨fun r' hr' => ?_, h2, fun p hp => ?_⟩
        · rcases List.mem_cons.mp hr' with rfl | hr'
          · exact ⟨none, ho, fun a b e => nomatch e⟩
          · exact h1 r' hr'
        · rcases h3 p hp with h | ⟨r', hr', z⟩
          · exact .inl h
          · exact .inr ⟨r', List.mem_cons_of_mem _ hr', z⟩
      | some z =>
        obtain ⟨a, b⟩ := z
        have e : lookS m n u l (some ps) r = some (ps ++ [a, b]) := by unfold lookS; rw [ho]
        rw [e] at h
        obtain ⟨h1, h2, h3⟩ := lookF_some rs (ps ++ [a, b]) qs h
        refine ⟨fun r' hr' => ?_, fun p hp => h2 p (List.mem_append_left _ hp), fun p hp => ?_⟩
        · rcases List.mem_cons.mp hr' with rfl | hr'
          · refine ⟨_, ho, fun a' b' e => ?_⟩
            cases e
            exact ⟨h2 _ (by simp), h2 _ (by simp)⟩
          · exact h1 r' hr'
        · rcases h3 p hp with h | ⟨r', hr', z⟩
          · rcases List.mem_append.mp h with h | h
            · exact .inl h
            · refine .inr ⟨r, List.mem_cons_self, a, b, ho, ?_⟩
              simpa using h
          · exact .inr ⟨r', List.mem_cons_of_mem _ hr', z⟩
theorem lookL_none {m n : Bk} {u l : Pr} : ∀ (rs : List Res) (ps : List Pr), rs.foldl (lookS m n u l) (some ps) = none → ∃ r ∈ rs, out m n u l r = none
  | [], ps, h => nomatch h
  | r :: rs, ps, h => by
    rw [List.foldl_cons] at h
    cases ho : out m n u l r with
    | none => exact ⟨r, List.mem_cons_self, ho⟩
    | some o =>
      cases o with
      | none =>
        have e : lookS m n u l (some ps) r = some ps := by unfold lookS; rw [ho]
        rw [e] at h
        obtain ⟨r', h1, h2⟩ := lookL_none rs ps h
        exact ⟨r', List.mem_cons_of_mem _ h1, h2⟩
      | some z =>
        obtain ⟨a, b⟩ := z
        have e : lookS m n u l (some ps) r = some (ps ++ [a, b]) := by unfold lookS; rw [ho]
        rw [e] at h
        obtain ⟨r', h1, h2⟩ := lookL_none rs _ h
        exact ⟨r', List.mem_cons_of_mem _ h1, h2⟩
/-! ### the law's search: a list of pairs -/
def addL (ps : List Pr) (p : Pr) : List Pr := if p ∈ ps then ps else ps ++ [p]
theorem addL_mem (ps : List Pr) (p : Pr) : p ∈ addL ps p := by unfold addL; split <;> simp [*]
theorem addL_sub (ps : List Pr) (p : Pr) : ∃ more, addL ps p = ps ++ more := by
  unfold addL
  split
  · exact ⟨[], by simp⟩
  · exact ⟨[p], rfl⟩
theorem addL_nd {ps : List Pr} (h : ps.Nodup) (p : Pr) : (addL ps p).Nodup := by
  unfold addL
  split
  · exact h
  · rename_i hp
    rw [List.nodup_append]
    refine ⟨h, by simp, fun a ha b hb e => ?_⟩
    simp at hb
    subst hb; subst e
    exact hp ha
theorem addL_in {ps : List Pr} {p q : Pr} (h : q ∈ addL ps p) : q ∈ ps ∨ q = p := by
  unfold addL at h
  split at h
  · exact .inl h
  · rcases List.mem_append.mp h with h | h
    · exact .inl h
    · simp at h; exact .inr h
def PreL (a b : List Pr) : Prop := ∃ more, b = a ++ more
theorem PreL.refl (a : List Pr) : PreL a a := ⟨[], by simp⟩
theorem PreL.trans {a b c : List Pr} (h1 : PreL a b) (h2 : PreL b c) : PreL a c := by
  obtain ⟨x, rfl⟩ := h1
  obtain ⟨y, rfl⟩ := h2
  exact ⟨x ++ y, by rw [List.append_assoc]⟩
theorem PreL.mem {a b : List Pr} (h : PreL a b) {p : Pr} (hp : p ∈ a) : p ∈ b := by
  obtain ⟨x, rfl⟩ := h
  exact List.mem_append_left _ hp
theorem PreL.get {a b : List Pr} (h : PreL a b) {i : Nat} (hi : i < a.length) : b[i]? = a[i]? := by
  obtain ⟨x, rfl⟩ := h
  rw [List.getElem?_append_left hi]
theorem PreL.len {a b : List Pr} (h : PreL a b) : a.length ≤ b.length := by
  obtain ⟨x, rfl⟩ := h
  rw [List.length_append]; omega
/-- the pairs are reached, apart -/
structure LOk (m n : Bk) (r0 : Int) (ps : List Pr) : Prop where
  nd : ps.Nodup
  re : ∀ p ∈ ps, Reach m n r0 p
  st : startP m n r0 ∈ ps
theorem LOk.add {m n : Bk} {r0 : Int} {ps : List Pr} (h : LOk m n r0 ps) {p : Pr} (hp : Reach m n r0 p) : LOk m n r0 (addL ps p) :=
  ⟨addL_nd h.nd p, fun q hq => by
    rcases addL_in hq with hq | rfl
    · exact h.re q hq
    · exact hp, by obtain ⟨x, e⟩ := addL_sub ps p; rw [e]; exact List.mem_append_left _ h.st⟩
theorem Reach.ok {m n : Bk} (okm : m.Ok) (okn : n.Ok) {r0 : Int} (h0 : OkP m n (startP m n r0)) {p : Pr} (h : Reach m n r0 p) : OkP m n p := by
  induction h with
  | start => exact h0
  | one _ _ _ ho hu hl => exact (out_ok okm okn hu hl ho).1
  | two _ _ _ ho hu hl => exact (out_ok okm okn hu hl ho).2
theorem LOk.few {m n : Bk} (okm : m.Ok) (okn : n.Ok) {r0 : Int} (h0 : OkP m n (startP m n r0)) {ps : List Pr} (h : LOk m n r0 ps) : ps.length ≤ 45 := by
  have := nodup_sub h.nd fun p hp => mem_allPairs okm okn ((h.re p hp).ok okm okn h0)
  rw [allPairs_len] at this
  exact this
/-- u against l is seen -/
def SeenL (m n : Bk) (ps : List Pr) (u l : Pr) : Prop := l.1.1 ≤ u.1.1 → ∀ r, ∃ o, out m n u l r = some o ∧ ∀ a b, o = some (a, b) → a ∈ ps ∧ b ∈ ps
theorem SeenL.mono {m n : Bk} {ps qs : List Pr} {u l : Pr} (h : SeenL m n ps u l) (s : PreL ps qs) : SeenL m n qs u l := fun hle r => by
  obtain ⟨o, h1, h2⟩ := h hle r
  exact ⟨o, h1, fun a b e => ⟨s.mem (h2 a b e).1, s.mem (h2 a b e).2⟩⟩
/-- all of the first k against each other -/
def CloL (m n : Bk) (ps : List Pr) (k : Nat) : Prop := ∀ i j u l, i < k → j < k → ps[i]? = some u → ps[j]? = some l → SeenL m n ps u l
theorem CloL.noFault {m n : Bk} {r0 : Int} {ps : List Pr} (h : LOk m n r0 ps) (c : CloL m n ps ps.length) : NoFault m n r0 := by
  have seen : ∀ u l, u ∈ ps → l ∈ ps → SeenL m n ps u l := fun u l hu hl => by
    obtain ⟨i, hi, rfl⟩ := List.mem_iff_getElem.mp hu
    obtain ⟨j, hj, rfl⟩ := List.mem_iff_getElem.mp hl
    exact c i j _ _ hi hj (List.getElem?_eq_getElem hi) (List.getElem?_eq_getElem hj)
  have all : ∀ p, Reach m n r0 p → p ∈ ps := by
    intro p hp
    induction hp with
    | start => exact h.st
    | @one u l a b r _ _ hle ho hu hl =>
      obtain ⟨o, h1, h2⟩ := seen u l hu hl hle r
      rw [ho] at h1
      cases h1
      exact (h2 _ _ rfl).1
    | @two u l a b r _ _ hle ho hu hl =>
      obtain ⟨o, h1, h2⟩ := seen u l hu hl hle r
      rw [ho] at h1
      cases h1
      exact (h2 _ _ rfl).2
  intro u l r hu hl hle
  obtain ⟨o, h1, _⟩ := seen u l (all u hu) (all l hl) hle r
  rw [h1]
  exact fun e => nomatch e
/-! ### a book against itself, the books swapped -/
theorem out_self {m : Bk} {u l : Pr} {r : Res} (hu : u.1 = u.2) (hl : l.1 = l.2) : ∃ o, out m m u l r = some o ∧ ∀ a b, o = some (a, b) → a.1 = a.2 ∧ b.1 = b.2 := by
  unfold out
  rw [← hu, ← hl]
  cases e : gm m u.1 l.1 r with
  | none => exact ⟨none, rfl, fun a b e => nomatch e⟩
  | some z =>
    refine ⟨some ((z.1, z.1), (z.2, z.2)), if_pos ⟨rfl, rfl⟩, fun a b e => ?_⟩
    cases e
    exact ⟨rfl, rfl⟩
theorem noFault_self (m : Bk) (r0 : Int) : NoFault m m r0 := by
  have diag : ∀ p, Reach m m r0 p → p.1 = p.2 := by
    intro p hp
    induction hp with
    | start => rfl
    | @one u l a b r _ _ hle ho hu hl =>
      obtain ⟨o, h1, h2⟩ := out_self (m := m) (r := r) hu hl
      rw [ho] at h1
      cases h1
      exact (h2 _ _ rfl).1
    | @two u l a b r _ _ hle ho hu hl =>
      obtain ⟨o, h1, h2⟩ := out_self (m := m) (r := r) hu hl
      rw [ho] at h1
      cases h1
      exact (h2 _ _ rfl).2
  intro u l r hu hl hle
  obtain ⟨o, h1, _⟩ := out_self (m := m) (r := r) (diag u hu) (diag l hl)
  rw [h1]
  exact fun e => nomatch e
def sw (p : Pr) : Pr := (p.2, p.1)
theorem out_sw (m n : Bk) (u l : Pr) (r : Res) : out n m (sw u) (sw l) r = (out m n u l r).map fun o => o.map fun z => (sw z.1, sw z.2) := by
  unfold out sw
  dsimp only
  cases e1 : gm m u.1 l.1 r with
  | none => cases e2 : gm n u.2 l.2 r <;> rfl
  | some x =>
    cases e2 : gm n u.2 l.2 r with
    | none => rfl
    | some y =>
      dsimp only
      by_cases h : x.1.1 = y.1.1 ∧ x.2.1 = y.2.1
      · rw [if_pos h, if_pos ⟨h.1.symm, h.2.symm⟩]; rfl
      · rw [if_neg h, if_neg (fun z => h ⟨z.1.symm, z.2.symm⟩)]; rfl
theorem reach_sw {m n : Bk} (okm : m.Ok) (okn : n.Ok) {r0 : Int} (h0 : OkP m n (startP m n r0)) {p : Pr} (h : Reach m n r0 p) : Reach n m r0 (sw p) := by
  induction h with
  | start => exact .start
  | @one u l a b r hu hl hle ho iu il =>
    refine .one iu il ?_ (r := r) (b := sw b) (by rw [out_sw, ho]; rfl)
    show l.2.1 ≤ u.2.1
    rw [← (hu.ok okm okn h0).r, ← (hl.ok okm okn h0).r]
    exact hle
  | @two u l a b r hu hl hle ho iu il =>
    refine .two iu il ?_ (r := r) (a := sw a) (by rw [out_sw, ho]; rfl)
    show l.2.1 ≤ u.2.1
    rw [← (hu.ok okm okn h0).r, ← (hl.ok okm okn h0).r]
    exact hle
theorem noFault_sw {m n : Bk} (okm : m.Ok) (okn : n.Ok) {r0 : Int} (h0 : OkP m n (startP m n r0)) (h : NoFault n m r0) : NoFault m n r0 := by
  intro u l r hu hl hle he
  refine h (sw u) (sw l) r (reach_sw okm okn h0 hu) (reach_sw okm okn h0 hl) ?_ (by rw [out_sw, he]; rfl)
  show l.2.1 ≤ u.2.1
  rw [← (hu.ok okm okn h0).r, ← (hl.ok okm okn h0).r]
  exact hle
end Tw
/-! The law's look at two pairs. -/
namespace Tw
open PySem PySem.Spec PyProof.Rows L2
theorem out_gm_nn {m n : Bk} {u l : Pr} {r : Res} (h1 : gm m u.1 l.1 r = none) (h2 : gm n u.2 l.2 r = none) : out m n u l r = some none := by unfold out; rw [h1, h2]
theorem out_gm_ns {m n : Bk} {u l : Pr} {r : Res} {z : Pl × Pl} (h1 : gm m u.1 l.1 r = none) (h2 : gm n u.2 l.2 r = some z) : out m n u l r = none := by unfold out; rw [h1, h2]
theorem out_gm_sn {m n : Bk} {u l : Pr} {r : Res} {z : Pl × Pl} (h1 : gm m u.1 l.1 r = some z) (h2 : gm n u.2 l.2 r = none) : out m n u l r = none := by unfold out; rw [h1, h2]
theorem out_gm_ss {m n : Bk} {u l : Pr} {r : Res} {z1 z2 : Pl × Pl} (h1 : gm m u.1 l.1 r = some z1) (h2 : gm n u.2 l.2 r = some z2) : out m n u l r = if z1.1.1 = z2.1.1 ∧ z1.2.1 = z2.2.1 then some (some ((z1.1, z2.1), (z1.2, z2.2))) else none := by unfold out; rw [h1, h2]
theorem lookL_at {m n : Bk} {u l : Pr} {i : Nat} {r : Res} {ps : List Pr} (hr : allR[i]? = some r) (h : (allR.take i).foldl (lookS m n u l) (some []) = some ps) (ho : out m n u l r = none) : lookL m n u l allR = none := by
  have hi : i < allR.length := (List.getElem?_eq_some_iff.mp hr).1
  unfold lookL
  rw [← List.take_append_drop (i + 1) allR, List.foldl_append, take_foldl _ _ hr, h]
  have e : lookS m n u l (some ps) r = none := by unfold lookS; rw [ho]
  rw [e]
  exact lookL_fold_none _ _ _ _ _
section
variable {P : Program} {w : World} {K : PySem.W.Frag} {mg : Str → Option Value} {base : Heap}
def spLook2 (K : PySem.W.Frag) : Sp := fun vs H Q _ => ∃ (d e : Addr) (m n : Bk) (x y : V) (u l : Pr), vs = [.ref d, .ref e, x, y] ∧ MdAt K H d m ∧ m.Ok ∧ MdAt K H e n ∧ n.Ok ∧ Dp K H x (dPr u) ∧ Dp K H y (dPr l) ∧ l.1.1 ≤ u.1.1 ∧ l.2.1 ≤ u.2.1 ∧
  (lookL m n u l allR = none → ∀ H', Ex H H' → Q .non H') ∧ ∀ ps, lookL m n u l allR = some ps → ps.length ≤ 6 → ∀ a acc H', H a = none → Ex H H' → H' a = some (.lst acc) → DpAll K H' acc (ps.map dPr) → Q (.ref a) H'
theorem sc_l_look : FnScope ["_law_m", "_law_n", "_law_upper", "_law_lower", "_law_found", "_law_result", "_law_one_here", "_law_other_here", "_law_spot"] ["_law_m", "_law_n", "_law_upper", "_law_lower"] (defScope s_l_look) := ⟨rfl, rfl, rfl, by decide +kernel, rfl, by decide +kernel, by decide +kernel⟩
theorem ok_l_look (D : Df K mg "_law_look" s_l_look ["_law_m", "_law_n", "_law_upper", "_law_lower"]) (T : Txt K mg) (C_l_game : Cal P w K mg base 3 "_law_game" (spLGame K)) : Cal P w K mg base 4 "_law_look" (spLook2 K) := by
  refine cal_mk D sc_l_look (fun vs H Q E h => ?_) (fun f cdv A outer st H vs Q E hr h => ?_)
  · obtain ⟨d, e, m, n, x, y, u, l, rfl, _⟩ := h
    rfl
  · obtain ⟨d, e, m, n, x, y, u, l, rfl, hd, okm, he, okn, hx, hy, le1, le2, k1, k2⟩ := h
    have nd := sc_l_look.nd
    have hu1 := hu_of hr
    have hu9 := hu9_of hr
    have hu64 := hu64_of hr
    have hu65 := hu65_of hr
    refine ⟨_, (pss_cons (ps_set (i := 4) nd rfl (Or.inl rfl) (pe_lst pa_nil))
    (pss_cons (ps_for PassesOwn.never rfl (pi_list (pe_lst (pa_cons pe_str (pa_cons pe_str (pa_cons pe_str pa_nil))))) (pg_name (i := 5) nd rfl (Or.inl rfl))
    (pss_cons (ps_par (i := 6) (j := 7) rfl nd rfl rfl (by decide) rfl rfl (pa_cons (pe_c C_l_game hr (by decide) rfl (pa_cons (pv 0) (pa_cons (pe_ix ix_tup (pv 2) pe_int (fun _ _ => rfl)) (pa_cons (pe_ix ix_tup (pv 3) pe_int (fun _ _ => rfl)) (pa_cons (pv 5) pa_nil))))) (pa_cons (pe_c C_l_game hr (by decide) rfl (pa_cons (pv 1) (pa_cons (pe_ix ix_tup (pv 2) pe_int (fun _ _ => rfl)) (pa_cons (pe_ix ix_tup (pv 3) pe_int (fun _ _ => rfl)) (pa_cons (pv 5) pa_nil))))) pa_nil)) (by rfl))
    (pss_cons (ps_if (pt_cmpR op_ne (pe_cmpR op_isN (pv 6) pe_non (nomark _)) (pe_cmpR op_isN (pv 7) pe_non (nomark _)) (nomark _))
    (pss_one (ps_ret pe_non))
    pss_nil)
    (pss_one (ps_if (pt_cmpR op_notN (pv 6) pe_non (nomark _))
    (pss_cons (ps_if (pt_cmpR (op_neD hu64) (pe_lc (own := [("_law_spot", 8)]) rfl nd (pi_tup (pv 6)) (blkOk_by (own := [("_law_spot", 8)]) (N := ["_law_m", "_law_n", "_law_upper", "_law_lower", "_law_found", "_law_result", "_law_one_here", "_law_other_here", "_law_spot"]) (sc := defScope s_l_look) (by decide +kernel)) (fun _ _ _ _ _ => (pg_name (i := 8) nd rfl (Or.inl rfl) (hf := Or.inr rfl))) (fun _ _ _ _ _ => pts_nil) (fun _ _ _ _ _ => (pe_ix (r := rIxT K) ix_tup (pv 8) pe_int (fun _ _ => rfl)))) (pe_lc (own := [("_law_spot", 8)]) rfl nd (pi_tup (pv 7)) (blkOk_by (own := [("_law_spot", 8)]) (N := ["_law_m", "_law_n", "_law_upper", "_law_lower", "_law_found", "_law_result", "_law_one_here", "_law_other_here", "_law_spot"]) (sc := defScope s_l_look) (by decide +kernel)) (fun _ _ _ _ _ => (pg_name (i := 8) nd rfl (Or.inl rfl) (hf := Or.inr rfl))) (fun _ _ _ _ _ => pts_nil) (fun _ _ _ _ _ => (pe_ix (r := rIxT K) ix_tup (pv 8) pe_int (fun _ _ => rfl)))) (nomark _))
    (pss_one (ps_ret pe_non))
    pss_nil)
    (pss_one (ps_set (i := 4) nd rfl (Or.inl rfl) (pe_op op_cat (pv 4) (pe_lst (pa_cons (pe_tup (pa_cons (pe_ix ix_tup (pv 6) pe_int (fun _ _ => rfl)) (pa_cons (pe_ix ix_tup (pv 7) pe_int (fun _ _ => rfl)) pa_nil))) (pa_cons (pe_tup (pa_cons (pe_ix ix_tup (pv 6) pe_int (fun _ _ => rfl)) (pa_cons (pe_ix ix_tup (pv 7) pe_int (fun _ _ => rfl)) pa_nil))) pa_nil)))))))
    pss_nil)))))
    (pss_one (ps_ret (pv 4))))), ?_⟩
    -- slots: 0 _law_m, 1 _law_n, 2 _law_upper, 3 _law_lower, 4 _law_found, 5 _law_result, 6 _law_one_here, 7 _law_other_here, 8 _law_spot
    refine ⟨Nat.zero_le _, fun fa nfa => ?_⟩
    have e1 : Ex H (upd H fa (.lst [])) := Ex.new nfa
    have hfa : upd H fa (.lst []) fa = some (.lst []) := upd_same
    generalize upd H fa (.lst []) = H1 at e1 hfa ⊢
    refine ⟨(by show 3 ≤ sizeLine; decide), fun rl nrl => ?_⟩
    have e2 : Ex H1 (upd H1 rl (.lst [.str "upper", .str "draw", .str "lower"])) := Ex.new nrl
    have hrl : upd H1 rl (.lst [.str "upper", .str "draw", .str "lower"]) rl = some (.lst vRes) := upd_same
    have hfa2 := e2 _ _ hfa
    generalize upd H1 rl (.lst [.str "upper", .str "draw", .str "lower"]) = H2 at e2 hrl hfa2 ⊢
    have e12 := e1.trans e2
    refine ⟨rl, rfl, ⟨_, SqL.of hrl⟩, for_list (K := K) (a := rl) (xs := vRes) (fun i σ H' => Ex H2 H' ∧ ∃ ps fa acc v5 v6 v7, (allR.take i).foldl (lookS m n u l) (some []) = some ps ∧ ps.length ≤ 2 * i ∧ H fa = none ∧ H' fa = some (.lst acc) ∧ DpAll K H' acc (ps.map dPr) ∧
        σ = [some (.ref d), some (.ref e), some x, some y, some (.ref fa), v5, v6, v7, none])
      ⟨Ex.refl _, [], fa, [], none, none, none, rfl, by simp, nfa, hfa2, .nil, rfl⟩ (fun i σ H' _ z => SqL.of (z.1 _ _ hrl)) ?_ ?_⟩
    · rintro i rv σ H3 hrv ⟨e3, ps, fa, acc, v5, v6, v7, hps, hpl, nfa0, hfa3, hacc, rfl⟩
      obtain ⟨r, rfl, hr'⟩ := vRes_at hrv
      have e03 := e12.trans e3
      have hi3 : i < 3 := (List.getElem?_eq_some_iff.mp hr').1
      refine ⟨_, rfl, _, rfl, ixQ0 (Dp.ex e03 _ _ hx) fun w1 hw1 => ⟨_, rfl, ixQ0 (Dp.ex e03 _ _ hy) fun w2 hw2 => ⟨_, rfl, d, m, w1, w2, u.1, l.1, r, rfl, hd.ex e03, okm, hw1, hw2, le1, fun g1 H4 e4 hg1 => ?_⟩⟩⟩
      have e04 := e03.trans e4
      refine ⟨_, rfl, _, rfl, ixQ1 (Dp.ex e04 _ _ hx) fun w3 hw3 => ⟨_, rfl, ixQ1 (Dp.ex e04 _ _ hy) fun w4 hw4 => ⟨_, rfl, e, n, w3, w4, u.2, l.2, r, rfl, he.ex e04, okn, hw3, hw4, le2, fun g2 H5 e5 hg2 => ?_⟩⟩⟩
      have e05 := e04.trans e5
      have e35 := e4.trans e5
      have hg1 := gmV_ex hg1 e5
      have hfa5 := e35 _ _ hfa3
      have hacc5 := DpAll.ex e35 _ _ hacc
      refine ⟨_, _, rfl, ?_⟩
      cases h1 : gm m u.1 l.1 r with
      | none =>
        cases gmV_none hg1 h1
        cases h2 : gm n u.2 l.2 r with
        | none =>
          cases gmV_none hg2 h2
          refine ⟨_, rfl, rfl, _, rfl, rfl, rfl, _, rfl, iteF ?_⟩
          refine ⟨_, rfl, rfl, _, rfl, iteF ?_⟩
          refine ⟨e3.trans e35, ps, fa, acc, _, _, _, ?_, by omega, nfa0, hfa5, hacc5, rfl⟩
          rw [take_foldl _ _ hr', hps]
          unfold lookS
          rw [out_gm_nn h1 h2]
        | some z2 =>
          obtain ⟨a2, rfl, hz2⟩ := gmV_some hg2 h2
          refine ⟨_, rfl, rfl, _, rfl, rfl, rfl, _, rfl, iteT ?_⟩
          exact k1 (lookL_at hr' hps (out_gm_ns h1 h2)) H5 e05
      | some z1 =>
        obtain ⟨a1, rfl, hz1⟩ := gmV_some hg1 h1
        cases h2 : gm n u.2 l.2 r with
        | none =>
          cases gmV_none hg2 h2
          refine ⟨_, rfl, rfl, _, rfl, rfl, rfl, _, rfl, iteT ?_⟩
          exact k1 (lookL_at hr' hps (out_gm_sn h1 h2)) H5 e05
        | some z2 =>
          obtain ⟨a2, rfl, hz2⟩ := gmV_some hg2 h2
          refine ⟨_, rfl, rfl, _, rfl, rfl, rfl, _, rfl, iteF ?_⟩
          refine ⟨_, rfl, rfl, _, rfl, iteT ?_⟩
          -- the ratings
          obtain ⟨q1, xs1, eq1, hs1, hxs1⟩ := dp_tup hz1
          injection eq1 with eq1
          subst eq1
          obtain ⟨q2, xs2, eq2, hs2, hxs2⟩ := dp_tup hz2
          injection eq2 with eq2
          subst eq2
          have n1 : xs1.length = 2 := dpAll_len hxs1
          have n2 : xs2.length = 2 := dpAll_len hxs2
          refine ⟨_, rfl, a1, rfl, ⟨_, hs1⟩, fun D1 nD1 => ?_⟩
          refine lc_map (K := K) (H := H5) (xs := xs1) (ds := [.int z1.1.1, .int z1.2.1]) walk_tup (fun H' e => e.tx.sqT hs1) nD1 (by omega) n1.symm (by intro d hd; rcases List.mem_cons.mp hd with rfl | hd; rfl; rcases List.mem_cons.mp hd with rfl | hd; rfl; cases hd) (fun _ => rfl) (fun i v d H' k2 hv hd e kk => ?_) (fun H6 acc1 e6 hD1 hacc1 => ?_)
          · obtain ⟨dd, hdd, hvd⟩ := dpAll_at i v hxs1 hv
            match i, hdd, hd with
            | 0, hdd, hd =>
              cases hdd; cases hd
              exact ⟨_, rfl, ixP0 (Dp.ex e _ _ hvd) (kk _ _ (Ex.refl _) (.int _))⟩
            | 1, hdd, hd =>
              cases hdd; cases hd
              exact ⟨_, rfl, ixP0 (Dp.ex e _ _ hvd) (kk _ _ (Ex.refl _) (.int _))⟩
            | i + 2, hdd, hd => simp at hd
          refine ⟨_, rfl, a2, rfl, ⟨_, e6.tx.sqT hs2⟩, fun D2 nD2 => ?_⟩
          refine lc_map (K := K) (H := H6) (xs := xs2) (ds := [.int z2.1.1, .int z2.2.1]) walk_tup (fun H' e => (e6.trans e).tx.sqT hs2) nD2 (by omega) n2.symm (by intro d hd; rcases List.mem_cons.mp hd with rfl | hd; rfl; rcases List.mem_cons.mp hd with rfl | hd; rfl; cases hd) (fun _ => rfl) (fun i v d H' k2 hv hd e kk => ?_) (fun H7 acc2 e7 hD2 hacc2 => ?_)
          · obtain ⟨dd, hdd, hvd⟩ := dpAll_at i v hxs2 hv
            match i, hdd, hd with
            | 0, hdd, hd =>
              cases hdd; cases hd
              exact ⟨_, rfl, ixP0 (Dp.ex (e6.trans e) _ _ hvd) (kk _ _ (Ex.refl _) (.int _))⟩
            | 1, hdd, hd =>
              cases hdd; cases hd
              exact ⟨_, rfl, ixP0 (Dp.ex (e6.trans e) _ _ hvd) (kk _ _ (Ex.refl _) (.int _))⟩
            | i + 2, hdd, hd => simp at hd
          have e67 := e6.trans e7
          refine ⟨_, _, .lst (SqL.of (e7 _ _ hD1)) (DpAll.ex e7 _ _ hacc1), .lst (SqL.of hD2) hacc2, rfl, rfl, _, rfl, ?_⟩
          rw [ints_eqv]
          have ho := out_gm_ss h1 h2
          by_cases hlike : z1.1.1 = z2.1.1 ∧ z1.2.1 = z2.2.1
          · rw [decide_eq_true hlike]
            rw [if_pos hlike] at ho
            refine iteF ?_
            have hz17 := Dp.ex e67 _ _ hz1
            have hz27 := Dp.ex e67 _ _ hz2
            refine ⟨_, rfl, ?_⟩
            refine ⟨_, rfl, ixT (i := 0) hz17 rfl fun w5 hw5 => ⟨_, rfl, ixT (i := 0) hz27 rfl fun w6 hw6 => ⟨(by show 2 ≤ sizeLine; decide), fun p7 np7 => ?_⟩⟩⟩
            obtain ⟨e8, hq8⟩ := newT (K := K) (ds := [dPl z1.1, dPl z2.1]) np7 (.cons hw5 (.cons hw6 .nil))
            have hq8 : Dp K (upd H7 p7 (.tup [w5, w6])) (.ref p7) (dPr (z1.1, z2.1)) := hq8
            generalize upd H7 p7 (.tup [w5, w6]) = H8 at e8 hq8 ⊢
            refine ⟨_, rfl, ixT (i := 1) (Dp.ex e8 _ _ hz17) rfl fun w7 hw7 => ⟨_, rfl, ixT (i := 1) (Dp.ex e8 _ _ hz27) rfl fun w8 hw8 => ⟨(by show 2 ≤ sizeLine; decide), fun p9 np9 => ?_⟩⟩⟩
            obtain ⟨e9, hq9⟩ := newT (K := K) (ds := [dPl z1.2, dPl z2.2]) np9 (.cons hw7 (.cons hw8 .nil))
            have hq9 : Dp K (upd H8 p9 (.tup [w7, w8])) (.ref p9) (dPr (z1.2, z2.2)) := hq9
            generalize upd H8 p9 (.tup [w7, w8]) = H9 at e9 hq9 ⊢
            refine ⟨(by show 2 ≤ sizeLine; decide), fun p10 np10 => ?_⟩
            have e10 : Ex H9 (upd H9 p10 (.lst [.ref p7, .ref p9])) := Ex.new np10
            have hp10 : upd H9 p10 (.lst [.ref p7, .ref p9]) p10 = some (.lst [.ref p7, .ref p9]) := upd_same
            generalize upd H9 p10 (.lst [.ref p7, .ref p9]) = H10 at e10 hp10 ⊢
            have e710 := (e8.trans e9).trans e10
            have e510 := e67.trans e710
            have hal := dpAll_len hacc
            rw [List.length_map] at hal
            refine ⟨fa, p10, acc, _, rfl, rfl, e510 _ _ hfa5, hp10, Nat.le_trans (show acc.length + 2 ≤ 100 by omega) (by decide), fun fa2 nfa2 => ?_⟩
            have e11 : Ex H10 (upd H10 fa2 (.lst (acc ++ [.ref p7, .ref p9]))) := Ex.new nfa2
            refine ⟨e3.trans (e35.trans (e510.trans e11)), ps ++ [(z1.1, z2.1), (z1.2, z2.2)], fa2, _, _, _, _, ?_, by rw [List.length_append]; simp; omega, (e05.trans e510).back nfa2, upd_same, ?_, rfl⟩
            · rw [take_foldl _ _ hr', hps]
              unfold lookS
              rw [ho]
            · rw [List.map_append]
              have e911 := e10.trans e11
              exact dpAll_app (DpAll.ex (e510.trans e11) _ _ hacc5) (.cons (Dp.ex (e9.trans e911) _ _ hq8) (.cons (Dp.ex e911 _ _ hq9) .nil))
          · rw [decide_eq_false hlike]
            rw [if_neg hlike] at ho
            refine iteT ?_
            exact k1 (lookL_at hr' hps ho) H7 (e05.trans e67)
    · rintro σ H3 ⟨e3, ps, fa, acc, v5, v6, v7, hps, hpl, nfa0, hfa3, hacc, rfl⟩
      refine ⟨_, rfl, ?_⟩
      exact k2 ps hps (by simpa [vRes] using hpl) fa acc H3 nfa0 (e12.trans e3) hfa3 hacc
end
end Tw
/-! The law's search. -/
namespace Tw
open PySem PySem.Spec PyProof.Rows L2
theorem lay_pr (q : Pr) : PyData.canLay0 (dPr q) = true := by simp [dPr, dPl, PyData.canLay0, PyData.canLayAll0]
theorem depth_pr (q : Pr) : PyData.depth (dPr q) = 2 := by simp [dPr, dPl, PyData.depth, PyData.depthAll]
theorem shaped_pr (q : Pr) : SeqAt.shaped (dPr q) = true := by
  unfold SeqAt.shaped
  rw [lay_pr, depth_pr]
  rfl
theorem shaped_prs (ps : List Pr) : SeqAt.shaped (.list (ps.map dPr)) = true := by
  have h1 : PyData.canLayAll0 (ps.map dPr) = true := by
    induction ps with
    | nil => rfl
    | cons q ps ih => rw [List.map_cons, PyData.canLayAll0, lay_pr, ih]; rfl
  have h2 : PyData.depthAll (ps.map dPr) ≤ 2 := by
    clear h1
    induction ps with
    | nil => exact Nat.zero_le _
    | cons q ps ih => rw [List.map_cons, PyData.depthAll, depth_pr]; omega
  unfold SeqAt.shaped
  rw [PyData.canLay0, h1, PyData.depth, decide_eq_true (show PyData.depthAll (ps.map dPr) + 1 ≤ 64 by omega)]
  rfl
theorem eqv_pr (a b : Pr) : PyData.eqv (dPr a) (dPr b) = decide (a = b) := by
  obtain ⟨⟨a1, a2⟩, ⟨a3, a4⟩⟩ := a
  obtain ⟨⟨b1, b2⟩, ⟨b3, b4⟩⟩ := b
  rw [Bool.eq_iff_iff]
  simp only [dPr, dPl, PyData.eqv, PyData.eqvAll, Bool.and_true, Bool.and_eq_true, beq_iff_eq, decide_eq_true_eq, Prod.mk.injEq]
theorem any_pr (ps : List Pr) (q : Pr) : ((ps.map dPr).any fun z => PyData.eqv z (dPr q)) = decide (q ∈ ps) := by
  rw [Bool.eq_iff_iff, List.any_eq_true, decide_eq_true_eq]
  constructor
  · rintro ⟨z, hz, he⟩
    obtain ⟨p, hp, rfl⟩ := List.mem_map.mp hz
    rw [eqv_pr, decide_eq_true_eq] at he
    exact he ▸ hp
  · intro h
    exact ⟨dPr q, List.mem_map.mpr ⟨q, h, rfl⟩, by rw [eqv_pr]; exact decide_eq_true rfl⟩
theorem cutV_to (xs : List V) (k : Nat) : cutV xs none (some (k : Int)) = xs.take k := by
  unfold cutV
  rw [HT.sIx_none, HT.sIx_nat, List.drop_zero, Nat.sub_zero]
  by_cases h : k ≤ xs.length
  · rw [Nat.min_eq_left h]
  · rw [Nat.min_eq_right (by omega), List.take_of_length_le (Nat.le_refl _), List.take_of_length_le (by omega)]
/-! ### all but one list is kept -/
def Wx (pl : Addr) (H H' : Hp) : Prop := Ex (wo H pl) (wo H' pl)
theorem Wx.refl (pl : Addr) (H : Hp) : Wx pl H H := Ex.refl _
theorem Wx.trans {pl : Addr} {H H1 H2 : Hp} (a : Wx pl H H1) (b : Wx pl H1 H2) : Wx pl H H2 := Ex.trans a b
theorem Wx.ex {pl : Addr} {H H' : Hp} (e : Ex H H') : Wx pl H H' := wo_mono e
theorem Wx.upd {pl : Addr} {H : Hp} {o : HO} : Wx pl H (upd H pl o) := by unfold Wx; rw [wo_upd]; exact Ex.refl _
theorem Wx.keep {pl a : Addr} {H H' : Hp} {o : HO} (w : Wx pl H H') (h : H a = some o) (n : a ≠ pl) : H' a = some o := by
  have := w a o (by rw [wo_ne n]; exact h)
  rw [wo_ne n] at this
  exact this
theorem Wx.tx {pl : Addr} {H H' : Hp} {xs : List V} (w : Wx pl H H') (h : H pl = some (.lst xs)) : Tx H H' :=
  ⟨fun a ys z => w.keep z (fun e => by rw [e, h] at z; cases z), fun a o u z => w.keep z (fun e => by rw [e, h] at z; cases z)⟩
section
variable {P : Program} {w : World} {K : PySem.W.Frag} {mg : Str → Option Value} {base : Heap}
/-- the list of pairs as it stands -/
structure PsAt (K : PySem.W.Frag) (H : Hp) (pl : Addr) (m n : Bk) (r0 : Int) (pvs : List V) (ps : List Pr) : Prop where
  lst : H pl = some (.lst pvs)
  prs : DpAll K H pvs (ps.map dPr)
  ok : LOk m n r0 ps
theorem PsAt.ex {H H' : Hp} {pl : Addr} {m n : Bk} {r0 : Int} {pvs : List V} {ps : List Pr} (h : PsAt K H pl m n r0 pvs ps) (e : Ex H H') : PsAt K H' pl m n r0 pvs ps := ⟨e _ _ h.lst, DpAll.ex e _ _ h.prs, h.ok⟩
theorem PsAt.len {H : Hp} {pl : Addr} {m n : Bk} {r0 : Int} {pvs : List V} {ps : List Pr} (h : PsAt K H pl m n r0 pvs ps) : pvs.length = ps.length := by
  have := dpAll_len h.prs
  rw [List.length_map] at this
  exact this
def spFault (K : PySem.W.Frag) : Sp := fun vs H Q _ => ∃ (d e : Addr) (m n : Bk) (r0 : Int), vs = [.ref d, .ref e, .int r0] ∧ MdAt K H d m ∧ m.Ok ∧ MdAt K H e n ∧ n.Ok ∧ OkP m n (startP m n r0) ∧
  (NoFault m n r0 → ∀ H', Ex H H' → Q .non H') ∧ (¬ NoFault m n r0 → ∀ H', Ex H H' → Q (.bl true) H')
theorem sc_l_fault : FnScope ["_law_m", "_law_n", "_law_rating", "_law_pairs", "_law_at", "_law_turn", "_law_mate", "_law_upper", "_law_lower", "_law_told", "_law_pair"] ["_law_m", "_law_n", "_law_rating"] (defScope s_l_fault) := ⟨rfl, rfl, rfl, by decide +kernel, rfl, by decide +kernel, by decide +kernel⟩
theorem ok_l_fault (D : Df K mg "_law_fault" s_l_fault ["_law_m", "_law_n", "_law_rating"]) (T : Txt K mg) (C_l_look : Cal P w K mg base 4 "_law_look" (spLook2 K)) : Cal P w K mg base 5 "_law_fault" (spFault K) := by
  refine cal_mk D sc_l_fault (fun vs H Q E h => ?_) (fun f cdv A outer st H vs Q E hr h => ?_)
  · obtain ⟨d, e, m, n, r0, rfl, _⟩ := h
    rfl
  · obtain ⟨d, e, m, n, r0, rfl, hd, okm, he, okn, okS, k1, k2⟩ := h
    have nd := sc_l_fault.nd
    have hu1 := hu_of hr
    have hu9 := hu9_of hr
    have hu64 := hu64_of hr
    have hu65 := hu65_of hr
    refine ⟨_, (pss_cons (ps_par (i := 3) (j := 4) rfl nd rfl rfl (by decide) rfl rfl (pa_cons (pe_lst (pa_cons (pe_tup (pa_cons (pe_tup (pa_cons (pv 2) (pa_cons (pe_dget hu1 (pv 0) pe_str (fun _ _ => rfl)) pa_nil))) (pa_cons (pe_tup (pa_cons (pv 2) (pa_cons (pe_dget hu1 (pv 1) pe_str (fun _ _ => rfl)) pa_nil))) pa_nil))) pa_nil)) (pa_cons pe_int pa_nil)) (by rfl))
    (pss_cons (ps_for PassesOwn.never rfl (pi_range1 (by rfl) T.range_ (pa_cons pe_int pa_nil)) (pg_name (i := 5) nd rfl (Or.inl rfl))
    (pss_cons (ps_if (pt_cmpR op_eq (pv 4) (pe_callB call_len_seq (by rfl) T.len_ PySem.boot_len (pa_cons (pv 3) pa_nil)) (nomark _))
    (pss_one (ps_ret pe_non))
    pss_nil)
    (pss_cons (ps_for PassesOwn.never rfl (pi_list (pe_slice sl_list (pv 3) po_none (po_some (pe_op op_add (pv 4) pe_int)))) (pg_name (i := 6) nd rfl (Or.inl rfl))
    (pss_one (ps_for PassesOwn.never rfl (pi_list (pe_lst (pa_cons (pe_tup (pa_cons (pe_ix ix_list (pv 3) (pv 4) (fun _ _ => rfl)) (pa_cons (pv 6) pa_nil))) (pa_cons (pe_tup (pa_cons (pv 6) (pa_cons (pe_ix ix_list (pv 3) (pv 4) (fun _ _ => rfl)) pa_nil))) pa_nil)))) (pg_tup rfl (pgs_cons (pg_name (i := 7) nd rfl (Or.inl rfl)) (pgs_cons (pg_name (i := 8) nd rfl (Or.inl rfl)) pgs_nil)))
    (pss_one (ps_if (pt_cmpR op_ge (pe_ix ix_tup (pe_ix ix_tup (pv 7) pe_int (fun _ _ => rfl)) pe_int (fun _ _ => rfl)) (pe_ix ix_tup (pe_ix ix_tup (pv 8) pe_int (fun _ _ => rfl)) pe_int (fun _ _ => rfl)) (nomark _))
    (pss_cons (ps_set (i := 9) nd rfl (Or.inl rfl) (pe_c C_l_look hr (by decide) rfl (pa_cons (pv 0) (pa_cons (pv 1) (pa_cons (pv 7) (pa_cons (pv 8) pa_nil))))))
    (pss_cons (ps_if (pt_cmpR op_isN (pv 9) pe_non (nomark _))
    (pss_one (ps_ret pe_bl))
    pss_nil)
    (pss_one (ps_for PassesOwn.never rfl (pi_list (pv 9)) (pg_name (i := 10) nd rfl (Or.inl rfl))
    (pss_one (ps_if (pt_cmpR (op_notInD hu65) (pv 10) (pv 3) (by rfl))
    (pss_one (ps_expr (pe_bm PySem.F.plainAttrs_list PySem.F.slot_list_append PySem.F.type_list_append mt_append (pv 3) (pa_cons (pv 10) pa_nil))))
    pss_nil))))))
    pss_nil)))))
    (pss_one (ps_set (i := 4) nd rfl (Or.inl rfl) (pe_op op_add (pv 4) pe_int))))))
    (pss_one (ps_ret pe_non)))), ?_⟩
    -- slots: 0 _law_m, 1 _law_n, 2 _law_rating, 3 _law_pairs, 4 _law_at, 5 _law_turn, 6 _law_mate, 7 _law_upper, 8 _law_lower, 9 _law_told, 10 _law_pair
    refine ⟨_, rfl, _, rfl, dM_fresh hd ⟨(by show 2 ≤ sizeLine; decide), fun p1 n1 => ?_⟩⟩
    obtain ⟨e1, hv1⟩ := newT (K := K) (ds := [.int r0, .int m.fresh]) n1 (.cons (.int _) (.cons (.int _) .nil))
    generalize upd H p1 (.tup [.int r0, .int m.fresh]) = H1 at e1 hv1 ⊢
    refine ⟨_, rfl, _, rfl, dM_fresh (he.ex e1) ⟨(by show 2 ≤ sizeLine; decide), fun p2 n2 => ?_⟩⟩
    obtain ⟨e2, hv2⟩ := newT (K := K) (ds := [.int r0, .int n.fresh]) n2 (.cons (.int _) (.cons (.int _) .nil))
    generalize upd H1 p2 (.tup [.int r0, .int n.fresh]) = H2 at e2 hv2 ⊢
    refine ⟨(by show 2 ≤ sizeLine; decide), fun p3 n3 => ?_⟩
    obtain ⟨e3, hv3⟩ := newT (K := K) (ds := [dPl (r0, m.fresh), dPl (r0, n.fresh)]) n3 (.cons (Dp.ex e2 _ _ hv1) (.cons hv2 .nil))
    have hv3 : Dp K (upd H2 p3 (.tup [.ref p1, .ref p2])) (.ref p3) (dPr (startP m n r0)) := hv3
    generalize upd H2 p3 (.tup [.ref p1, .ref p2]) = H3 at e3 hv3 ⊢
    refine ⟨(by show 1 ≤ sizeLine; decide), fun pl npl => ?_⟩
    have e4 : Ex H3 (upd H3 pl (.lst [.ref p3])) := Ex.new npl
    have e03 := (e1.trans e2).trans e3
    have npl0 : H pl = none := e03.back npl
    have ps4 : PsAt K (upd H3 pl (.lst [.ref p3])) pl m n r0 [.ref p3] [startP m n r0] := ⟨upd_same, .cons (Dp.ex e4 _ _ hv3) .nil, ⟨by simp, fun p hp => by simp at hp; subst hp; exact .start, by simp⟩⟩
    generalize upd H3 pl (.lst [.ref p3]) = H4 at e4 ps4 ⊢
    have e04 := e03.trans e4
    -- back to the caller
    have back : ∀ H', Wx pl H4 H' → Ex H H' := fun H' wx a o h => wx.keep (e04 _ _ h) (fun z => by rw [z, npl0] at h; cases h)
    refine ⟨_, _, rfl, ?_⟩
    refine ⟨400, rfl, by omega, by omega, ?_⟩
    refine for_range (lo := 0) (n := (400 : Int).toNat) (fun i σ H' => Wx pl H4 H' ∧ (∃ pvs ps, PsAt K H' pl m n r0 pvs ps ∧ CloL m n ps i ∧ i ≤ ps.length) ∧ ∃ v5 v6 v7 v8 v9 v10, σ = [some (.ref d), some (.ref e), some (.int r0), some (.ref pl), some (.int (i : Int)), v5, v6, v7, v8, v9, v10])
      ⟨Wx.refl _ _, ⟨_, _, ps4, fun i j u l hi => absurd hi (Nat.not_lt_zero _), Nat.zero_le _⟩, _, _, _, _, _, _, rfl⟩ ?_ ?_
    · rintro i σ H5 hi ⟨w5, ⟨pvs, ps, pa, clo, hle⟩, v5, v6, v7, v8, v9, v10, rfl⟩
      have e05 := back H5 w5
      have few := pa.ok.few okm okn okS
      refine ⟨_, rfl, _, rfl, pl, pvs, rfl, .inl (SqL.of pa.lst), rfl, _, rfl, ?_⟩
      by_cases hend : V.int (i : Int) = V.int (pvs.length : Int)
      · rw [decide_eq_true hend]
        refine iteT ?_
        have hi2 : i = ps.length := by
          injection hend with hend
          have := pa.len
          omega
        subst hi2
        exact k1 (clo.noFault pa.ok) H5 e05
      · rw [decide_eq_false hend]
        refine iteF ?_
        have hi2 : i < ps.length := by
          have := pa.len
          rcases Nat.lt_or_ge i ps.length with h | h
          · exact h
          · exact (hend (by rw [show i = pvs.length by omega])).elim
        -- the mates
        refine ⟨_, rfl, _, rfl, _, _, rfl, rfl, _, rfl, pl, pvs, rfl, SqL.of pa.lst, fun ml nml => ?_⟩
        have hml : ml ≠ pl := fun z => by rw [z, pa.lst] at nml; cases nml
        rw [show ((i : Int) + 1) = ((i + 1 : Nat) : Int) by simp, cutV_to]
        have e6 : Ex H5 (upd H5 ml (.lst (pvs.take (i + 1)))) := Ex.new nml
        have hml6 : upd H5 ml (.lst (pvs.take (i + 1))) ml = some (.lst (pvs.take (i + 1))) := upd_same
        generalize upd H5 ml (.lst (pvs.take (i + 1))) = H6 at e6 hml6 ⊢
        have pa6 := pa.ex e6
        have pvl := pa.len
        have w6 := w5.trans (Wx.ex e6)
        refine ⟨ml, rfl, ⟨_, SqL.of hml6⟩, for_list (K := K) (a := ml) (xs := pvs.take (i + 1)) (fun j σ H' => Wx pl H6 H' ∧ (∃ pvs' ps', PsAt K H' pl m n r0 pvs' ps' ∧ PreL ps ps' ∧ ∀ j' u l, j' < j → ps[i]? = some u → ps[j']? = some l → SeenL m n ps' u l ∧ SeenL m n ps' l u) ∧
            ∃ v5 v6 v7 v8 v9 v10, σ = [some (.ref d), some (.ref e), some (.int r0), some (.ref pl), some (.int (i : Int)), v5, v6, v7, v8, v9, v10])
          ⟨Wx.refl _ _, ⟨pvs, ps, pa6, PreL.refl _, fun j' u l hj => absurd hj (Nat.not_lt_zero _)⟩, _, _, _, _, _, _, rfl⟩ (fun j σ H' _ z => SqL.of (z.1.keep hml6 hml)) ?_ ?_⟩
        · rintro j mv σ H7 hmv ⟨w7, ⟨pvs', ps', pa7, pre7, seen7⟩, v5, v6, v7, v8, v9, v10, rfl⟩
          have hj : j < i + 1 := by
            have := (List.getElem?_eq_some_iff.mp hmv).1
            rw [List.length_take] at this
            omega
          rw [List.getElem?_take_of_lt hj] at hmv
          have hji : j < ps.length := by omega
          obtain ⟨dm, hdm, dmv⟩ := dpAll_at j mv pa6.prs hmv
          rw [List.getElem?_map, List.getElem?_eq_getElem hji] at hdm
          have edm : dPr ps[j] = dm := Option.some.inj hdm
          subst edm
          have hai : ps'[i]? = some ps[i] := by rw [pre7.get hi2]; exact List.getElem?_eq_getElem hi2
          have hkey : (ps'.map dPr)[i]? = some (dPr ps[i]) := by rw [List.getElem?_map, hai]; rfl
          obtain ⟨av, hav, dav⟩ := dpAll_get i _ pa7.prs hkey
          have iav : atI pvs' (i : Int) = some av := atI_nat hav
          have dmv7 := Dp.pr (w7.tx pa6.lst) dmv
          -- the two orders
          refine ⟨_, rfl, _, rfl, pl, pvs', (i : Int), av, rfl, rfl, SqL.of pa7.lst, iav, ?_⟩
          refine ⟨_, rfl, (by show 2 ≤ sizeLine; decide), fun q1 nq1 => ?_⟩
          have e8 : Ex H7 (upd H7 q1 (.tup [av, mv])) := Ex.new nq1
          have hq1 : upd H7 q1 (.tup [av, mv]) q1 = some (.tup [av, mv]) := upd_same
          generalize upd H7 q1 (.tup [av, mv]) = H8 at e8 hq1 ⊢
          have pa8 := pa7.ex e8
          refine ⟨_, rfl, _, rfl, _, rfl, pl, pvs', (i : Int), av, rfl, rfl, SqL.of pa8.lst, iav, (by show 2 ≤ sizeLine; decide), fun q2 nq2 => ?_⟩
          have e9 : Ex H8 (upd H8 q2 (.tup [mv, av])) := Ex.new nq2
          have hq2 : upd H8 q2 (.tup [mv, av]) q2 = some (.tup [mv, av]) := upd_same
          generalize upd H8 q2 (.tup [mv, av]) = H9 at e9 hq2 ⊢
          refine ⟨(by show 2 ≤ sizeLine; decide), fun ql nql => ?_⟩
          have pa9 := pa8.ex e9
          have hql : ql ≠ pl := fun z => by rw [z, pa9.lst] at nql; cases nql
          have e10 : Ex H9 (upd H9 ql (.lst [.ref q1, .ref q2])) := Ex.new nql
          have hql10 : upd H9 ql (.lst [.ref q1, .ref q2]) ql = some (.lst [.ref q1, .ref q2]) := upd_same
          generalize upd H9 ql (.lst [.ref q1, .ref q2]) = H10 at e10 hql10 ⊢
          have pa10 := pa9.ex e10
          have e710 := (e8.trans e9).trans e10
          have hq1' := (e9.trans e10) _ _ hq1
          have hq2' := e10 _ _ hq2
          have da10 := Dp.ex e710 _ _ dav
          have dm10 := Dp.ex e710 _ _ dmv7
          have w10 := w7.trans (Wx.ex e710)
          have ra : Reach m n r0 ps[i] := pa.ok.re _ (List.getElem_mem hi2)
          have rm : Reach m n r0 ps[j] := pa.ok.re _ (List.getElem_mem hji)
          refine ⟨ql, rfl, ⟨_, SqL.of hql10⟩, for_list (K := K) (a := ql) (xs := [.ref q1, .ref q2]) (fun k σ H' => Wx pl H10 H' ∧ (∃ pvs'' ps'', PsAt K H' pl m n r0 pvs'' ps'' ∧ PreL ps' ps'' ∧ (1 ≤ k → SeenL m n ps'' ps[i] ps[j]) ∧ (2 ≤ k → SeenL m n ps'' ps[j] ps[i])) ∧
              ∃ v5 v6 v7 v8 v9 v10, σ = [some (.ref d), some (.ref e), some (.int r0), some (.ref pl), some (.int (i : Int)), v5, v6, v7, v8, v9, v10])
            ⟨Wx.refl _ _, ⟨pvs', ps', pa10, PreL.refl _, fun h => absurd h (by decide), fun h => absurd h (by decide)⟩, _, _, _, _, _, _, rfl⟩ (fun k σ H' _ z => SqL.of (z.1.keep hql10 hql)) ?_ ?_⟩
          · rintro k tv σ H11 htv ⟨w11, ⟨pvs2, ps2, pa11, pre11, s1, s2⟩, v5, v6, v7, v8, v9, v10, rfl⟩
            obtain ⟨qa, x, y, u, l, rfl, hqa, hx, hy, ru, rl, nextS⟩ : ∃ (qa : Addr) (x y : V) (u l : Pr), tv = .ref qa ∧ H10 qa = some (.tup [x, y]) ∧ Dp K H10 x (dPr u) ∧ Dp K H10 y (dPr l) ∧ Reach m n r0 u ∧ Reach m n r0 l ∧
                ∀ ps3, PreL ps2 ps3 → SeenL m n ps3 u l → (1 ≤ k + 1 → SeenL m n ps3 ps[i] ps[j]) ∧ (2 ≤ k + 1 → SeenL m n ps3 ps[j] ps[i]) := by
              match k, htv with
              | 0, htv => cases htv; exact ⟨q1, av, mv, _, _, rfl, hq1', da10, dm10, ra, rm, fun ps3 _ hs => ⟨fun _ => hs, fun h => absurd h (by decide)⟩⟩
              | 1, htv => cases htv; exact ⟨q2, mv, av, _, _, rfl, hq2', dm10, da10, rm, ra, fun ps3 pr hs => ⟨fun _ => (s1 (Nat.le_refl _)).mono pr, fun _ => hs⟩⟩
              | k + 2, htv => simp at htv
            have t11 := w11.tx pa10.lst
            have hx11 := Dp.pr t11 hx
            have hy11 := Dp.pr t11 hy
            refine ⟨qa, [x, y], rfl, SqT.of (t11.1 _ _ hqa), rfl, x, [y], rfl, y, [], rfl, rfl, ?_⟩
            refine ⟨_, rfl, ixQ0 hx11 fun w1 hw1 => ixP0 hw1 ⟨_, rfl, ixQ0 hy11 fun w2 hw2 => ixP0 hw2 ⟨_, _, rfl, rfl, _, rfl, ?_⟩⟩⟩
            by_cases hle : l.1.1 ≤ u.1.1
            · rw [decide_eq_true hle]
              refine iteT ?_
              have wall := (w6.trans w10).trans w11
              have eall := back H11 wall
              have hle2 : l.2.1 ≤ u.2.1 := by rw [← (rl.ok okm okn okS).r, ← (ru.ok okm okn okS).r]; exact hle
              refine ⟨_, rfl, _, rfl, _, rfl, _, rfl, d, e, m, n, x, y, u, l, rfl, hd.ex eall, okm, he.ex eall, okn, hx11, hy11, hle, hle2, fun hn H12 e12 => ?_, fun qs hqs hql6 ta acc H12 nta e12 hta hacc => ?_⟩
              · refine ⟨_, rfl, rfl, _, rfl, iteT ?_⟩
                obtain ⟨r, _, ho⟩ := lookL_none _ _ hn
                exact k2 (fun hno => hno u l r ru rl hle ho) H12 (eall.trans e12)
              · refine ⟨_, rfl, rfl, _, rfl, iteF ?_⟩
                have hta_pl : ta ≠ pl := fun z => by rw [z, pa11.lst] at nta; cases nta
                have pa12 := pa11.ex e12
                obtain ⟨f1, _, f3⟩ := lookF_some _ _ _ hqs
                have w12 := w11.trans (Wx.ex e12)
                have hal := dpAll_len hacc
                rw [List.length_map] at hal
                refine ⟨_, rfl, ta, rfl, ⟨_, SqL.of hta⟩, for_list (K := K) (a := ta) (xs := acc) (fun q σ H' => Wx pl H12 H' ∧ (∃ pvs3 ps3, PsAt K H' pl m n r0 pvs3 ps3 ∧ PreL ps2 ps3 ∧ ∀ z ∈ qs.take q, z ∈ ps3) ∧
                    ∃ v5 v6 v7 v8 v9 v10, σ = [some (.ref d), some (.ref e), some (.int r0), some (.ref pl), some (.int (i : Int)), v5, v6, v7, v8, v9, v10])
                  ⟨Wx.refl _ _, ⟨pvs2, ps2, pa12, PreL.refl _, fun z hz => (nomatch hz)⟩, _, _, _, _, _, _, rfl⟩ (fun q σ H' _ z => SqL.of (z.1.keep hta hta_pl)) ?_ ?_⟩
                · rintro q zv σ H13 hzv ⟨w13, ⟨pvs3, ps3, pa13, pre13, in13⟩, v5, v6, v7, v8, v9, v10, rfl⟩
                  have hq : q < qs.length := by have := (List.getElem?_eq_some_iff.mp hzv).1; omega
                  obtain ⟨dz, hdz, dzv⟩ := dpAll_at q zv hacc hzv
                  rw [List.getElem?_map, List.getElem?_eq_getElem hq] at hdz
                  have edz : dPr qs[q] = dz := Option.some.inj hdz
                  subst edz
                  have dz13 := Dp.pr (w13.tx pa12.lst) dzv
                  have rz : Reach m n r0 qs[q] := by
                    rcases f3 _ (List.getElem_mem hq) with h | ⟨r, _, a, b, ho, h | h⟩
                    · cases h
                    · rw [h]; exact .one ru rl hle ho
                    · rw [h]; exact .two ru rl hle ho
                  have few3 := pa13.ok.few okm okn okS
                  have len3 := pa13.len
                  refine ⟨_, rfl, _, rfl, dPr qs[q], ps3.map dPr, dz13, .lst (SqL.of pa13.lst) pa13.prs, shaped_pr _, shaped_prs _, _, rfl, ?_⟩
                  rw [any_pr]
                  have tk : ∀ z ∈ qs.take (q + 1), z ∈ qs.take q ∨ z = qs[q] := fun z hz => by
                    rw [List.take_succ_eq_append_getElem hq] at hz
                    rcases List.mem_append.mp hz with hz | hz
                    · exact .inl hz
                    · simp at hz; exact .inr hz
                  by_cases hm : qs[q] ∈ ps3
                  · rw [decide_eq_true hm]
                    refine iteF ?_
                    refine ⟨w13, ⟨pvs3, ps3, pa13, pre13, fun z hz => ?_⟩, _, _, _, _, _, _, rfl⟩
                    rcases tk z hz with hz | rfl
                    · exact in13 z hz
                    · exact hm
                  · rw [decide_eq_false hm]
                    refine iteT ?_
                    refine ⟨_, rfl, .inl ⟨rfl, _, SqL.of pa13.lst⟩, _, rfl, pl, pvs3, _, rfl, rfl, pa13.lst, Nat.lt_of_lt_of_le (show pvs3.length < 2000 by omega) (by decide), ?_⟩
                    have t14 : Tx H13 (upd H13 pl (.lst (pvs3 ++ [zv]))) := tx_lst pa13.lst
                    have eadd : addL ps3 qs[q] = ps3 ++ [qs[q]] := if_neg hm
                    refine ⟨w13.trans Wx.upd, ⟨_, ps3 ++ [qs[q]], ⟨upd_same, ?_, ?_⟩, pre13.trans ⟨_, rfl⟩, fun z hz => ?_⟩, _, _, _, _, _, _, rfl⟩
                    · rw [List.map_append]
                      exact dpAll_snoc (DpAll.tx t14 _ _ (noLs_prs _) pa13.prs) (Dp.pr t14 dz13)
                    · rw [← eadd]; exact pa13.ok.add rz
                    · rcases tk z hz with hz | rfl
                      · exact List.mem_append_left _ (in13 z hz)
                      · exact List.mem_append_right _ (by simp)
                · rintro σ H13 ⟨w13, ⟨pvs3, ps3, pa13, pre13, in13⟩, v5, v6, v7, v8, v9, v10, rfl⟩
                  rw [hal, List.take_of_length_le (Nat.le_refl _)] at in13
                  have := nextS ps3 pre13 (fun _ r => by
                    obtain ⟨o, h1, h2⟩ := f1 r (mem_allR r)
                    exact ⟨o, h1, fun a b eo => ⟨in13 _ (h2 a b eo).1, in13 _ (h2 a b eo).2⟩⟩)
                  exact ⟨w12.trans w13, ⟨pvs3, ps3, pa13, pre11.trans pre13, this.1, this.2⟩, _, _, _, _, _, _, rfl⟩
            · rw [decide_eq_false hle]
              refine iteF ?_
              have := nextS ps2 (PreL.refl _) (fun h => (hle h).elim)
              exact ⟨w11, ⟨pvs2, ps2, pa11, pre11, this.1, this.2⟩, _, _, _, _, _, _, rfl⟩
          · rintro σ H11 ⟨w11, ⟨pvs2, ps2, pa11, pre11, s1, s2⟩, v5, v6, v7, v8, v9, v10, rfl⟩
            refine ⟨w10.trans w11, ⟨pvs2, ps2, pa11, pre7.trans pre11, fun j' u l hj' hu hl => ?_⟩, _, _, _, _, _, _, rfl⟩
            by_cases hjj : j' < j
            · obtain ⟨z1, z2⟩ := seen7 j' u l hjj hu hl
              exact ⟨z1.mono pre11, z2.mono pre11⟩
            · have ejj : j' = j := by omega
              subst ejj
              rw [List.getElem?_eq_getElem hi2] at hu
              rw [List.getElem?_eq_getElem hji] at hl
              cases hu; cases hl
              exact ⟨s1 (by show 1 ≤ 2; decide), s2 (by show 2 ≤ 2; decide)⟩
        · rintro σ H7 ⟨w7, ⟨pvs', ps', pa7, pre7, seen7⟩, v5, v6, v7, v8, v9, v10, rfl⟩
          have len5 : (pvs.take (i + 1)).length = i + 1 := by rw [List.length_take]; omega
          rw [len5] at seen7
          refine ⟨_, rfl, _, _, rfl, rfl, ?_⟩
          refine ⟨w6.trans w7, ⟨pvs', ps', pa7, fun a b u l ha hb hu hl => ?_, by have := pre7.len; omega⟩, _, _, _, _, _, _, rfl⟩
          rw [pre7.get (by omega)] at hu hl
          by_cases h1 : a < i
          · by_cases h2 : b < i
            · exact (clo a b u l h1 h2 hu hl).mono pre7
            · have eb : b = i := by omega
              subst eb
              exact (seen7 a l u ha hl hu).2
          · have ea : a = i := by omega
            subst ea
            exact (seen7 b u l hb hu hl).1
    · rintro σ H5 ⟨w5, ⟨pvs, ps, pa, clo, hle⟩, v5, v6, v7, v8, v9, v10, rfl⟩
      have few := pa.ok.few okm okn okS
      have : (400 : Int).toNat = 400 := rfl
      omega
end
end Tw
/-! The law plays the games told again. -/
namespace Tw
open PySem PySem.Spec PyProof.Rows L2
theorem out_some {m n : Bk} {u l x y : Pr} {r : Res} (h : out m n u l r = some (some (x, y))) : ∃ z1 z2, gm m u.1 l.1 r = some z1 ∧ gm n u.2 l.2 r = some z2 ∧ (z1.1.1 = z2.1.1 ∧ z1.2.1 = z2.2.1) ∧ x = (z1.1, z2.1) ∧ y = (z1.2, z2.2) := by
  unfold out at h
  cases e1 : gm m u.1 l.1 r with
  | none => rw [e1] at h; cases e2 : gm n u.2 l.2 r <;> rw [e2] at h <;> cases h
  | some z1 =>
    rw [e1] at h
    cases e2 : gm n u.2 l.2 r with
    | none => rw [e2] at h; cases h
    | some z2 =>
      rw [e2] at h
      dsimp only at h
      by_cases hl : z1.1.1 = z2.1.1 ∧ z1.2.1 = z2.2.1
      · rw [if_pos hl] at h
        cases h
        exact ⟨z1, z2, rfl, rfl, hl, rfl, rfl⟩
      · rw [if_neg hl] at h; cases h
section
variable {P : Program} {w : World} {K : PySem.W.Frag} {mg : Str → Option Value} {base : Heap}
/-- where player j stands -/
def AtJ (K : PySem.W.Frag) (H : Hp) (kh kt : List (Key × V)) (p : Pr) (j : Int) : Prop := ∃ v w, valV kh (.inl j) = some v ∧ valV kt (.inl j) = some w ∧ Dp K H v (dPl p.1) ∧ Dp K H w (dPl p.2)
structure ShAt (K : PySem.W.Frag) (H H' : Hp) (hk tk : Addr) (m n : Bk) (r0 : Int) (kh kt : List (Key × V)) (st : Int → Pr) (c : Nat) : Prop where
  e : Ex H H'
  nh : H hk = none
  nt : H tk = none
  ne : hk ≠ tk
  ah : H' hk = some (.dK kh)
  at_ : H' tk = some (.dK kt)
  lh : kh.length ≤ c
  lt : kt.length ≤ c
  re : ∀ j, Reach m n r0 (st j)
  rel : ∀ j, (valV kh (.inl j) = none ∧ valV kt (.inl j) = none ∧ st j = startP m n r0) ∨ AtJ K H' kh kt (st j) j
theorem AtJ.tx {H H' : Hp} {kh kt : List (Key × V)} {p : Pr} {j : Int} (h : AtJ K H kh kt p j) (t : Tx H H') : AtJ K H' kh kt p j := by
  obtain ⟨v, w, h1, h2, h3, h4⟩ := h
  exact ⟨v, w, h1, h2, Dp.pl t h3, Dp.pl t h4⟩
theorem ShAt.ex {H H1 H2 : Hp} {hk tk : Addr} {m n : Bk} {r0 : Int} {kh kt : List (Key × V)} {st : Int → Pr} {c : Nat} (h : ShAt K H H1 hk tk m n r0 kh kt st c) (e : Ex H1 H2) : ShAt K H H2 hk tk m n r0 kh kt st c :=
  ⟨h.e.trans e, h.nh, h.nt, h.ne, e _ _ h.ah, e _ _ h.at_, h.lh, h.lt, h.re, fun j => (h.rel j).imp id fun z => z.tx e.tx⟩
/-- two places are put in for player j -/
theorem ShAt.put {H H1 : Hp} {hk tk : Addr} {m n : Bk} {r0 : Int} {kh kt : List (Key × V)} {st : Int → Pr} {c : Nat} (h : ShAt K H H1 hk tk m n r0 kh kt st c) {j : Int} {v w : V} {p : Pr} (hv : Dp K H1 v (dPl p.1)) (hw : Dp K H1 w (dPl p.2)) (hp : Reach m n r0 p) :
    Tx H1 (upd (upd H1 hk (.dK (putK kh (.inl j) v))) tk (.dK (putK kt (.inl j) w))) ∧
    ShAt K H (upd (upd H1 hk (.dK (putK kh (.inl j) v))) tk (.dK (putK kt (.inl j) w))) hk tk m n r0 (putK kh (.inl j) v) (putK kt (.inl j) w) (setP st j p) (c + 1) := by
  have t1 : Tx H1 (upd H1 hk (.dK (putK kh (.inl j) v))) := Tx.upd h.ah (fun _ e => nomatch e) (fun _ _ e => nomatch e)
  have at1 : upd H1 hk (.dK (putK kh (.inl j) v)) tk = some (.dK kt) := by rw [upd_ne h.ne.symm]; exact h.at_
  have t2 := t1.trans (Tx.upd (o := .dK (putK kt (.inl j) w)) at1 (fun _ e => nomatch e) (fun _ _ e => nomatch e))
  have lh := length_putK kh (.inl j) v
  have lt := length_putK kt (.inl j) w
  have := h.lh; have := h.lt
  refine ⟨t2, (h.e.mut h.nh).mut h.nt, h.nh, h.nt, h.ne, by rw [upd_ne h.ne, upd_same], upd_same, by omega, by omega, fun i => ?_, fun i => ?_⟩
  · unfold setP
    split
    · exact hp
    · exact h.re i
  · unfold setP
    by_cases hi : i = j
    · subst hi
      rw [if_pos rfl]
      exact .inr ⟨v, w, by rw [valV_put, if_pos rfl], by rw [valV_put, if_pos rfl], Dp.pl t2 hv, Dp.pl t2 hw⟩
    · rw [if_neg hi]
      have hne : ¬ (Sum.inl i : Key) = .inl j := fun z => hi (Sum.inl.inj z)
      rw [valV_put, valV_put, if_neg hne, if_neg hne]
      rcases h.rel i with ⟨a, b, c⟩ | ⟨x, y, a, b, c, d⟩
      · exact .inl ⟨a, b, c⟩
      · exact .inr ⟨x, y, by rw [valV_put, if_neg hne]; exact a, by rw [valV_put, if_neg hne]; exact b, Dp.pl t2 c, Dp.pl t2 d⟩
theorem ShAt.wk {H H1 : Hp} {hk tk : Addr} {m n : Bk} {r0 : Int} {kh kt : List (Key × V)} {st : Int → Pr} {c c' : Nat} (h : ShAt K H H1 hk tk m n r0 kh kt st c) (hc : c ≤ c') : ShAt K H H1 hk tk m n r0 kh kt st c' :=
  ⟨h.e, h.nh, h.nt, h.ne, h.ah, h.at_, Nat.le_trans h.lh hc, Nat.le_trans h.lt hc, h.re, h.rel⟩
theorem dgetI {H : Hp} {a : Addr} {kvs : List (Key × V)} {j : Int} {v : V} {Q : V → Prop} (h : H a = some (.dK kvs)) (e : valV kvs (.inl j) = some v) (q : Q v) : ∃ a' v, V.ref a = .ref a' ∧ DGet H a' (.int j) (some v) ∧ Q v :=
  ⟨a, v, rfl, by rw [← e]; exact DGet.k (k := .inl j) h, q⟩
def spShown (K : PySem.W.Frag) : Sp := fun vs H Q _ => ∃ (d e ta : Addr) (m n : Bk) (r0 : Int) (G : List Gm) (cc : Bool), vs = [.ref d, .ref e, .int r0, .ref ta] ∧ MdAt K H d m ∧ m.Ok ∧ MdAt K H e n ∧ n.Ok ∧ OkP m n (startP m n r0) ∧ Told m n r0 G cc ∧ G.length ≤ 30000 ∧
  Dp K H (.ref ta) (.tuple [.list (G.map dGm), .str (kindS cc)]) ∧ ∀ H', Ex H H' → Q (.bl true) H'
theorem sc_l_shown : FnScope ["_law_m", "_law_n", "_law_rating", "_law_told", "_law_games", "_law_kind", "_law_here", "_law_there", "_law_at", "_law_number", "_law_is_last", "_law_upper", "_law_lower", "_law_result", "_law_one_here", "_law_other_here", "_law_spot"] ["_law_m", "_law_n", "_law_rating", "_law_told"] (defScope s_l_shown) := ⟨rfl, rfl, rfl, by decide +kernel, rfl, by decide +kernel, by decide +kernel⟩
theorem ok_l_shown (D : Df K mg "_law_shown" s_l_shown ["_law_m", "_law_n", "_law_rating", "_law_told"]) (T : Txt K mg) (C_l_game : Cal P w K mg base 3 "_law_game" (spLGame K)) : Cal P w K mg base 4 "_law_shown" (spShown K) := by
  refine cal_mk D sc_l_shown (fun vs H Q E h => ?_) (fun f cdv A outer st0 H vs Q E hr h => ?_)
  · obtain ⟨d, e, ta, m, n, r0, G, cc, rfl, _⟩ := h
    rfl
  · obtain ⟨d, e, ta, m, n, r0, G, cc, rfl, hd, okm, he, okn, okS, told, few, hta, k⟩ := h
    have nd := sc_l_shown.nd
    have hu1 := hu_of hr
    have hu9 := hu9_of hr
    have hu64 := hu64_of hr
    have hu65 := hu65_of hr
    refine ⟨_, (pss_cons (ps_asg (pv 3) (pg_tup rfl (pgs_cons (pg_name (i := 4) nd rfl (Or.inl rfl)) (pgs_cons (pg_name (i := 5) nd rfl (Or.inl rfl)) pgs_nil))))
    (pss_cons (ps_par (i := 6) (j := 7) rfl nd rfl rfl (by decide) rfl rfl (pa_cons pe_dnewK (pa_cons pe_dnewK pa_nil)) (by rfl))
    (pss_cons (ps_for PassesOwn.never rfl (pi_range1 (by rfl) T.range_ (pa_cons (pe_callB call_len_seq (by rfl) T.len_ PySem.boot_len (pa_cons (pv 4) pa_nil)) pa_nil)) (pg_name (i := 8) nd rfl (Or.inl rfl))
    (pss_cons (ps_asg (pe_ix ix_list (pv 4) (pv 8) (fun _ _ => rfl)) (pg_tup rfl (pgs_cons (pg_name (i := 11) nd rfl (Or.inl rfl)) (pgs_cons (pg_name (i := 12) nd rfl (Or.inl rfl)) (pgs_cons (pg_name (i := 13) nd rfl (Or.inl rfl)) pgs_nil)))))
    (pss_cons (ps_for PassesOwn.never rfl (pi_list (pe_lst (pa_cons (pv 11) (pa_cons (pv 12) pa_nil)))) (pg_name (i := 9) nd rfl (Or.inl rfl))
    (pss_one (ps_if (pt_cmp (pc_dnotin hu1 (pv 9) (pv 6)))
    (pss_one (ps_asg (pe_tup (pa_cons (pe_tup (pa_cons (pv 2) (pa_cons (pe_dget hu1 (pv 0) pe_str (fun _ _ => rfl)) pa_nil))) (pa_cons (pe_tup (pa_cons (pv 2) (pa_cons (pe_dget hu1 (pv 1) pe_str (fun _ _ => rfl)) pa_nil))) pa_nil))) (pg_tup rfl (pgs_cons (pg_sub (pv 6) (pv 9) (set_dict hu1)) (pgs_cons (pg_sub (pv 7) (pv 9) (set_dict hu1)) pgs_nil)))))
    pss_nil)))
    (pss_cons (ps_if (PW.pt (pw_or (pt_cmpR op_eq (pv 11) (pv 12) (nomark _)) (pw_or (pt_cmpR op_lt (pe_ix ix_tup (pe_dget hu1 (pv 6) (pv 11) (fun _ _ => rfl)) pe_int (fun _ _ => rfl)) (pe_ix ix_tup (pe_dget hu1 (pv 6) (pv 12) (fun _ _ => rfl)) pe_int (fun _ _ => rfl)) (nomark _)) (pw_or1 (pt_cmpR op_lt (pe_ix ix_tup (pe_dget hu1 (pv 7) (pv 11) (fun _ _ => rfl)) pe_int (fun _ _ => rfl)) (pe_ix ix_tup (pe_dget hu1 (pv 7) (pv 12) (fun _ _ => rfl)) pe_int (fun _ _ => rfl)) (nomark _))))))
    (pss_one (ps_ret pe_bl))
    pss_nil)
    (pss_cons (ps_par (i := 14) (j := 15) rfl nd rfl rfl (by decide) rfl rfl (pa_cons (pe_c C_l_game hr (by decide) rfl (pa_cons (pv 0) (pa_cons (pe_dget hu1 (pv 6) (pv 11) (fun _ _ => rfl)) (pa_cons (pe_dget hu1 (pv 6) (pv 12) (fun _ _ => rfl)) (pa_cons (pv 13) pa_nil))))) (pa_cons (pe_c C_l_game hr (by decide) rfl (pa_cons (pv 1) (pa_cons (pe_dget hu1 (pv 7) (pv 11) (fun _ _ => rfl)) (pa_cons (pe_dget hu1 (pv 7) (pv 12) (fun _ _ => rfl)) (pa_cons (pv 13) pa_nil))))) pa_nil)) (by rfl))
    (pss_cons (ps_set (i := 10) nd rfl (Or.inl rfl) (pe_cmpR op_eq (pv 8) (pe_op op_sub (pe_callB call_len_seq (by rfl) T.len_ PySem.boot_len (pa_cons (pv 4) pa_nil)) pe_int) (nomark _)))
    (pss_cons (ps_if (pt_cmpR op_ne (pe_cmpR op_isN (pv 14) pe_non (nomark _)) (pe_cmpR op_isN (pv 15) pe_non (nomark _)) (nomark _))
    (pss_one (ps_ret (pe_and (pv 10) (pe_one (pe_cmpR op_eq (pv 5) pe_str (nomark _))))))
    pss_nil)
    (pss_cons (ps_if (pt_cmpR op_isN (pv 14) pe_non (nomark _))
    (pss_one (ps_ret pe_bl))
    pss_nil)
    (pss_cons (ps_if (pt_cmpR (op_neD hu64) (pe_lc (own := [("_law_spot", 16)]) rfl nd (pi_tup (pv 14)) (blkOk_by (own := [("_law_spot", 16)]) (N := ["_law_m", "_law_n", "_law_rating", "_law_told", "_law_games", "_law_kind", "_law_here", "_law_there", "_law_at", "_law_number", "_law_is_last", "_law_upper", "_law_lower", "_law_result", "_law_one_here", "_law_other_here", "_law_spot"]) (sc := defScope s_l_shown) (by decide +kernel)) (fun _ _ _ _ _ => (pg_name (i := 16) nd rfl (Or.inl rfl) (hf := Or.inr rfl))) (fun _ _ _ _ _ => pts_nil) (fun _ _ _ _ _ => (pe_ix (r := rIxT K) ix_tup (pv 16) pe_int (fun _ _ => rfl)))) (pe_lc (own := [("_law_spot", 16)]) rfl nd (pi_tup (pv 15)) (blkOk_by (own := [("_law_spot", 16)]) (N := ["_law_m", "_law_n", "_law_rating", "_law_told", "_law_games", "_law_kind", "_law_here", "_law_there", "_law_at", "_law_number", "_law_is_last", "_law_upper", "_law_lower", "_law_result", "_law_one_here", "_law_other_here", "_law_spot"]) (sc := defScope s_l_shown) (by decide +kernel)) (fun _ _ _ _ _ => (pg_name (i := 16) nd rfl (Or.inl rfl) (hf := Or.inr rfl))) (fun _ _ _ _ _ => pts_nil) (fun _ _ _ _ _ => (pe_ix (r := rIxT K) ix_tup (pv 16) pe_int (fun _ _ => rfl)))) (nomark _))
    (pss_one (ps_ret (pe_and (pv 10) (pe_one (pe_cmpR op_eq (pv 5) pe_str (nomark _))))))
    pss_nil)
    (pss_cons (ps_asg (pv 14) (pg_tup rfl (pgs_cons (pg_sub (pv 6) (pv 11) (set_dict hu1)) (pgs_cons (pg_sub (pv 6) (pv 12) (set_dict hu1)) pgs_nil))))
    (pss_one (ps_asg (pv 15) (pg_tup rfl (pgs_cons (pg_sub (pv 7) (pv 11) (set_dict hu1)) (pgs_cons (pg_sub (pv 7) (pv 12) (set_dict hu1)) pgs_nil)))))))))))))))
    (pss_one (ps_ret pe_bl))))), ?_⟩
    -- slots: 0 _law_m, 1 _law_n, 2 _law_rating, 3 _law_told, 4 _law_games, 5 _law_kind, 6 _law_here, 7 _law_there, 8 _law_at, 9 _law_number, 10 _law_is_last, 11 _law_upper, 12 _law_lower, 13 _law_result, 14 _law_one_here, 15 _law_other_here, 16 _law_spot
    obtain ⟨q, xs, eq, hs, ha⟩ := dp_tup hta
    injection eq with eq
    subst eq
    obtain ⟨gv, xr, rfl, hgv, ha⟩ := dp_cons ha
    obtain ⟨kv, xr, rfl, hkv, ha⟩ := dp_cons ha
    cases dp_nil ha
    cases dp_str hkv
    obtain ⟨ga, gvs, rfl, hgs, hga⟩ := dp_lst hgv
    obtain ⟨G0, a, b, r, st, rfl, run, hab, hle, hout, hcc⟩ := told
    have hgl : gvs.length = G0.length + 1 := by
      have := dpAll_len hga
      rw [List.length_map, List.length_append] at this
      exact this
    have g0few : G0.length < 30000 := by rw [List.length_append] at few; simp at few; omega
    refine ⟨_, rfl, ta, _, rfl, hs, rfl, _, _, rfl, _, _, rfl, rfl, ?_⟩
    refine fun hk nhk => ?_
    have e1 : Ex H (upd H hk (.dK [])) := Ex.new nhk
    have ahk : upd H hk (.dK []) hk = some (.dK []) := upd_same
    generalize upd H hk (.dK []) = H1 at e1 ahk ⊢
    refine fun tk ntk => ?_
    have e2 : Ex H1 (upd H1 tk (.dK [])) := Ex.new ntk
    have atk : upd H1 tk (.dK []) tk = some (.dK []) := upd_same
    have ahk2 := e2 _ _ ahk
    have hne : hk ≠ tk := fun z => by rw [z, ntk] at ahk; cases ahk
    generalize upd H1 tk (.dK []) = H2 at e2 atk ahk2 ⊢
    refine ⟨_, _, rfl, ?_⟩
    have sh0 : ShAt K H H2 hk tk m n r0 [] [] (fun _ => startP m n r0) 0 := ⟨e1.trans e2, nhk, e1.back ntk, hne, ahk2, atk, Nat.le_refl _, Nat.le_refl _, fun _ => .start, fun j => .inl ⟨rfl, rfl, rfl⟩⟩
    refine ⟨_, rfl, ga, gvs, rfl, .inl (Same.seq (e1.trans e2) hgs), ?_⟩
    refine ⟨_, rfl, by omega, by omega, ?_⟩
    have egn : ((gvs.length : Int)).toNat = G0.length + 1 := by omega
    rw [egn]
    refine for_range (lo := 0) (n := G0.length + 1) (fun i σ H' => (i ≤ G0.length ∧ ∃ sti kh kt, Run m n (G0.drop i) sti st ∧ ShAt K H H' hk tk m n r0 kh kt sti (4 * i)) ∧
        ∃ v8 v9 v10 v11 v12 v13 v14 v15, σ = [some (.ref d), some (.ref e), some (.int r0), some (.ref ta), some (.ref ga), some (.str (kindS cc)), some (.ref hk), some (.ref tk), v8, v9, v10, v11, v12, v13, v14, v15, none])
      ⟨⟨Nat.zero_le _, _, [], [], run, sh0⟩, _, _, _, _, _, _, _, _, rfl⟩ ?_ ?_
    · rintro i σ H3 hi ⟨⟨hi2, sti, kh, kt, run, sh⟩, v8, v9, v10, v11, v12, v13, v14, v15, rfl⟩
      -- the game
      have hG : ∃ ai bi ri, (G0 ++ [(a, b, r)])[i]? = some (ai, bi, ri) ∧ ai ≠ bi ∧ (sti bi).1.1 ≤ (sti ai).1.1 ∧
          ((i < G0.length ∧ ∃ x y, out m n (sti ai) (sti bi) ri = some (some (x, y)) ∧ Run m n (G0.drop (i + 1)) (setP (setP sti ai x) bi y) st) ∨ (i = G0.length ∧ ai = a ∧ bi = b ∧ ri = r ∧ sti = st)) := by
        by_cases hlt : i < G0.length
        · obtain ⟨ai, bi, ri, hgi⟩ : ∃ ai bi ri, G0[i] = (ai, bi, ri) := ⟨_, _, _, rfl⟩
          rw [List.drop_eq_getElem_cons hlt, hgi] at run
          cases run with
          | cons h1 h2 h3 h4 => exact ⟨ai, bi, ri, by rw [List.getElem?_append_left hlt, List.getElem?_eq_getElem hlt, hgi], h1, h2, .inl ⟨hlt, _, _, h3, h4⟩⟩
        · have ei : i = G0.length := by omega
          subst ei
          rw [List.drop_of_length_le (Nat.le_refl _)] at run
          cases run
          exact ⟨a, b, r, by simp, hab, hle, .inr ⟨rfl, rfl, rfl, rfl, rfl⟩⟩
      obtain ⟨ai, bi, ri, hgi, hne, hlei, hcase⟩ := hG
      obtain ⟨gv, hgv, dgv⟩ := dpAll_get i (dGm (ai, bi, ri)) (DpAll.ex sh.e _ _ hga) (by rw [List.getElem?_map, hgi]; rfl)
      refine ⟨_, rfl, _, rfl, ga, gvs, 0 + (i : Int), gv, rfl, rfl, Same.seq sh.e hgs, by rw [Int.zero_add]; exact atI_nat hgv, ?_⟩
      obtain ⟨gq, gxs, rfl, hgq, hgx⟩ := dp_tup dgv
      obtain ⟨x1, gr, rfl, hx1, hgx⟩ := dp_cons hgx
      obtain ⟨x2, gr, rfl, hx2, hgx⟩ := dp_cons hgx
      obtain ⟨x3, gr, rfl, hx3, hgx⟩ := dp_cons hgx
      cases dp_nil hgx
      cases dp_int hx1
      cases dp_int hx2
      cases dp_str hx3
      refine ⟨gq, _, rfl, hgq, rfl, _, _, rfl, _, _, rfl, _, _, rfl, rfl, ?_⟩
      -- both players stand
      refine ⟨_, rfl, _, rfl, (by show 2 ≤ sizeLine; decide), fun ll nll => ?_⟩
      have e4 : Ex H3 (upd H3 ll (.lst [.int ai, .int bi])) := Ex.new nll
      have hll : upd H3 ll (.lst [.int ai, .int bi]) ll = some (.lst [.int ai, .int bi]) := upd_same
      generalize upd H3 ll (.lst [.int ai, .int bi]) = H4 at e4 hll ⊢
      have sh4 := sh.ex e4
      refine ⟨ll, rfl, ⟨_, SqL.of hll⟩, for_list (K := K) (a := ll) (xs := [.int ai, .int bi]) (fun j σ H' => (∃ kh kt, ShAt K H H' hk tk m n r0 kh kt sti (4 * i + j) ∧ H' ll = some (.lst [.int ai, .int bi]) ∧ (1 ≤ j → AtJ K H' kh kt (sti ai) ai) ∧ (2 ≤ j → AtJ K H' kh kt (sti bi) bi)) ∧
          ∃ v9, σ = [some (.ref d), some (.ref e), some (.int r0), some (.ref ta), some (.ref ga), some (.str (kindS cc)), some (.ref hk), some (.ref tk), some (.int (0 + (i : Int))), v9, v10, some (.int ai), some (.int bi), some (.str ri.s), v14, v15, none])
        ⟨⟨kh, kt, sh4, hll, fun h => absurd h (by decide), fun h => absurd h (by decide)⟩, _, rfl⟩ (fun j σ H' _ z => by obtain ⟨⟨_, _, _, z, _⟩, _⟩ := z; exact SqL.of z) ?_ ?_⟩
      · rintro j jv σ H5 hjv ⟨⟨kh, kt, sh5, hll5, s1, s2⟩, v9, rfl⟩
        obtain ⟨no, rfl, hno⟩ : ∃ no : Int, jv = .int no ∧ ∀ (kh' kt' : List (Key × V)) (H' : Hp), AtJ K H' kh' kt' (sti no) no → (∀ p j', AtJ K H5 kh kt p j' → j' ≠ no → AtJ K H' kh' kt' p j') → (1 ≤ j + 1 → AtJ K H' kh' kt' (sti ai) ai) ∧ (2 ≤ j + 1 → AtJ K H' kh' kt' (sti bi) bi) := by
          match j, hjv with
          | 0, hjv => cases hjv; exact ⟨ai, rfl, fun _ _ _ h _ => ⟨fun _ => h, fun h => absurd h (by decide)⟩⟩
          | 1, hjv => cases hjv; exact ⟨bi, rfl, fun _ _ _ h k => ⟨fun _ => k _ _ (s1 (Nat.le_refl _)) hne, fun _ => h⟩⟩
          | j + 2, hjv => simp at hjv
        refine ⟨_, rfl, _, rfl, hk, valV kh (.inl no), rfl, DGet.k (k := .inl no) sh5.ah, _, rfl, ?_⟩
        rcases sh5.rel no with ⟨nh, nt, est⟩ | hat
        · rw [nh]
          refine iteT ?_
          refine ⟨_, rfl, _, rfl, dM_fresh (hd.ex sh5.e) ⟨(by show 2 ≤ sizeLine; decide), fun q1 m1 => ?_⟩⟩
          obtain ⟨f1, dq1⟩ := newT (K := K) (ds := [.int r0, .int m.fresh]) m1 (.cons (.int _) (.cons (.int _) .nil))
          have dq1 : Dp K (upd H5 q1 (.tup [.int r0, .int m.fresh])) (.ref q1) (dPl (startP m n r0).1) := dq1
          generalize upd H5 q1 (.tup [.int r0, .int m.fresh]) = H6 at f1 dq1 ⊢
          have sh6 := sh5.ex f1
          refine ⟨_, rfl, _, rfl, dM_fresh (he.ex sh6.e) ⟨(by show 2 ≤ sizeLine; decide), fun q2 m2 => ?_⟩⟩
          obtain ⟨f2, dq2⟩ := newT (K := K) (ds := [.int r0, .int n.fresh]) m2 (.cons (.int _) (.cons (.int _) .nil))
          have dq2 : Dp K (upd H6 q2 (.tup [.int r0, .int n.fresh])) (.ref q2) (dPl (startP m n r0).2) := dq2
          generalize upd H6 q2 (.tup [.int r0, .int n.fresh]) = H7 at f2 dq2 ⊢
          refine ⟨(by show 2 ≤ sizeLine; decide), fun q3 m3 => ?_⟩
          have f3 : Ex H7 (upd H7 q3 (.tup [.ref q1, .ref q2])) := Ex.new m3
          have hq3 : upd H7 q3 (.tup [.ref q1, .ref q2]) q3 = some (.tup [.ref q1, .ref q2]) := upd_same
          generalize upd H7 q3 (.tup [.ref q1, .ref q2]) = H8 at f3 hq3 ⊢
          have f13 := (f1.trans f2).trans f3
          have sh8 := sh5.ex f13
          have d1 := Dp.ex (f2.trans f3) _ _ dq1
          have d2 := Dp.ex f3 _ _ dq2
          have lh := sh8.lh; have lt := sh8.lt
          have j2 : j < 2 := (List.getElem?_eq_some_iff.mp hjv).1
          obtain ⟨t9, sh9⟩ := sh8.put (j := no) d1 d2 .start
          have hll9 : upd (upd H8 hk (.dK (putK kh (.inl no) (.ref q1)))) tk (.dK (putK kt (.inl no) (.ref q2))) ll = some (.lst [.int ai, .int bi]) := by
            have hll8 := f13 _ _ hll5
            rw [upd_ne (ne_of hll8 sh8.at_ (fun e => nomatch e)), upd_ne (ne_of hll8 sh8.ah (fun e => nomatch e))]
            exact hll8
          have est2 : setP sti no (startP m n r0) = sti := by
            funext i'
            unfold setP
            by_cases h : i' = no
            · rw [if_pos h, h, est]
            · rw [if_neg h]
          have hat9 := sh9.rel no
          rw [est2] at sh9
          have at9 : AtJ K (upd (upd H8 hk (.dK (putK kh (.inl no) (.ref q1)))) tk (.dK (putK kt (.inl no) (.ref q2)))) (putK kh (.inl no) (.ref q1)) (putK kt (.inl no) (.ref q2)) (sti no) no := by
            rw [est]
            exact ⟨_, _, by rw [valV_put, if_pos rfl], by rw [valV_put, if_pos rfl], Dp.pl t9 d1, Dp.pl t9 d2⟩
          have keep9 : ∀ p j', AtJ K H5 kh kt p j' → j' ≠ no → AtJ K (upd (upd H8 hk (.dK (putK kh (.inl no) (.ref q1)))) tk (.dK (putK kt (.inl no) (.ref q2)))) (putK kh (.inl no) (.ref q1)) (putK kt (.inl no) (.ref q2)) p j' := by
            rintro p j' ⟨x, y, h1, h2, h3, h4⟩ hj'
            have hne' : ¬ (Sum.inl j' : Key) = .inl no := fun z => hj' (Sum.inl.inj z)
            have tt := f13.tx.trans t9
            exact ⟨x, y, by rw [valV_put, if_neg hne']; exact h1, by rw [valV_put, if_neg hne']; exact h2, Dp.pl tt h3, Dp.pl tt h4⟩
          have hfin := hno _ _ _ at9 keep9
          refine ⟨q3, _, rfl, SqT.of hq3, rfl, _, _, rfl, _, rfl, _, rfl, hk, _, rfl, DPut.k (k := .inl no) sh8.ah (Nat.lt_of_lt_of_le (show kh.length < 1000000 by omega) (by decide)), ?_⟩
          refine ⟨_, _, rfl, _, rfl, _, rfl, tk, _, rfl, DPut.k (k := .inl no) (kvs := kt) (by rw [upd_ne sh8.ne.symm]; exact sh8.at_) (Nat.lt_of_lt_of_le (show kt.length < 1000000 by omega) (by decide)), rfl, ?_⟩
          exact ⟨⟨_, _, sh9.wk (by omega), hll9, hfin.1, hfin.2⟩, _, rfl⟩
        · obtain ⟨v, w', h1, h2, h3, h4⟩ := id hat
          rw [h1]
          refine iteF ?_
          have hfin := hno kh kt H5 hat (fun p j' h _ => h)
          exact ⟨⟨kh, kt, sh5.wk (by omega), hll5, hfin.1, hfin.2⟩, _, rfl⟩
      · rintro σ H5 ⟨⟨kh, kt, sh5, hll5, s1, s2⟩, v9, rfl⟩
        have sa := s1 (by show 1 ≤ 2; decide)
        have sb := s2 (by show 2 ≤ 2; decide)
        obtain ⟨va, wa, ka1, ka2, da1, da2⟩ := sa
        obtain ⟨vb, wb, kb1, kb2, db1, db2⟩ := sb
        have oka := (sh5.re ai).ok okm okn okS
        have okb := (sh5.re bi).ok okm okn okS
        have hlei2 : (sti bi).2.1 ≤ (sti ai).2.1 := by rw [← okb.r, ← oka.r]; exact hlei
        refine ⟨_, rfl, _, rfl, rfl, _, rfl, ifF (decN (fun z => hne (V.int.inj z))) ?_⟩
        refine ⟨_, rfl, _, rfl, dgetI sh5.ah ka1 (ixP0 da1 ⟨_, rfl, _, rfl, dgetI sh5.ah kb1 (ixP0 db1 ⟨_, _, rfl, rfl, _, rfl, ?_⟩)⟩)⟩
        refine ifF (decide_eq_false (by omega)) ?_
        refine ⟨_, rfl, _, rfl, dgetI sh5.at_ ka2 (ixP0 da2 ⟨_, rfl, _, rfl, dgetI sh5.at_ kb2 (ixP0 db2 ⟨_, _, rfl, rfl, _, rfl, ?_⟩)⟩)⟩
        refine ifF (decide_eq_false (by omega)) ?_
        refine ⟨_, rfl, _, rfl, _, rfl, dgetI sh5.ah ka1 ⟨_, rfl, _, rfl, dgetI sh5.ah kb1 ⟨_, rfl, d, m, va, vb, (sti ai).1, (sti bi).1, ri, rfl, hd.ex sh5.e, okm, da1, db1, hlei, fun g1 H6 e6 hg1 => ?_⟩⟩⟩
        have sh6 := sh5.ex e6
        refine ⟨_, rfl, _, rfl, _, rfl, dgetI sh6.at_ ka2 ⟨_, rfl, _, rfl, dgetI sh6.at_ kb2 ⟨_, rfl, e, n, wa, wb, (sti ai).2, (sti bi).2, ri, rfl, he.ex sh6.e, okn, Dp.ex e6 _ _ da2, Dp.ex e6 _ _ db2, hlei2, fun g2 H7 e7 hg2 => ?_⟩⟩⟩
        have sh7 := sh6.ex e7
        have hg1 := gmV_ex hg1 e7
        refine ⟨_, _, rfl, ?_⟩
        refine ⟨_, rfl, _, rfl, ga, gvs, rfl, .inl (Same.seq sh7.e hgs), _, _, rfl, rfl, rfl, ?_⟩
        generalize hL : decide (V.int (0 + (i : Int)) = V.int ((gvs.length : Int) - 1)) = L
        rcases hcase with ⟨hlt, x, y, ho, run'⟩ | ⟨ei, rfl, rfl, rfl, rfl⟩
        · -- a game that counts
          obtain ⟨z1, z2, h1, h2, hlike, rfl, rfl⟩ := out_some ho
          obtain ⟨a1, rfl, hz1⟩ := gmV_some hg1 h1
          obtain ⟨a2, rfl, hz2⟩ := gmV_some hg2 h2
          refine ⟨_, rfl, rfl, _, rfl, rfl, rfl, _, rfl, iteF ?_⟩
          refine ⟨_, rfl, rfl, _, rfl, iteF ?_⟩
          obtain ⟨q1, xs1, eq1, hs1, hxs1⟩ := dp_tup hz1
          injection eq1 with eq1
          subst eq1
          obtain ⟨q2, xs2, eq2, hs2, hxs2⟩ := dp_tup hz2
          injection eq2 with eq2
          subst eq2
          have n1 : xs1.length = 2 := dpAll_len hxs1
          have n2 : xs2.length = 2 := dpAll_len hxs2
          refine ⟨_, rfl, a1, rfl, ⟨_, hs1⟩, fun D1 nD1 => ?_⟩
          refine lc_map (K := K) (H := H7) (xs := xs1) (ds := [.int z1.1.1, .int z1.2.1]) walk_tup (fun H' e => e.tx.sqT hs1) nD1 (by omega) n1.symm (by intro d hd; rcases List.mem_cons.mp hd with rfl | hd; rfl; rcases List.mem_cons.mp hd with rfl | hd; rfl; cases hd) (fun _ => rfl) (fun i v d H' k2 hv hd e kk => ?_) (fun H8 acc1 e8 hD1 hacc1 => ?_)
          · obtain ⟨dd, hdd, hvd⟩ := dpAll_at i v hxs1 hv
            match i, hdd, hd with
            | 0, hdd, hd =>
              cases hdd; cases hd
              exact ⟨_, rfl, ixP0 (Dp.ex e _ _ hvd) (kk _ _ (Ex.refl _) (.int _))⟩
            | 1, hdd, hd =>
              cases hdd; cases hd
              exact ⟨_, rfl, ixP0 (Dp.ex e _ _ hvd) (kk _ _ (Ex.refl _) (.int _))⟩
            | i + 2, hdd, hd => simp at hd
          refine ⟨_, rfl, a2, rfl, ⟨_, e8.tx.sqT hs2⟩, fun D2 nD2 => ?_⟩
          refine lc_map (K := K) (H := H8) (xs := xs2) (ds := [.int z2.1.1, .int z2.2.1]) walk_tup (fun H' e => (e8.trans e).tx.sqT hs2) nD2 (by omega) n2.symm (by intro d hd; rcases List.mem_cons.mp hd with rfl | hd; rfl; rcases List.mem_cons.mp hd with rfl | hd; rfl; cases hd) (fun _ => rfl) (fun i v d H' k2 hv hd e kk => ?_) (fun H9 acc2 e9 hD2 hacc2 => ?_)
          · obtain ⟨dd, hdd, hvd⟩ := dpAll_at i v hxs2 hv
            match i, hdd, hd with
            | 0, hdd, hd =>
              cases hdd; cases hd
              exact ⟨_, rfl, ixP0 (Dp.ex (e8.trans e) _ _ hvd) (kk _ _ (Ex.refl _) (.int _))⟩
            | 1, hdd, hd =>
              cases hdd; cases hd
              exact ⟨_, rfl, ixP0 (Dp.ex (e8.trans e) _ _ hvd) (kk _ _ (Ex.refl _) (.int _))⟩
            | i + 2, hdd, hd => simp at hd
          have e89 := e8.trans e9
          refine ⟨_, _, .lst (SqL.of (e9 _ _ hD1)) (DpAll.ex e9 _ _ hacc1), .lst (SqL.of hD2) hacc2, rfl, rfl, _, rfl, ?_⟩
          rw [ints_eqv]
          rw [decide_eq_true hlike]
          refine iteF ?_
          have sh9 := sh7.ex e89
          have hz19 := Dp.ex e89 _ _ hz1
          have hz29 := Dp.ex e89 _ _ hz2
          obtain ⟨c1, xr, rfl, dc1, hxs1⟩ := dp_cons hxs1
          obtain ⟨c2, xr, rfl, dc2, hxs1⟩ := dp_cons hxs1
          cases dp_nil hxs1
          obtain ⟨g1, xr, rfl, dg1, hxs2⟩ := dp_cons hxs2
          obtain ⟨g2, xr, rfl, dg2, hxs2⟩ := dp_cons hxs2
          cases dp_nil hxs2
          have lh := sh9.lh; have lt := sh9.lt
          have lh : kh.length ≤ 4 * i + 2 := lh
          have lt : kt.length ≤ 4 * i + 2 := lt
          have lh2 := length_putK kh (.inl ai) c1
          have lh3 := length_putK (putK kh (.inl ai) c1) (.inl bi) c2
          have lt2 := length_putK kt (.inl ai) g1
          have lt3 := length_putK (putK kt (.inl ai) g1) (.inl bi) g2
          have big : ∀ z : Nat, z ≤ 4 * i + 10 → z < sizeLine := fun z hz => Nat.lt_of_lt_of_le (show z < 1000000 by omega) (by decide)
          have t10 : Tx H9 (upd H9 hk (.dK (putK kh (.inl ai) c1))) := Tx.upd sh9.ah (fun _ e => nomatch e) (fun _ _ e => nomatch e)
          have ex10 : Ex H (upd H9 hk (.dK (putK kh (.inl ai) c1))) := sh9.e.mut sh9.nh
          have at10 : upd H9 hk (.dK (putK kh (.inl ai) c1)) tk = some (.dK kt) := by rw [upd_ne sh9.ne.symm]; exact sh9.at_
          have ah10 : upd H9 hk (.dK (putK kh (.inl ai) c1)) hk = some (.dK (putK kh (.inl ai) c1)) := upd_same
          refine ⟨_, rfl, a1, _, rfl, e89.tx.sqT hs1, rfl, _, _, rfl, _, rfl, _, rfl, hk, _, rfl, DPut.k (k := .inl ai) sh9.ah (big _ (by omega)), ?_⟩
          generalize upd H9 hk (.dK (putK kh (.inl ai) c1)) = H10 at t10 ex10 at10 ah10 ⊢
          have t11 : Tx H10 (upd H10 hk (.dK (putK (putK kh (.inl ai) c1) (.inl bi) c2))) := Tx.upd ah10 (fun _ e => nomatch e) (fun _ _ e => nomatch e)
          have ex11 : Ex H (upd H10 hk (.dK (putK (putK kh (.inl ai) c1) (.inl bi) c2))) := ex10.mut sh9.nh
          have at11 : upd H10 hk (.dK (putK (putK kh (.inl ai) c1) (.inl bi) c2)) tk = some (.dK kt) := by rw [upd_ne sh9.ne.symm]; exact at10
          have ah11 : upd H10 hk (.dK (putK (putK kh (.inl ai) c1) (.inl bi) c2)) hk = some (.dK (putK (putK kh (.inl ai) c1) (.inl bi) c2)) := upd_same
          refine ⟨_, _, rfl, _, rfl, _, rfl, hk, _, rfl, DPut.k (k := .inl bi) ah10 (big _ (by omega)), rfl, ?_⟩
          generalize upd H10 hk (.dK (putK (putK kh (.inl ai) c1) (.inl bi) c2)) = H11 at t11 ex11 at11 ah11 ⊢
          have t12 : Tx H11 (upd H11 tk (.dK (putK kt (.inl ai) g1))) := Tx.upd at11 (fun _ e => nomatch e) (fun _ _ e => nomatch e)
          have ex12 : Ex H (upd H11 tk (.dK (putK kt (.inl ai) g1))) := ex11.mut sh9.nt
          have ah12 : upd H11 tk (.dK (putK kt (.inl ai) g1)) hk = some (.dK (putK (putK kh (.inl ai) c1) (.inl bi) c2)) := by rw [upd_ne sh9.ne]; exact ah11
          have at12 : upd H11 tk (.dK (putK kt (.inl ai) g1)) tk = some (.dK (putK kt (.inl ai) g1)) := upd_same
          refine ⟨_, rfl, a2, _, rfl, (t10.trans t11).sqT (e89.tx.sqT hs2), rfl, _, _, rfl, _, rfl, _, rfl, tk, _, rfl, DPut.k (k := .inl ai) at11 (big _ (by omega)), ?_⟩
          generalize upd H11 tk (.dK (putK kt (.inl ai) g1)) = H12 at t12 ex12 at12 ah12 ⊢
          have t13 : Tx H12 (upd H12 tk (.dK (putK (putK kt (.inl ai) g1) (.inl bi) g2))) := Tx.upd at12 (fun _ e => nomatch e) (fun _ _ e => nomatch e)
          have ex13 : Ex H (upd H12 tk (.dK (putK (putK kt (.inl ai) g1) (.inl bi) g2))) := ex12.mut sh9.nt
          have ah13 : upd H12 tk (.dK (putK (putK kt (.inl ai) g1) (.inl bi) g2)) hk = some (.dK (putK (putK kh (.inl ai) c1) (.inl bi) c2)) := by rw [upd_ne sh9.ne]; exact ah12
          have at13 : upd H12 tk (.dK (putK (putK kt (.inl ai) g1) (.inl bi) g2)) tk = some (.dK (putK (putK kt (.inl ai) g1) (.inl bi) g2)) := upd_same
          refine ⟨_, _, rfl, _, rfl, _, rfl, tk, _, rfl, DPut.k (k := .inl bi) at12 (big _ (by omega)), rfl, ?_⟩
          generalize upd H12 tk (.dK (putK (putK kt (.inl ai) g1) (.inl bi) g2)) = H13 at t13 ex13 at13 ah13 ⊢
          have T13 := e89.tx.trans ((t10.trans t11).trans (t12.trans t13))
          have T9 := (t10.trans t11).trans (t12.trans t13)
          have rx := Reach.one (sh9.re ai) (sh9.re bi) hlei ho
          have ry := Reach.two (sh9.re ai) (sh9.re bi) hlei ho
          refine ⟨⟨by omega, _, _, _, run', ⟨ex13, sh9.nh, sh9.nt, sh9.ne, ah13, at13, by omega, by omega, fun j => ?_, fun j => ?_⟩⟩, _, _, _, _, _, _, _, _, rfl⟩
          · unfold setP
            split
            · exact ry
            · split
              · exact rx
              · exact sh9.re j
          · by_cases hjb : j = bi
            · subst hjb
              refine .inr ⟨c2, g2, by rw [valV_put, if_pos rfl], by rw [valV_put, if_pos rfl], ?_, ?_⟩
              · unfold setP; rw [if_pos rfl]; exact Dp.pl T13 dc2
              · unfold setP; rw [if_pos rfl]; exact Dp.pl T13 dg2
            · have hnb : ¬ (Sum.inl j : Key) = .inl bi := fun z => hjb (Sum.inl.inj z)
              by_cases hja : j = ai
              · subst hja
                refine .inr ⟨c1, g1, by rw [valV_put, if_neg hnb, valV_put, if_pos rfl], by rw [valV_put, if_neg hnb, valV_put, if_pos rfl], ?_, ?_⟩
                · unfold setP; rw [if_neg hjb, if_pos rfl]; exact Dp.pl T13 dc1
                · unfold setP; rw [if_neg hjb, if_pos rfl]; exact Dp.pl T13 dg1
              · have hna : ¬ (Sum.inl j : Key) = .inl ai := fun z => hja (Sum.inl.inj z)
                unfold setP
                rw [if_neg hjb, if_neg hja, valV_put, if_neg hnb, valV_put, if_neg hna, valV_put, if_neg hnb, valV_put, if_neg hna]
                rcases sh9.rel j with z | ⟨x, y, z1, z2, z3, z4⟩
                · exact .inl z
                · exact .inr ⟨x, y, by rw [valV_put, if_neg hnb, valV_put, if_neg hna]; exact z1, by rw [valV_put, if_neg hnb, valV_put, if_neg hna]; exact z2, Dp.pl T9 z3, Dp.pl T9 z4⟩
        · -- the last
          subst ei
          have hLt : L = true := by
            rw [← hL]
            exact decide_eq_true (by rw [hgl]; congr 1; omega)
          subst hLt
          have e07 := sh7.e
          cases h1 : gm m (sti ai).1 (sti bi).1 ri with
          | none =>
            cases gmV_none hg1 h1
            cases h2 : gm n (sti ai).2 (sti bi).2 ri with
            | none => rw [out_gm_nn h1 h2] at hout; cases hout
            | some z2 =>
              obtain ⟨a2, rfl, hz2⟩ := gmV_some hg2 h2
              have ecc : cc = true := hcc.mpr (by rw [h1, h2]; simp)
              subst ecc
              refine ⟨_, rfl, rfl, _, rfl, rfl, rfl, _, rfl, iteT ?_⟩
              refine ⟨_, rfl, _, rfl, iteT ⟨_, rfl, rfl, ?_⟩⟩
              rw [decide_eq_true (show V.str (kindS true) = V.str "counts" from rfl)]
              exact k H7 e07
          | some z1 =>
            obtain ⟨a1, rfl, hz1⟩ := gmV_some hg1 h1
            cases h2 : gm n (sti ai).2 (sti bi).2 ri with
            | none =>
              cases gmV_none hg2 h2
              have ecc : cc = true := hcc.mpr (by rw [h1, h2]; simp)
              subst ecc
              refine ⟨_, rfl, rfl, _, rfl, rfl, rfl, _, rfl, iteT ?_⟩
              refine ⟨_, rfl, _, rfl, iteT ⟨_, rfl, rfl, ?_⟩⟩
              rw [decide_eq_true (show V.str (kindS true) = V.str "counts" from rfl)]
              exact k H7 e07
            | some z2 =>
              obtain ⟨a2, rfl, hz2⟩ := gmV_some hg2 h2
              have ecc : cc = false := by
                cases cc with
                | false => rfl
                | true => exact absurd (hcc.mp rfl) (by rw [h1, h2]; simp)
              subst ecc
              have hun : ¬ (z1.1.1 = z2.1.1 ∧ z1.2.1 = z2.2.1) := fun hl => by
                rw [out_gm_ss h1 h2, if_pos hl] at hout
                cases hout
              refine ⟨_, rfl, rfl, _, rfl, rfl, rfl, _, rfl, iteF ?_⟩
              refine ⟨_, rfl, rfl, _, rfl, iteF ?_⟩
              obtain ⟨q1, xs1, eq1, hs1, hxs1⟩ := dp_tup hz1
              injection eq1 with eq1
              subst eq1
              obtain ⟨q2, xs2, eq2, hs2, hxs2⟩ := dp_tup hz2
              injection eq2 with eq2
              subst eq2
              have n1 : xs1.length = 2 := dpAll_len hxs1
              have n2 : xs2.length = 2 := dpAll_len hxs2
              refine ⟨_, rfl, a1, rfl, ⟨_, hs1⟩, fun D1 nD1 => ?_⟩
              refine lc_map (K := K) (H := H7) (xs := xs1) (ds := [.int z1.1.1, .int z1.2.1]) walk_tup (fun H' e => e.tx.sqT hs1) nD1 (by omega) n1.symm (by intro d hd; rcases List.mem_cons.mp hd with rfl | hd; rfl; rcases List.mem_cons.mp hd with rfl | hd; rfl; cases hd) (fun _ => rfl) (fun i v d H' k2 hv hd e kk => ?_) (fun H8 acc1 e8 hD1 hacc1 => ?_)
              · obtain ⟨dd, hdd, hvd⟩ := dpAll_at i v hxs1 hv
                match i, hdd, hd with
                | 0, hdd, hd =>
                  cases hdd; cases hd
                  exact ⟨_, rfl, ixP0 (Dp.ex e _ _ hvd) (kk _ _ (Ex.refl _) (.int _))⟩
                | 1, hdd, hd =>
                  cases hdd; cases hd
                  exact ⟨_, rfl, ixP0 (Dp.ex e _ _ hvd) (kk _ _ (Ex.refl _) (.int _))⟩
                | i + 2, hdd, hd => simp at hd
              refine ⟨_, rfl, a2, rfl, ⟨_, e8.tx.sqT hs2⟩, fun D2 nD2 => ?_⟩
              refine lc_map (K := K) (H := H8) (xs := xs2) (ds := [.int z2.1.1, .int z2.2.1]) walk_tup (fun H' e => (e8.trans e).tx.sqT hs2) nD2 (by omega) n2.symm (by intro d hd; rcases List.mem_cons.mp hd with rfl | hd; rfl; rcases List.mem_cons.mp hd with rfl | hd; rfl; cases hd) (fun _ => rfl) (fun i v d H' k2 hv hd e kk => ?_) (fun H9 acc2 e9 hD2 hacc2 => ?_)
              · obtain ⟨dd, hdd, hvd⟩ := dpAll_at i v hxs2 hv
                match i, hdd, hd with
                | 0, hdd, hd =>
                  cases hdd; cases hd
                  exact ⟨_, rfl, ixP0 (Dp.ex (e8.trans e) _ _ hvd) (kk _ _ (Ex.refl _) (.int _))⟩
                | 1, hdd, hd =>
                  cases hdd; cases hd
                  exact ⟨_, rfl, ixP0 (Dp.ex (e8.trans e) _ _ hvd) (kk _ _ (Ex.refl _) (.int _))⟩
                | i + 2, hdd, hd => simp at hd
              have e89 := e8.trans e9
              refine ⟨_, _, .lst (SqL.of (e9 _ _ hD1)) (DpAll.ex e9 _ _ hacc1), .lst (SqL.of hD2) hacc2, rfl, rfl, _, rfl, ?_⟩
              rw [ints_eqv]
              rw [decide_eq_false hun]
              refine iteT ?_
              refine ⟨_, rfl, _, rfl, iteT ⟨_, rfl, rfl, ?_⟩⟩
              rw [decide_eq_true (show V.str (kindS false) = V.str "ratings" from rfl)]
              exact k H9 (e07.trans e89)
    · rintro σ H3 ⟨⟨hi2, sti, kh, kt, run, sh⟩, v8, v9, v10, v11, v12, v13, v14, v15, rfl⟩
      omega
end
end Tw
/-! The law's other model. -/
namespace Tw
open PySem PySem.Spec PyProof.Rows L2
def rListOfK (K : PySem.W.Frag) : List V → Hp → VK → Prop := fun xs H Q => ∃ p ys, xs = [.ref p] ∧ (SqL K H p ys ∨ SqT K H p ys) ∧ ∀ l, H l = none → Q (.ref l) (upd H l (.lst ys))
theorem call_listOfK {X : Cx} {K : PySem.W.Frag} (hK : X.K = K) : CallR X (.type "list") (rListOfK K) := by
  subst hK
  exact call_list_of
def rTupleOfK (K : PySem.W.Frag) : List V → Hp → VK → Prop := fun xs H Q => ∃ p ys, xs = [.ref p] ∧ ((SqL K H p ys ∧ ∀ l, H l = none → Q (.ref l) (upd H l (.tup ys))) ∨ (SqT K H p ys ∧ Q (.ref p) H))
theorem call_tupleOfK {X : Cx} {K : PySem.W.Frag} (hK : X.K = K) : CallR X (.type "tuple") (rTupleOfK K) := by
  subst hK
  exact call_tuple_of
/-! ### rows -/
def rowD (r : Row) : List PyData := [.int r.b, dEn (r.e .up), dEn (r.e .dr), dEn (r.e .lo)]
theorem noLs_rowD (r : Row) : noL.noLs (rowD r) = true := by simp [rowD, noL, noL.noLs, noL_En]
/-- a row as a list -/
def RowL (K : PySem.W.Frag) (H : Hp) (l : Addr) (r : Row) : Prop := ∃ ws, H l = some (.lst ws) ∧ DpAll K H ws (rowD r)
def rowSet (row : Row) (r : Res) (e : Option (Int × Int)) : Row := ⟨row.b, fun x => if x = r then e else row.e x⟩
/-- a good table -/
structure TabG (rows : List Row) : Prop where
  n6 : rows.length ≤ 6
  first : ∃ r rs, rows = r :: rs ∧ r.b = 0
  asc : Asc rows
  ok : ∀ r ∈ rows, r.Ok
theorem Small.tab {m : Bk} (h : Small m) : TabG m.rows := ⟨h.ok.n6, h.ok.first, h.ok.asc, h.ok.rows⟩
/-- what a changed model is -/
structure NGood (m n : Bk) : Prop where
  low : n.low = m.low
  hi : m.high ≤ n.high
  hi4 : n.high ≤ m.high + 1
  fresh : n.fresh = m.fresh
  t1 : 1 ≤ n.times
  t3 : n.times ≤ 3
  tf : n.fresh = 0 → n.times = 1
  bonus : n.bonus = m.bonus
theorem NGood.ok {m n : Bk} (h : Small m) (g : NGood m n) {rows : List Row} (t : TabG rows) : Bk.Ok { n with rows := rows } := by
  have := h.ok.l0; have := h.ok.lh; have := h.h3; have := h.l1
  have := g.low; have := g.hi; have := g.hi4
  have := h.ok.f0; have := h.ok.f2; have := h.ok.o0; have := h.ok.o5; have h1 := h.ok.of
  have := g.fresh; have := g.bonus
  exact ⟨by show 0 ≤ n.low; omega, by show n.low ≤ n.high; omega, by show n.high ≤ 23; omega, by show n.high ≤ n.low + 4; omega, t.n6, t.first, t.asc, t.ok, by show 0 ≤ n.fresh; omega, by show n.fresh ≤ 2; omega, g.t1, g.t3, g.tf, by show 0 ≤ n.bonus; omega, by show n.bonus ≤ 5; omega, fun z => by
    have z : 0 < n.fresh := z
    show n.bonus = 0
    have := h1 (by omega)
    omega⟩
section
variable {P : Program} {w : World} {K : PySem.W.Frag} {mg : Str → Option Value} {base : Heap}
theorem RowL.keep {H H' : Hp} {l : Addr} {r : Row} (h : RowL K H l r) (t : Tx H H') (e : H' l = H l) : RowL K H' l r := by
  obtain ⟨ws, h1, h2⟩ := h
  exact ⟨ws, e.trans h1, DpAll.tx t _ _ (noLs_rowD _) h2⟩
/-- the changed model on its way -/
structure OtAt (K : PySem.W.Frag) (H Hc : Hp) (pa nd rl : Addr) (n : Bk) (tv : V) (ls : List Addr) (rows : List Row) : Prop where
  po : Po pa H Hc
  nnd : H nd = none
  nda : nd ≠ pa
  and_ : Hc nd = some (.dK (mdK n tv))
  nrl : H rl = none
  rla : rl ≠ pa
  arl : Hc rl = some (.lst (ls.map V.ref))
  nls : ∀ l ∈ ls, H l = none
  lsa : ∀ l ∈ ls, l ≠ pa
  rows : Paired (RowL K Hc) ls rows
theorem paired_mem {α β : Type} {R R' : α → β → Prop} {xs : List α} {ys : List β} (h : Paired R xs ys) (f : ∀ x y, x ∈ xs → R x y → R' x y) : Paired R' xs ys := by
  induction h with
  | nil => exact .nil
  | cons h _ ih => exact .cons (f _ _ List.mem_cons_self h) (ih fun x y hx => f x y (List.mem_cons_of_mem _ hx))
theorem OtAt.step {H Hc H' : Hp} {pa nd rl : Addr} {n : Bk} {tv : V} {ls : List Addr} {rows : List Row} (h : OtAt K H Hc pa nd rl n tv ls rows) (p : Po pa Hc H') : OtAt K H H' pa nd rl n tv ls rows :=
  ⟨h.po.trans p, h.nnd, h.nda, p.keep h.and_ h.nda, h.nrl, h.rla, p.keep h.arl h.rla, h.nls, h.lsa, paired_mem h.rows fun l r hl z => by
    obtain ⟨ws, h1, h2⟩ := z
    exact ⟨ws, p.keep h1 (h.lsa l hl), DpAll.tx (Po.tx h.po.2 p) _ _ (noLs_rowD _) h2⟩⟩
theorem OtAt.put {H Hc : Hp} {pa nd rl : Addr} {n n' : Bk} {tv : V} {ls : List Addr} {rows : List Row} (h : OtAt K H Hc pa nd rl n tv ls rows) : OtAt K H (upd Hc nd (.dK (mdK n' tv))) pa nd rl n' tv ls rows := by
  have t : Tx Hc (upd Hc nd (.dK (mdK n' tv))) := Tx.upd h.and_ (fun _ e => nomatch e) (fun _ _ e => nomatch e)
  refine ⟨h.po.mut h.nnd h.nda, h.nnd, h.nda, upd_same, h.nrl, h.rla, by rw [upd_ne (ne_of h.arl h.and_ (fun e => nomatch e))]; exact h.arl, h.nls, h.lsa, paired_mem h.rows fun l r hl z => ?_⟩
  obtain ⟨ws, h1, h2⟩ := z
  exact RowL.keep ⟨ws, h1, h2⟩ t (upd_ne (ne_of h1 h.and_ (fun e => nomatch e)))
theorem paired_last {α β : Type} {R : α → β → Prop} {xs : List α} {ys : List β} (h : Paired R xs ys) (hy : ys ≠ []) : ∃ xs0 x ys0 y, xs = xs0 ++ [x] ∧ ys = ys0 ++ [y] ∧ Paired R xs0 ys0 ∧ R x y := by
  induction h with
  | nil => exact (hy rfl).elim
  | @cons x y xs ys h t ih =>
    cases t with
    | nil => exact ⟨[], x, [], y, rfl, rfl, .nil, h⟩
    | @cons x' y' xs' ys' h' t' =>
      obtain ⟨a, b, c, d, e1, e2, p, q⟩ := ih (by simp)
      exact ⟨x :: a, b, y :: c, d, by rw [e1]; rfl, by rw [e2]; rfl, .cons h p, q⟩
theorem paired_at {α β : Type} {R : α → β → Prop} {xs : List α} {ys : List β} (h : Paired R xs ys) : ∀ {i : Nat} {x : α} {y : β}, xs[i]? = some x → ys[i]? = some y → R x y := by
  induction h with
  | nil => intro i x y h; simp at h
  | @cons a b xs ys h t ih =>
    intro i x y hx hy
    cases i with
    | zero => simp at hx hy; subst hx; subst hy; exact h
    | succ i => simp at hx hy; exact ih hx hy
theorem asc_congr : ∀ {xs ys : List Row}, xs.map (·.b) = ys.map (·.b) → Asc xs → Asc ys
  | [], [], _, _ => trivial
  | [_], [_], _, _ => trivial
  | a :: b :: r, c :: d :: s, e, h => by
    simp only [List.map_cons, List.cons.injEq] at e
    obtain ⟨h1, h2⟩ := h
    exact ⟨by rw [← e.1, ← e.2.1]; exact h1, asc_congr (xs := b :: r) (ys := d :: s) (by simp [e.2.1, e.2.2]) h2⟩
  | [], _ :: _, e, _ => by simp at e
  | _ :: _, [], e, _ => by simp at e
  | [_], _ :: _ :: _, e, _ => by simp at e
  | _ :: _ :: _, [_], e, _ => by simp at e
theorem asc_snoc {r q : Row} (hb : r.b < q.b) : ∀ {xs : List Row}, Asc (xs ++ [r]) → Asc (xs ++ [r] ++ [q])
  | [], _ => ⟨hb, trivial⟩
  | [a], h => ⟨h.1, hb, trivial⟩
  | a :: c :: t, h => ⟨h.1, asc_snoc hb (xs := c :: t) h.2⟩
theorem tabG_congr {xs ys : List Row} (e : xs.map (·.b) = ys.map (·.b)) (h : TabG xs) (ok : ∀ r ∈ ys, ∀ x, entOk (r.e x)) : TabG ys := by
  have hl : xs.length = ys.length := by have := congrArg List.length e; simpa using this
  refine ⟨by rw [← hl]; exact h.n6, ?_, asc_congr e h.asc, fun r hr => ?_⟩
  · obtain ⟨r, rs, e1, h0⟩ := h.first
    subst e1
    match ys, e with
    | y :: ys, e =>
      simp only [List.map_cons, List.cons.injEq] at e
      exact ⟨y, ys, rfl, by rw [← e.1]; exact h0⟩
  · have hm : r.b ∈ xs.map (·.b) := by rw [e]; exact List.mem_map.mpr ⟨r, hr, rfl⟩
    obtain ⟨q, hq, eq⟩ := List.mem_map.mp hm
    have := h.ok q hq
    exact ⟨by rw [← eq]; exact this.b0, by rw [← eq]; exact this.b1, ok r hr⟩
theorem back_ref (ls : List Addr) (l : Addr) : atI ((ls ++ [l]).map V.ref) (-1) = some (V.ref l) := atI_back (by simp)
def spOther (K : PySem.W.Frag) : Sp := fun vs H Q _ => ∃ (pa md : Addr) (m : Bk), vs = [.ref pa, .ref md] ∧ PoolAt H pa ∧ MdAt K (wo H pa) md m ∧ Small m ∧ ∀ nd n H', Po pa H H' → MdAt K (wo H' pa) nd n → n.Ok → Q (.ref nd) H'
theorem sc_l_other : FnScope ["_law_pool_here", "_law_m", "_law_n", "_law_way", "_law_rows", "_law_row"] ["_law_pool_here", "_law_m"] (defScope s_l_other) := ⟨rfl, rfl, rfl, by decide +kernel, rfl, by decide +kernel, by decide +kernel⟩
theorem ok_l_other (D : Df K mg "_law_other" s_l_other ["_law_pool_here", "_law_m"]) (T : Txt K mg) (C_l_draw : Cal P w K mg base 1 "_law_draw" spDraw) (C_l_pick : Cal P w K mg base 2 "_law_pick" spPick) : Cal P w K mg base 3 "_law_other" (spOther K) := by
  refine cal_mk D sc_l_other (fun vs H Q E h => ?_) (fun f cdv A outer st0 H vs Q E hr h => ?_)
  · obtain ⟨pa, md, m, rfl, _⟩ := h
    rfl
  · obtain ⟨pa, md, m, rfl, hp, hm, sm, k⟩ := h
    have nd := sc_l_other.nd
    have hu1 := hu_of hr
    have hu9 := hu9_of hr
    have hu64 := hu64_of hr
    have hu65 := hu65_of hr
    refine ⟨_, (pss_cons (ps_set (i := 2) nd rfl (Or.inl rfl) (pe_callTy call_dictD (by rfl) T.dict_ PyProof.Rows.boot_dict (pa_cons (pv 1) pa_nil)))
    (pss_cons (ps_set (i := 3) nd rfl (Or.inl rfl) (pe_c C_l_draw hr (by decide) rfl (pa_cons (pv 0) (pa_cons pe_int pa_nil))))
    (pss_cons (ps_setLc (i := 4) (own := [("_law_row", 5)]) rfl nd rfl rfl (sw_true rfl rfl rfl (by decide +kernel)) (pi_list (pe_dget hu1 (pv 1) pe_str (fun _ _ => rfl))) (blkOk_by (own := [("_law_row", 5)]) (N := ["_law_pool_here", "_law_m", "_law_n", "_law_way", "_law_rows", "_law_row"]) (sc := defScope s_l_other) (by decide +kernel)) (fun _ _ _ _ _ => (pg_name (i := 5) nd rfl (Or.inl rfl) (hf := Or.inr rfl))) (fun _ _ _ _ _ => pts_nil) (fun _ _ _ _ _ => (pe_callTy (r := rListOfK K) (call_listOfK rfl) (by rfl) T.list_ PyProof.Rows.boot_list (pa_cons (pv 5) pa_nil))))
    (pss_cons (ps_if (pt_cmpR op_lt (pv 3) pe_int (nomark _))
    (pss_one (ps_asg (pe_c C_l_pick hr (by decide) rfl (pa_cons (pv 0) (pa_cons (pe_lst (pa_cons pe_non (pa_cons (pe_tup (pa_cons pe_int (pa_cons pe_int pa_nil))) (pa_cons (pe_tup (pa_cons pe_int (pa_cons (pe_un un_neg pe_int) pa_nil))) (pa_cons (pe_ix ix_list (pe_ix ix_list (pv 4) (pe_un un_neg pe_int) (fun _ _ => rfl)) (pe_op op_add pe_int (pv 3)) (fun _ _ => rfl)) pa_nil))))) pa_nil))) (pg_sub (pe_ix ix_list (pv 4) (pe_un un_neg pe_int) (fun _ _ => rfl)) (pe_op op_add pe_int (pv 3)) set_list)))
    pss_nil)
    (pss_cons (ps_if (pt_cmpR op_eq (pv 3) pe_int (nomark _))
    (pss_one (ps_dput hu1 (pv 2) pe_str (pe_op op_add (pe_dget hu1 (pv 1) pe_str (fun _ _ => rfl)) pe_int) rfl))
    pss_nil)
    (pss_cons (ps_if (pt_cmpR op_eq (pv 3) pe_int (nomark _))
    (pss_one (ps_set (i := 4) nd rfl (Or.inl rfl) (pe_op op_cat (pv 4) (pe_lst (pa_cons (pe_lst (pa_cons (pe_op op_add (pe_op op_add (pe_op op_sub (pe_dget hu1 (pv 1) pe_str (fun _ _ => rfl)) (pe_dget hu1 (pv 1) pe_str (fun _ _ => rfl))) pe_int) (pe_ix ix_list (pe_ix ix_list (pv 4) (pe_un un_neg pe_int) (fun _ _ => rfl)) pe_int (fun _ _ => rfl))) (pa_cons (pe_tup (pa_cons pe_int (pa_cons pe_int pa_nil))) (pa_cons pe_non (pa_cons pe_non pa_nil))))) pa_nil)))))
    pss_nil)
    (pss_cons (ps_if (PW.pt (pw_and (pt_cmpR op_eq (pv 3) pe_int (nomark _)) (pw_and1 (pt_cmpR op_gt (pe_dget hu1 (pv 1) pe_str (fun _ _ => rfl)) pe_int (nomark _)))))
    (pss_one (ps_dput hu1 (pv 2) pe_str (pe_op op_add pe_int (pe_c C_l_draw hr (by decide) rfl (pa_cons (pv 0) (pa_cons pe_int pa_nil)))) rfl))
    pss_nil)
    (pss_cons (ps_dput hu1 (pv 2) pe_str (pe_lc (own := [("_law_row", 5)]) rfl nd (pi_list (pv 4)) (blkOk_by (own := [("_law_row", 5)]) (N := ["_law_pool_here", "_law_m", "_law_n", "_law_way", "_law_rows", "_law_row"]) (sc := defScope s_l_other) (by decide +kernel)) (fun _ _ _ _ _ => (pg_name (i := 5) nd rfl (Or.inl rfl) (hf := Or.inr rfl))) (fun _ _ _ _ _ => pts_nil) (fun _ _ _ _ _ => (pe_callTy (r := rTupleOfK K) (call_tupleOfK rfl) (by rfl) T.tuple_ PyProof.Rows.boot_tuple (pa_cons (pv 5) pa_nil)))) rfl)
    (pss_one (ps_ret (pv 2))))))))))), ?_⟩
    -- slots: 0 _law_pool_here, 1 _law_m, 2 _law_n, 3 _law_way, 4 _law_rows, 5 _law_row
    obtain ⟨tv, hmd, htv⟩ := id hm
    obtain ⟨mdne, hmd⟩ := wo_at hmd
    -- the copy
    refine ⟨_, rfl, md, mdK m tv, rfl, .inl hmd, fun nd nnd => ?_⟩
    have ndpa := hp.ne_none nnd
    have e1 : Ex H (upd H nd (.dK (mdK m tv))) := Ex.new nnd
    have and1 : upd H nd (.dK (mdK m tv)) nd = some (.dK (mdK m tv)) := upd_same
    generalize upd H nd (.dK (mdK m tv)) = H1 at e1 and1 ⊢
    have p1 := Po.ex hp e1
    -- the way
    refine ⟨_, rfl, pa, 6, rfl, p1.2, by decide, by decide, fun way H2 p2 w0 w1 => ?_⟩
    have p02 := p1.trans p2
    have and2 := p2.keep and1 ndpa
    have hm2 : MdAt K H2 md m := (hm.ex p02.1).ex wo_ex
    -- the rows
    refine ⟨_, rfl, dM_table hm2 fun tv2 ht2 => ?_⟩
    obtain ⟨ta, trs, rfl, hts, hta⟩ := dp_lst ht2
    refine ⟨ta, rfl, ⟨_, hts⟩, fun rl nrl => ?_⟩
    have rlpa := p02.2.ne_none nrl
    have hal := dpAll_len hta
    rw [List.length_map] at hal
    refine lc_list (K := K) (a := ta) (xs := trs) (fun i H' => Ex H2 H' ∧ ∃ ls : List Addr, H' rl = some (.lst (ls.map V.ref)) ∧ ls.length = i ∧ Paired (RowL K H') ls (m.rows.take i) ∧ ls.Nodup ∧ ∀ l ∈ ls, H2 l = none ∧ l ≠ rl)
      ⟨Ex.new nrl, [], upd_same, rfl, .nil, List.nodup_nil, fun l hl => (nomatch hl)⟩ (fun i H' _ z => Same.seq z.1 hts) ?_ ?_
    · rintro i z H3 hz ⟨e3, ls, hrl3, hlen, hpr, hnd, hls⟩
      have hi : i < m.rows.length := by have := (List.getElem?_eq_some_iff.mp hz).1; omega
      obtain ⟨dd, hdd, hzd⟩ := dpAll_at i z (DpAll.ex e3 _ _ hta) hz
      rw [List.getElem?_map, List.getElem?_eq_getElem hi] at hdd
      have edd : dRow m.rows[i] = dd := Option.some.inj hdd
      subst edd
      obtain ⟨za, zs, rfl, hzs, hzsd⟩ := dp_tup hzd
      refine ⟨rfl, ?_⟩
      refine yes ?_
      refine ⟨_, rfl, za, zs, rfl, .inr hzs, fun l nl => ?_⟩
      have e4 : Ex H3 (upd H3 l (.lst zs)) := Ex.new nl
      have hl4 : upd H3 l (.lst zs) l = some (.lst zs) := upd_same
      have hlrl : l ≠ rl := fun q => by rw [q, hrl3] at nl; cases nl
      have hlnot : l ∉ ls := fun hin => by
        obtain ⟨j, hj, ej⟩ := List.mem_iff_getElem.mp hin
        have hpl := Paired.length hpr
        obtain ⟨ws, g1, _⟩ := paired_at hpr (i := j) (x := l) (y := (m.rows.take i)[j]'(by omega)) (by rw [List.getElem?_eq_getElem hj, ej]) (List.getElem?_eq_getElem (by omega))
        rw [g1] at nl; cases nl
      generalize upd H3 l (.lst zs) = H4 at e4 hl4 ⊢
      have hrl4 := e4 _ _ hrl3
      refine ⟨_, hrl4, Nat.lt_of_lt_of_le (show (ls.map V.ref).length < 2000 by rw [List.length_map]; have := sm.r2; omega) (by decide), (e3.trans e4).mut nrl, ls ++ [l], ?_, by rw [List.length_append, hlen]; rfl, ?_, ?_, ?_⟩
      · rw [upd_same, List.map_append]; rfl
      · have t5 : Tx H4 (upd H4 rl (.lst (ls.map V.ref ++ [.ref l]))) := tx_lst hrl4
        rw [List.take_succ_eq_append_getElem hi]
        refine Paired.snoc (paired_mem hpr fun x y hx q => ?_) ⟨zs, by rw [upd_ne hlrl]; exact hl4, DpAll.tx t5 _ _ (noLs_rowD _) (DpAll.ex e4 _ _ hzsd)⟩
        obtain ⟨ws, g1, g2⟩ := q
        exact ⟨ws, by rw [upd_ne (hls x hx).2]; exact e4 _ _ g1, DpAll.tx t5 _ _ (noLs_rowD _) (DpAll.ex e4 _ _ g2)⟩
      · rw [List.nodup_append]
        refine ⟨hnd, by simp, fun x hx y hy q => ?_⟩
        simp at hy
        subst hy; subst q
        exact hlnot hx
      · intro x hx
        rcases List.mem_append.mp hx with hx | hx
        · exact hls x hx
        · simp at hx
          subst hx
          exact ⟨e3.back nl, hlrl⟩
    · rintro H3 ⟨e3, ls, hrl3, hlen, hpr, hnd, hls⟩
      rw [hal, List.take_of_length_le (Nat.le_refl _)] at hpr
      have p03 := p02.trans (Po.ex p02.2 e3)
      have bk : ∀ l, H2 l = none → H l = none ∧ l ≠ pa := fun l hl => ⟨p02.back (p02.2.ne_none hl) hl, p02.2.ne_none hl⟩
      have ot : OtAt K H H3 pa nd rl m tv ls m.rows := ⟨p03, nnd, ndpa, e3 _ _ and2, (bk rl nrl).1, rlpa, hrl3, fun l hl => (bk l (hls l hl).1).1, fun l hl => (bk l (hls l hl).1).2, hpr⟩
      have ngm : NGood m m := ⟨rfl, by omega, by omega, rfl, sm.ok.t1, sm.ok.t3, sm.ok.tf, rfl⟩
      obtain ⟨fr, frs, efr, hfr⟩ := sm.ok.first
      obtain ⟨ls0, l, rs0, row, els, ers, hpr0, hrow⟩ := paired_last hpr (by rw [efr]; simp)
      obtain ⟨ws, hl3, hwsd⟩ := id hrow
      have hll : l ∈ ls := by rw [els]; simp
      have hrr : row ∈ m.rows := by rw [ers]; simp
      refine ⟨_, rfl, _, _, rfl, rfl, _, rfl, ?_⟩
      by_cases h3 : way < 3
      · rw [decide_eq_true h3]
        refine iteT ?_
        obtain ⟨res, hres⟩ : ∃ res : Res, way = (res.n : Int) := by
          have : way = 0 ∨ way = 1 ∨ way = 2 := by omega
          rcases this with rfl | rfl | rfl
          · exact ⟨.up, rfl⟩
          · exact ⟨.dr, rfl⟩
          · exact ⟨.lo, rfl⟩
        subst hres
        obtain ⟨wv, hwv, dwv⟩ := dpAll_get (res.n + 1) (dEn (row.e res)) hwsd (by cases res <;> rfl)
        have hwl : ws.length = 4 := dpAll_len hwsd
        have iwv : atI ws (1 + (res.n : Int)) = some wv := by
          have z : atI ws ((res.n + 1 : Nat) : Int) = some wv := atI_nat hwv
          rw [show ((res.n + 1 : Nat) : Int) = 1 + (res.n : Int) by omega] at z
          exact z
        have iset : ixN ws.length (1 + (res.n : Int)) = some (res.n + 1) := by rw [hwl]; cases res <;> rfl
        have back : atI (ls.map V.ref) (-1) = some (V.ref l) := by rw [els]; exact back_ref ls0 l
        refine ⟨_, rfl, (by show 2 ≤ sizeLine; decide), fun p1 n1 => ?_⟩
        obtain ⟨e4, d1⟩ := newT (K := K) (ds := [.int 0, .int 0]) n1 (.cons (.int _) (.cons (.int _) .nil))
        have d1 : Dp K (upd H3 p1 (.tup [.int 0, .int 0])) (.ref p1) (dEn (some (0, 0))) := d1
        generalize upd H3 p1 (.tup [.int 0, .int 0]) = H4 at e4 d1 ⊢
        refine ⟨_, rfl, (by show 2 ≤ sizeLine; decide), fun p2 n2 => ?_⟩
        obtain ⟨e5, d2⟩ := newT (K := K) (ds := [.int 1, .int (-1)]) n2 (.cons (.int _) (.cons (.int _) .nil))
        have d2 : Dp K (upd H4 p2 (.tup [.int 1, .int (-1)])) (.ref p2) (dEn (some (1, -1))) := d2
        generalize upd H4 p2 (.tup [.int 1, .int (-1)]) = H5 at e5 d2 ⊢
        have e35 := e4.trans e5
        refine ⟨_, rfl, _, rfl, rl, _, -1, _, rfl, rfl, SqL.of (e35 _ _ ot.arl), back, ?_⟩
        refine ⟨_, rfl, _, _, rfl, rfl, l, ws, _, wv, rfl, rfl, SqL.of (e35 _ _ hl3), iwv, ?_⟩
        refine ⟨(by show 4 ≤ sizeLine; decide), fun p3 n3 => ?_⟩
        have e6 : Ex H5 (upd H5 p3 (.lst [.non, .ref p1, .ref p2, wv])) := Ex.new n3
        have hp3 : upd H5 p3 (.lst [.non, .ref p1, .ref p2, wv]) p3 = some (.lst [.non, .ref p1, .ref p2, wv]) := upd_same
        have p5 := Po.ex ot.po.2 e35
        have hp3pa := p5.2.ne_none n3
        generalize upd H5 p3 (.lst [.non, .ref p1, .ref p2, wv]) = H6 at e6 hp3 ⊢
        have p6 := p5.trans (Po.ex p5.2 e6)
        refine ⟨pa, p3, _, rfl, p6.2, hp3, hp3pa, (by show 1 ≤ 4; decide), (by show 4 < 1073741824; decide), fun v H7 p7 hv => ?_⟩
        have p37 := p6.trans p7
        have ot7 := ot.step p37
        have t67 := Po.tx p6.2 p7
        obtain ⟨e', hv', hok⟩ : ∃ e', Dp K H7 v (dEn e') ∧ entOk e' := by
          rcases List.mem_cons.mp hv with rfl | hv
          · exact ⟨none, .non, trivial⟩
          rcases List.mem_cons.mp hv with rfl | hv
          · exact ⟨some (0, 0), Dp.tx t67 _ _ (noL_En _) (Dp.ex (e5.trans e6) _ _ d1), by decide, by decide, by decide, by decide⟩
          rcases List.mem_cons.mp hv with rfl | hv
          · exact ⟨some (1, -1), Dp.tx t67 _ _ (noL_En _) (Dp.ex e6 _ _ d2), by decide, by decide, by decide, by decide⟩
          rcases List.mem_cons.mp hv with rfl | hv
          · exact ⟨row.e res, Dp.tx t67 _ _ (noL_En _) (Dp.ex (e35.trans e6) _ _ dwv), (sm.ok.rows row hrr).e res⟩
          cases hv
        have hl7 : H7 l = some (.lst ws) := p37.keep hl3 (ot.lsa l hll)
        refine ⟨_, rfl, _, rfl, rl, _, -1, _, rfl, rfl, SqL.of ot7.arl, back, ?_⟩
        refine ⟨_, rfl, _, _, rfl, rfl, l, ws, _, res.n + 1, rfl, rfl, hl7, iset, ?_⟩
        have t8 : Tx H7 (upd H7 l (.lst (ws.set (res.n + 1) v))) := tx_lst hl7
        have t38 := (Po.tx ot.po.2 p37).trans t8
        have ot : OtAt K H (upd H7 l (.lst (ws.set (res.n + 1) v))) pa nd rl m tv ls (rs0 ++ [rowSet row res e']) := by
          refine ⟨ot7.po.mut (ot7.nls l hll) (ot7.lsa l hll), ot7.nnd, ot7.nda, by rw [upd_ne (ne_of ot7.and_ hl7 (fun e => nomatch e))]; exact ot7.and_, ot7.nrl, ot7.rla, by rw [upd_ne (hls l hll).2.symm]; exact ot7.arl, ot7.nls, ot7.lsa, ?_⟩
          have hsn : Paired (RowL K (upd H7 l (.lst (ws.set (res.n + 1) v)))) (ls0 ++ [l]) (rs0 ++ [rowSet row res e']) := by
            refine Paired.snoc (paired_mem hpr0 fun x y hx q => ?_) ⟨_, upd_same, ?_⟩
            · obtain ⟨us, g1, g2⟩ := q
              have hxl : x ≠ l := fun z => by
                rw [els, List.nodup_append] at hnd
                exact hnd.2.2 x hx l (by simp) z
              have hxls : x ∈ ls := by rw [els]; exact List.mem_append_left _ hx
              exact ⟨us, by rw [upd_ne hxl]; exact p37.keep g1 (ot7.lsa x hxls), DpAll.tx t38 _ _ (noLs_rowD _) g2⟩
            · have hw8 := DpAll.tx t38 _ _ (noLs_rowD _) hwsd
              have hv8 := Dp.tx t8 _ _ (noL_En _) hv'
              obtain ⟨x0, xr, rfl, b0, hw8⟩ := dp_cons hw8
              obtain ⟨x1, xr, rfl, b1, hw8⟩ := dp_cons hw8
              obtain ⟨x2, xr, rfl, b2, hw8⟩ := dp_cons hw8
              obtain ⟨x3, xr, rfl, b3, hw8⟩ := dp_cons hw8
              cases dp_nil hw8
              cases res
              · exact .cons b0 (.cons hv8 (.cons b2 (.cons b3 .nil)))
              · exact .cons b0 (.cons b1 (.cons hv8 (.cons b3 .nil)))
              · exact .cons b0 (.cons b1 (.cons b2 (.cons hv8 .nil)))
          rw [← els] at hsn
          exact hsn
        have tg : TabG (rs0 ++ [rowSet row res e']) := by
          refine tabG_congr (xs := m.rows) (by rw [ers]; simp [rowSet]) sm.tab fun q hq x => ?_
          rcases List.mem_append.mp hq with hq | hq
          · exact (sm.ok.rows q (by rw [ers]; exact List.mem_append_left _ hq)).e x
          · simp at hq
            subst hq
            show entOk (if x = res then e' else row.e x)
            split
            · exact hok
            · exact (sm.ok.rows row hrr).e x
        have ng := ngm
        generalize upd H7 l (.lst (ws.set (res.n + 1) v)) = HC at ot ⊢
        refine ⟨_, rfl, rfl, _, rfl, ifF (decN (fun z => by have := V.int.inj z; omega)) ?_⟩
        refine ⟨_, rfl, rfl, _, rfl, ifF (decN (fun z => by have := V.int.inj z; omega)) ?_⟩
        refine ⟨_, rfl, rfl, _, rfl, ifF (decN (fun z => by have := V.int.inj z; omega)) (ifF rfl ?_)⟩
        refine ⟨_, rfl, rl, rfl, ⟨_, SqL.of ot.arl⟩, fun D nD => ?_⟩
        have pl := Paired.length ot.rows
        refine lc_map (K := K) (H := HC) (xs := ls.map V.ref) (ds := (rs0 ++ [rowSet row res e']).map dRow) walk_list (fun H' e => SqL.of (e _ _ ot.arl)) nD (by rw [List.length_map, pl]; have := tg.n6; omega) (by rw [List.length_map, List.length_map, pl]) (fun z hz => by
          obtain ⟨q, _, rfl⟩ := List.mem_map.mp hz
          exact noL_Row q) (fun _ => rfl) (fun i x dd H' kk hv hd e k2 => ?_) (fun H' acc e hD hacc => ?_)
        · rw [List.getElem?_map] at hv hd
          cases hx : ls[i]? with
          | none => rw [hx] at hv; cases hv
          | some l0 =>
            cases hy : (rs0 ++ [rowSet row res e'])[i]? with
            | none => rw [hy] at hd; cases hd
            | some q0 =>
              rw [hx] at hv; rw [hy] at hd
              cases hv; cases hd
              obtain ⟨ws, g1, g2⟩ := paired_at ot.rows hx hy
              refine ⟨_, rfl, l0, ws, rfl, .inl ⟨SqL.of (e _ _ g1), fun p np => ?_⟩⟩
              exact k2 _ _ (Ex.new np) (newT (ds := rowD q0) np (DpAll.ex e _ _ g2)).2
        · have poD := ot.po.trans (Po.ex ot.po.2 e)
          have hDpa := ot.po.2.ne_none nD
          have and' := e _ _ ot.and_
          have hDnd : D ≠ nd := fun z => by rw [z, ot.and_] at nD; cases nD
          refine ⟨_, rfl, nd, _, rfl, DPut.k (k := .inr "table") and' (by show 6 < sizeLine; decide), ?_⟩
          rw [put_table]
          have tF : Tx H' (upd H' nd (.dK (mdK m (.ref D)))) := Tx.upd and' (fun _ e => nomatch e) (fun _ _ e => nomatch e)
          have pF : Po pa H (upd H' nd (.dK (mdK m (.ref D)))) := poD.mut nnd ndpa
          refine ⟨_, rfl, ?_⟩
          refine k nd { m with rows := (rs0 ++ [rowSet row res e']) } _ pF ⟨.ref D, by rw [wo_ne ndpa]; exact upd_same, .lst (SqL.of (by rw [wo_ne hDpa, upd_ne hDnd]; exact hD)) ?_⟩ (NGood.ok sm ng tg)
          exact DpAll.tx (tF.trans (tx_wo pF.2)) _ _ (noLs_rows _) hacc
      · rw [decide_eq_false h3]
        refine iteF ?_
        refine ⟨_, rfl, rfl, _, rfl, ?_⟩
        by_cases hw3 : V.int way = V.int 3
        · rw [decide_eq_true hw3]
          refine iteT ?_
          have ew3 : way = 3 := V.int.inj hw3
          subst ew3
          refine ⟨_, rfl, dM_high ((hm.ex ot.po.1).ex wo_ex) ⟨_, _, rfl, rfl, ?_⟩⟩
          refine ⟨_, rfl, nd, _, rfl, DPut.k (k := .inr "high") ot.and_ (by show 6 < sizeLine; decide), ?_⟩
          rw [put_high]
          have ot := ot.put (n' := { m with high := m.high + 1 })
          have ng : NGood m { m with high := m.high + 1 } := ⟨rfl, by show m.high ≤ m.high + 1; omega, by show m.high + 1 ≤ m.high + 1; omega, rfl, sm.ok.t1, sm.ok.t3, sm.ok.tf, rfl⟩
          have tg := sm.tab
          generalize upd H3 nd (.dK (mdK { m with high := m.high + 1 } tv)) = HC at ot ⊢
          refine ⟨_, rfl, rfl, _, rfl, ifF (by decide) ?_⟩
          refine ⟨_, rfl, rfl, _, rfl, ifF (by decide) (ifF rfl ?_)⟩
          refine ⟨_, rfl, rl, rfl, ⟨_, SqL.of ot.arl⟩, fun D nD => ?_⟩
          have pl := Paired.length ot.rows
          refine lc_map (K := K) (H := HC) (xs := ls.map V.ref) (ds := m.rows.map dRow) walk_list (fun H' e => SqL.of (e _ _ ot.arl)) nD (by rw [List.length_map, pl]; have := tg.n6; omega) (by rw [List.length_map, List.length_map, pl]) (fun z hz => by
            obtain ⟨q, _, rfl⟩ := List.mem_map.mp hz
            exact noL_Row q) (fun _ => rfl) (fun i x dd H' kk hv hd e k2 => ?_) (fun H' acc e hD hacc => ?_)
          · rw [List.getElem?_map] at hv hd
            cases hx : ls[i]? with
            | none => rw [hx] at hv; cases hv
            | some l0 =>
              cases hy : m.rows[i]? with
              | none => rw [hy] at hd; cases hd
              | some q0 =>
                rw [hx] at hv; rw [hy] at hd
                cases hv; cases hd
                obtain ⟨ws, g1, g2⟩ := paired_at ot.rows hx hy
                refine ⟨_, rfl, l0, ws, rfl, .inl ⟨SqL.of (e _ _ g1), fun p np => ?_⟩⟩
                exact k2 _ _ (Ex.new np) (newT (ds := rowD q0) np (DpAll.ex e _ _ g2)).2
          · have poD := ot.po.trans (Po.ex ot.po.2 e)
            have hDpa := ot.po.2.ne_none nD
            have and' := e _ _ ot.and_
            have hDnd : D ≠ nd := fun z => by rw [z, ot.and_] at nD; cases nD
            refine ⟨_, rfl, nd, _, rfl, DPut.k (k := .inr "table") and' (by show 6 < sizeLine; decide), ?_⟩
            rw [put_table]
            have tF : Tx H' (upd H' nd (.dK (mdK { m with high := m.high + 1 } (.ref D)))) := Tx.upd and' (fun _ e => nomatch e) (fun _ _ e => nomatch e)
            have pF : Po pa H (upd H' nd (.dK (mdK { m with high := m.high + 1 } (.ref D)))) := poD.mut nnd ndpa
            refine ⟨_, rfl, ?_⟩
            refine k nd { { m with high := m.high + 1 } with rows := m.rows } _ pF ⟨.ref D, by rw [wo_ne ndpa]; exact upd_same, .lst (SqL.of (by rw [wo_ne hDpa, upd_ne hDnd]; exact hD)) ?_⟩ (NGood.ok sm ng tg)
            exact DpAll.tx (tF.trans (tx_wo pF.2)) _ _ (noLs_rows _) hacc
        · rw [decide_eq_false hw3]
          refine iteF ?_
          refine ⟨_, rfl, rfl, _, rfl, ?_⟩
          by_cases hw4 : V.int way = V.int 4
          · rw [decide_eq_true hw4]
            refine iteT ?_
            have ew4 : way = 4 := V.int.inj hw4
            subst ew4
            have back : atI (ls.map V.ref) (-1) = some (V.ref l) := by rw [els]; exact back_ref ls0 l
            have hmC : MdAt K H3 md m := (hm.ex ot.po.1).ex wo_ex
            obtain ⟨x0, xr, rfl, b0, hwsd2⟩ := dp_cons hwsd
            cases dp_int b0
            refine ⟨_, rfl, _, rfl, dM_high hmC ⟨_, rfl, dM_low hmC ⟨_, _, rfl, rfl, ?_⟩⟩⟩
            refine ⟨_, _, rfl, rfl, ?_⟩
            refine ⟨_, rfl, _, rfl, rl, _, -1, _, rfl, rfl, SqL.of ot.arl, back, ?_⟩
            refine ⟨l, _, 0, _, rfl, rfl, SqL.of hl3, atI_nat (j := 0) rfl, ?_⟩
            refine ⟨_, _, rfl, rfl, ?_⟩
            refine ⟨(by show 2 ≤ sizeLine; decide), fun p1 n1 => ?_⟩
            obtain ⟨e4, d1⟩ := newT (K := K) (ds := [.int 5, .int 5]) n1 (.cons (.int _) (.cons (.int _) .nil))
            have d1 : Dp K (upd H3 p1 (.tup [.int 5, .int 5])) (.ref p1) (dEn (some (5, 5))) := d1
            generalize upd H3 p1 (.tup [.int 5, .int 5]) = H4 at e4 d1 ⊢
            refine ⟨(by show 4 ≤ sizeLine; decide), fun l3 n3 => ?_⟩
            have e5 : Ex H4 (upd H4 l3 (.lst [.int (m.high - m.low + 1 + row.b), .ref p1, .non, .non])) := Ex.new n3
            have hl5 : upd H4 l3 (.lst [.int (m.high - m.low + 1 + row.b), .ref p1, .non, .non]) l3 = some (.lst [.int (m.high - m.low + 1 + row.b), .ref p1, .non, .non]) := upd_same
            generalize upd H4 l3 (.lst [.int (m.high - m.low + 1 + row.b), .ref p1, .non, .non]) = H5 at e5 hl5 ⊢
            refine ⟨(by show 1 ≤ sizeLine; decide), fun p4 n4 => ?_⟩
            have e6 : Ex H5 (upd H5 p4 (.lst [.ref l3])) := Ex.new n4
            have hp4 : upd H5 p4 (.lst [.ref l3]) p4 = some (.lst [.ref l3]) := upd_same
            generalize upd H5 p4 (.lst [.ref l3]) = H6 at e6 hp4 ⊢
            have e36 := (e4.trans e5).trans e6
            have lsl : ls.length ≤ 2 := by have := sm.r2; omega
            refine ⟨rl, p4, _, _, rfl, rfl, e36 _ _ ot.arl, hp4, Nat.le_trans (show (ls.map V.ref).length + 1 ≤ 100 by rw [List.length_map]; omega) (by decide), fun rl2 nrl2 => ?_⟩
            have e7 : Ex H6 (upd H6 rl2 (.lst (ls.map V.ref ++ [.ref l3]))) := Ex.new nrl2
            have p3 := ot.po.2
            have q7 := Po.ex p3 (e36.trans e7)
            have ot7 := ot.step q7
            have nl3 : H3 l3 = none := e4.back n3
            have nrl3 : H3 rl2 = none := e36.back nrl2
            have hbr := (sm.ok.rows row hrr).b0
            have hbr2 := sm.b2 row hrr
            have hlh := sm.ok.lh; have hh3 := sm.h3
            have ot : OtAt K H (upd H6 rl2 (.lst (ls.map V.ref ++ [.ref l3]))) pa nd rl2 m tv (ls ++ [l3]) (m.rows ++ [rowOf (m.high - m.low + 1 + row.b) (some (5, 5)) none none]) := by
              refine ⟨ot7.po, ot7.nnd, ot7.nda, ot7.and_, ot.po.back (p3.ne_none nrl3) nrl3, p3.ne_none nrl3, by rw [upd_same, List.map_append]; rfl, fun x hx => ?_, fun x hx => ?_, Paired.snoc ot7.rows ⟨_, (e6.trans e7) _ _ hl5, ?_⟩⟩
              · rcases List.mem_append.mp hx with hx | hx
                · exact ot.nls x hx
                · simp at hx
                  subst hx
                  exact ot.po.back (p3.ne_none nl3) nl3
              · rcases List.mem_append.mp hx with hx | hx
                · exact ot.lsa x hx
                · simp at hx
                  subst hx
                  exact p3.ne_none nl3
              · exact .cons (.int _) (.cons (Dp.ex ((e5.trans e6).trans e7) _ _ d1) (.cons .non (.cons .non .nil)))
            have tg : TabG (m.rows ++ [rowOf (m.high - m.low + 1 + row.b) (some (5, 5)) none none]) := by
              refine ⟨by have := sm.r2; rw [List.length_append]; show m.rows.length + 1 ≤ 6; omega, ⟨fr, frs ++ [rowOf (m.high - m.low + 1 + row.b) (some (5, 5)) none none], by rw [efr]; rfl, hfr⟩, ?_, fun q hq => ?_⟩
              · have ha := sm.ok.asc
                rw [ers] at ha ⊢
                exact asc_snoc (by show row.b < m.high - m.low + 1 + row.b; omega) ha
              · rcases List.mem_append.mp hq with hq | hq
                · exact sm.ok.rows q hq
                · simp at hq
                  subst hq
                  refine ⟨by show 0 ≤ m.high - m.low + 1 + row.b; omega, by show m.high - m.low + 1 + row.b ≤ 23; omega, fun x => ?_⟩
                  cases x
                  · exact ⟨by decide, by decide, by decide, by decide⟩
                  · trivial
                  · trivial
            have ng := ngm
            generalize upd H6 rl2 (.lst (ls.map V.ref ++ [.ref l3])) = HC at ot ⊢
            refine ⟨_, rfl, rfl, _, rfl, ifF (by decide) (ifF rfl ?_)⟩
            refine ⟨_, rfl, rl2, rfl, ⟨_, SqL.of ot.arl⟩, fun D nD => ?_⟩
            have pl := Paired.length ot.rows
            refine lc_map (K := K) (H := HC) (xs := (ls ++ [l3]).map V.ref) (ds := (m.rows ++ [rowOf (m.high - m.low + 1 + row.b) (some (5, 5)) none none]).map dRow) walk_list (fun H' e => SqL.of (e _ _ ot.arl)) nD (by rw [List.length_map, pl]; have := tg.n6; omega) (by rw [List.length_map, List.length_map, pl]) (fun z hz => by
              obtain ⟨q, _, rfl⟩ := List.mem_map.mp hz
              exact noL_Row q) (fun _ => rfl) (fun i x dd H' kk hv hd e k2 => ?_) (fun H' acc e hD hacc => ?_)
            · rw [List.getElem?_map] at hv hd
              cases hx : (ls ++ [l3])[i]? with
              | none => rw [hx] at hv; cases hv
              | some l0 =>
                cases hy : (m.rows ++ [rowOf (m.high - m.low + 1 + row.b) (some (5, 5)) none none])[i]? with
                | none => rw [hy] at hd; cases hd
                | some q0 =>
                  rw [hx] at hv; rw [hy] at hd
                  cases hv; cases hd
                  obtain ⟨ws, g1, g2⟩ := paired_at ot.rows hx hy
                  refine ⟨_, rfl, l0, ws, rfl, .inl ⟨SqL.of (e _ _ g1), fun p np => ?_⟩⟩
                  exact k2 _ _ (Ex.new np) (newT (ds := rowD q0) np (DpAll.ex e _ _ g2)).2
            · have poD := ot.po.trans (Po.ex ot.po.2 e)
              have hDpa := ot.po.2.ne_none nD
              have and' := e _ _ ot.and_
              have hDnd : D ≠ nd := fun z => by rw [z, ot.and_] at nD; cases nD
              refine ⟨_, rfl, nd, _, rfl, DPut.k (k := .inr "table") and' (by show 6 < sizeLine; decide), ?_⟩
              rw [put_table]
              have tF : Tx H' (upd H' nd (.dK (mdK m (.ref D)))) := Tx.upd and' (fun _ e => nomatch e) (fun _ _ e => nomatch e)
              have pF : Po pa H (upd H' nd (.dK (mdK m (.ref D)))) := poD.mut nnd ndpa
              refine ⟨_, rfl, ?_⟩
              refine k nd { m with rows := (m.rows ++ [rowOf (m.high - m.low + 1 + row.b) (some (5, 5)) none none]) } _ pF ⟨.ref D, by rw [wo_ne ndpa]; exact upd_same, .lst (SqL.of (by rw [wo_ne hDpa, upd_ne hDnd]; exact hD)) ?_⟩ (NGood.ok sm ng tg)
              exact DpAll.tx (tF.trans (tx_wo pF.2)) _ _ (noLs_rows _) hacc
          · rw [decide_eq_false hw4]
            refine iteF ?_
            have ew5 : way = 5 := by
              have n3 : way ≠ 3 := fun z => hw3 (by rw [z])
              have n4 : way ≠ 4 := fun z => hw4 (by rw [z])
              omega
            subst ew5
            refine ⟨_, rfl, rfl, _, rfl, ifT (by decide) ?_⟩
            refine ⟨_, rfl, dM_fresh ((hm.ex ot.po.1).ex wo_ex) ⟨_, _, rfl, rfl, _, rfl, ?_⟩⟩
            by_cases hf : 0 < m.fresh
            · rw [decide_eq_true hf]
              refine iteT ?_
              refine ⟨_, rfl, pa, 3, rfl, ot.po.2, by decide, by decide, fun t H4 p4 t0 t1 => ?_⟩
              have ot := ot.step p4
              refine ⟨_, _, rfl, rfl, ?_⟩
              refine ⟨_, rfl, nd, _, rfl, DPut.k (k := .inr "times") ot.and_ (by show 6 < sizeLine; decide), ?_⟩
              rw [put_times]
              have ot := ot.put (n' := { m with times := 1 + t })
              have ng : NGood m { m with times := 1 + t } := ⟨rfl, Int.le_refl _, by show m.high ≤ m.high + 1; omega, rfl, by show 1 ≤ 1 + t; omega, by show 1 + t ≤ 3; omega, fun z => by
                have z : m.fresh = 0 := z
                omega, rfl⟩
              have tg := sm.tab
              generalize upd H4 nd (.dK (mdK { m with times := 1 + t } tv)) = HC at ot ⊢
              refine ⟨_, rfl, rl, rfl, ⟨_, SqL.of ot.arl⟩, fun D nD => ?_⟩
              have pl := Paired.length ot.rows
              refine lc_map (K := K) (H := HC) (xs := ls.map V.ref) (ds := m.rows.map dRow) walk_list (fun H' e => SqL.of (e _ _ ot.arl)) nD (by rw [List.length_map, pl]; have := tg.n6; omega) (by rw [List.length_map, List.length_map, pl]) (fun z hz => by
                obtain ⟨q, _, rfl⟩ := List.mem_map.mp hz
                exact noL_Row q) (fun _ => rfl) (fun i x dd H' kk hv hd e k2 => ?_) (fun H' acc e hD hacc => ?_)
              · rw [List.getElem?_map] at hv hd
                cases hx : ls[i]? with
                | none => rw [hx] at hv; cases hv
                | some l0 =>
                  cases hy : m.rows[i]? with
                  | none => rw [hy] at hd; cases hd
                  | some q0 =>
                    rw [hx] at hv; rw [hy] at hd
                    cases hv; cases hd
                    obtain ⟨ws, g1, g2⟩ := paired_at ot.rows hx hy
                    refine ⟨_, rfl, l0, ws, rfl, .inl ⟨SqL.of (e _ _ g1), fun p np => ?_⟩⟩
                    exact k2 _ _ (Ex.new np) (newT (ds := rowD q0) np (DpAll.ex e _ _ g2)).2
              · have poD := ot.po.trans (Po.ex ot.po.2 e)
                have hDpa := ot.po.2.ne_none nD
                have and' := e _ _ ot.and_
                have hDnd : D ≠ nd := fun z => by rw [z, ot.and_] at nD; cases nD
                refine ⟨_, rfl, nd, _, rfl, DPut.k (k := .inr "table") and' (by show 6 < sizeLine; decide), ?_⟩
                rw [put_table]
                have tF : Tx H' (upd H' nd (.dK (mdK { m with times := 1 + t } (.ref D)))) := Tx.upd and' (fun _ e => nomatch e) (fun _ _ e => nomatch e)
                have pF : Po pa H (upd H' nd (.dK (mdK { m with times := 1 + t } (.ref D)))) := poD.mut nnd ndpa
                refine ⟨_, rfl, ?_⟩
                refine k nd { { m with times := 1 + t } with rows := m.rows } _ pF ⟨.ref D, by rw [wo_ne ndpa]; exact upd_same, .lst (SqL.of (by rw [wo_ne hDpa, upd_ne hDnd]; exact hD)) ?_⟩ (NGood.ok sm ng tg)
                exact DpAll.tx (tF.trans (tx_wo pF.2)) _ _ (noLs_rows _) hacc
            · rw [decide_eq_false hf]
              refine iteF ?_
              have ng := ngm
              have tg := sm.tab
              refine ⟨_, rfl, rl, rfl, ⟨_, SqL.of ot.arl⟩, fun D nD => ?_⟩
              have pl := Paired.length ot.rows
              refine lc_map (K := K) (H := H3) (xs := ls.map V.ref) (ds := m.rows.map dRow) walk_list (fun H' e => SqL.of (e _ _ ot.arl)) nD (by rw [List.length_map, pl]; have := tg.n6; omega) (by rw [List.length_map, List.length_map, pl]) (fun z hz => by
                obtain ⟨q, _, rfl⟩ := List.mem_map.mp hz
                exact noL_Row q) (fun _ => rfl) (fun i x dd H' kk hv hd e k2 => ?_) (fun H' acc e hD hacc => ?_)
              · rw [List.getElem?_map] at hv hd
                cases hx : ls[i]? with
                | none => rw [hx] at hv; cases hv
                | some l0 =>
                  cases hy : m.rows[i]? with
                  | none => rw [hy] at hd; cases hd
                  | some q0 =>
                    rw [hx] at hv; rw [hy] at hd
                    cases hv; cases hd
                    obtain ⟨ws, g1, g2⟩ := paired_at ot.rows hx hy
                    refine ⟨_, rfl, l0, ws, rfl, .inl ⟨SqL.of (e _ _ g1), fun p np => ?_⟩⟩
                    exact k2 _ _ (Ex.new np) (newT (ds := rowD q0) np (DpAll.ex e _ _ g2)).2
              · have poD := ot.po.trans (Po.ex ot.po.2 e)
                have hDpa := ot.po.2.ne_none nD
                have and' := e _ _ ot.and_
                have hDnd : D ≠ nd := fun z => by rw [z, ot.and_] at nD; cases nD
                refine ⟨_, rfl, nd, _, rfl, DPut.k (k := .inr "table") and' (by show 6 < sizeLine; decide), ?_⟩
                rw [put_table]
                have tF : Tx H' (upd H' nd (.dK (mdK m (.ref D)))) := Tx.upd and' (fun _ e => nomatch e) (fun _ _ e => nomatch e)
                have pF : Po pa H (upd H' nd (.dK (mdK m (.ref D)))) := poD.mut nnd ndpa
                refine ⟨_, rfl, ?_⟩
                refine k nd { m with rows := m.rows } _ pF ⟨.ref D, by rw [wo_ne ndpa]; exact upd_same, .lst (SqL.of (by rw [wo_ne hDpa, upd_ne hDnd]; exact hD)) ?_⟩ (NGood.ok sm ng tg)
                exact DpAll.tx (tF.trans (tx_wo pF.2)) _ _ (noLs_rows _) hacc
end
end Tw
/-! The law. -/
namespace Tw
open PySem PySem.Spec PyProof.Rows L2
theorem noFault_iff {m n : Bk} (okm : m.Ok) (okn : n.Ok) {r0 : Int} (h1 : OkP m n (startP m n r0)) (h2 : OkP n m (startP n m r0)) : NoFault n m r0 ↔ NoFault m n r0 := ⟨noFault_sw okm okn h1, noFault_sw okn okm h2⟩
section
variable {P : Program} {w : World} {K : PySem.W.Frag} {mg : Str → Option Value} {base : Heap}
theorem fun_mk {x qual : Str} {st : Stmt} {N ps : List Str} {k : Nat} {sp : Sp} {fL : Addr} {fdL : FuncData} (F : FunD K x qual (defArgs st) (defBody st) (defScope st) [] [] fL fdL) (S : FnScope N ps (defScope st)) (len : ∀ vs H Q E, sp vs H Q E → vs.length = ps.length)
    (hb : ∀ (f : Addr) (cdv : Value) (A : Around) (outer : List Env) (s : Shared) (H : Hp) (vs : List V) (Q : VK) (E : XK), Room k (A.deeper (envOfC qual (defScope st) s.heap.objs.size f cdv)) → sp vs H Q E →
      ∃ t, PSs (cxOf CX0 P w K mg base N qual (defScope st) f cdv A outer s H E).nox (defBody st) t ∧ t { nx := fun _ H' => Q .non H', rt := Q } (start N vs) H) : FnOk P w K mg base CX0 (k + 1) fL fdL ps sp :=
  F.ok S len fun cdv A outer s H vs Q E hr h => by
    obtain ⟨t, d, q⟩ := hb fL cdv A outer s H vs Q E hr h
    exact ⟨t, d.nox, q⟩
def spLaw (K : PySem.W.Frag) : Sp := fun vs H Q _ => ∃ (a : Addr) (ns : List Int), vs = [.ref a] ∧ SqL K H a (ns.map V.int) ∧ ∀ H', Q (.bl true) H'
theorem sc_law : FnScope ["_law_script", "_law_pool_here", "_law_turn", "_law_m", "_law_n", "_law_rating", "_law_one_here", "_law_other_here", "_law_fault_here", "_law_told"] ["_law_script"] (defScope s_law) := ⟨rfl, rfl, rfl, by decide +kernel, rfl, by decide +kernel, by decide +kernel⟩
theorem ok_law {fL : Addr} {fdL : FuncData} (D : FunD K "law" "law" (defArgs s_law) (defBody s_law) (defScope s_law) [] [] fL fdL) (T : Txt K mg) (C_l_pool : Cal P w K mg base 1 "_law_pool" (spPool K)) (C_l_draw : Cal P w K mg base 1 "_law_draw" spDraw) (C_l_model : Cal P w K mg base 3 "_law_model" (spModel K)) (C_l_other : Cal P w K mg base 3 "_law_other" (spOther K))
    (C_l_made : Cal P w K mg base 8 "_law_made" (spMade K)) (C_l_fault : Cal P w K mg base 5 "_law_fault" (spFault K)) (C_first_unlike : Cal P w K mg base 93 "first_unlike" (spUnlike K)) (C_are_alike : Cal P w K mg base 9 "are_alike" (spAlike K))
    (C_l_shown : Cal P w K mg base 4 "_law_shown" (spShown K)) : FnOk P w K mg base CX0 94 fL fdL ["_law_script"] (spLaw K) := by
  refine fun_mk D sc_law (fun vs H Q E h => ?_) (fun f cdv A outer st0 H vs Q E hr h => ?_)
  · obtain ⟨a, ns, rfl, _⟩ := h
    rfl
  · obtain ⟨a, ns, rfl, hs, k⟩ := h
    have nd := sc_law.nd
    have hu1 := hu_of hr
    have hu9 := hu9_of hr
    have hu64 := hu64_of hr
    have hu65 := hu65_of hr
    refine ⟨_, (pss_cons (ps_set (i := 1) nd rfl (Or.inl rfl) (pe_c C_l_pool hr (by decide) rfl (pa_cons (pv 0) (pa_cons pe_int pa_nil))))
    (pss_cons (ps_for PassesOwn.never rfl (pi_range1 (by rfl) T.range_ (pa_cons pe_int pa_nil)) (pg_name (i := 2) nd rfl (Or.inl rfl))
    (pss_cons (ps_set (i := 3) nd rfl (Or.inl rfl) (pe_c C_l_model hr (by decide) rfl (pa_cons (pv 1) (pa_cons pe_int (pa_cons pe_int pa_nil)))))
    (pss_cons (ps_set (i := 4) nd rfl (Or.inl rfl) (pe_ifExp (pt_cmpR op_eq (pe_c C_l_draw hr (by decide) rfl (pa_cons (pv 1) (pa_cons pe_int pa_nil))) pe_int (nomark _)) (pe_c C_l_model hr (by decide) rfl (pa_cons (pv 1) (pa_cons pe_int (pa_cons pe_int pa_nil)))) (pe_c C_l_other hr (by decide) rfl (pa_cons (pv 1) (pa_cons (pv 3) pa_nil)))))
    (pss_cons (ps_par (i := 6) (j := 7) rfl nd rfl rfl (by decide) rfl rfl (pa_cons (pe_c C_l_made hr (by decide) rfl (pa_cons (pv 3) pa_nil)) (pa_cons (pe_c C_l_made hr (by decide) rfl (pa_cons (pv 4) pa_nil)) pa_nil)) (by rfl))
    (pss_one (ps_for PassesOwn.never rfl (pi_range2 (by rfl) T.range_ (pa_cons (pe_callB (call_max2 rfl) (by rfl) T.max_ PyProof.Rows.boot_max (pa_cons (pe_callTy call_int1 (by rfl) T.int_ PyProof.Rows.boot_int (pa_cons (pe_dget hu1 (pv 3) pe_str (fun _ _ => rfl)) pa_nil)) (pa_cons (pe_callTy call_int1 (by rfl) T.int_ PyProof.Rows.boot_int (pa_cons (pe_dget hu1 (pv 4) pe_str (fun _ _ => rfl)) pa_nil)) pa_nil))) (pa_cons (pe_op op_add pe_int (pe_callB (call_min2 rfl) (by rfl) T.min_ PyProof.Rows.boot_min (pa_cons (pe_callTy call_int1 (by rfl) T.int_ PyProof.Rows.boot_int (pa_cons (pe_dget hu1 (pv 3) pe_str (fun _ _ => rfl)) pa_nil)) (pa_cons (pe_callTy call_int1 (by rfl) T.int_ PyProof.Rows.boot_int (pa_cons (pe_dget hu1 (pv 4) pe_str (fun _ _ => rfl)) pa_nil)) pa_nil)))) pa_nil))) (pg_name (i := 5) nd rfl (Or.inl rfl))
    (pss_cons (ps_par (i := 8) (j := 9) rfl nd rfl rfl (by decide) rfl rfl (pa_cons (pe_c C_l_fault hr (by decide) rfl (pa_cons (pv 3) (pa_cons (pv 4) (pa_cons (pv 5) pa_nil)))) (pa_cons (pe_c C_first_unlike hr (by decide) rfl (pa_cons (pv 6) (pa_cons (pv 7) (pa_cons (pv 5) pa_nil)))) pa_nil)) (by rfl))
    (pss_cons (ps_if (PW.pt (pw_or (pt_cmpR op_ne (pe_c C_are_alike hr (by decide) rfl (pa_cons (pv 6) (pa_cons (pv 7) (pa_cons (pv 5) pa_nil)))) (pe_cmpR op_isN (pv 8) pe_non (nomark _)) (nomark _)) (pw_or1 (pt_cmpR op_ne (pe_cmpR op_isN (pv 9) pe_non (nomark _)) (pe_cmpR op_isN (pv 8) pe_non (nomark _)) (nomark _)))))
    (pss_one (ps_ret pe_bl))
    pss_nil)
    (pss_cons (ps_if (PW.pt (pw_and (pt_cmpR op_notN (pv 9) pe_non (nomark _)) (pw_and1 (pt_not (pt_val (pe_c C_l_shown hr (by decide) rfl (pa_cons (pv 3) (pa_cons (pv 4) (pa_cons (pv 5) (pa_cons (pv 9) pa_nil))))))))))
    (pss_one (ps_ret pe_bl))
    pss_nil)
    (pss_one (ps_if (PW.pt (pw_or (pt_not (pt_val (pe_c C_are_alike hr (by decide) rfl (pa_cons (pv 6) (pa_cons (pv 6) (pa_cons (pv 5) pa_nil)))))) (pw_or1 (pt_cmpR op_ne (pe_c C_are_alike hr (by decide) rfl (pa_cons (pv 7) (pa_cons (pv 6) (pa_cons (pv 5) pa_nil)))) (pe_cmpR op_isN (pv 8) pe_non (nomark _)) (nomark _)))))
    (pss_one (ps_ret pe_bl))
    pss_nil)))))))))))
    (pss_one (ps_ret pe_bl)))), ?_⟩
    -- slots: 0 _law_script, 1 _law_pool_here, 2 _law_turn, 3 _law_m, 4 _law_n, 5 _law_rating, 6 _law_one_here, 7 _law_other_here, 8 _law_fault_here, 9 _law_told
    refine ⟨_, rfl, a, ns, rfl, hs, fun pa H1 npa e1 pool1 => ?_⟩
    refine ⟨2, rfl, by omega, by omega, ?_⟩
    refine for_range (lo := 0) (n := (2 : Int).toNat) (fun i σ H' => PoolAt H' pa ∧ ∃ v2 v3 v4 v5 v6 v7 v8 v9, σ = [some (.ref a), some (.ref pa), v2, v3, v4, v5, v6, v7, v8, v9]) ⟨pool1, _, _, _, _, _, _, _, _, rfl⟩ ?_ ?_
    · rintro i σ H2 hi ⟨pool2, v2, v3, v4, v5, v6, v7, v8, v9, rfl⟩
      refine ⟨_, rfl, pa, rfl, pool2, fun md m H3 p3 hm3 sm => ?_⟩
      -- the second model
      refine ⟨_, rfl, pa, 4, rfl, p3.2, by decide, by decide, fun d4 H4 p4 d0 d1 => ?_⟩
      refine ⟨rfl, _, rfl, ?_⟩
      by_cases hd : V.int d4 = V.int 0
      · rw [decide_eq_true hd]
        refine iteT ?_
        refine ⟨_, rfl, pa, rfl, p4.2, fun nd n H5 p5 hn5 sn => ?_⟩
        have okn := sn.ok
        have po35 := p4.trans p5
        have hm5 : MdAt K H5 md m := (hm3.ex po35.1).ex wo_ex
        have hn5' : MdAt K H5 nd n := hn5.ex wo_ex
        have okm := sm.ok
        refine ⟨_, rfl, md, m, rfl, hm5, okm, fun b1 H6 e6 hb1 => ?_⟩
        refine ⟨_, rfl, nd, n, rfl, hn5'.ex e6, okn, fun b2 H7 e7 hb2 => ?_⟩
        refine ⟨_, _, rfl, ?_⟩
        have hm7 := hm5.ex (e6.trans e7)
        have hn7 := hn5'.ex (e6.trans e7)
        have hb17 := hb1.ex e7
        have pool7 : PoolAt H7 pa := (p5.trans (Po.ex p5.2 (e6.trans e7))).2
        refine ⟨_, rfl, dM_low hm7 (.inl ⟨_, rfl, ?_⟩)⟩
        refine ⟨_, rfl, dM_low hn7 (.inl ⟨_, rfl, ?_⟩)⟩
        refine ⟨_, _, rfl, ?_⟩
        refine ⟨_, rfl, dM_high hm7 (.inl ⟨_, rfl, ?_⟩)⟩
        refine ⟨_, rfl, dM_high hn7 (.inl ⟨_, rfl, ?_⟩)⟩
        refine ⟨_, _, rfl, ?_⟩
        refine ⟨_, _, rfl, rfl, ?_⟩
        obtain ⟨lo, elo, lo1, lo2, lo3⟩ : ∃ lo, (if n.low > m.low then n.low else m.low) = lo ∧ m.low ≤ lo ∧ n.low ≤ lo ∧ (lo = n.low ∨ lo = m.low) := by
          refine ⟨_, rfl, ?_, ?_, ?_⟩
          · split <;> omega
          · split <;> omega
          · split
            · exact .inl rfl
            · exact .inr rfl
        obtain ⟨hi, ehi, hi1, hi2, hi3⟩ : ∃ hi, (if n.high < m.high then n.high else m.high) = hi ∧ hi ≤ m.high ∧ hi ≤ n.high ∧ (hi = n.high ∨ hi = m.high) := by
          refine ⟨_, rfl, ?_, ?_, ?_⟩
          · split <;> omega
          · split <;> omega
          · split
            · exact .inl rfl
            · exact .inr rfl
        rw [elo, ehi]
        have := okm.l0; have := okm.lh; have := okm.h1; have := okn.l0; have := okn.lh; have := okn.h1
        refine ⟨lo, 1 + hi, rfl, ⟨by omega, by omega, by omega, by omega⟩, ?_⟩
        refine for_range (lo := lo) (n := (1 + hi - lo).toNat) (fun j σ H' => Ex H7 H' ∧ ∃ v5 v8 v9, σ = [some (.ref a), some (.ref pa), some (.int (0 + (i : Int))), some (.ref md), some (.ref nd), v5, some (.ref b1), some (.ref b2), v8, v9]) ⟨Ex.refl _, _, _, _, rfl⟩ ?_ ?_
        · rintro j σ H8 hj ⟨e8, w5, w8, w9, rfl⟩
          have hr : m.low ≤ lo + (j : Int) ∧ lo + (j : Int) ≤ m.high ∧ n.low ≤ lo + (j : Int) ∧ lo + (j : Int) ≤ n.high := ⟨by omega, by omega, by omega, by omega⟩
          generalize lo + (j : Int) = r0 at hr ⊢
          obtain ⟨g1, g2, g3, g4⟩ := hr
          have okS := start_ok okm okn g1 g2 g3 g4
          have okS' := start_ok okn okm g3 g4 g1 g2
          have two : Two K H8 b1 b2 m n r0 := ⟨hb17.ex e8, okm, hb2.ex e8, okn, g1, g2, g3, g4⟩
          have self : Two K H8 b1 b1 m m r0 := ⟨hb17.ex e8, okm, hb17.ex e8, okm, g1, g2, g1, g2⟩
          have turned : Two K H8 b2 b1 n m r0 := ⟨hb2.ex e8, okn, hb17.ex e8, okm, g3, g4, g1, g2⟩
          have few : ∀ p, OkP m n p → m.low ≤ p.1.1 ∧ p.1.1 < m.low + 4 := fun p hp => by
            have := hp.a.r0; have := hp.a.r1; have := sm.h3
            exact ⟨by omega, by omega⟩
          have swi := noFault_iff okm okn okS okS'
          have hm8 := hm7.ex e8
          have hn8 := hn7.ex e8
          refine ⟨_, rfl, _, rfl, _, rfl, md, nd, m, n, r0, rfl, hm8, okm, hn8, okn, okS, fun nf H9 e9 => ?_, fun nf H9 e9 => ?_⟩
          · refine ⟨_, rfl, _, rfl, _, rfl, b1, b2, m, n, r0, m.low, rfl, two.ex e9, few, fun H10 e10 _ => ?_, fun _ _ _ _ _ hnn => (hnn nf).elim⟩
            refine ⟨_, _, rfl, ?_⟩
            have e810 := e9.trans e10
            refine ⟨_, rfl, _, rfl, _, rfl, b1, b2, m, n, r0, rfl, two.ex e810, fun b H11 e11 hb => ?_⟩
            have e811 := e810.trans e11
            cases hb.mpr nf
            refine ⟨_, rfl, rfl, rfl, _, rfl, iteF ?_⟩
            refine ⟨_, rfl, rfl, _, rfl, rfl, rfl, _, rfl, iteF ?_⟩
            refine ⟨_, rfl, rfl, _, rfl, iteF (iteF ?_)⟩
            refine ⟨_, rfl, _, rfl, _, rfl, b1, b1, m, m, r0, rfl, self.ex e811, fun b H12 e12 hb => ?_⟩
            cases hb.mpr (noFault_self m r0)
            have e812 := e811.trans e12
            refine ⟨true, rfl, iteF ?_⟩
            refine ⟨_, rfl, _, rfl, _, rfl, b2, b1, n, m, r0, rfl, turned.ex e812, fun b H13 e13 hb => ?_⟩
            cases hb.mpr (swi.mpr nf)
            have e813 := e812.trans e13
            refine ⟨_, rfl, rfl, rfl, _, rfl, iteF ?_⟩
            exact ⟨e8.trans e813, _, _, _, rfl⟩
          · refine ⟨_, rfl, _, rfl, _, rfl, b1, b2, m, n, r0, m.low, rfl, two.ex e9, few, fun _ _ hy => (nf hy).elim, fun ta G cc H10 e10 _ told hG dt => ?_⟩
            refine ⟨_, _, rfl, ?_⟩
            have e810 := e9.trans e10
            refine ⟨_, rfl, _, rfl, _, rfl, b1, b2, m, n, r0, rfl, two.ex e810, fun b H11 e11 hb => ?_⟩
            have e811 := e810.trans e11
            have hbf : b = false := by
              cases b with
              | false => rfl
              | true => exact (nf (hb.mp rfl)).elim
            subst hbf
            refine ⟨_, rfl, rfl, rfl, _, rfl, iteF ?_⟩
            refine ⟨_, rfl, rfl, _, rfl, rfl, rfl, _, rfl, iteF ?_⟩
            refine ⟨_, rfl, rfl, _, rfl, iteT ?_⟩
            refine ⟨_, rfl, _, rfl, _, rfl, _, rfl, md, nd, ta, m, n, r0, G, cc, rfl, hm8.ex e811, okm, hn8.ex e811, okn, okS, told, hG, Dp.ex e11 _ _ dt, fun H12 e12 => ?_⟩
            have e812 := e811.trans e12
            refine ⟨true, rfl, iteF ?_⟩
            refine ⟨_, rfl, _, rfl, _, rfl, b1, b1, m, m, r0, rfl, self.ex e812, fun b H13 e13 hb => ?_⟩
            cases hb.mpr (noFault_self m r0)
            have e813 := e812.trans e13
            refine ⟨true, rfl, iteF ?_⟩
            refine ⟨_, rfl, _, rfl, _, rfl, b2, b1, n, m, r0, rfl, turned.ex e813, fun b H14 e14 hb => ?_⟩
            have hbf : b = false := by
              cases b with
              | false => rfl
              | true => exact (nf (swi.mp (hb.mp rfl))).elim
            subst hbf
            refine ⟨_, rfl, rfl, rfl, _, rfl, iteF ?_⟩
            exact ⟨e8.trans (e813.trans e14), _, _, _, rfl⟩
        · rintro σ H8 ⟨e8, w5, w8, w9, rfl⟩
          exact ⟨(Po.ex pool7 e8).2, _, _, _, _, _, _, _, _, rfl⟩
      · rw [decide_eq_false hd]
        refine iteF ?_
        refine ⟨_, rfl, _, rfl, pa, md, m, rfl, p4.2, hm3.ex p4.1, sm, fun nd n H5 p5 hn5 okn => ?_⟩
        have po35 := p4.trans p5
        have hm5 : MdAt K H5 md m := (hm3.ex po35.1).ex wo_ex
        have hn5' : MdAt K H5 nd n := hn5.ex wo_ex
        have okm := sm.ok
        refine ⟨_, rfl, md, m, rfl, hm5, okm, fun b1 H6 e6 hb1 => ?_⟩
        refine ⟨_, rfl, nd, n, rfl, hn5'.ex e6, okn, fun b2 H7 e7 hb2 => ?_⟩
        refine ⟨_, _, rfl, ?_⟩
        have hm7 := hm5.ex (e6.trans e7)
        have hn7 := hn5'.ex (e6.trans e7)
        have hb17 := hb1.ex e7
        have pool7 : PoolAt H7 pa := (p5.trans (Po.ex p5.2 (e6.trans e7))).2
        refine ⟨_, rfl, dM_low hm7 (.inl ⟨_, rfl, ?_⟩)⟩
        refine ⟨_, rfl, dM_low hn7 (.inl ⟨_, rfl, ?_⟩)⟩
        refine ⟨_, _, rfl, ?_⟩
        refine ⟨_, rfl, dM_high hm7 (.inl ⟨_, rfl, ?_⟩)⟩
        refine ⟨_, rfl, dM_high hn7 (.inl ⟨_, rfl, ?_⟩)⟩
        refine ⟨_, _, rfl, ?_⟩
        refine ⟨_, _, rfl, rfl, ?_⟩
        obtain ⟨lo, elo, lo1, lo2, lo3⟩ : ∃ lo, (if n.low > m.low then n.low else m.low) = lo ∧ m.low ≤ lo ∧ n.low ≤ lo ∧ (lo = n.low ∨ lo = m.low) := by
          refine ⟨_, rfl, ?_, ?_, ?_⟩
          · split <;> omega
          · split <;> omega
          · split
            · exact .inl rfl
            · exact .inr rfl
        obtain ⟨hi, ehi, hi1, hi2, hi3⟩ : ∃ hi, (if n.high < m.high then n.high else m.high) = hi ∧ hi ≤ m.high ∧ hi ≤ n.high ∧ (hi = n.high ∨ hi = m.high) := by
          refine ⟨_, rfl, ?_, ?_, ?_⟩
          · split <;> omega
          · split <;> omega
          · split
            · exact .inl rfl
            · exact .inr rfl
        rw [elo, ehi]
        have := okm.l0; have := okm.lh; have := okm.h1; have := okn.l0; have := okn.lh; have := okn.h1
        refine ⟨lo, 1 + hi, rfl, ⟨by omega, by omega, by omega, by omega⟩, ?_⟩
        refine for_range (lo := lo) (n := (1 + hi - lo).toNat) (fun j σ H' => Ex H7 H' ∧ ∃ v5 v8 v9, σ = [some (.ref a), some (.ref pa), some (.int (0 + (i : Int))), some (.ref md), some (.ref nd), v5, some (.ref b1), some (.ref b2), v8, v9]) ⟨Ex.refl _, _, _, _, rfl⟩ ?_ ?_
        · rintro j σ H8 hj ⟨e8, w5, w8, w9, rfl⟩
          have hr : m.low ≤ lo + (j : Int) ∧ lo + (j : Int) ≤ m.high ∧ n.low ≤ lo + (j : Int) ∧ lo + (j : Int) ≤ n.high := ⟨by omega, by omega, by omega, by omega⟩
          generalize lo + (j : Int) = r0 at hr ⊢
          obtain ⟨g1, g2, g3, g4⟩ := hr
          have okS := start_ok okm okn g1 g2 g3 g4
          have okS' := start_ok okn okm g3 g4 g1 g2
          have two : Two K H8 b1 b2 m n r0 := ⟨hb17.ex e8, okm, hb2.ex e8, okn, g1, g2, g3, g4⟩
          have self : Two K H8 b1 b1 m m r0 := ⟨hb17.ex e8, okm, hb17.ex e8, okm, g1, g2, g1, g2⟩
          have turned : Two K H8 b2 b1 n m r0 := ⟨hb2.ex e8, okn, hb17.ex e8, okm, g3, g4, g1, g2⟩
          have few : ∀ p, OkP m n p → m.low ≤ p.1.1 ∧ p.1.1 < m.low + 4 := fun p hp => by
            have := hp.a.r0; have := hp.a.r1; have := sm.h3
            exact ⟨by omega, by omega⟩
          have swi := noFault_iff okm okn okS okS'
          have hm8 := hm7.ex e8
          have hn8 := hn7.ex e8
          refine ⟨_, rfl, _, rfl, _, rfl, md, nd, m, n, r0, rfl, hm8, okm, hn8, okn, okS, fun nf H9 e9 => ?_, fun nf H9 e9 => ?_⟩
          · refine ⟨_, rfl, _, rfl, _, rfl, b1, b2, m, n, r0, m.low, rfl, two.ex e9, few, fun H10 e10 _ => ?_, fun _ _ _ _ _ hnn => (hnn nf).elim⟩
            refine ⟨_, _, rfl, ?_⟩
            have e810 := e9.trans e10
            refine ⟨_, rfl, _, rfl, _, rfl, b1, b2, m, n, r0, rfl, two.ex e810, fun b H11 e11 hb => ?_⟩
            have e811 := e810.trans e11
            cases hb.mpr nf
            refine ⟨_, rfl, rfl, rfl, _, rfl, iteF ?_⟩
            refine ⟨_, rfl, rfl, _, rfl, rfl, rfl, _, rfl, iteF ?_⟩
            refine ⟨_, rfl, rfl, _, rfl, iteF (iteF ?_)⟩
            refine ⟨_, rfl, _, rfl, _, rfl, b1, b1, m, m, r0, rfl, self.ex e811, fun b H12 e12 hb => ?_⟩
            cases hb.mpr (noFault_self m r0)
            have e812 := e811.trans e12
            refine ⟨true, rfl, iteF ?_⟩
            refine ⟨_, rfl, _, rfl, _, rfl, b2, b1, n, m, r0, rfl, turned.ex e812, fun b H13 e13 hb => ?_⟩
            cases hb.mpr (swi.mpr nf)
            have e813 := e812.trans e13
            refine ⟨_, rfl, rfl, rfl, _, rfl, iteF ?_⟩
            exact ⟨e8.trans e813, _, _, _, rfl⟩
          · refine ⟨_, rfl, _, rfl, _, rfl, b1, b2, m, n, r0, m.low, rfl, two.ex e9, few, fun _ _ hy => (nf hy).elim, fun ta G cc H10 e10 _ told hG dt => ?_⟩
            refine ⟨_, _, rfl, ?_⟩
            have e810 := e9.trans e10
            refine ⟨_, rfl, _, rfl, _, rfl, b1, b2, m, n, r0, rfl, two.ex e810, fun b H11 e11 hb => ?_⟩
            have e811 := e810.trans e11
            have hbf : b = false := by
              cases b with
              | false => rfl
              | true => exact (nf (hb.mp rfl)).elim
            subst hbf
            refine ⟨_, rfl, rfl, rfl, _, rfl, iteF ?_⟩
            refine ⟨_, rfl, rfl, _, rfl, rfl, rfl, _, rfl, iteF ?_⟩
            refine ⟨_, rfl, rfl, _, rfl, iteT ?_⟩
            refine ⟨_, rfl, _, rfl, _, rfl, _, rfl, md, nd, ta, m, n, r0, G, cc, rfl, hm8.ex e811, okm, hn8.ex e811, okn, okS, told, hG, Dp.ex e11 _ _ dt, fun H12 e12 => ?_⟩
            have e812 := e811.trans e12
            refine ⟨true, rfl, iteF ?_⟩
            refine ⟨_, rfl, _, rfl, _, rfl, b1, b1, m, m, r0, rfl, self.ex e812, fun b H13 e13 hb => ?_⟩
            cases hb.mpr (noFault_self m r0)
            have e813 := e812.trans e13
            refine ⟨true, rfl, iteF ?_⟩
            refine ⟨_, rfl, _, rfl, _, rfl, b2, b1, n, m, r0, rfl, turned.ex e813, fun b H14 e14 hb => ?_⟩
            have hbf : b = false := by
              cases b with
              | false => rfl
              | true => exact (nf (swi.mp (hb.mp rfl))).elim
            subst hbf
            refine ⟨_, rfl, rfl, rfl, _, rfl, iteF ?_⟩
            exact ⟨e8.trans (e813.trans e14), _, _, _, rfl⟩
        · rintro σ H8 ⟨e8, w5, w8, w9, rfl⟩
          exact ⟨(Po.ex pool7 e8).2, _, _, _, _, _, _, _, _, rfl⟩
    · rintro σ H2 ⟨pool2, v2, v3, v4, v5, v6, v7, v8, v9, rfl⟩
      exact k H2
end
end Tw
namespace Tw
open PySem PySem.Spec PyProof.Rows L2
/-! ### the head: facts by names, the run -/
def d_is_integer : He.DefD := ⟨("is_integer", none), "is_integer", "is_integer", defArgs s_is_integer, defBody s_is_integer, defScope s_is_integer, [], []⟩
def d_is_whole : He.DefD := ⟨("is_whole", none), "is_whole", "is_whole", defArgs s_is_whole, defBody s_is_whole, defScope s_is_whole, [], []⟩
def d_is_entry : He.DefD := ⟨("is_entry", none), "is_entry", "is_entry", defArgs s_is_entry, defBody s_is_entry, defScope s_is_entry, [], []⟩
def d_is_table_row : He.DefD := ⟨("is_table_row", none), "is_table_row", "is_table_row", defArgs s_is_table_row, defBody s_is_table_row, defScope s_is_table_row, [], []⟩
def d_is_table : He.DefD := ⟨("is_table", none), "is_table", "is_table", defArgs s_is_table, defBody s_is_table, defScope s_is_table, [], []⟩
def d_row_at : He.DefD := ⟨("row_at", none), "row_at", "row_at", defArgs s_row_at, defBody s_row_at, defScope s_row_at, [], []⟩
def d_is_result : He.DefD := ⟨("is_result", none), "is_result", "is_result", defArgs s_is_result, defBody s_is_result, defScope s_is_result, [], []⟩
def d_b_init : He.DefD := ⟨("Book", some "__init__"), "__init__", "Book.__init__", defArgs s_b_init, defBody s_b_init, defScope s_b_init, [], [("fresh", .int 0), ("times", .int 1), ("bonus", .int 0)]⟩
def d_b_len : He.DefD := ⟨("Book", some "__len__"), "__len__", "Book.__len__", defArgs s_b_len, defBody s_b_len, defScope s_b_len, [], []⟩
def d_b_contains : He.DefD := ⟨("Book", some "__contains__"), "__contains__", "Book.__contains__", defArgs s_b_contains, defBody s_b_contains, defScope s_b_contains, [], []⟩
def d_b_last_phase : He.DefD := ⟨("Book", some "last_phase"), "last_phase", "Book.last_phase", defArgs s_b_last_phase, defBody s_b_last_phase, defScope s_b_last_phase, [], []⟩
def d_b_places : He.DefD := ⟨("Book", some "places"), "places", "Book.places", defArgs s_b_places, defBody s_b_places, defScope s_b_places, [], []⟩
def d_b_start : He.DefD := ⟨("Book", some "start"), "start", "Book.start", defArgs s_b_start, defBody s_b_start, defScope s_b_start, [], []⟩
def d_b_moved : He.DefD := ⟨("Book", some "moved"), "moved", "Book.moved", defArgs s_b_moved, defBody s_b_moved, defScope s_b_moved, [], []⟩
def d_b_game : He.DefD := ⟨("Book", some "game"), "game", "Book.game", defArgs s_b_game, defBody s_b_game, defScope s_b_game, [], []⟩
def d_t_init : He.DefD := ⟨("Twins", some "__init__"), "__init__", "Twins.__init__", defArgs s_t_init, defBody s_t_init, defScope s_t_init, [], []⟩
def d_t_look_at : He.DefD := ⟨("Twins", some "look_at"), "look_at", "Twins.look_at", defArgs s_t_look_at, defBody s_t_look_at, defScope s_t_look_at, [], []⟩
def d_t_take : He.DefD := ⟨("Twins", some "take"), "take", "Twins.take", defArgs s_t_take, defBody s_t_take, defScope s_t_take, [], []⟩
def d_t_many_games : He.DefD := ⟨("Twins", some "many_games"), "many_games", "Twins.many_games", defArgs s_t_many_games, defBody s_t_many_games, defScope s_t_many_games, [], []⟩
def d_t_put_games : He.DefD := ⟨("Twins", some "put_games"), "put_games", "Twins.put_games", defArgs s_t_put_games, defBody s_t_put_games, defScope s_t_put_games, [], []⟩
def d_t_put_game : He.DefD := ⟨("Twins", some "put_game"), "put_game", "Twins.put_game", defArgs s_t_put_game, defBody s_t_put_game, defScope s_t_put_game, [], []⟩
def d_check_rating : He.DefD := ⟨("check_rating", none), "check_rating", "check_rating", defArgs s_check_rating, defBody s_check_rating, defScope s_check_rating, [], []⟩
def d_are_alike : He.DefD := ⟨("are_alike", none), "are_alike", "are_alike", defArgs s_are_alike, defBody s_are_alike, defScope s_are_alike, [], []⟩
def d_first_unlike : He.DefD := ⟨("first_unlike", none), "first_unlike", "first_unlike", defArgs s_first_unlike, defBody s_first_unlike, defScope s_first_unlike, [], []⟩
def d_l_pool : He.DefD := ⟨("_law_pool", none), "_law_pool", "_law_pool", defArgs s_l_pool, defBody s_l_pool, defScope s_l_pool, [], []⟩
def d_l_draw : He.DefD := ⟨("_law_draw", none), "_law_draw", "_law_draw", defArgs s_l_draw, defBody s_l_draw, defScope s_l_draw, [], []⟩
def d_l_pick : He.DefD := ⟨("_law_pick", none), "_law_pick", "_law_pick", defArgs s_l_pick, defBody s_l_pick, defScope s_l_pick, [], []⟩
def d_l_entry : He.DefD := ⟨("_law_entry", none), "_law_entry", "_law_entry", defArgs s_l_entry, defBody s_l_entry, defScope s_l_entry, [], []⟩
def d_l_model : He.DefD := ⟨("_law_model", none), "_law_model", "_law_model", defArgs s_l_model, defBody s_l_model, defScope s_l_model, [], []⟩
def d_l_made : He.DefD := ⟨("_law_made", none), "_law_made", "_law_made", defArgs s_l_made, defBody s_l_made, defScope s_l_made, [], []⟩
def d_l_cut : He.DefD := ⟨("_law_cut", none), "_law_cut", "_law_cut", defArgs s_l_cut, defBody s_l_cut, defScope s_l_cut, [], []⟩
def d_l_one : He.DefD := ⟨("_law_one", none), "_law_one", "_law_one", defArgs s_l_one, defBody s_l_one, defScope s_l_one, [], []⟩
def d_l_game : He.DefD := ⟨("_law_game", none), "_law_game", "_law_game", defArgs s_l_game, defBody s_l_game, defScope s_l_game, [], []⟩
def d_l_fault : He.DefD := ⟨("_law_fault", none), "_law_fault", "_law_fault", defArgs s_l_fault, defBody s_l_fault, defScope s_l_fault, [], []⟩
def d_l_look : He.DefD := ⟨("_law_look", none), "_law_look", "_law_look", defArgs s_l_look, defBody s_l_look, defScope s_l_look, [], []⟩
def d_l_shown : He.DefD := ⟨("_law_shown", none), "_law_shown", "_law_shown", defArgs s_l_shown, defBody s_l_shown, defScope s_l_shown, [], []⟩
def d_l_other : He.DefD := ⟨("_law_other", none), "_law_other", "_law_other", defArgs s_l_other, defBody s_l_other, defScope s_l_other, [], []⟩
def d_law : He.DefD := ⟨("law", none), "law", "law", defArgs s_law, defBody s_law, defScope s_law, [], []⟩
def fn : List He.DefD := [d_is_integer, d_is_whole, d_is_entry, d_is_table_row, d_is_table, d_row_at, d_is_result, d_b_init, d_b_len, d_b_contains, d_b_last_phase, d_b_places, d_b_start, d_b_moved, d_b_game, d_t_init, d_t_look_at, d_t_take, d_t_many_games, d_t_put_games, d_t_put_game, d_check_rating, d_are_alike, d_first_unlike, d_l_pool, d_l_draw, d_l_pick, d_l_entry, d_l_model, d_l_made, d_l_cut, d_l_one, d_l_game, d_l_fault, d_l_look, d_l_shown, d_l_other, d_law]
def fa : List He.Fa := [.glo "is_integer", .glo "is_whole", .glo "is_entry", .glo "is_table_row", .glo "is_table", .glo "row_at", .glo "is_result", .glo "Book", .glo "Twins", .glo "check_rating", .glo "are_alike", .glo "first_unlike", .glo "_law_pool", .glo "_law_draw", .glo "_law_pick", .glo "_law_entry", .glo "_law_model", .glo "_law_made", .glo "_law_cut", .glo "_law_one", .glo "_law_game", .glo "_law_fault", .glo "_law_look", .glo "_law_shown", .glo "_law_other", .glo "law", .glo "RESULTS", .free "isinstance", .free "len", .free "all", .free "zip", .free "max", .free "min", .free "int", .free "tuple", .free "list", .free "range", .free "dict", .free "bool", .free "str", .int "MOST_RATING" 23, .int "MOST_PLACES" 24, .int "MOST_ROWS" 6, .int "MOST_GAMES" 20000, .cls "Book", .cls "Twins", .mkr "Book", .mkr "Twins", .noat "Book" "low", .noat "Book" "high", .noat "Book" "table", .noat "Book" "fresh", .noat "Book" "times", .noat "Book" "bonus", .noat "Twins" "one", .noat "Twins" "other", .noat "Twins" "pairs", .noat "Twins" "sources", .noat "Twins" "fault", .noat "Twins" "many_players", .meth "Book" "__len__", .meth "Book" "__contains__", .meth "Book" "last_phase", .meth "Book" "places", .meth "Book" "start", .meth "Book" "moved", .meth "Book" "game", .meth "Twins" "look_at", .meth "Twins" "take", .meth "Twins" "many_games", .meth "Twins" "put_games", .meth "Twins" "put_game"] 
def loose : List Str := (["_wall", "__name__", "LadderError", "BadBook", "BadPlace", "BadGame", "TooMany", "is_integer", "is_whole", "MOST_RATING", "MOST_PLACES", "MOST_ROWS", "RESULTS", "is_entry", "is_table_row", "is_table", "row_at", "is_result", "Book", "MOST_GAMES"] : List Str) ++ (["Twins", "check_rating", "are_alike", "first_unlike", "_law_pool", "_law_draw", "_law_pick", "_law_entry", "_law_model", "_law_made", "_law_spots", "_law_cut", "_law_one", "_law_game", "_law_fault", "_law_look", "_law_shown", "_law_other"] : List Str)
def resTup : List He.Dv := [.str "upper", .str "draw", .str "lower"]
abbrev Al : Type := He.AlD × Bool
/-- the tuple has no dict of its own -/
def noDict (K : PySem.W.Frag) : Bool := match K.lookup (He.ga K "RESULTS") with
  | some ⟨.type c, none, _, _⟩ => decide (c = "tuple")
  | _ => false
def obsX (K : PySem.W.Frag) : Al := (He.obsD fa fn K, He.tupB K "RESULTS" resTup && noDict K)
def valX : Al := (He.valD fn, true)
def SaysX (K : PySem.W.Frag) : Prop := obsX K = valX
def obsXG (n : Nat) (g : Addr → Option Obj) : Al := obsX (He.frG g (He.asD g n))
def hk : PySem.W.Hook where
  α := Al
  obs := fun s => obsXG 6 s.heap.get?
  val := fun _ => valX
  says := fun _ h => ∃ K : PySem.W.Frag, K.In h ∧ SaysX K
  of := fun _ _ e => ⟨_, He.frG_in, e⟩
  keeps := fun _ _ _ ⟨K, hK, c⟩ k => ⟨K, PySem.W.Frag.In.keeps hK k, c⟩
abbrev R : PySem.W.OpenRow := PySem.W.OpenLaw.row PySem.Challenge.rw_liftedladders_k80_whole_books_alike
def ob (s : PySem.W.SharedT) : Al := obsXG 6 (HandSHeadRun.getT s)
theorem ob_eq (s : PySem.W.SharedT) : ob s = hk.obs s.abs := by
  have e : HandSHeadRun.getT s = s.abs.heap.get? := funext fun a => HandSHeadRun.getT_eq s a
  show obsXG 6 (HandSHeadRun.getT s) = obsXG 6 s.abs.heap.get?
  rw [e]
theorem run (w : World) : HandSHeadRun.RunEq R (PySem.W.view R.prog [42]) hk ob 6000 loose w := by
  intro os
  kernel_rfl
end Tw
/-! The facts; the end. -/
namespace Tw
open PySem PySem.Spec PyProof.Rows L2
theorem noDict_ok {K : PySem.W.Frag} (h : noDict K = true) : ∃ o, K.lookup (aR K) = some o ∧ o.cls = .type "tuple" ∧ o.dict = none := by
  unfold noDict at h
  cases q : K.lookup (He.ga K "RESULTS") with
  | none => rw [q] at h; cases h
  | some o =>
    obtain ⟨oc, od, dt, osl⟩ := o
    rw [q] at h
    cases oc with
    | type c =>
      cases od with
      | none => exact ⟨_, rfl, congrArg Value.type (of_decide_eq_true h), rfl⟩
      | some a => cases h
    | _ => cases od <;> cases h
section
variable {P : Program} {w : World} {K : PySem.W.Frag} {h : Heap} {mg : Str → Option Value} {base : Heap}
theorem says_d (c : SaysX K) : He.SaysD fa fn K := congrArg (fun z : Al => z.1) c
theorem says_b (c : SaysX K) : (He.tupB K "RESULTS" resTup && noDict K) = true := congrArg (fun z : Al => z.2) c
theorem txt (X : K.In h) (G : h.Ns mainGlobals mg) (cx : SaysX K) : Txt K mg := by
  have c := says_d cx
  obtain ⟨b1, b2⟩ := He.ba (says_b cx)
  exact {
    isinstance_ := He.free_ok X G (c.fact 27 (f := .free "isinstance") rfl)
    len_ := He.free_ok X G (c.fact 28 (f := .free "len") rfl)
    all_ := He.free_ok X G (c.fact 29 (f := .free "all") rfl)
    zip_ := He.free_ok X G (c.fact 30 (f := .free "zip") rfl)
    max_ := He.free_ok X G (c.fact 31 (f := .free "max") rfl)
    min_ := He.free_ok X G (c.fact 32 (f := .free "min") rfl)
    int_ := He.free_ok X G (c.fact 33 (f := .free "int") rfl)
    tuple_ := He.free_ok X G (c.fact 34 (f := .free "tuple") rfl)
    list_ := He.free_ok X G (c.fact 35 (f := .free "list") rfl)
    range_ := He.free_ok X G (c.fact 36 (f := .free "range") rfl)
    dict_ := He.free_ok X G (c.fact 37 (f := .free "dict") rfl)
    bool_ := He.free_ok X G (c.fact 38 (f := .free "bool") rfl)
    str_ := He.free_ok X G (c.fact 39 (f := .free "str") rfl)
    most_rating := He.int_ok X G (c.fact 40 (f := .int "MOST_RATING" 23) rfl)
    most_places := He.int_ok X G (c.fact 41 (f := .int "MOST_PLACES" 24) rfl)
    most_rows := He.int_ok X G (c.fact 42 (f := .int "MOST_ROWS" 6) rfl)
    most_games := He.int_ok X G (c.fact 43 (f := .int "MOST_GAMES" 20000) rfl)
    results := He.glo_ok X G (c.fact 26 (f := .glo "RESULTS") rfl)
    resAt := fun H => He.tupB_ok b1 H
    resTy := noDict_ok b2
    clB := He.cls_ok (c.fact 44 (f := .cls "Book") rfl)
    clT := He.cls_ok (c.fact 45 (f := .cls "Twins") rfl)
    bLow := He.noat_ok (c.fact 48 (f := .noat "Book" "low") rfl)
    bHigh := He.noat_ok (c.fact 49 (f := .noat "Book" "high") rfl)
    bTable := He.noat_ok (c.fact 50 (f := .noat "Book" "table") rfl)
    bFresh := He.noat_ok (c.fact 51 (f := .noat "Book" "fresh") rfl)
    bTimes := He.noat_ok (c.fact 52 (f := .noat "Book" "times") rfl)
    bBonus := He.noat_ok (c.fact 53 (f := .noat "Book" "bonus") rfl)
    tOne := He.noat_ok (c.fact 54 (f := .noat "Twins" "one") rfl)
    tOther := He.noat_ok (c.fact 55 (f := .noat "Twins" "other") rfl)
    tPairs := He.noat_ok (c.fact 56 (f := .noat "Twins" "pairs") rfl)
    tSources := He.noat_ok (c.fact 57 (f := .noat "Twins" "sources") rfl)
    tFault := He.noat_ok (c.fact 58 (f := .noat "Twins" "fault") rfl)
    tMany := He.noat_ok (c.fact 59 (f := .noat "Twins" "many_players") rfl)
  }
theorem fd_is_integer (X : K.In h) (G : h.Ns mainGlobals mg) (c : He.SaysD fa fn K) : Df K mg "is_integer" s_is_integer ["value", "lowest", "highest"] := by
  obtain ⟨fd, F⟩ := c.def_ 0 (d := d_is_integer) rfl
  exact ⟨_, fd, F, He.glo_ok X G (c.fact 0 (f := .glo "is_integer") rfl), (FunD.bindsN (ps := ["value", "lowest", "highest"]) F fun _ _ _ _ _ _ us hl => match us, hl with | [_, _, _], _ => rfl)⟩
theorem fd_is_whole (X : K.In h) (G : h.Ns mainGlobals mg) (c : He.SaysD fa fn K) : Df K mg "is_whole" s_is_whole ["value"] := by
  obtain ⟨fd, F⟩ := c.def_ 1 (d := d_is_whole) rfl
  exact ⟨_, fd, F, He.glo_ok X G (c.fact 1 (f := .glo "is_whole") rfl), (FunD.bindsN (ps := ["value"]) F fun _ _ _ _ _ _ us hl => match us, hl with | [_], _ => rfl)⟩
theorem fd_is_entry (X : K.In h) (G : h.Ns mainGlobals mg) (c : He.SaysD fa fn K) : Df K mg "is_entry" s_is_entry ["value"] := by
  obtain ⟨fd, F⟩ := c.def_ 2 (d := d_is_entry) rfl
  exact ⟨_, fd, F, He.glo_ok X G (c.fact 2 (f := .glo "is_entry") rfl), (FunD.bindsN (ps := ["value"]) F fun _ _ _ _ _ _ us hl => match us, hl with | [_], _ => rfl)⟩
theorem fd_is_table_row (X : K.In h) (G : h.Ns mainGlobals mg) (c : He.SaysD fa fn K) : Df K mg "is_table_row" s_is_table_row ["value"] := by
  obtain ⟨fd, F⟩ := c.def_ 3 (d := d_is_table_row) rfl
  exact ⟨_, fd, F, He.glo_ok X G (c.fact 3 (f := .glo "is_table_row") rfl), (FunD.bindsN (ps := ["value"]) F fun _ _ _ _ _ _ us hl => match us, hl with | [_], _ => rfl)⟩
theorem fd_is_table (X : K.In h) (G : h.Ns mainGlobals mg) (c : He.SaysD fa fn K) : Df K mg "is_table" s_is_table ["value"] := by
  obtain ⟨fd, F⟩ := c.def_ 4 (d := d_is_table) rfl
  exact ⟨_, fd, F, He.glo_ok X G (c.fact 4 (f := .glo "is_table") rfl), (FunD.bindsN (ps := ["value"]) F fun _ _ _ _ _ _ us hl => match us, hl with | [_], _ => rfl)⟩
theorem fd_row_at (X : K.In h) (G : h.Ns mainGlobals mg) (c : He.SaysD fa fn K) : Df K mg "row_at" s_row_at ["table", "difference"] := by
  obtain ⟨fd, F⟩ := c.def_ 5 (d := d_row_at) rfl
  exact ⟨_, fd, F, He.glo_ok X G (c.fact 5 (f := .glo "row_at") rfl), (FunD.bindsN (ps := ["table", "difference"]) F fun _ _ _ _ _ _ us hl => match us, hl with | [_, _], _ => rfl)⟩
theorem fd_is_result (X : K.In h) (G : h.Ns mainGlobals mg) (c : He.SaysD fa fn K) : Df K mg "is_result" s_is_result ["value"] := by
  obtain ⟨fd, F⟩ := c.def_ 6 (d := d_is_result) rfl
  exact ⟨_, fd, F, He.glo_ok X G (c.fact 6 (f := .glo "is_result") rfl), (FunD.bindsN (ps := ["value"]) F fun _ _ _ _ _ _ us hl => match us, hl with | [_], _ => rfl)⟩
theorem fd_b_init (X : K.In h) (G : h.Ns mainGlobals mg) (c : He.SaysD fa fn K) : DfB K mg s_b_init ["self", "low", "high", "table", "fresh", "times", "bonus"] := by
  obtain ⟨fd, F⟩ := c.def_ 7 (d := d_b_init) rfl
  obtain ⟨mv, b⟩ := FunD.kbinds0 (ps := ["self", "low", "high", "table", "fresh", "times", "bonus"]) F 4 ["fresh", "times", "bonus"] [] (fun us _ ws => us ++ ws) (fun z => by cases z) (fun q hq => (nomatch hq)) (fun r1 _ r3 => Vals.append r1 r3)
    (fun D doc pm an cdv ct us mv ws h1 h2 h3 => by
      match us, h1, mv, h2, ws, h3 with
      | [_, _, _, _], _, [], _, [_, _, _], _ => rfl)
  exact ⟨_, fd, F, He.mkr_ok (c.fact 46 (f := .mkr "Book") rfl), He.glo_ok X G (c.fact 7 (f := .glo "Book") rfl), b⟩
theorem fd_b_len (c : He.SaysD fa fn K) : Dm K (CB K) "__len__" "Book.__len__" s_b_len ["self"] := by
  obtain ⟨fd, F⟩ := c.def_ 8 (d := d_b_len) rfl
  exact ⟨_, fd, F, He.meth_ok (c.fact 60 (f := .meth "Book" "__len__") rfl), (FunD.bindsN (ps := ["self"]) F fun _ _ _ _ _ _ us hl => match us, hl with | [_], _ => rfl)⟩
theorem fd_b_contains (c : He.SaysD fa fn K) : Dm K (CB K) "__contains__" "Book.__contains__" s_b_contains ["self", "place"] := by
  obtain ⟨fd, F⟩ := c.def_ 9 (d := d_b_contains) rfl
  exact ⟨_, fd, F, He.meth_ok (c.fact 61 (f := .meth "Book" "__contains__") rfl), (FunD.bindsN (ps := ["self", "place"]) F fun _ _ _ _ _ _ us hl => match us, hl with | [_, _], _ => rfl)⟩
theorem fd_b_last_phase (c : He.SaysD fa fn K) : Dm K (CB K) "last_phase" "Book.last_phase" s_b_last_phase ["self"] := by
  obtain ⟨fd, F⟩ := c.def_ 10 (d := d_b_last_phase) rfl
  exact ⟨_, fd, F, He.meth_ok (c.fact 62 (f := .meth "Book" "last_phase") rfl), (FunD.bindsN (ps := ["self"]) F fun _ _ _ _ _ _ us hl => match us, hl with | [_], _ => rfl)⟩
theorem fd_b_places (c : He.SaysD fa fn K) : Dm K (CB K) "places" "Book.places" s_b_places ["self"] := by
  obtain ⟨fd, F⟩ := c.def_ 11 (d := d_b_places) rfl
  exact ⟨_, fd, F, He.meth_ok (c.fact 63 (f := .meth "Book" "places") rfl), (FunD.bindsN (ps := ["self"]) F fun _ _ _ _ _ _ us hl => match us, hl with | [_], _ => rfl)⟩
theorem fd_b_start (c : He.SaysD fa fn K) : Dm K (CB K) "start" "Book.start" s_b_start ["self", "rating"] := by
  obtain ⟨fd, F⟩ := c.def_ 12 (d := d_b_start) rfl
  exact ⟨_, fd, F, He.meth_ok (c.fact 64 (f := .meth "Book" "start") rfl), (FunD.bindsN (ps := ["self", "rating"]) F fun _ _ _ _ _ _ us hl => match us, hl with | [_, _], _ => rfl)⟩
theorem fd_b_moved (c : He.SaysD fa fn K) : Dm K (CB K) "moved" "Book.moved" s_b_moved ["self", "place", "change", "is_won"] := by
  obtain ⟨fd, F⟩ := c.def_ 13 (d := d_b_moved) rfl
  exact ⟨_, fd, F, He.meth_ok (c.fact 65 (f := .meth "Book" "moved") rfl), (FunD.bindsN (ps := ["self", "place", "change", "is_won"]) F fun _ _ _ _ _ _ us hl => match us, hl with | [_, _, _, _], _ => rfl)⟩
theorem fd_b_game (c : He.SaysD fa fn K) : Dm K (CB K) "game" "Book.game" s_b_game ["self", "upper", "lower", "result"] := by
  obtain ⟨fd, F⟩ := c.def_ 14 (d := d_b_game) rfl
  exact ⟨_, fd, F, He.meth_ok (c.fact 66 (f := .meth "Book" "game") rfl), (FunD.bindsN (ps := ["self", "upper", "lower", "result"]) F fun _ _ _ _ _ _ us hl => match us, hl with | [_, _, _, _], _ => rfl)⟩
theorem fd_t_init (X : K.In h) (G : h.Ns mainGlobals mg) (c : He.SaysD fa fn K) : DfT K mg s_t_init ["self", "one", "other", "rating"] := by
  obtain ⟨fd, F⟩ := c.def_ 15 (d := d_t_init) rfl
  exact ⟨_, fd, F, He.mkr_ok (c.fact 47 (f := .mkr "Twins") rfl), He.glo_ok X G (c.fact 8 (f := .glo "Twins") rfl), (FunD.bindsN (ps := ["self", "one", "other", "rating"]) F fun _ _ _ _ _ _ us hl => match us, hl with | [_, _, _, _], _ => rfl)⟩
theorem fd_t_look_at (c : He.SaysD fa fn K) : Dm K (CT K) "look_at" "Twins.look_at" s_t_look_at ["self", "at"] := by
  obtain ⟨fd, F⟩ := c.def_ 16 (d := d_t_look_at) rfl
  exact ⟨_, fd, F, He.meth_ok (c.fact 67 (f := .meth "Twins" "look_at") rfl), (FunD.bindsN (ps := ["self", "at"]) F fun _ _ _ _ _ _ us hl => match us, hl with | [_, _], _ => rfl)⟩
theorem fd_t_take (c : He.SaysD fa fn K) : Dm K (CT K) "take" "Twins.take" s_t_take ["self", "upper", "lower", "result"] := by
  obtain ⟨fd, F⟩ := c.def_ 17 (d := d_t_take) rfl
  exact ⟨_, fd, F, He.meth_ok (c.fact 68 (f := .meth "Twins" "take") rfl), (FunD.bindsN (ps := ["self", "upper", "lower", "result"]) F fun _ _ _ _ _ _ us hl => match us, hl with | [_, _, _, _], _ => rfl)⟩
theorem fd_t_many_games (c : He.SaysD fa fn K) : Dm K (CT K) "many_games" "Twins.many_games" s_t_many_games ["self"] := by
  obtain ⟨fd, F⟩ := c.def_ 18 (d := d_t_many_games) rfl
  exact ⟨_, fd, F, He.meth_ok (c.fact 69 (f := .meth "Twins" "many_games") rfl), (FunD.bindsN (ps := ["self"]) F fun _ _ _ _ _ _ us hl => match us, hl with | [_], _ => rfl)⟩
theorem fd_t_put_games (c : He.SaysD fa fn K) : Dm K (CT K) "put_games" "Twins.put_games" s_t_put_games ["self", "pair", "games"] := by
  obtain ⟨fd, F⟩ := c.def_ 19 (d := d_t_put_games) rfl
  exact ⟨_, fd, F, He.meth_ok (c.fact 70 (f := .meth "Twins" "put_games") rfl), (FunD.bindsN (ps := ["self", "pair", "games"]) F fun _ _ _ _ _ _ us hl => match us, hl with | [_, _, _], _ => rfl)⟩
theorem fd_t_put_game (c : He.SaysD fa fn K) : Dm K (CT K) "put_game" "Twins.put_game" s_t_put_game ["self", "source", "games"] := by
  obtain ⟨fd, F⟩ := c.def_ 20 (d := d_t_put_game) rfl
  exact ⟨_, fd, F, He.meth_ok (c.fact 71 (f := .meth "Twins" "put_game") rfl), (FunD.bindsN (ps := ["self", "source", "games"]) F fun _ _ _ _ _ _ us hl => match us, hl with | [_, _, _], _ => rfl)⟩
theorem fd_check_rating (X : K.In h) (G : h.Ns mainGlobals mg) (c : He.SaysD fa fn K) : Df K mg "check_rating" s_check_rating ["one", "other", "rating"] := by
  obtain ⟨fd, F⟩ := c.def_ 21 (d := d_check_rating) rfl
  exact ⟨_, fd, F, He.glo_ok X G (c.fact 9 (f := .glo "check_rating") rfl), (FunD.bindsN (ps := ["one", "other", "rating"]) F fun _ _ _ _ _ _ us hl => match us, hl with | [_, _, _], _ => rfl)⟩
theorem fd_are_alike (X : K.In h) (G : h.Ns mainGlobals mg) (c : He.SaysD fa fn K) : Df K mg "are_alike" s_are_alike ["one", "other", "rating"] := by
  obtain ⟨fd, F⟩ := c.def_ 22 (d := d_are_alike) rfl
  exact ⟨_, fd, F, He.glo_ok X G (c.fact 10 (f := .glo "are_alike") rfl), (FunD.bindsN (ps := ["one", "other", "rating"]) F fun _ _ _ _ _ _ us hl => match us, hl with | [_, _, _], _ => rfl)⟩
theorem fd_first_unlike (X : K.In h) (G : h.Ns mainGlobals mg) (c : He.SaysD fa fn K) : Df K mg "first_unlike" s_first_unlike ["one", "other", "rating"] := by
  obtain ⟨fd, F⟩ := c.def_ 23 (d := d_first_unlike) rfl
  exact ⟨_, fd, F, He.glo_ok X G (c.fact 11 (f := .glo "first_unlike") rfl), (FunD.bindsN (ps := ["one", "other", "rating"]) F fun _ _ _ _ _ _ us hl => match us, hl with | [_, _, _], _ => rfl)⟩
theorem fd_l_pool (X : K.In h) (G : h.Ns mainGlobals mg) (c : He.SaysD fa fn K) : Df K mg "_law_pool" s_l_pool ["_law_script", "_law_k"] := by
  obtain ⟨fd, F⟩ := c.def_ 24 (d := d_l_pool) rfl
  exact ⟨_, fd, F, He.glo_ok X G (c.fact 12 (f := .glo "_law_pool") rfl), (FunD.bindsN (ps := ["_law_script", "_law_k"]) F fun _ _ _ _ _ _ us hl => match us, hl with | [_, _], _ => rfl)⟩
theorem fd_l_draw (X : K.In h) (G : h.Ns mainGlobals mg) (c : He.SaysD fa fn K) : Df K mg "_law_draw" s_l_draw ["_law_pool_here", "_law_many"] := by
  obtain ⟨fd, F⟩ := c.def_ 25 (d := d_l_draw) rfl
  exact ⟨_, fd, F, He.glo_ok X G (c.fact 13 (f := .glo "_law_draw") rfl), (FunD.bindsN (ps := ["_law_pool_here", "_law_many"]) F fun _ _ _ _ _ _ us hl => match us, hl with | [_, _], _ => rfl)⟩
theorem fd_l_pick (X : K.In h) (G : h.Ns mainGlobals mg) (c : He.SaysD fa fn K) : Df K mg "_law_pick" s_l_pick ["_law_pool_here", "_law_row"] := by
  obtain ⟨fd, F⟩ := c.def_ 26 (d := d_l_pick) rfl
  exact ⟨_, fd, F, He.glo_ok X G (c.fact 14 (f := .glo "_law_pick") rfl), (FunD.bindsN (ps := ["_law_pool_here", "_law_row"]) F fun _ _ _ _ _ _ us hl => match us, hl with | [_, _], _ => rfl)⟩
theorem fd_l_entry (X : K.In h) (G : h.Ns mainGlobals mg) (c : He.SaysD fa fn K) : Df K mg "_law_entry" s_l_entry ["_law_pool_here", "_law_most"] := by
  obtain ⟨fd, F⟩ := c.def_ 27 (d := d_l_entry) rfl
  exact ⟨_, fd, F, He.glo_ok X G (c.fact 15 (f := .glo "_law_entry") rfl), (FunD.bindsN (ps := ["_law_pool_here", "_law_most"]) F fun _ _ _ _ _ _ us hl => match us, hl with | [_, _], _ => rfl)⟩
theorem fd_l_model (X : K.In h) (G : h.Ns mainGlobals mg) (c : He.SaysD fa fn K) : Df K mg "_law_model" s_l_model ["_law_pool_here", "_law_size", "_law_most"] := by
  obtain ⟨fd, F⟩ := c.def_ 28 (d := d_l_model) rfl
  exact ⟨_, fd, F, He.glo_ok X G (c.fact 16 (f := .glo "_law_model") rfl), (FunD.bindsN (ps := ["_law_pool_here", "_law_size", "_law_most"]) F fun _ _ _ _ _ _ us hl => match us, hl with | [_, _, _], _ => rfl)⟩
theorem fd_l_made (X : K.In h) (G : h.Ns mainGlobals mg) (c : He.SaysD fa fn K) : Df K mg "_law_made" s_l_made ["_law_m"] := by
  obtain ⟨fd, F⟩ := c.def_ 29 (d := d_l_made) rfl
  exact ⟨_, fd, F, He.glo_ok X G (c.fact 17 (f := .glo "_law_made") rfl), (FunD.bindsN (ps := ["_law_m"]) F fun _ _ _ _ _ _ us hl => match us, hl with | [_], _ => rfl)⟩
theorem fd_l_cut (X : K.In h) (G : h.Ns mainGlobals mg) (c : He.SaysD fa fn K) : Df K mg "_law_cut" s_l_cut ["_law_m", "_law_rating"] := by
  obtain ⟨fd, F⟩ := c.def_ 30 (d := d_l_cut) rfl
  exact ⟨_, fd, F, He.glo_ok X G (c.fact 18 (f := .glo "_law_cut") rfl), (FunD.bindsN (ps := ["_law_m", "_law_rating"]) F fun _ _ _ _ _ _ us hl => match us, hl with | [_, _], _ => rfl)⟩
theorem fd_l_one (X : K.In h) (G : h.Ns mainGlobals mg) (c : He.SaysD fa fn K) : Df K mg "_law_one" s_l_one ["_law_m", "_law_spot", "_law_change", "_law_has_won"] := by
  obtain ⟨fd, F⟩ := c.def_ 31 (d := d_l_one) rfl
  exact ⟨_, fd, F, He.glo_ok X G (c.fact 19 (f := .glo "_law_one") rfl), (FunD.bindsN (ps := ["_law_m", "_law_spot", "_law_change", "_law_has_won"]) F fun _ _ _ _ _ _ us hl => match us, hl with | [_, _, _, _], _ => rfl)⟩
theorem fd_l_game (X : K.In h) (G : h.Ns mainGlobals mg) (c : He.SaysD fa fn K) : Df K mg "_law_game" s_l_game ["_law_m", "_law_upper", "_law_lower", "_law_result"] := by
  obtain ⟨fd, F⟩ := c.def_ 32 (d := d_l_game) rfl
  exact ⟨_, fd, F, He.glo_ok X G (c.fact 20 (f := .glo "_law_game") rfl), (FunD.bindsN (ps := ["_law_m", "_law_upper", "_law_lower", "_law_result"]) F fun _ _ _ _ _ _ us hl => match us, hl with | [_, _, _, _], _ => rfl)⟩
theorem fd_l_fault (X : K.In h) (G : h.Ns mainGlobals mg) (c : He.SaysD fa fn K) : Df K mg "_law_fault" s_l_fault ["_law_m", "_law_n", "_law_rating"] := by
  obtain ⟨fd, F⟩ := c.def_ 33 (d := d_l_fault) rfl
  exact ⟨_, fd, F, He.glo_ok X G (c.fact 21 (f := .glo "_law_fault") rfl), (FunD.bindsN (ps := ["_law_m", "_law_n", "_law_rating"]) F fun _ _ _ _ _ _ us hl => match us, hl with | [_, _, _], _ => rfl)⟩
theorem fd_l_look (X : K.In h) (G : h.Ns mainGlobals mg) (c : He.SaysD fa fn K) : Df K mg "_law_look" s_l_look ["_law_m", "_law_n", "_law_upper", "_law_lower"] := by
  obtain ⟨fd, F⟩ := c.def_ 34 (d := d_l_look) rfl
  exact ⟨_, fd, F, He.glo_ok X G (c.fact 22 (f := .glo "_law_look") rfl), (FunD.bindsN (ps := ["_law_m", "_law_n", "_law_upper", "_law_lower"]) F fun _ _ _ _ _ _ us hl => match us, hl with | [_, _, _, _], _ => rfl)⟩
theorem fd_l_shown (X : K.In h) (G : h.Ns mainGlobals mg) (c : He.SaysD fa fn K) : Df K mg "_law_shown" s_l_shown ["_law_m", "_law_n", "_law_rating", "_law_told"] := by
  obtain ⟨fd, F⟩ := c.def_ 35 (d := d_l_shown) rfl
  exact ⟨_, fd, F, He.glo_ok X G (c.fact 23 (f := .glo "_law_shown") rfl), (FunD.bindsN (ps := ["_law_m", "_law_n", "_law_rating", "_law_told"]) F fun _ _ _ _ _ _ us hl => match us, hl with | [_, _, _, _], _ => rfl)⟩
theorem fd_l_other (X : K.In h) (G : h.Ns mainGlobals mg) (c : He.SaysD fa fn K) : Df K mg "_law_other" s_l_other ["_law_pool_here", "_law_m"] := by
  obtain ⟨fd, F⟩ := c.def_ 36 (d := d_l_other) rfl
  exact ⟨_, fd, F, He.glo_ok X G (c.fact 24 (f := .glo "_law_other") rfl), (FunD.bindsN (ps := ["_law_pool_here", "_law_m"]) F fun _ _ _ _ _ _ us hl => match us, hl with | [_, _], _ => rfl)⟩
theorem fd_law (X : K.In h) (G : h.Ns mainGlobals mg) (c : He.SaysD fa fn K) : Df K mg "law" s_law ["_law_script"] := by
  obtain ⟨fd, F⟩ := c.def_ 37 (d := d_law) rfl
  exact ⟨_, fd, F, He.glo_ok X G (c.fact 25 (f := .glo "law") rfl), (FunD.bindsN (ps := ["_law_script"]) F fun _ _ _ _ _ _ us hl => match us, hl with | [_], _ => rfl)⟩
end
section
variable {P : Program} {w : World} {K : PySem.W.Frag} {h : Heap} {mg : Str → Option Value}
theorem all_law (X : K.In h) (G : h.Ns mainGlobals mg) (cx : SaysX K) (base : Heap) {f : Addr} {fd : FuncData} (F : FunD K "law" "law" (defArgs s_law) (defBody s_law) (defScope s_law) [] [] f fd) : FnOk P w K mg base CX0 94 f fd ["_law_script"] (spLaw K) := by
  have T := txt X G cx
  have c := says_d cx
  have C_is_whole := ok_is_whole (P := P) (w := w) (base := base) (fd_is_whole X G c) T
  have C_is_integer := ok_is_integer (P := P) (w := w) (base := base) (fd_is_integer X G c) C_is_whole
  have C_is_entry := ok_is_entry (P := P) (w := w) (base := base) (fd_is_entry X G c) T C_is_integer
  have C_is_table_row := ok_is_table_row (P := P) (w := w) (base := base) (fd_is_table_row X G c) T C_is_integer C_is_entry
  have C_is_table := ok_is_table (P := P) (w := w) (base := base) (fd_is_table X G c) T C_is_table_row
  have C_row_at := ok_row_at (P := P) (w := w) (base := base) (fd_row_at X G c) T
  have C_is_result := ok_is_result (P := P) (w := w) (base := base) (fd_is_result X G c) T
  have C_b_last_phase := ok_b_last_phase (P := P) (w := w) (base := base) (fd_b_last_phase c) T
  have C_b_places := ok_b_places (P := P) (w := w) (base := base) (fd_b_places c) T C_b_last_phase
  have C_b_len := ok_b_len (P := P) (w := w) (base := base) (fd_b_len c) T C_b_places
  have C_b_contains := ok_b_contains (P := P) (w := w) (base := base) (fd_b_contains c) T C_is_integer C_b_last_phase
  have C_b_start := ok_b_start (P := P) (w := w) (base := base) (fd_b_start c) T C_is_integer
  have C_b_moved := ok_b_moved (P := P) (w := w) (base := base) (fd_b_moved c) T
  have C_b_game := ok_b_game (P := P) (w := w) (base := base) (fd_b_game c) T C_b_contains C_is_result C_row_at C_b_moved
  have C_b_init := ok_b_init (P := P) (w := w) (base := base) (fd_b_init X G c) T C_is_integer C_is_table C_b_len
  have C_t_take := ok_t_take (P := P) (w := w) (base := base) (fd_t_take c) T C_b_game
  have C_t_look_at := ok_t_look_at (P := P) (w := w) (base := base) (fd_t_look_at c) T C_t_take
  have C_t_init := ok_t_init (P := P) (w := w) (base := base) (fd_t_init X G c) T C_b_start C_t_look_at
  have C_check_rating := ok_check_rating (P := P) (w := w) (base := base) (fd_check_rating X G c) T C_is_integer
  have C_are_alike := ok_are_alike (P := P) (w := w) (base := base) (fd_are_alike X G c) T C_check_rating C_t_init
  have C_t_many_games := ok_t_many_games (P := P) (w := w) (base := base) (fd_t_many_games c) T
  have C_t_put_game : Met P w K mg base 92 (CT K) "put_game" (spPut P w K 45) := ok_put (n := 45) (fd_t_put_game c) T (ok_puts_all (fd_t_put_games c) (fd_t_put_game c) T 45)
  have C_first_unlike := ok_first_unlike (P := P) (w := w) (base := base) (fd_first_unlike X G c) T C_check_rating C_t_init C_t_many_games C_t_put_game
  have C_l_draw := ok_l_draw (P := P) (w := w) (base := base) (fd_l_draw X G c) T
  have C_l_pool := ok_l_pool (P := P) (w := w) (base := base) (fd_l_pool X G c) T
  have C_l_pick := ok_l_pick (P := P) (w := w) (base := base) (fd_l_pick X G c) T C_l_draw
  have C_l_entry := ok_l_entry (P := P) (w := w) (base := base) (fd_l_entry X G c) T C_l_draw
  have C_l_model := ok_l_model (P := P) (w := w) (base := base) (fd_l_model X G c) T C_l_draw C_l_entry
  have C_l_made := ok_l_made (P := P) (w := w) (base := base) (fd_l_made X G c) T C_b_init
  have C_l_cut := ok_l_cut (P := P) (w := w) (base := base) (fd_l_cut X G c) T
  have C_l_one := ok_l_one (P := P) (w := w) (base := base) (fd_l_one X G c) T C_l_cut
  have C_l_game := ok_l_game (P := P) (w := w) (base := base) (fd_l_game X G c) T C_l_one
  have C_l_look := ok_l_look (P := P) (w := w) (base := base) (fd_l_look X G c) T C_l_game
  have C_l_fault := ok_l_fault (P := P) (w := w) (base := base) (fd_l_fault X G c) T C_l_look
  have C_l_shown := ok_l_shown (P := P) (w := w) (base := base) (fd_l_shown X G c) T C_l_game
  have C_l_other := ok_l_other (P := P) (w := w) (base := base) (fd_l_other X G c) T C_l_draw C_l_pick
  exact ok_law (P := P) (w := w) (base := base) F T C_l_pool C_l_draw C_l_model C_l_other C_l_made C_l_fault C_first_unlike C_are_alike C_l_shown
theorem facts {f : Addr} (X : K.In h) (G : h.Ns mainGlobals mg) (hfa : mg ("law" : Str) = some (.ref f)) (cx : SaysX K) :
    ∃ fd : FuncData, (∀ (s : Shared) (v : Value), BindsTo s fd ⟨[v], []⟩ [("_law_script", v)]) ∧ ∀ base : Heap, K.In base → base.Ns mainGlobals mg → FnOk P w K mg base CX0 94 f fd ["_law_script"] (spLaw K) := by
  have c := says_d cx
  obtain ⟨fd, F⟩ := c.def_ 37 (d := d_law) rfl
  have e := hfa.symm.trans (He.glo_ok X G (c.fact 25 (f := .glo "law") rfl))
  cases e
  have b := FunD.bindsA (ps := ["_law_script"]) F fun _ _ _ _ _ _ us hl => match us, hl with | [_], _ => rfl
  refine ⟨fd, fun s v => b s [v] rfl, fun base _ _ => ?_⟩
  exact all_law (P := P) (w := w) X G cx base F
end
end Tw
open PySem PySem.W PySem.Calls PyProof.Rows
theorem PySem.Challenge.cw_liftedladders_k80_whole_books_alike_holds : PySem.Challenge.rw_liftedladders_k80_whole_books_alike.Holds := by
  w_on; o_law
  refine HandSHeadRun.head_any (r := OpenLaw.row PySem.Challenge.rw_liftedladders_k80_whole_books_alike) (q := view (OpenLaw.row PySem.Challenge.rw_liftedladders_k80_whole_books_alike).prog [42]) (H := Tw.hk) (ob := Tw.ob) (M := 6000) (loose := Tw.loose) (d := HandSHeadRun.topDef (OpenLaw.row PySem.Challenge.rw_liftedladders_k80_whole_books_alike).prog 42) (kwd := []) Tw.ob_eq
    (by kernel_rfl) (fun s => by kernel_rfl) Tw.run (by kernel_rfl) (by kernel_rfl) (by kernel_rfl) (by rfl) (by first | assumption | decide +kernel) (by decide +kernel) ⟨rfl, rfl, rfl, rfl, rfl, by decide +kernel⟩ ?hw ?hc
  case hw => w_witness2
  case hc =>
    refine L2.walk_ofE (l := PySem.Challenge.rw_liftedladders_k80_whole_books_alike) (n := 63) (k := 94) (x := "_law_script") (CX := L2.CX0) rfl (by decide) (by kernel_rfl) ⟨rfl, by decide, by decide⟩ ?F (fun _ _ _ _ z => z)
    intro w mg fa h Y G hmg0
    obtain ⟨K, KX, c⟩ := Y
    have hmg : mg ("law" : PySem.Str) = some (.ref fa) := by
      have e : (HandSHeadRun.topDef (OpenLaw.row PySem.Challenge.rw_liftedladders_k80_whole_books_alike).prog 42).name = ("law" : PySem.Str) := by kernel_rfl
      rw [← e]
      exact hmg0
    obtain ⟨fd, hb, hF⟩ := Tw.facts (P := (PySem.Challenge.rw_liftedladders_k80_whole_books_alike).prog) (w := w) KX G hmg c
    exact ⟨K, fd, Tw.spLaw K, KX, hb, fun H a ns hl _ hS => ⟨a, ns, rfl, hS, fun _ => rfl⟩, hF⟩
