import PyProof.Rows.All
import Wide.All
import OpenK.AllK
import Wide.FinOn
import PySem.Challenge.RW_xm0589_01
open PySem PySem.W PyProof.Rows PySem.Calls
set_option Elab.async false
set_option rowWalk.seconds 0
set_option compiler.extract_closed false
namespace Mine
/-- the program without its three assignments to a name of its own -/
def viewQ : Program := { PySem.Challenge.pw_xm0589_01 with main := { PySem.Challenge.pw_xm0589_01.main with body := ((PySem.Challenge.pw_xm0589_01.main.body.eraseIdx 15).eraseIdx 6).eraseIdx 1 } }
-- the head: the top is run in one check
local macro_rules | `(tactic| o_head $H) => `(tactic| (
  (first
    | refine holds_open (q := viewQ) (loose := []) (Xt := fun s => xlAt viewQ [] s && recOk (RowW.records _) s) (XP := XL viewQ []) (Yf := Hook.obs $H) (Ya := Hook.val $H) (YP := Hook.says $H) (N := 2570) ?hl (Hook.of $H) (Hook.keeps $H) (fun s e => xl_of s (Bool.and_eq_true_iff.mp e).1) XL.keeps (by rfl) (by rfl) (by rfl) (fun s e => recFacts_of (Bool.and_eq_true_iff.mp e).2) (by rfl) (by first | assumption | decide +kernel) (by decide +kernel) ⟨rfl, rfl, rfl, rfl, rfl, by decide +kernel⟩ ?hw ?hc
    | fail "head");
  (case hl => (intro w9; kernel_rfl))))
local macro_rules | `(tactic| o_law) => `(tactic| (refine holds_law (by decide +kernel) fun said => ?_))
set_option maxRecDepth 100000 in
set_option maxHeartbeats 8000000 in
open_top hd for PySem.Challenge.rw_xm0589_01
end Mine
set_option maxRecDepth 100000
set_option linter.all false
set_option genSizeOf false
set_option genInjectivity false
namespace Mine
abbrev Led := List (Addr × Obj)

/-! ## data that is made of tuples, ints, texts, bools and None -/
noncomputable def okD : Nat → Dat → Bool
  | _, .none => true
  | _, .bool _ => true
  | _, .int _ => true
  | _, .str x => PyData.strOk x
  | n + 1, .tuple ds => ds.all (okD n)
  | _, _ => false
theorem okD_tuple {n : Nat} {ds : List Dat} : okD (n + 1) (.tuple ds) = true ↔ ∀ d ∈ ds, okD n d = true := by simp [okD]
theorem okD_up : ∀ {n : Nat} {d : Dat}, okD n d = true → okD (n + 1) d = true := by
  intro n
  induction n with
  | zero => intro d h; cases d <;> simp_all [okD]
  | succ n ih =>
    intro d h
    cases d with
    | tuple ds => exact okD_tuple.mpr fun d hd => ih (okD_tuple.mp h d hd)
    | list ds => simp [okD] at h
    | bytes b => simp [okD] at h
    | _ => simpa [okD] using h
theorem okD_le {n k : Nat} {d : Dat} (hk : n ≤ k) (h : okD n d = true) : okD k d = true := by
  induction hk with
  | refl => exact h
  | step _ ih => exact okD_up ih

theorem okD_layAll {n : Nat} (ih : ∀ d, okD n d = true → (kqdP d).canLay0 = true ∧ (kqdP d).depth ≤ n) : ∀ ds : List Dat, (∀ d ∈ ds, okD n d = true) →
    PyData.canLayAll0 (kqdPs ds) = true ∧ PyData.depthAll (kqdPs ds) ≤ n
  | [], _ => by simp [kqdPs, PyData.canLayAll0, PyData.depthAll]
  | d :: ds, h => by
    have h1 := ih d (h d (.head _))
    have h2 := okD_layAll ih ds fun e he => h e (.tail _ he)
    simp only [kqdPs, PyData.canLayAll0, PyData.depthAll, h1.1, h2.1, Bool.and_self, true_and]
    have a1 := h1.2
    have a2 := h2.2
    omega
theorem okD_lay : ∀ (n : Nat) (d : Dat), okD n d = true → (kqdP d).canLay0 = true ∧ (kqdP d).depth ≤ n := by
  intro n
  induction n with
  | zero => intro d h; cases d <;> simp_all [okD, kqdP, PyData.canLay0, PyData.depth]
  | succ n ih =>
    intro d h
    cases d with
    | tuple ds =>
      have q := okD_layAll ih ds (okD_tuple.mp h)
      have q2 := q.2
      simp only [kqdP, PyData.canLay0, PyData.depth, q.1, true_and]
      omega
    | list ds => simp [okD] at h
    | bytes b => simp [okD] at h
    | str x => simp [okD] at h; simp [kqdP, PyData.canLay0, PyData.depth, h]
    | none => simp [kqdP, PyData.canLay0, PyData.depth]
    | bool b => simp [kqdP, PyData.canLay0, PyData.depth]
    | int i => simp [kqdP, PyData.canLay0, PyData.depth]
section
variable {h₀ h : Heap} {L : Addr} {W : Led}
theorem datReads (N : News h₀ L h W) {v : Value} {d : Dat} (n : Nat) (D : DatIn W v d) (hk : okD n d = true) : ∃ as, Reads h v (kqdP d) as := by
  refine DatIn.rec (motive_1 := fun v d _ => ∀ n, okD n d = true → ∃ as, Reads h v (kqdP d) as) (motive_2 := fun vs ds _ => ∀ n, (∀ d ∈ ds, okD n d = true) → ∃ as, ReadsAll h vs (kqdPs ds) as) ?_ ?_ ?_ ?_ ?_ ?_ ?_ ?_ ?_ D n hk
  · exact fun _ _ => ⟨_, Reads.none⟩
  · exact fun b _ _ => ⟨_, Reads.bool b⟩
  · exact fun i t _ _ => ⟨_, Reads.int i t⟩
  · exact fun x t _ _ => ⟨_, Reads.str x t⟩
  · exact fun _ _ n hk => absurd hk (by cases n <;> simp [okD])
  · intro a vs c ds hm _ ih n hk
    cases n with
    | zero => simp [okD] at hk
    | succ n =>
      obtain ⟨as, q⟩ := ih n (okD_tuple.mp hk)
      rw [kqdP]
      exact ⟨as, reads_tuple_at (N.get hm) rfl rfl (by simpa using q)⟩
  · exact fun _ _ _ n hk => absurd hk (by cases n <;> simp [okD])
  · exact fun _ _ => ⟨_, ReadsAll.nil⟩
  · intro v vs d ds _ _ i1 i2 n hk
    obtain ⟨as, q⟩ := i1 n (hk _ (.head _))
    obtain ⟨bs, p⟩ := i2 n fun d hm => hk d (.tail _ hm)
    rw [kqdPs]
    exact ⟨_, ReadsAll.cons q p⟩
end
abbrev fine (d : Dat) : Prop := okD 12 d = true
section
variable {prog : Program} {w : World} {A : Around} {E : Value → Shared → Prop} {s : Shared} {h₀ : Heap} {L : Addr} {news W₁ W₂ : Led} {v u : Value} {d : Dat} {Q : Value → Shared → Prop}
theorem shaped_of {d : Dat} (h : fine d) : SeqAt.shaped (kqdP d) = true := by
  obtain ⟨a, b⟩ := okD_lay 12 d h
  unfold SeqAt.shaped
  rw [a, Bool.true_and]
  exact decide_eq_true (Nat.le_trans b (by decide))
/-- two values that bear the same datum are equal -/
theorem same_eq (N : News h₀ L s.heap news) (Dv : DatIn W₁ v d) (s1 : ∀ p ∈ W₁, p ∈ news) (Du : DatIn W₂ u d) (s2 : ∀ p ∈ W₂, p ∈ news) (hd : fine d) (hu : A.units + 64 < cLine) (h : Q (.bool true) s) :
    wpAny (model prog w) A (compareOp .Eq v u) Q E s := by
  obtain ⟨as, ra⟩ := datReads N 12 (Dv.mono s1) hd
  obtain ⟨bs, rb⟩ := datReads N 12 (Du.mono s2) hd
  refine eq_dataH ra rb (shaped_of hd) (shaped_of hd) hu ?_
  rw [SeqAt.eqv_refl _ (okD_lay 12 d hd).1]
  exact h
theorem same_ne (N : News h₀ L s.heap news) (Dv : DatIn W₁ v d) (s1 : ∀ p ∈ W₁, p ∈ news) (Du : DatIn W₂ u d) (s2 : ∀ p ∈ W₂, p ∈ news) (hd : fine d) (hu : A.units + 64 < cLine) (h : Q (.bool false) s) :
    wpAny (model prog w) A (compareOp .NotEq v u) Q E s := by
  obtain ⟨as, ra⟩ := datReads N 12 (Dv.mono s1) hd
  obtain ⟨bs, rb⟩ := datReads N 12 (Du.mono s2) hd
  refine ne_dataH ra rb (shaped_of hd) (shaped_of hd) hu ?_
  rw [SeqAt.eqv_refl _ (okD_lay 12 d hd).1]
  exact h
end

/-! ## the ledger -/
/-- no tuple: an object that no datum is made of -/
noncomputable def NT (o : Obj) : Prop := ∀ (vs : Array Value) (n : Nat), o ≠ ({ cls := .type "tuple", data := .seq vs n } : Obj)
theorem NT.ofCls {o : Obj} (h : o.cls ≠ .type "tuple") : NT o := fun _ _ e => h (by rw [e])
theorem NT.ofCell {o : Obj} {v : Option Value} (h : o.data = .cell v) : NT o := fun _ _ e => by rw [e] at h; cases h
theorem NT.of {o : Obj} (h : NT o) : NT o := h
theorem NT.lst {vs : Array Value} {n : Nat} : NT (listOf vs n) := NT.ofCls (by show Value.type "list" ≠ Value.type "tuple"; simp)
noncomputable def NTs (M : Led) : Prop := ∀ p ∈ M, NT p.2
/-- W grown by what is newer than all of A -/
noncomputable def Ext (A W W' : Led) : Prop := ∃ add : Led, W' = add ++ W ∧ ∀ p ∈ add, ∀ q ∈ A, p.1 ≠ q.1
theorem Ext.refl {A W : Led} : Ext A W W := ⟨[], rfl, fun _ h => nomatch h⟩
theorem Ext.mem {A W W' : Led} (h : Ext A W W') {p : Addr × Obj} (hp : p ∈ W) : p ∈ W' := by
  obtain ⟨add, rfl, _⟩ := h
  exact List.mem_append_right _ hp
theorem Ext.sub {A W W' : Led} (h : Ext A W W') : ∀ p ∈ W, p ∈ W' := fun _ hp => h.mem hp
theorem Ext.trans {A W₁ W₂ W₃ : Led} (h : Ext A W₁ W₂) (k : Ext A W₂ W₃) : Ext A W₁ W₃ := by
  obtain ⟨a, rfl, ha⟩ := h
  obtain ⟨b, rfl, hb⟩ := k
  refine ⟨b ++ a, (List.append_assoc _ _ _).symm, fun p hp => ?_⟩
  rcases List.mem_append.mp hp with hp | hp
  · exact hb p hp
  · exact ha p hp
theorem Ext.base {A B W W' : Led} (h : Ext B W W') (k : ∀ q ∈ A, ∃ q' ∈ B, q'.1 = q.1) : Ext A W W' := by
  obtain ⟨a, rfl, ha⟩ := h
  refine ⟨a, rfl, fun p hp q hq => ?_⟩
  obtain ⟨q', hq', e⟩ := k q hq
  rw [← e]
  exact ha p hp q' hq'
theorem Ext.cons {A W W' : Led} {r : Addr} {o : Obj} (h : Ext A W W') (hr : ∀ q ∈ A, @LT.lt Nat _ q.1 r) : Ext A W ((r, o) :: W') := by
  obtain ⟨a, rfl, ha⟩ := h
  refine ⟨(r, o) :: a, rfl, fun p hp => ?_⟩
  rcases List.mem_cons.mp hp with rfl | hp
  · exact fun q hq => Nat.ne_of_gt (hr q hq)
  · exact ha p hp
theorem mem_h {p : Addr × Obj} {l : Led} : p ∈ p :: l := .head _
theorem mem_t {p q : Addr × Obj} {l₀ : Led} (h : p ∈ l₀) : p ∈ q :: l₀ := .tail _ h
theorem mem_e {A W W' : Led} {p : Addr × Obj} (h : Ext A W W') (hp : p ∈ W) : p ∈ W' := h.mem hp
noncomputable def Off (M W : Led) : Prop := ∀ q ∈ M, ∀ p ∈ W, p.1 ≠ q.1
theorem Off.nil {W : Led} : Off [] W := fun _ h => nomatch h
theorem Off.cons {a₀ : Addr} {o : Obj} {M W : Led} (h : ∀ p ∈ W, p.1 ≠ a₀) (k : Off M W) : Off ((a₀, o) :: M) W := by
  intro q hq
  rcases List.mem_cons.mp hq with rfl | hq
  · exact h
  · exact k q hq
theorem Off.ne {a₀ : Addr} {o : Obj} {M W : Led} (h : Off M W) (x2 : (a₀, o) ∈ M) : ∀ p ∈ W, p.1 ≠ a₀ := h _ x2
theorem Off.ext {A M W W' : Led} (h : Off M W) (e : Ext A W W') (k : ∀ q ∈ M, ∃ q' ∈ A, q'.1 = q.1) : Off M W' := by
  obtain ⟨a, rfl, ha⟩ := e
  intro q hq p hp
  rcases List.mem_append.mp hp with hp | hp
  · obtain ⟨q', hq', e⟩ := k q hq
    have := ha p hp q' hq'
    rw [← e]
    exact this
  · exact h q hq p hp

/-- the ledger told apart: what may turn (M), what does not (W) -/
inductive Split : Led → Led → Led → Prop
  | done {W : Led} : Split W [] W
  | imm {a₀ : Addr} {vs : Array Value} {n : Nat} {r M W : Led} : Split r M W → Split ((a₀, ({ cls := .type "tuple", data := .seq vs n } : Obj)) :: r) M ((a₀, ({ cls := .type "tuple", data := .seq vs n } : Obj)) :: W)
  | lst {a₀ : Addr} {vs : Array Value} {n : Nat} {r M W : Led} : Split r M W → Split ((a₀, listOf vs n) :: r) ((a₀, listOf vs n) :: M) W
  | oth {a₀ : Addr} {o : Obj} {r M W : Led} (h : NT o) : Split r M W → Split ((a₀, o) :: r) ((a₀, o) :: M) W
theorem Split.mem {l M W : Led} (h : Split l M W) : ∀ p, p ∈ l ↔ p ∈ M ++ W := by
  induction h with
  | done => intro p; rfl
  | imm h ih => intro p; simp only [List.mem_cons, List.mem_append, ih p]; exact or_left_comm
  | lst h ih => intro p; simp only [List.mem_cons, List.mem_append, List.cons_append, ih p]
  | oth _ h ih => intro p; simp only [List.mem_cons, List.mem_append, List.cons_append, ih p]
theorem Split.nts {l M W : Led} (h : Split l M W) : NTs M := by
  induction h with
  | done => exact fun _ h => nomatch h
  | imm h ih => exact ih
  | lst h ih =>
    intro p hp
    rcases List.mem_cons.mp hp with rfl | hp
    · exact NT.lst
    · exact ih p hp
  | oth h _ ih =>
    intro p hp
    rcases List.mem_cons.mp hp with rfl | hp
    · exact h
    · exact ih p hp
/-- one that turns taken out -/
inductive Pick (a : Addr) (o : Obj) : Led → Led → Led → Prop
  | here {r M W : Led} : Split r M W → Pick a o ((a, o) :: r) M W
  | imm {b₀ : Addr} {vs : Array Value} {n : Nat} {r M W : Led} : Pick a o r M W → Pick a o ((b₀, ({ cls := .type "tuple", data := .seq vs n } : Obj)) :: r) M ((b₀, ({ cls := .type "tuple", data := .seq vs n } : Obj)) :: W)
  | lst {b₀ : Addr} {vs : Array Value} {n : Nat} {r M W : Led} : Pick a o r M W → Pick a o ((b₀, listOf vs n) :: r) ((b₀, listOf vs n) :: M) W
  | oth {b₀ : Addr} {p : Obj} {r M W : Led} (h : NT p) : Pick a o r M W → Pick a o ((b₀, p) :: r) ((b₀, p) :: M) W
theorem Pick.mem {a : Addr} {o : Obj} {l M W : Led} (h : Pick a o l M W) : ∀ p, p ∈ l ↔ p ∈ (a, o) :: (M ++ W) := by
  induction h with
  | here h => intro p; simp only [List.mem_cons, h.mem p]
  | imm h ih => intro p; simp only [List.mem_cons, List.mem_append, ih p]; constructor <;> (intro h; rcases h with h | h | h | h <;> simp [h])
  | lst h ih => intro p; simp only [List.mem_cons, List.mem_append, List.cons_append, ih p]; exact or_left_comm
  | oth _ h ih => intro p; simp only [List.mem_cons, List.mem_append, List.cons_append, ih p]; exact or_left_comm
theorem Pick.nts {a : Addr} {o : Obj} {l M W : Led} (h : Pick a o l M W) : NTs M := by
  induction h with
  | here h => exact h.nts
  | imm h ih => exact ih
  | lst h ih =>
    intro p hp
    rcases List.mem_cons.mp hp with rfl | hp
    · exact NT.lst
    · exact ih p hp
  | oth h _ ih =>
    intro p hp
    rcases List.mem_cons.mp hp with rfl | hp
    · exact h
    · exact ih p hp

/-- the ledger told apart: the tuples newest and the letter (W), all else (M) -/
inductive SplitA : Led → Led → Led → Prop
  | done {W : Led} : SplitA W [] W
  | imm {a₀ : Addr} {vs : Array Value} {n : Nat} {r M W : Led} : SplitA r M W → SplitA ((a₀, ({ cls := .type "tuple", data := .seq vs n } : Obj)) :: r) M ((a₀, ({ cls := .type "tuple", data := .seq vs n } : Obj)) :: W)
  | any {p : Addr × Obj} {r M W : Led} : SplitA r M W → SplitA (p :: r) (p :: M) W
theorem SplitA.eq {p q : Addr × Obj} {r M W : Led} (x1 : p = q) (h : SplitA r M W) : SplitA (p :: r) (q :: M) W := by subst x1; exact .any h
theorem SplitA.mem {l M W : Led} (h : SplitA l M W) : ∀ p, p ∈ l ↔ p ∈ M ++ W := by
  induction h with
  | done => intro p; rfl
  | imm h ih => intro p; simp only [List.mem_cons, List.mem_append, ih p]; exact or_left_comm
  | any h ih => intro p; simp only [List.mem_cons, List.mem_append, List.cons_append, ih p]

inductive PickA (a : Addr) (o : Obj) : Led → Led → Led → Prop
  | here {r M W : Led} : SplitA r M W → PickA a o ((a, o) :: r) M W
  | imm {b₀ : Addr} {vs : Array Value} {n : Nat} {r M W : Led} : PickA a o r M W → PickA a o ((b₀, ({ cls := .type "tuple", data := .seq vs n } : Obj)) :: r) M ((b₀, ({ cls := .type "tuple", data := .seq vs n } : Obj)) :: W)
  | any {p : Addr × Obj} {r M W : Led} : PickA a o r M W → PickA a o (p :: r) (p :: M) W
theorem PickA.mem {a : Addr} {o : Obj} {l M W : Led} (h : PickA a o l M W) : ∀ p, p ∈ l ↔ p ∈ (a, o) :: (M ++ W) := by
  induction h with
  | here h => intro p; simp only [List.mem_cons, h.mem p]
  | imm h ih => intro p; simp only [List.mem_cons, List.mem_append, ih p]; constructor <;> (intro h; rcases h with h | h | h | h <;> simp [h])
  | any h ih => intro p; simp only [List.mem_cons, List.mem_append, List.cons_append, ih p]; exact or_left_comm

theorem DatIn.strong {add M W : Led} (hM : NTs M) {v : Value} {d : Dat} (n : Nat) (D : DatIn (add ++ (M ++ W)) v d) (hk : okD n d = true) : DatIn (add ++ W) v d := by
  refine DatIn.rec (motive_1 := fun v d _ => ∀ n, okD n d = true → DatIn (add ++ W) v d) (motive_2 := fun vs ds _ => ∀ n, (∀ d ∈ ds, okD n d = true) → DatAll (add ++ W) vs ds) ?_ ?_ ?_ ?_ ?_ ?_ ?_ ?_ ?_ D n hk
  · exact fun _ _ => .none
  · exact fun b _ _ => .bool b
  · exact fun i t _ _ => .int i t
  · exact fun x t _ _ => .str x t
  · exact fun _ _ n hk => absurd hk (by cases n <;> simp [okD])
  · intro a vs c ds hm _ ih n hk
    cases n with
    | zero => simp [okD] at hk
    | succ n =>
      refine .tuple (n := c) ?_ (ih n (okD_tuple.mp hk))
      rcases List.mem_append.mp hm with hm | hm
      · exact List.mem_append_left _ hm
      · exact List.mem_append_right _ ((List.mem_append.mp hm).resolve_left fun hm => hM _ hm _ _ rfl)
  · exact fun _ _ _ n hk => absurd hk (by cases n <;> simp [okD])
  · exact fun _ _ => .nil
  · exact fun _ _ i1 i2 n hk => .cons (i1 n (hk _ (.head _))) (i2 n fun d hm => hk d (.tail _ hm))

/-! ## the claim of a call -/
noncomputable def Call (w : World) (f : Addr) (n : Nat) (vs : List Value) (I : Led) (post : Value → Led → Prop) : Prop :=
  ∀ (p : Program) (loose : List Str) (mean : ExcName → Option Value) (mg mb : Str → Option Value) (dp un : Nat) (gd : Option (List Code)) (cn : Str) (cs : Scope) (a : Addr) (ccd : Value) (cl : List (Str × Addr)) (outer : List Env) (A₀ : Around) (base h₀ : Heap) (L : Addr) (m : Str → Option Value) (s : Shared) (Q E : Value → Shared → Prop),
    Below A₀ base outer h₀ → Fr h₀ L s.heap m → (hd.heap_1 w.params).In h₀ → News h₀ L s.heap I → Top p loose mean mg mb h₀ → cs.kind = .function → dp + n < recursionLimit → un + 8 * n + 64 < cLine →
    (∀ r J h' tk', Fr h₀ L h' m → News h₀ L h' J → post r J → Q r { s with heap := h', toks := tk' }) →
    wpAny (model PySem.Challenge.rw_xm0589_01.row.prog w) (ktrTop dp un gd cn cs L a ccd cl outer) (call (.ref f) vs) Q E s
/-- a call that changes nothing and hands back a datum -/
noncomputable def PureC (w : World) (f : Addr) (n : Nat) (vs : List Value) (W : Led) (Φ : Dat → Prop) : Prop :=
  Call w f n vs W fun r J => ∃ d, Ext W W J ∧ DatIn J r d ∧ fine d ∧ Φ d
/-- the pool of numbers that is drawn from -/
noncomputable def Pool (o : Obj) : Prop := ∃ (x : Int) (tx : Tok) (y : Int) (ty : Tok) (n : Nat), o = listOf #[.int x tx, .int y ty] n ∧ 0 ≤ x ∧ 0 ≤ y ∧ y < 2147483647
theorem Pool.nt {o : Obj} (h : Pool o) : NT o := by
  obtain ⟨x, tx, y, ty, n, rfl, _⟩ := h
  exact NT.lst
/-- a call that draws from the pool and hands back a datum -/
noncomputable def PoolC (w : World) (f : Addr) (n : Nat) (vs : List Value) (src : Addr) (o : Obj) (W : Led) (Φ : Dat → Prop) : Prop :=
  Call w f n vs ((src, o) :: W) fun r J => ∃ o' W' d, J = (src, o') :: W' ∧ Pool o' ∧ Ext ((src, o) :: W) W W' ∧ DatIn W' r d ∧ fine d ∧ Φ d

section
variable {w : World} {p : Program} {loose : List Str} {mean : ExcName → Option Value} {mg mb : Str → Option Value} {dp un : Nat} {gd : Option (List Code)} {cn : Str} {cs : Scope} {a : Addr} {ccd : Value} {cl : List (Str × Addr)} {outer : List Env} {A₀ : Around} {base h₀ : Heap} {L : Addr} {m : Str → Option Value} {s : Shared} {Q E : Value → Shared → Prop}
  {f : Addr} {n : Nat} {vs : List Value} {src : Addr} {o : Obj} {news M W : Led} {Φ : Dat → Prop}
theorem pure_use (S : Split news M W) (C : PureC w f n vs (M ++ W) Φ) (B : Below A₀ base outer h₀) (F : Fr h₀ L s.heap m) (X : (hd.heap_1 w.params).In h₀) (N : News h₀ L s.heap news) (T : Top p loose mean mg mb h₀) (hk : cs.kind = .function)
    (hd : dp + n < recursionLimit) (hu : un + 8 * n + 64 < cLine) (O : Off M W)
    (h : ∀ r W' d h' tk', Fr h₀ L h' m → News h₀ L h' (M ++ W') → Off M W' → Ext (M ++ W) W W' → DatIn W' r d → fine d → Φ d → Q r { s with heap := h', toks := tk' }) :
    wpAny (model PySem.Challenge.rw_xm0589_01.row.prog w) (ktrTop dp un gd cn cs L a ccd cl outer) (call (.ref f) vs) Q E s := by
  refine C p loose mean mg mb dp un gd cn cs a ccd cl outer A₀ base h₀ L m s Q E B F X (fun q hq => N q ((S.mem q).mpr hq)) T hk hd hu fun r J h' tk' F' N' hp => ?_
  obtain ⟨d, ⟨add, rfl, hadd⟩, hD, hf, hΦ⟩ := hp
  have e : Ext (M ++ W) W (add ++ W) := ⟨add, rfl, hadd⟩
  refine h r (add ++ W) d h' tk' F' (fun q hq => N' q ?_) (O.ext e fun q hq => ⟨q, List.mem_append_left _ hq, rfl⟩) e (DatIn.strong S.nts 12 hD hf) hf hΦ
  simp only [List.mem_append] at hq ⊢
  rcases hq with hq | hq | hq <;> simp [hq]
theorem pool_use (C : PoolC w f n vs src o (M ++ W) Φ) (F : Fr h₀ L s.heap m := by k_asm) (N : News h₀ L s.heap news := by k_asm) (S : Pick src o news M W := by tb_rel) (B : Below A₀ base outer h₀ := by k_asm) (X : (hd.heap_1 w.params).In h₀ := by k_asm) (T : Top p loose mean mg mb h₀ := by k_asm) (hk : cs.kind = .function := by first | exact rfl | assumption) (hd : dp + n < recursionLimit := by ktr_room) (hu : un + 8 * n + 64 < cLine := by ktr_units) (O : Off ((src, o) :: M) W := by tb_rel) (h : ∀ r o' W' d h' tk', Fr h₀ L h' m → News h₀ L h' ((src, o') :: (M ++ W')) → Pool o' → NT o' → Off ((src, o') :: M) W' → Ext ((src, o) :: (M ++ W)) W W' → DatIn W' r d → fine d → Φ d → Q r { s with heap := h', toks := tk' }) :
    wpAny (model PySem.Challenge.rw_xm0589_01.row.prog w) (ktrTop dp un gd cn cs L a ccd cl outer) (call (.ref f) vs) Q E s := by
  refine C p loose mean mg mb dp un gd cn cs a ccd cl outer A₀ base h₀ L m s Q E B F X (fun q hq => N q ((S.mem q).mpr hq)) T hk hd hu fun r J h' tk' F' N' hp => ?_
  obtain ⟨o', W', d, rfl, hP, ⟨add, rfl, hadd⟩, hD, hf, hΦ⟩ := hp
  have e : Ext ((src, o) :: (M ++ W)) W (add ++ W) := ⟨add, rfl, hadd⟩
  have O' := O.ext e fun q hq => ⟨q, by rcases List.mem_cons.mp hq with rfl | hq; exact .head _; exact .tail _ (List.mem_append_left _ hq), rfl⟩
  refine h r o' (add ++ W) d h' tk' F' (fun q hq => N' q ?_) hP hP.nt (Off.cons (O' _ (.head _)) fun q hq => O' q (.tail _ hq)) e (DatIn.strong S.nts 12 hD hf) hf hΦ
  simp only [List.mem_append, List.mem_cons] at hq ⊢
  rcases hq with hq | hq | hq | hq <;> simp [hq]
/-- the same of a def that answers True -/
theorem pool_useB (C : Pool o → NT o → (∀ q ∈ M ++ W, q.1 ≠ src) → PoolC w f n vs src o (M ++ W) (fun d => d = .bool true)) (F : Fr h₀ L s.heap m := by k_asm) (N : News h₀ L s.heap news := by k_asm) (S : Pick src o news M W := by tb_rel) (B : Below A₀ base outer h₀ := by k_asm) (X : (hd.heap_1 w.params).In h₀ := by k_asm) (T : Top p loose mean mg mb h₀ := by k_asm) (hk : cs.kind = .function := by first | exact rfl | assumption) (hd : dp + n < recursionLimit := by ktr_room) (hu : un + 8 * n + 64 < cLine := by ktr_units) (O : Off ((src, o) :: M) W := by tb_rel) (hP : Pool o := by assumption) (hNT : NT o := by assumption) (hM : ∀ q ∈ M, q.1 ≠ src := by kst_src) (h : ∀ o' W' h' tk', Fr h₀ L h' m → News h₀ L h' ((src, o') :: (M ++ W')) → Pool o' → NT o' → Off ((src, o') :: M) W' → Ext ((src, o) :: (M ++ W)) W W' → Q (.bool true) { s with heap := h', toks := tk' }) :
    wpAny (model PySem.Challenge.rw_xm0589_01.row.prog w) (ktrTop dp un gd cn cs L a ccd cl outer) (call (.ref f) vs) Q E s := by
  refine pool_use (C hP hNT fun q hq => (List.mem_append.mp hq).elim (hM q) (O _ (.head _) q)) F N S B X T hk hd hu O fun r o' W' d h' tk' F' N' hP T' O' e D _ hd => ?_
  subst hd
  cases D
  exact h o' W' h' tk' F' N' hP T' O' e
end
theorem News.imm {h₀ h : Heap} {L : Addr} {news M W : Led} (N : News h₀ L h news) (S : SplitA news M W) : News h₀ L h W := fun p hp => N p ((S.mem p).mpr (List.mem_append_right _ hp))
section
variable {A W₀ W₂ W₃ M : Led} {src r : Addr} {o o₂ ob : Obj}
theorem ext_step (x1 : Ext ((src, o₂) :: (M ++ W₂)) W₂ W₃) (h : Ext ((src, o) :: W₀) W₀ W₂) : Ext ((src, o) :: W₀) W₀ W₃ :=
  h.trans (x1.base fun q hq => by
    rcases List.mem_cons.mp hq with rfl | hq
    · exact ⟨_, .head _, rfl⟩
    · exact ⟨q, .tail _ (List.mem_append_right _ (h.mem hq)), rfl⟩)
theorem ext_stepQ (x1 : Ext (M ++ W₂) W₂ W₃) (x3 : (src, o₂) ∈ M) (h : Ext ((src, o) :: W₀) W₀ W₂) : Ext ((src, o) :: W₀) W₀ W₃ :=
  h.trans (x1.base fun q hq => by
    rcases List.mem_cons.mp hq with rfl | hq
    · exact ⟨_, List.mem_append_left _ x3, rfl⟩
    · exact ⟨q, List.mem_append_right _ (h.mem hq), rfl⟩)
theorem ext_stepP (x1 : Ext (M ++ W₂) W₂ W₃) (h : Ext W₀ W₀ W₂) : Ext W₀ W₀ W₃ :=
  h.trans (x1.base fun q hq => ⟨q, List.mem_append_right _ (h.mem hq), rfl⟩)
theorem ext_stepK (x1 : Ext W₂ W₂ W₃) (x2 : Off M W₃) (x3 : (src, o₂) ∈ M) (h : Ext ((src, o) :: W₀) W₀ W₂) : Ext ((src, o) :: W₀) W₀ W₃ := by
  obtain ⟨a, rfl, ha⟩ := h
  obtain ⟨b, rfl, hb⟩ := x1
  refine ⟨b ++ a, (List.append_assoc _ _ _).symm, fun p hp q hq => ?_⟩
  rcases List.mem_append.mp hp with hp | hp
  · rcases List.mem_cons.mp hq with rfl | hq
    · exact x2 _ x3 p (List.mem_append_left _ hp)
    · exact hb p hp q (List.mem_append_right _ hq)
  · exact ha p hp q hq
theorem ext_stepKP (x1 : Ext W₂ W₂ W₃) (h : Ext W₀ W₀ W₂) : Ext W₀ W₀ W₃ := h.trans (x1.base fun q hq => ⟨q, h.mem hq, rfl⟩)
theorem ext_new (h : Ext ((src, o) :: W₀) W₀ W₂) (hs : @LT.lt Nat _ src r) (ha : AllLt r W₂) : Ext ((src, o) :: W₀) W₀ ((r, ob) :: W₂) :=
  h.cons fun q hq => by
    rcases List.mem_cons.mp hq with rfl | hq
    · exact hs
    · exact tb_ltOf ha q (h.mem hq)
theorem ext_newP (h : Ext W₀ W₀ W₂) (ha : AllLt r W₂) : Ext W₀ W₀ ((r, ob) :: W₂) := h.cons fun q hq => tb_ltOf ha q (h.mem hq)
end
section
variable {A B₀ W W' : Led} {q : Addr × Obj} {v : Value} {d₀ : Dat} {vs : List Value} {ds : List Dat}
theorem datTup {a₀ : Addr} {n : Nat} (h : (a₀, ({ cls := .type "tuple", data := .seq vs.toArray n } : Obj)) ∈ W) (k : DatAll W vs ds) : DatIn W (.ref a₀) (.tuple ds) := .tuple h k
theorem dallCons (h : DatIn W v d₀) (k : DatAll W vs ds) : DatAll W (v :: vs) (d₀ :: ds) := .cons h k
theorem datT (h : DatIn W v d₀) : DatIn (q :: W) v d₀ := h.mono fun _ h => mem_t h
theorem datA (h : DatIn W v d₀) : DatIn (B₀ ++ W) v d₀ := h.mono fun _ h => List.mem_append_right _ h
theorem datE (x1 : Ext A W W') (h : DatIn W v d₀) : DatIn W' v d₀ := h.mono x1.sub
theorem dallT (h : DatAll W vs ds) : DatAll (q :: W) vs ds := h.mono fun _ h => mem_t h
theorem dallA (h : DatAll W vs ds) : DatAll (B₀ ++ W) vs ds := h.mono fun _ h => List.mem_append_right _ h
theorem dallE (x1 : Ext A W W') (h : DatAll W vs ds) : DatAll W' vs ds := h.mono x1.sub
end
/-! ## a call that leaves alone what it is not told of -/
noncomputable def Keep (h : Heap) (I : Led) (h' : Heap) (J : Led) : Prop := ∀ b o, h.get? b = some o → (∀ q ∈ I, q.1 ≠ b) → h'.get? b = some o ∧ ∀ p ∈ J, p.1 ≠ b
theorem Keep.of {h g h' : Heap} {I J : Led} {L : Addr} {m : Str → Option Value} (G : GSub h g (I.map (·.1))) (F : Fr g L h' m) (N : News g L h' J) : Keep h I h' J := by
  intro b o e hb
  have eg : g.get? b = some o := G b o e fun hm => by
    obtain ⟨q, hq, e2⟩ := List.mem_map.mp hm
    exact hb q hq e2
  refine ⟨F.keep b o eg, fun p hp e2 => ?_⟩
  have := (N p hp).2.2
  rw [e2, eg] at this
  cases this
noncomputable def CallK (w : World) (f : Addr) (n : Nat) (vs : List Value) (I : Led) (post : Value → Led → Prop) : Prop :=
  ∀ (p : Program) (loose : List Str) (mean : ExcName → Option Value) (mg mb : Str → Option Value) (dp un : Nat) (gd : Option (List Code)) (cn : Str) (cs : Scope) (a : Addr) (ccd : Value) (cl : List (Str × Addr)) (outer : List Env) (A₀ : Around) (base h₀ : Heap) (L : Addr) (m : Str → Option Value) (s : Shared) (Q E : Value → Shared → Prop),
    Below A₀ base outer h₀ → Fr h₀ L s.heap m → (hd.heap_1 w.params).In h₀ → News h₀ L s.heap I → Top p loose mean mg mb h₀ → cs.kind = .function → dp + n < recursionLimit → un + 8 * n + 64 < cLine →
    (∀ r J h' tk', Fr h₀ L h' m → News h₀ L h' J → Keep s.heap I h' J → post r J → Q r { s with heap := h', toks := tk' }) →
    wpAny (model PySem.Challenge.rw_xm0589_01.row.prog w) (ktrTop dp un gd cn cs L a ccd cl outer) (call (.ref f) vs) Q E s
noncomputable def PureK (w : World) (f : Addr) (n : Nat) (vs : List Value) (W : Led) (Φ : Dat → Prop) : Prop :=
  CallK w f n vs W fun r J => ∃ d, Ext W W J ∧ DatIn J r d ∧ fine d ∧ Φ d
theorem PureK.toC {w : World} {f : Addr} {n : Nat} {vs : List Value} {W : Led} {Φ : Dat → Prop} (C : PureK w f n vs W Φ) : PureC w f n vs W Φ :=
  fun p loose mean mg mb dp un gd cn cs a ccd cl outer A₀ base h₀ L m s Q E B F X N T hk hd hu h =>
    C p loose mean mg mb dp un gd cn cs a ccd cl outer A₀ base h₀ L m s Q E B F X N T hk hd hu fun r J h' tk' F' N' _ hp => h r J h' tk' F' N' hp
section
variable {w : World} {p : Program} {loose : List Str} {mean : ExcName → Option Value} {mg mb : Str → Option Value} {dp un : Nat} {gd : Option (List Code)} {cn : Str} {cs : Scope} {a : Addr} {ccd : Value} {cl : List (Str × Addr)} {outer : List Env} {A₀ : Around} {base h₀ : Heap} {L : Addr} {m : Str → Option Value} {s : Shared} {Q E : Value → Shared → Prop}
  {f : Addr} {n : Nat} {vs : List Value} {M W : Led} {Φ : Dat → Prop}
theorem pureK_use (C : PureK w f n vs W Φ) (B : Below A₀ base outer h₀) (F : Fr h₀ L s.heap m) (X : (hd.heap_1 w.params).In h₀) (N : News h₀ L s.heap (M ++ W)) (T : Top p loose mean mg mb h₀) (hk : cs.kind = .function)
    (hd : dp + n < recursionLimit) (hu : un + 8 * n + 64 < cLine) (O : Off M W)
    (h : ∀ r W' d h' tk', Fr h₀ L h' m → News h₀ L h' (M ++ W') → Off M W' → Ext W W W' → DatIn W' r d → fine d → Φ d → Q r { s with heap := h', toks := tk' }) :
    wpAny (model PySem.Challenge.rw_xm0589_01.row.prog w) (ktrTop dp un gd cn cs L a ccd cl outer) (call (.ref f) vs) Q E s := by
  refine C p loose mean mg mb dp un gd cn cs a ccd cl outer A₀ base h₀ L m s Q E B F X (fun q hq => N q (List.mem_append_right _ hq)) T hk hd hu fun r J h' tk' F' N' K hp => ?_
  obtain ⟨d, e, hD, hf, hΦ⟩ := hp
  refine h r J d h' tk' F' (fun q hq => ?_) (fun q hq => (K q.1 q.2 (N q (List.mem_append_left _ hq)).1 (O q hq)).2) e hD hf hΦ
  rcases List.mem_append.mp hq with hq | hq
  · exact ⟨(K q.1 q.2 (N q (List.mem_append_left _ hq)).1 (O q hq)).1, (N q (List.mem_append_left _ hq)).2⟩
  · exact N' q hq
end
theorem ne_succ {W : Led} {L : Addr} (h : AllLt L W) : ∀ p ∈ W, p.1 ≠ L + 1 := fun p hp => Nat.ne_of_lt (Nat.lt_succ_of_lt (tb_ltOf h p hp))
theorem neOf {W : Led} {a₀ : Addr} (h : ∀ p ∈ W, p.1 ≠ a₀) : ∀ p ∈ W, p.1 ≠ a₀ := h
theorem allne_nil {a : Addr} : ∀ p ∈ ([] : Led), p.1 ≠ a := fun _ h => nomatch h
theorem allne_cons {a₀ b₀ : Addr} {o : Obj} {W : Led} (h : (@Ne Nat b₀ a₀)) (k : ∀ p ∈ W, p.1 ≠ a₀) : ∀ p ∈ (b₀, o) :: W, p.1 ≠ a₀ := by
  intro p hp
  rcases List.mem_cons.mp hp with rfl | hp
  · exact h
  · exact k p hp
/-- one of the items -/
structure At (vs : List Value) (v : Value) : Prop where
  out : ∃ i : Nat, vs[i]? = some v
theorem At.mem {vs : List Value} {v : Value} (h : At vs v) : v ∈ vs := by
  obtain ⟨n, h⟩ := h
  exact List.mem_of_getElem? h
theorem At.c2 {A B v : Value} (h : At [A, B] v) : v = A ∨ v = B := by simpa only [List.mem_cons, List.not_mem_nil, or_false] using h.mem
theorem At.c3 {A B C v : Value} (h : At [A, B, C] v) : v = A ∨ v = B ∨ v = C := by simpa only [List.mem_cons, List.not_mem_nil, or_false] using h.mem
theorem At.c4 {A B C D v : Value} (h : At [A, B, C, D] v) : v = A ∨ v = B ∨ v = C ∨ v = D := by simpa only [List.mem_cons, List.not_mem_nil, or_false] using h.mem
theorem At.c5 {A B C D F v : Value} (h : At [A, B, C, D, F] v) : v = A ∨ v = B ∨ v = C ∨ v = D ∨ v = F := by simpa only [List.mem_cons, List.not_mem_nil, or_false] using h.mem
section
variable {W₀ W₂ l : Led} {src r : Addr} {o o₁ ob : Obj}
theorem AllLt.mem {r : Addr} : ∀ {l : Led}, AllLt r l → ∀ p ∈ l, @LT.lt Nat _ p.1 r
  | [], _, _, h => nomatch h
  | q :: l, h, p, hp => by
    rcases List.mem_cons.mp hp with rfl | hp
    · exact h.1
    · exact AllLt.mem h.2 p hp
theorem lt_by {a₀ D₀ : Addr} {o : Obj} {l₀ : Led} (h : AllLt D₀ l₀) (x2 : (a₀, o) ∈ l₀) : @LT.lt Nat _ a₀ D₀ := AllLt.mem h _ x2
theorem neL {a r : Addr} {o : Obj} {l : Led} (h : AllLt r l := by with_reducible assumption) (hm : (a, o) ∈ l := by with_reducible k_mem) : (@Ne Nat r a) := Nat.ne_of_gt (AllLt.mem h _ hm)
theorem neLs {a r : Addr} {o : Obj} {l : Led} (h : AllLt r l := by with_reducible assumption) (hm : (a, o) ∈ l := by with_reducible k_mem) : (@Ne Nat (r + 1) a) := Nat.ne_of_gt (Nat.lt_succ_of_lt (AllLt.mem h _ hm))
theorem neAll {W : Led} (h : AllLt r l := by with_reducible assumption) (hb : ∀ p ∈ W, p ∈ l := by (intro p9 hp9; with_reducible k_mem)) : ∀ p ∈ W, p.1 ≠ r := fun p hp => Nat.ne_of_lt (AllLt.mem h p (hb p hp))
theorem neAllS {W : Led} (h : AllLt r l := by with_reducible assumption) (hb : ∀ p ∈ W, p ∈ l := by (intro p9 hp9; with_reducible k_mem)) : ∀ p ∈ W, p.1 ≠ r + 1 := fun p hp => Nat.ne_of_lt (Nat.lt_succ_of_lt (AllLt.mem h p (hb p hp)))
theorem ext_newPS {l₀ : Led} (ha : AllLt r l₀) (hb : ∀ p ∈ W₀, p ∈ l₀) (h : Ext W₀ W₀ W₂) : Ext W₀ W₀ ((r, ob) :: W₂) := h.cons fun q hq => AllLt.mem ha _ (hb q hq)
theorem letN {h₀ h : Heap} {L : Addr} {news : Led} {P : Prop} (N : News h₀ L h news) (k : let nws := news; News h₀ L h nws → P) : P := k N
theorem ext_newS {l₀ : Led} (ha : AllLt r l₀) (x2 : (src, o₁) ∈ l₀) (hb : ∀ p ∈ W₀, p ∈ l₀) (h : Ext ((src, o) :: W₀) W₀ W₂) : Ext ((src, o) :: W₀) W₀ ((r, ob) :: W₂) :=
  h.cons fun q hq => by
    rcases List.mem_cons.mp hq with rfl | hq
    · exact AllLt.mem ha (src, o₁) x2
    · exact AllLt.mem ha _ (hb q hq)
end
section
variable {prog : Program} {w : World} {A : Around} {E : Value → Shared → Prop} {s : Shared} {env : Env} {h₀ : Heap} {x : Str} {body : List Stmt} {Q : Flow → Shared → Prop} {m₀ : Str → Option Value} {nx₀ : Led} {stored : List Str} {J : Nat → Led → Prop}
/-- the names as a loop's turn finds them -/
abbrev inTurn (x : Str) (v : Value) (stored : List Str) (u m₀ : Str → Option Value) : Str → Option Value := fun y => if y = x then some v else if stored.contains y then u y else m₀ y
/-- behind a loop -/
abbrev outTurn (x : Str) (stored : List Str) (u m₀ : Str → Option Value) : Str → Option Value := fun y => if y = x then u y else if stored.contains y then u y else m₀ y
noncomputable def TurnEnd (h₀ : Heap) (L : Addr) (x : Str) (stored : List Str) (m₀ : Str → Option Value) (J : Led → Prop) (I : Addr) (oI : Obj) (s₁ s₂ : Shared) : Prop :=
  ∃ h' tk m' nx, s₂ = { s₁ with heap := h', toks := tk } ∧ Fr h₀ L h' m' ∧ News h₀ L h' ((I, oI) :: nx) ∧ (∀ p ∈ nx, p.1 ≠ I) ∧ (∀ z, z ≠ x → stored.contains z = false → m' z = m₀ z) ∧ J nx
noncomputable def TurnPost (h₀ : Heap) (L : Addr) (x : Str) (stored : List Str) (m₀ : Str → Option Value) (J : Led → Prop) (I : Addr) (oI : Obj) (s₁ : Shared) (Q : Flow → Shared → Prop) (f : Flow) (s₂ : Shared) : Prop :=
  match f with
  | .ret v => Q (.ret v) s₂
  | .brk => Q .next s₂
  | _ => TurnEnd h₀ L x stored m₀ J I oI s₁ s₂
theorem TurnEnd.new {J : Led → Prop} {h' : Heap} {L I D l : Addr} {oI oD o o₀ : Obj} {m' : Str → Option Value} {W' : Led} {s₁ : Shared} {tk : Nat} (F : Fr h₀ L h' m') (N : News h₀ L h' ((D, oD) :: (I, oI) :: (l, o) :: W')) (hI : ∀ p ∈ (l, o₀) :: W', p.1 ≠ I) (hID : @LT.lt Nat _ I D)
    (hm : ∀ z, z ≠ x → stored.contains z = false → m' z = m₀ z) (hJ : J ((l, o) :: (D, oD) :: W')) : TurnEnd h₀ L x stored m₀ J I oI s₁ { s₁ with heap := h', toks := tk } := by
  refine ⟨h', tk, m', _, rfl, F, fun p hp => N p ?_, ?_, hm, hJ⟩
  · simp only [List.mem_cons] at hp ⊢
    rcases hp with hp | hp | hp | hp <;> simp [hp]
  · intro p hp
    simp only [List.mem_cons] at hp
    rcases hp with rfl | rfl | hp
    · exact hI (l, o₀) (.head _)
    · exact Nat.ne_of_gt hID
    · exact hI _ (.tail _ hp)
theorem TurnEnd.old {J : Led → Prop} {h' : Heap} {L I : Addr} {oI : Obj} {m' : Str → Option Value} {W' : Led} {s₁ : Shared} {tk : Nat} {l : Addr} {o o₀ : Obj} (F : Fr h₀ L h' m') (N : News h₀ L h' ((I, oI) :: (l, o) :: W')) (hI : ∀ p ∈ (l, o₀) :: W', p.1 ≠ I)
    (hm : ∀ z, z ≠ x → stored.contains z = false → m' z = m₀ z) (hJ : J ((l, o) :: W')) : TurnEnd h₀ L x stored m₀ J I oI s₁ { s₁ with heap := h', toks := tk } := by
  refine ⟨h', tk, m', _, rfl, F, N, ?_, hm, hJ⟩
  intro p hp
  rcases List.mem_cons.mp hp with rfl | hp
  · exact hI (l, o₀) (.head _)
  · exact hI _ (.tail _ hp)
theorem fr_turn {h : Heap} {L : Addr} {m : Str → Option Value} {v : Value} (hm : ∀ z, z ≠ x → stored.contains z = false → m z = m₀ z) (F : Fr h₀ L h (fun y => if y = x then some v else m y)) : Fr h₀ L h (inTurn x v stored m m₀) := by
  have e : (fun y => if y = x then some v else m y) = inTurn x v stored m m₀ := by
    funext y
    unfold inTurn
    by_cases h1 : y = x
    · simp [h1]
    · simp only [if_neg h1]
      cases h2 : stored.contains y with
      | true => simp
      | false => simp only [Bool.false_eq_true, if_false]; exact hm y h1 h2
  rw [e] at F
  exact F
theorem fr_out {h : Heap} {L : Addr} {m : Str → Option Value} (hm : ∀ z, z ≠ x → stored.contains z = false → m z = m₀ z) (F : Fr h₀ L h m) : Fr h₀ L h (outTurn x stored m m₀) := by
  have e : m = outTurn x stored m m₀ := by
    funext y
    unfold outTurn
    by_cases h1 : y = x
    · simp [h1]
    · simp only [if_neg h1]
      cases h2 : stored.contains y with
      | true => simp
      | false => simp only [Bool.false_eq_true, if_false]; exact hm y h1 h2
  exact e ▸ F
theorem loop_coreP (PO : Obj → Prop) {I : Addr} {fp : List Addr} {n : Nat} {P : Nat → Value → Prop} {St : Nat → Heap → Prop} (W : Walks prog w A I fp [I] n P St) (hIf : I ∈ fp) (hLf : env.locals ∉ fp) (hI : h₀.get? I = none) (hst : St 0 s.heap)
    (hob : ∀ i h, St i h → ∃ o, h.get? I = some o ∧ NT o ∧ PO o) (F : Fr h₀ env.locals s.heap m₀) (N : News h₀ env.locals s.heap nx₀) (hn : ∀ p ∈ nx₀, p.1 ≠ I) (hj : J 0 nx₀)
    (hfx : ∀ b ∈ fp, b ≠ I → ∃ ob, ∀ i nx, J i nx → (b, ob) ∈ nx)
    (turn : ∀ i v u nx h tk oI, i < n → P i v → J i nx → NT oI → PO oI → (∀ p ∈ nx, p.1 ≠ I) → Fr h₀ env.locals h (inTurn x v stored u m₀) → News h₀ env.locals h ((I, oI) :: nx) →
      wpAny (model prog w) A (execs body env) (TurnPost h₀ env.locals x stored m₀ (J (i + 1)) I oI { s with heap := h, toks := tk } Q) E { s with heap := h, toks := tk })
    (done : ∀ u nx h tk, J n nx → Fr h₀ env.locals h (outTurn x stored u m₀) → News h₀ env.locals h nx → Q .next { s with heap := h, toks := tk }) :
    LoopAtV prog w A h₀ env x body Q E (.ref I) s := by
  refine ⟨I, fp, [I], n, P, St, m₀, nx₀, fun i m nx => J i nx ∧ ∀ z, z ≠ x → stored.contains z = false → m z = m₀ z, rfl, W, hLf, ?_, ?_, hst, F, N, ⟨hj, fun _ _ _ => rfl⟩, ?_, ?_⟩
  · intro b hb
    rw [List.mem_singleton.mp hb]
    exact hI
  · intro p hp hq
    exact hn p hp (List.mem_singleton.mp hq)
  · rintro i v m₁ nx s₁ own ⟨h, tk, rfl⟩ hin hP ⟨hJ, hm⟩ hoff hown hget hmem hst' F₁ N₁
    obtain ⟨oI, hoI, hNT, hPO⟩ := hob _ _ hst'
    have hne : ∀ p ∈ nx, p.1 ≠ I := fun p hp e => hoff p hp (List.mem_singleton.mpr e)
    have hIown : (I, oI) ∈ own := hmem I hIf hI oI hoI
    have N₂ : News h₀ env.locals h ((I, oI) :: nx) := fun p hp => N₁ p <| by
      rcases List.mem_cons.mp hp with rfl | hp
      · exact List.mem_append_left _ hIown
      · exact List.mem_append_right _ hp
    refine wpAny_mono (turn i v m₁ nx h tk oI hin hP hJ hNT hPO hne (fr_turn hm F₁) N₂) (fun f s₂ p => ?_) fun _ _ e => e
    have fin : TurnEnd h₀ env.locals x stored m₀ (J (i + 1)) I oI { s with heap := h, toks := tk } s₂ → LoopStepU h₀ env.locals [I] own (fun m nx => J (i + 1) nx ∧ ∀ z, z ≠ x → stored.contains z = false → m z = m₀ z) { s with heap := h, toks := tk } .next s₂ := by
      rintro ⟨h', tk', m', nx', rfl, F', N', hoff', hm', hJ'⟩
      refine ⟨rfl, h', tk', m', nx', rfl, F', fun p hp => ?_, fun p hp hq => hoff' p hp (List.mem_singleton.mp hq), hJ', hm'⟩
      rcases List.mem_append.mp hp with hp | hp
      · by_cases hpI : p.1 = I
        · have e1 := hget p hp
          rw [hpI] at e1
          have e2 : p = (I, oI) := by
            have : some p.2 = some oI := e1.symm.trans hoI
            obtain ⟨a, b⟩ := p
            simp only at hpI this
            rw [hpI, Option.some.inj this]
          rw [e2]
          exact N' _ (.head _)
        · obtain ⟨ob, hfix⟩ := hfx p.1 (hown p hp) hpI
          have e1 := (N₁ _ (List.mem_append_right _ (hfix i nx hJ))).1
          have e2 := (N₁ _ (List.mem_append_left _ hp)).1
          have e3 : p.2 = ob := Option.some.inj (e2.symm.trans e1)
          have := N' _ (List.Mem.tail _ (hfix (i + 1) nx' hJ'))
          rw [← e3] at this
          exact this
      · exact N' p (.tail _ hp)
    cases f with
    | ret v => exact .ret p
    | brk => exact .brk p
    | next => exact .next (fin p)
    | cont => exact .cont (fin p)
  · rintro h' tk m' nx' F' N' _ ⟨hJ, hm⟩
    exact done m' nx' h' tk hJ (fr_out hm F') N'

theorem loop_core {I : Addr} {fp : List Addr} {n : Nat} {P : Nat → Value → Prop} {St : Nat → Heap → Prop} (W : Walks prog w A I fp [I] n P St) (hIf : I ∈ fp) (hLf : env.locals ∉ fp) (hI : h₀.get? I = none) (hst : St 0 s.heap)
    (hob : ∀ i h, St i h → ∃ o, h.get? I = some o ∧ NT o) (F : Fr h₀ env.locals s.heap m₀) (N : News h₀ env.locals s.heap nx₀) (hn : ∀ p ∈ nx₀, p.1 ≠ I) (hj : J 0 nx₀)
    (hfx : ∀ b ∈ fp, b ≠ I → ∃ ob, ∀ i nx, J i nx → (b, ob) ∈ nx)
    (turn : ∀ i v u nx h tk oI, i < n → P i v → J i nx → NT oI → (∀ p ∈ nx, p.1 ≠ I) → Fr h₀ env.locals h (inTurn x v stored u m₀) → News h₀ env.locals h ((I, oI) :: nx) →
      wpAny (model prog w) A (execs body env) (TurnPost h₀ env.locals x stored m₀ (J (i + 1)) I oI { s with heap := h, toks := tk } Q) E { s with heap := h, toks := tk })
    (done : ∀ u nx h tk, J n nx → Fr h₀ env.locals h (outTurn x stored u m₀) → News h₀ env.locals h nx → Q .next { s with heap := h, toks := tk }) :
    LoopAtV prog w A h₀ env x body Q E (.ref I) s :=
  loop_coreP (fun _ => True) W hIf hLf hI hst (fun i h st => let ⟨o, a, b⟩ := hob i h st; ⟨o, a, b, True.intro⟩) F N hn hj hfx (fun i v u nx h tk oI hin hP hJ hNT _ => turn i v u nx h tk oI hin hP hJ hNT) done

theorem loop_tuple (stored : List Str) (J : Nat → Led → Prop) {t : Addr} {vs : List Value} {c : Nat} (hh : A.handled = none) (F : Fr h₀ env.locals s.heap m₀) (N : News h₀ env.locals s.heap nx₀)
    (ht : (t, ({ cls := .type "tuple", data := .seq vs.toArray c } : Obj)) ∈ nx₀) (hj : J 0 nx₀) (hfx : ∀ i nx, J i nx → (t, ({ cls := .type "tuple", data := .seq vs.toArray c } : Obj)) ∈ nx)
    (turn : ∀ i v u nx h tk I oI, vs[i]? = some v → J i nx → NT oI → (∀ p ∈ nx, p.1 ≠ I) → Fr h₀ env.locals h (inTurn x v stored u m₀) → News h₀ env.locals h ((I, oI) :: nx) →
      wpAny (model prog w) A (execs body env) (TurnPost h₀ env.locals x stored m₀ (J (i + 1)) I oI { s with heap := h, toks := tk } Q) E { s with heap := h, toks := tk })
    (done : ∀ u nx h tk, J vs.length nx → Fr h₀ env.locals h (outTurn x stored u m₀) → News h₀ env.locals h nx → Q .next { s with heap := h, toks := tk }) :
    wpAny (model prog w) A (pyIter (.ref t)) (fun it s₂ => LoopAtV prog w A h₀ env x body Q E it s₂) E s := by
  have hg := (N _ ht).1
  have htup : s.heap.IsTuple t vs.toArray := ⟨_, hg, rfl, c, rfl⟩
  have hlt : t < s.heap.objs.size := Heap.lt_size hg
  have hne : t ≠ s.heap.objs.size := Nat.ne_of_lt hlt
  refine wpAny_pyIter_tuple htup ?_
  have W := Walks.tuple (prog := prog) (w := w) hh s.heap.objs.size t hne vs.toArray
  have hlen : vs.toArray.size = vs.length := by simp
  rw [hlen] at W
  refine loop_core (s := { s with heap := _ }) (nx₀ := nx₀) (stored := stored) (J := J) W (.head _) ?_ (next_is_new F) ⟨⟨_, Heap.get?_push_size _ rfl, rfl, rfl⟩, ⟨_, Heap.get?_push_of_some _ hg, rfl, c, rfl⟩⟩ ?_ (F.push _) (fun p hp => ⟨Heap.get?_push_of_some _ (N p hp).1, (N p hp).2⟩) (fun p hp => Nat.ne_of_lt (Heap.lt_size (N p hp).1)) hj ?_ ?_ ?_
  · intro hm
    rcases List.mem_cons.mp hm with e | hm
    · exact absurd F.ns.lt (e ▸ Nat.lt_irrefl _)
    · exact absurd (List.mem_singleton.mp hm).symm (N _ ht).2.1
  · rintro i h ⟨⟨o, ho, hc, _⟩, _⟩
    exact ⟨o, ho, NT.ofCls (by rw [hc]; simp)⟩
  · intro b hb hbI
    rcases List.mem_cons.mp hb with e | hb
    · exact absurd e hbI
    · rw [List.mem_singleton.mp hb]
      exact ⟨_, hfx⟩
  · intro i v u nx h tk oI hin hP hJ hNT hoff F₁ N₁
    exact turn i v u nx h tk _ oI (by simpa using hP) hJ hNT hoff F₁ N₁
  · exact done

theorem loop_rangeP (PO : Obj → Prop) (hPO : ∀ o, (∃ h I a b c, IsRangeIter h I a b c ∧ h.get? I = some o) → PO o) (stored : List Str) (J : Nat → Led → Prop) {r : Addr} {a₀ b₀ : Int} {t₀ u₀ v₀ : Tok} {n : Nat} (hh : A.handled = none) (hr : IsRange s.heap r a₀ b₀ 1 t₀ u₀ v₀) (hsmall : Builtin.Range.small a₀ b₀ 1 = true) (hsz : Builtin.Range.rangeSize a₀ b₀ 1 = (n : Int))
    (F : Fr h₀ env.locals s.heap m₀) (N : News h₀ env.locals s.heap nx₀) (hj : J 0 nx₀)
    (turn : ∀ i t u nx h tk I oI, i < n → J i nx → NT oI → PO oI → (∀ p ∈ nx, p.1 ≠ I) → Fr h₀ env.locals h (inTurn x (.int (a₀ + (i : Int) * 1) t) stored u m₀) → News h₀ env.locals h ((I, oI) :: nx) →
      wpAny (model prog w) A (execs body env) (TurnPost h₀ env.locals x stored m₀ (J (i + 1)) I oI { s with heap := h, toks := tk } Q) E { s with heap := h, toks := tk })
    (done : ∀ u nx h tk, J n nx → Fr h₀ env.locals h (outTurn x stored u m₀) → News h₀ env.locals h nx → Q .next { s with heap := h, toks := tk }) :
    wpAny (model prog w) A (pyIter (.ref r)) (fun it s₂ => LoopAtV prog w A h₀ env x body Q E it s₂) E s := by
  refine wpAny_pyIter_range hr hsmall ?_
  have W : Walks prog w A s.heap.objs.size [s.heap.objs.size] [s.heap.objs.size] n (fun i v => ∃ t, v = .int (a₀ + i * 1) t)
      (fun i h => IsRangeIter h s.heap.objs.size (a₀ + (i : Nat) * 1) ((n : Int) - (i : Nat)) 1) := Walks.range hh _ a₀ 1 n
  refine loop_coreP PO (s := { s with heap := _ }) (nx₀ := nx₀) (stored := stored) (J := J) W (.head _) ?_ (next_is_new F) (by show IsRangeIter _ _ _ _ _; rw [hsz]; simpa using Heap.get?_push_size _ rfl) ?_ (F.push _) (fun p hp => ⟨Heap.get?_push_of_some _ (N p hp).1, (N p hp).2⟩) (fun p hp => Nat.ne_of_lt (Heap.lt_size (N p hp).1)) hj ?_ ?_ ?_
  · intro hm
    exact absurd F.ns.lt ((List.mem_singleton.mp hm) ▸ Nat.lt_irrefl _)
  · intro i h hi
    exact ⟨_, hi, NT.ofCls (by show Value.type "range_iterator" ≠ Value.type "tuple"; simp), hPO _ ⟨h, _, _, _, _, hi, hi⟩⟩
  · intro b hb hbI
    exact absurd (List.mem_singleton.mp hb) hbI
  · rintro i v u nx h tk oI hin ⟨t, rfl⟩ hJ hNT hPO hoff F₁ N₁
    exact turn i t u nx h tk _ oI hin hJ hNT hPO hoff F₁ N₁
  · exact done
theorem loop_range (stored : List Str) (J : Nat → Led → Prop) {r : Addr} {a₀ b₀ : Int} {t₀ u₀ v₀ : Tok} {n : Nat} (hh : A.handled = none) (hr : IsRange s.heap r a₀ b₀ 1 t₀ u₀ v₀) (hsmall : Builtin.Range.small a₀ b₀ 1 = true) (hsz : Builtin.Range.rangeSize a₀ b₀ 1 = (n : Int))
    (F : Fr h₀ env.locals s.heap m₀) (N : News h₀ env.locals s.heap nx₀) (hj : J 0 nx₀)
    (turn : ∀ i t u nx h tk I oI, i < n → J i nx → NT oI → (∀ p ∈ nx, p.1 ≠ I) → Fr h₀ env.locals h (inTurn x (.int (a₀ + (i : Int) * 1) t) stored u m₀) → News h₀ env.locals h ((I, oI) :: nx) →
      wpAny (model prog w) A (execs body env) (TurnPost h₀ env.locals x stored m₀ (J (i + 1)) I oI { s with heap := h, toks := tk } Q) E { s with heap := h, toks := tk })
    (done : ∀ u nx h tk, J n nx → Fr h₀ env.locals h (outTurn x stored u m₀) → News h₀ env.locals h nx → Q .next { s with heap := h, toks := tk }) :
    wpAny (model prog w) A (pyIter (.ref r)) (fun it s₂ => LoopAtV prog w A h₀ env x body Q E it s₂) E s :=
  loop_rangeP (fun _ => True) (fun _ _ => True.intro) stored J hh hr hsmall hsz F N hj (fun i t u nx h tk I oI hi hJ hNT _ => turn i t u nx h tk I oI hi hJ hNT) done
end

section
open PySem.Spec PyProof.Rows.LCg
variable {prog : Program} {w : World} {A : Around} {s : Shared} {h₀ : Heap} {L : Addr} {m : Str → Option Value} {env : Env}
/-- a comprehension by what holds of the items made -/
theorem comp_ind {elt : Expr} {x : Str} {scope : Scope} {cl : List (Str × Addr)} {S : Led → Prop} {P : Nat → Value → Prop} {Fin : List Value → Led → Prop} {n : Nat} (Inv : Nat → List Value → Led → Prop) (fin : ∀ ys nx, Inv n ys nx → Fin ys nx)
    (step : ∀ i ys nx v I oI C oC D m₂ h tk (E' : Value → Shared → Prop), i < n → P i v → Inv i ys nx → NsObj oC m₂ → m₂ x = some v → Fr h₀ L h m → News h₀ L h ((I, oI) :: (C, oC) :: (D, lst ys) :: nx) → Off3 I C D nx → ((@Ne Nat I C) ∧ (@Ne Nat I D) ∧ (@Ne Nat C D)) →
      wpAny (model prog w) A (eval elt (compEnvC scope cl C env)) (CompEnd h₀ L m { s with heap := h, toks := tk } I oI C oC D (lst ys) S (fun y nx' => Inv (i + 1) (ys ++ [y]) nx')) E' { s with heap := h, toks := tk }) :
    ∀ (k i : Nat), i + k = n → ∀ ys nx, Inv i ys nx → CompRest prog w A h₀ L m env elt x scope cl s S P Fin k i ys nx := by
  intro k
  induction k with
  | zero => intro i e ys nx h; exact CompRest.zero (fin ys nx (by rw [← e]; exact h))
  | succ k ih =>
    intro i e ys nx hI
    refine CompRest.succ fun v I oI C oC D m₂ h tk E' hP hC hx F N off ne => ?_
    refine wpAny_mono (step i ys nx v I oI C oC D m₂ h tk E' (by omega) hP hI hC hx F N off ne) (fun y s₂ q => ?_) fun _ _ e => e
    obtain ⟨h', tk', nx', e', F', N', off', hS, r⟩ := q
    exact ⟨h', tk', nx', e', F', N', off', hS, ih (i + 1) (by omega) _ _ r⟩
end
/-! ## the program's data -/
inductive Stp where
  | idx (n : Int)
  | fld (n : Int)
  | drf
  | dwn (n : Int)
noncomputable def Stp.dat : Stp → Dat
  | .idx n => .tuple [.str (Str.ofString "index"), .int n]
  | .fld n => .tuple [.str (Str.ofString "field"), .int n]
  | .drf => .tuple [.str (Str.ofString "deref")]
  | .dwn n => .tuple [.str (Str.ofString "downcast"), .int n]
noncomputable def Stp.mv (k : Int) : Stp → Stp
  | .idx n => .idx (n + k)
  | s => s
structure Plc where
  loc : Int
  stps : List Stp
noncomputable def Plc.dat (p : Plc) : Dat := .tuple [.int p.loc, .tuple (p.stps.map Stp.dat)]
noncomputable def Plc.mv (k : Int) (p : Plc) : Plc := ⟨p.loc + k, p.stps.map (Stp.mv k)⟩
theorem Stp.ok (s : Stp) : okD 1 s.dat = true := by cases s <;> (simp only [Stp.dat, okD, List.all_cons, List.all_nil, Bool.and_true]; decide +kernel)
theorem Plc.ok (p : Plc) : okD 3 p.dat = true := by
  unfold Plc.dat
  refine okD_tuple.mpr fun d hd => ?_
  rcases List.mem_cons.mp hd with rfl | hd
  · rfl
  · rcases List.mem_cons.mp hd with rfl | hd
    · refine okD_tuple.mpr fun d hd => ?_
      obtain ⟨s, _, rfl⟩ := List.mem_map.mp hd
      exact s.ok
    · cases hd
theorem Plc.fine (p : Plc) : Mine.fine p.dat := okD_le (by decide) p.ok
inductive Opd where
  | cst (n : Int)
  | cpy (p : Plc)
  | mov (p : Plc)
abbrev dS (x : String) : Dat := .str (Str.ofString x)
abbrev byteD : Dat := .tuple [dS "int", dS "u8"]
noncomputable def Opd.dat : Opd → Dat
  | .cst n => .tuple [dS "const", byteD, .int n]
  | .cpy p => .tuple [dS "copy", p.dat]
  | .mov p => .tuple [dS "move", p.dat]
noncomputable def Opd.mv (k : Int) : Opd → Opd
  | .cst n => .cst n
  | .cpy p => .cpy (p.mv k)
  | .mov p => .mov (p.mv k)
noncomputable def Plc.small (p : Plc) : Prop := p.stps.length ≤ 1000
noncomputable def Opd.small : Opd → Prop
  | .cst _ => True
  | .cpy p => p.small
  | .mov p => p.small
theorem okS {n : Nat} {x : Str} (h : PyData.strOk x = true) : okD n (.str x) = true := by cases n <;> simpa [okD] using h
theorem ok1 {n : Nat} {d : Dat} (h : okD n d = true) : okD (n + 1) (.tuple [d]) = true := okD_tuple.mpr fun e he => by simp at he; rw [he]; exact h
theorem ok2 {n : Nat} {d e : Dat} (h : okD n d = true) (k : okD n e = true) : okD (n + 1) (.tuple [d, e]) = true := okD_tuple.mpr fun x hx => by
  simp at hx; rcases hx with rfl | rfl <;> assumption
theorem ok3 {n : Nat} {d e f : Dat} (h : okD n d = true) (k : okD n e = true) (l : okD n f = true) : okD (n + 1) (.tuple [d, e, f]) = true := okD_tuple.mpr fun x hx => by
  simp at hx; rcases hx with rfl | rfl | rfl <;> assumption
theorem ok4 {n : Nat} {d e f g : Dat} (h : okD n d = true) (k : okD n e = true) (l : okD n f = true) (m : okD n g = true) : okD (n + 1) (.tuple [d, e, f, g]) = true := okD_tuple.mpr fun x hx => by
  simp at hx; rcases hx with rfl | rfl | rfl | rfl <;> assumption
theorem ok5 {n : Nat} {d e f g i : Dat} (h : okD n d = true) (k : okD n e = true) (l : okD n f = true) (m : okD n g = true) (j : okD n i = true) : okD (n + 1) (.tuple [d, e, f, g, i]) = true := okD_tuple.mpr fun x hx => by
  simp at hx; rcases hx with rfl | rfl | rfl | rfl | rfl <;> assumption
theorem okI {n : Nat} {i : Int} : okD n (.int i) = true := by cases n <;> simp [okD]
theorem okN {n : Nat} : okD n .none = true := by cases n <;> simp [okD]
theorem okB {n : Nat} {b : Bool} : okD n (.bool b) = true := by cases n <;> simp [okD]
theorem Opd.ok (a : Opd) : okD 4 a.dat = true := by
  cases a with
  | cst n => exact ok3 (okS (by decide +kernel)) (ok2 (okS (by decide +kernel)) (okS (by decide +kernel))) okI
  | cpy p => exact ok2 (okS (by decide +kernel)) p.ok
  | mov p => exact ok2 (okS (by decide +kernel)) p.ok
inductive Rv where
  | use (a : Opd)
  | refS (p : Plc)
  | refM (p : Plc)
  | bin (a b : Opd)
  | chk (a b : Opd)
  | una (a : Opd)
  | cast (a : Opd)
  | tpl (a b : Opd)
  | arr (a b c : Opd)
  | adt (a : Opd)
  | disc (p : Plc)
  | box (a : Opd)
abbrev adtD : Dat := .tuple [dS "adt", dS "E", .tuple [], .tuple []]
noncomputable def Rv.dat : Rv → Dat
  | .use a => .tuple [dS "use", a.dat]
  | .refS p => .tuple [dS "ref", .none, dS "shared", p.dat]
  | .refM p => .tuple [dS "ref", dS "'a", dS "mut", p.dat]
  | .bin a b => .tuple [dS "binary", dS "+", a.dat, b.dat]
  | .chk a b => .tuple [dS "checked", dS "*", a.dat, b.dat]
  | .una a => .tuple [dS "unary", dS "-", a.dat]
  | .cast a => .tuple [dS "cast", a.dat, byteD]
  | .tpl a b => .tuple [dS "tuple", .tuple [a.dat, b.dat]]
  | .arr a b c => .tuple [dS "array", .tuple [a.dat, b.dat, c.dat]]
  | .adt a => .tuple [dS "adt", adtD, .int 1, .tuple [a.dat]]
  | .disc p => .tuple [dS "discriminant", p.dat]
  | .box a => .tuple [dS "box", a.dat]
noncomputable def Rv.mv (k : Int) : Rv → Rv
  | .use a => .use (a.mv k)
  | .refS p => .refS (p.mv k)
  | .refM p => .refM (p.mv k)
  | .bin a b => .bin (a.mv k) (b.mv k)
  | .chk a b => .chk (a.mv k) (b.mv k)
  | .una a => .una (a.mv k)
  | .cast a => .cast (a.mv k)
  | .tpl a b => .tpl (a.mv k) (b.mv k)
  | .arr a b c => .arr (a.mv k) (b.mv k) (c.mv k)
  | .adt a => .adt (a.mv k)
  | .disc p => .disc (p.mv k)
  | .box a => .box (a.mv k)
noncomputable def Rv.small : Rv → Prop
  | .use a | .una a | .cast a | .adt a | .box a => a.small
  | .refS p | .refM p | .disc p => p.small
  | .bin a b | .chk a b | .tpl a b => a.small ∧ b.small
  | .arr a b c => a.small ∧ b.small ∧ c.small
theorem so_ascii (x : String) (h : PyData.strOk (Str.ofString x) = true) {n : Nat} : okD n (dS x) = true := okS h
theorem byteD_ok : okD 4 byteD = true := okD_le (n := 1) (by decide) (ok2 (okS (by decide +kernel)) (okS (by decide +kernel)))
theorem adtD_ok : okD 5 adtD = true := okD_le (n := 2) (by decide) (ok4 (okS (by decide +kernel)) (okS (by decide +kernel)) (okD_tuple.mpr fun _ h => nomatch h) (okD_tuple.mpr fun _ h => nomatch h))
theorem Rv.ok (x : Rv) : okD 6 x.dat = true := by
  have s : ∀ {x : Str}, PyData.strOk x = true → okD 5 (.str x) = true := okS
  cases x with
  | use a => exact ok2 (s (by decide +kernel)) (okD_up a.ok)
  | refS p => exact ok4 (s (by decide +kernel)) okN (s (by decide +kernel)) (okD_le (by decide) p.ok)
  | refM p => exact ok4 (s (by decide +kernel)) (s (by decide +kernel)) (s (by decide +kernel)) (okD_le (by decide) p.ok)
  | bin a b => exact ok4 (s (by decide +kernel)) (s (by decide +kernel)) (okD_up a.ok) (okD_up b.ok)
  | chk a b => exact ok4 (s (by decide +kernel)) (s (by decide +kernel)) (okD_up a.ok) (okD_up b.ok)
  | una a => exact ok3 (s (by decide +kernel)) (s (by decide +kernel)) (okD_up a.ok)
  | cast a => exact ok3 (s (by decide +kernel)) (okD_up a.ok) (okD_up byteD_ok)
  | tpl a b => exact ok2 (s (by decide +kernel)) (ok2 a.ok b.ok)
  | arr a b c => exact ok2 (s (by decide +kernel)) (ok3 a.ok b.ok c.ok)
  | adt a => exact ok4 (s (by decide +kernel)) adtD_ok okI (ok1 a.ok)
  | disc p => exact ok2 (s (by decide +kernel)) (okD_le (by decide) p.ok)
  | box a => exact ok2 (s (by decide +kernel)) (okD_up a.ok)
theorem Rv.fine (x : Rv) : Mine.fine x.dat := okD_le (by decide) x.ok
inductive St where
  | asg (p : Plc) (x : Rv)
  | live (n : Int)
  | dead (n : Int)
  | prt (a : Opd)
  | nop
noncomputable def St.dat : St → Dat
  | .asg p x => .tuple [dS "assign", p.dat, x.dat]
  | .live n => .tuple [dS "live", .int n]
  | .dead n => .tuple [dS "dead", .int n]
  | .prt a => .tuple [dS "print", a.dat]
  | .nop => .tuple [dS "nop"]
noncomputable def St.mv (k : Int) : St → St
  | .asg p x => .asg (p.mv k) (x.mv k)
  | .live n => .live (n + k)
  | .dead n => .dead (n + k)
  | .prt a => .prt (a.mv k)
  | .nop => .nop
noncomputable def St.small : St → Prop
  | .asg p x => p.small ∧ x.small
  | .prt a => a.small
  | _ => True
theorem St.ok (x : St) : okD 7 x.dat = true := by
  have s : ∀ {x : Str}, PyData.strOk x = true → okD 6 (.str x) = true := okS
  cases x with
  | asg p x => exact ok3 (s (by decide +kernel)) (okD_le (by decide) p.ok) x.ok
  | live n => exact ok2 (s (by decide +kernel)) okI
  | dead n => exact ok2 (s (by decide +kernel)) okI
  | prt a => exact ok2 (s (by decide +kernel)) (okD_le (by decide) a.ok)
  | nop => exact ok1 (s (by decide +kernel))
theorem St.fine (x : St) : Mine.fine x.dat := okD_le (by decide) x.ok
theorem Opd.fine (a : Opd) : Mine.fine a.dat := okD_le (by decide) a.ok
section
variable {W : Led} {v : Value} {i : Int} {x : Str} {ds : List Dat} {d1 d2 d3 d4 d5 : Dat}
abbrev tup (vs : Array Value) (n : Nat) : Obj := { cls := .type "tuple", data := .seq vs n }
theorem dInt (h : DatIn W v (.int i)) : ∃ t, v = .int i t := by cases h; exact ⟨_, rfl⟩
theorem dStr (h : DatIn W v (.str x)) : ∃ t, v = .str x t := by cases h; exact ⟨_, rfl⟩
theorem dNone (h : DatIn W v .none) : v = .none := by cases h; rfl
theorem dBool {b : Bool} (h : DatIn W v (.bool b)) : v = .bool b := by cases h; rfl
theorem dTup (h : DatIn W v (.tuple ds)) : ∃ a vs n, v = .ref a ∧ (a, tup (List.toArray vs) n) ∈ W ∧ DatAll W vs ds := by cases h; exact ⟨_, _, _, rfl, by assumption, by assumption⟩
theorem a0 {vs : List Value} (h : DatAll W vs []) : vs = [] := by cases h; rfl
theorem aC {vs : List Value} (h : DatAll W vs (d1 :: ds)) : ∃ v us, vs = v :: us ∧ DatIn W v d1 ∧ DatAll W us ds := by cases h; exact ⟨_, _, rfl, by assumption, by assumption⟩
theorem d0 (h : DatIn W v (.tuple [])) : ∃ a n, v = .ref a ∧ (a, tup #[] n) ∈ W := by
  obtain ⟨a, vs, n, rfl, hm, h⟩ := dTup h
  obtain rfl := a0 h
  exact ⟨a, n, rfl, hm⟩
theorem d1' (h : DatIn W v (.tuple [d1])) : ∃ a n v1, v = .ref a ∧ (a, tup #[v1] n) ∈ W ∧ DatIn W v1 d1 := by
  obtain ⟨a, vs, n, rfl, hm, h⟩ := dTup h
  obtain ⟨v1, us, rfl, h1, h⟩ := aC h
  obtain rfl := a0 h
  exact ⟨a, n, v1, rfl, hm, h1⟩
theorem d2' (h : DatIn W v (.tuple [d1, d2])) : ∃ a n v1 v2, v = .ref a ∧ (a, tup #[v1, v2] n) ∈ W ∧ DatIn W v1 d1 ∧ DatIn W v2 d2 := by
  obtain ⟨a, vs, n, rfl, hm, h⟩ := dTup h
  obtain ⟨v1, us, rfl, h1, h⟩ := aC h
  obtain ⟨v2, us, rfl, h2, h⟩ := aC h
  obtain rfl := a0 h
  exact ⟨a, n, v1, v2, rfl, hm, h1, h2⟩
theorem d3' (h : DatIn W v (.tuple [d1, d2, d3])) : ∃ a n v1 v2 v3, v = .ref a ∧ (a, tup #[v1, v2, v3] n) ∈ W ∧ DatIn W v1 d1 ∧ DatIn W v2 d2 ∧ DatIn W v3 d3 := by
  obtain ⟨a, vs, n, rfl, hm, h⟩ := dTup h
  obtain ⟨v1, us, rfl, h1, h⟩ := aC h
  obtain ⟨v2, us, rfl, h2, h⟩ := aC h
  obtain ⟨v3, us, rfl, h3, h⟩ := aC h
  obtain rfl := a0 h
  exact ⟨a, n, v1, v2, v3, rfl, hm, h1, h2, h3⟩
theorem d4' (h : DatIn W v (.tuple [d1, d2, d3, d4])) : ∃ a n v1 v2 v3 v4, v = .ref a ∧ (a, tup #[v1, v2, v3, v4] n) ∈ W ∧ DatIn W v1 d1 ∧ DatIn W v2 d2 ∧ DatIn W v3 d3 ∧ DatIn W v4 d4 := by
  obtain ⟨a, vs, n, rfl, hm, h⟩ := dTup h
  obtain ⟨v1, us, rfl, h1, h⟩ := aC h
  obtain ⟨v2, us, rfl, h2, h⟩ := aC h
  obtain ⟨v3, us, rfl, h3, h⟩ := aC h
  obtain ⟨v4, us, rfl, h4, h⟩ := aC h
  obtain rfl := a0 h
  exact ⟨a, n, v1, v2, v3, v4, rfl, hm, h1, h2, h3, h4⟩
theorem d5' (h : DatIn W v (.tuple [d1, d2, d3, d4, d5])) : ∃ a n v1 v2 v3 v4 v5, v = .ref a ∧ (a, tup #[v1, v2, v3, v4, v5] n) ∈ W ∧ DatIn W v1 d1 ∧ DatIn W v2 d2 ∧ DatIn W v3 d3 ∧ DatIn W v4 d4 ∧ DatIn W v5 d5 := by
  obtain ⟨a, vs, n, rfl, hm, h⟩ := dTup h
  obtain ⟨v1, us, rfl, h1, h⟩ := aC h
  obtain ⟨v2, us, rfl, h2, h⟩ := aC h
  obtain ⟨v3, us, rfl, h3, h⟩ := aC h
  obtain ⟨v4, us, rfl, h4, h⟩ := aC h
  obtain ⟨v5, us, rfl, h5, h⟩ := aC h
  obtain rfl := a0 h
  exact ⟨a, n, v1, v2, v3, v4, v5, rfl, hm, h1, h2, h3, h4, h5⟩
end
/-- the place of a list's datum -/
theorem datAll_at {W : Led} {vs : List Value} {ds : List Dat} (h : DatAll W vs ds) {i : Nat} {v : Value} (hv : vs[i]? = some v) : ∃ d, ds[i]? = some d ∧ DatIn W v d := by
  induction vs generalizing ds i with
  | nil => simp at hv
  | cons u vs ih =>
    cases h with
    | cons hd r =>
      cases i with
      | zero =>
        simp at hv
        subst hv
        exact ⟨_, rfl, hd⟩
      | succ i => exact ih r (by simpa using hv)
section
variable {prog : Program} {w : World} {A : Around} {E : Value → Shared → Prop} {s : Shared} {h₀ : Heap} {L l : Addr} {m : Str → Option Value} {news : Led} {us : List Value} {c : Nat} {Q : Value → Shared → Prop}
/-- tuple(a list of the call's own) -/
theorem tupleOf (F : Fr h₀ L s.heap m := by k_asm) (N : News h₀ L s.heap news := by k_asm) (hm : (l, listOf (List.toArray us) c) ∈ news := by k_mem) (hz : us.length ≤ 16384 := by first | exact Nat.le_of_ble_eq_true rfl | ((try simp only [List.length_append, List.length_cons, List.length_nil]); omega)) (h : ∀ D h', Fr h₀ L h' m → News h₀ L h' ((D, tup (List.toArray us) 0) :: news) → (∀ p ∈ news, p.1 < D) → Q (.ref D) { s with heap := h' }) :
    wpAny (model prog w) A (call (.type "tuple") [.ref l]) Q E s :=
  kde_tupleOf F N (N.isList hm) (by simpa using hz) (List.toList_toArray) h
end
theorem fm_lo (a : Int) : -(2 ^ 64) < a.fmod 2147483647 := by have := (fdiv_fmod_facts a 2147483647); omega
theorem fm_hi (a : Int) : a.fmod 2147483647 < 2 ^ 64 := by have := (fdiv_fmod_facts a 2147483647); omega
theorem fm_mul (a b : Int) : IntMulOk (a.fmod 2147483647) b := IntMulOk.of_left (intBits_le_64 (fm_lo a) (fm_hi a))
theorem push_eq {l : Addr} {us : List Value} {v : Value} {n : Nat} {W : Led} : (l, listOf (us.toArray.push v) n) :: W = (l, listOf (List.toArray (us ++ [v])) n) :: W := by rw [List.push_toArray]
section
variable {W W' M news : Led} {h₀ h' : Heap} {L src : Addr} {o o' : Obj} {m : Str → Option Value} {s : Shared} {Q : Value → Shared → Prop} {Φ : Dat → Prop} {r : Value} {tk' : Nat} {d : Dat}
theorem pure_out (hret : ∀ r J h' tk', Fr h₀ L h' m → News h₀ L h' J → (∃ d, Ext W W J ∧ DatIn J r d ∧ fine d ∧ Φ d) → Q r { s with heap := h', toks := tk' }) (F : Fr h₀ L h' m) (N : News h₀ L h' news) (S : SplitA news M W') (e : Ext W W W') (D : DatIn W' r d) (hf : fine d) (hΦ : Φ d) :
    Q r { s with heap := h', toks := tk' } := hret r W' h' tk' F (News.imm N S) ⟨d, e, D, hf, hΦ⟩
theorem pureK_out {g' : Heap} {L' : Addr} {m' : Str → Option Value} (hret : ∀ r J h' tk', Fr h₀ L h' m → News h₀ L h' J → Keep s.heap W h' J → (∃ d, Ext W W J ∧ DatIn J r d ∧ fine d ∧ Φ d) → Q r { s with heap := h', toks := tk' }) (G : GSub s.heap g' (W.map (·.1))) (F' : Fr g' L' h' m') (N' : News g' L' h' news)
    (F : Fr h₀ L h' m) (N : News h₀ L h' news) (S : SplitA news M W') (e : Ext W W W') (D : DatIn W' r d) (hf : fine d) (hΦ : Φ d) :
    Q r { s with heap := h', toks := tk' } := hret r W' h' tk' F (News.imm N S) (Keep.of G F' (News.imm N' S)) ⟨d, e, D, hf, hΦ⟩
theorem pool_out (hret : ∀ r J h' tk', Fr h₀ L h' m → News h₀ L h' J → (∃ o' W' d, J = (src, o') :: W' ∧ Pool o' ∧ Ext ((src, o) :: W) W W' ∧ DatIn W' r d ∧ fine d ∧ Φ d) → Q r { s with heap := h', toks := tk' }) (F : Fr h₀ L h' m) (N : News h₀ L h' news)
    (S : PickA src o' news M W') (hP : Pool o') (e : Ext ((src, o) :: W) W W') (D : DatIn W' r d) (hf : fine d) (hΦ : Φ d) : Q r { s with heap := h', toks := tk' } :=
  hret r _ h' tk' F (fun p hp => N p ((S.mem p).mpr (by
    rcases List.mem_cons.mp hp with rfl | hp
    · exact .head _
    · exact .tail _ (List.mem_append_right _ hp)))) ⟨o', W', d, rfl, hP, e, D, hf, hΦ⟩
end
section
open PyProof.Rows
variable {prog : Program} {w : World} {A : Around} {E : Value → Shared → Prop} {s : Shared}
theorem adjust_upto (b : Int) (n : Nat) (h0 : 0 ≤ b) (hb : b ≤ n) : Builtin.Slice.sliceAdjust none (some b) 1 (n : Int) = (0, b) := by
  unfold Builtin.Slice.sliceAdjust
  have h1 : ¬ ((1 : Int) < 0) := by omega
  have h2 : ¬ (b < 0) := by omega
  simp only [h1, h2, if_false]
  congr 1
  omega
theorem places_upto (b : Int) (h0 : 0 ≤ b) : Builtin.Slice.slicePlaces 0 b 1 = b.toNat := by
  unfold Builtin.Slice.slicePlaces
  have h1 : (1 : Int) > 0 := by omega
  simp only [h1, if_true, Int.ediv_one]
  split <;> omega
theorem sliceApplied_upto {sl : Addr} {b : Int} {n : Nat} {u : Tok} {Q : Int × Int × Nat → Shared → Prop} (hs : s.heap.IsSliceOf sl .none (.int b u) .none) (h0 : 0 ≤ b) (hb : b ≤ n) (h : Q (0, 1, b.toNat) s) :
    wpAny (model prog w) A (Builtin.Slice.sliceApplied (.ref sl) (pure (n : Int))) Q E s := by
  obtain ⟨os, hos, hcs, hds⟩ := id hs
  unfold Builtin.Slice.sliceApplied Builtin.Slice.sliceFields
  refine wpAny_bind (wpAny_bind (wpAny_field hos hds (x := .none) rfl (wpAny_bind (wpAny_field hos hds (x := .int b u) rfl (wpAny_bind (wpAny_field hos hds (x := .none) rfl (wpAny_pure ?_)))))))
  refine wpAny_bind (slicePart_none ?_)
  show wpAny _ _ (if ((1 : Int) == 0) = true then _ else _) _ _ s
  rw [if_neg (by decide)]
  refine wpAny_bind (slicePart_none (wpAny_bind (slicePart_int (wpAny_bind (wpAny_pure ?_)))))
  show wpAny _ _ (match Builtin.Slice.sliceAdjust none (some b) 1 (n : Int) with | (lo, hi) => pure (lo, (1 : Int), Builtin.Slice.slicePlaces lo hi 1)) _ _ s
  rw [adjust_upto b n h0 hb]
  show wpAny _ _ (pure ((0 : Int), (1 : Int), Builtin.Slice.slicePlaces 0 b 1)) _ _ s
  rw [places_upto b h0]
  exact wpAny_pure h
theorem pick_upto (xs : Array Value) (b : Nat) : ((List.range b).filterMap fun (k : Nat) => xs[((0 : Int) + (k : Int) * 1).toNat]?).toArray = (xs.toList.take b).toArray := by
  have e : (fun (k : Nat) => xs[((0 : Int) + (k : Int) * 1).toNat]?) = fun k => xs[0 + k]? := by
    funext k
    have : ((0 : Int) + (k : Int) * 1).toNat = 0 + k := by omega
    rw [this]
  rw [e]
  have := pick_run xs 0 b
  rw [List.filterMap_map] at this
  have e2 : ((fun x => xs[x]?) ∘ fun x => 0 + x) = fun k => xs[0 + k]? := rfl
  rw [e2] at this
  rw [this, List.drop_zero]
theorem getItem_tuple_upto {t sl : Addr} {items : Array Value} {b : Int} {u : Tok} {Q : Value → Shared → Prop} (ht : IsTup s.heap t items) (hs : s.heap.IsSliceOf sl .none (.int b u) .none) (h0 : 0 ≤ b) (hb : b < items.size)
    (h : Q (.ref s.heap.objs.size) { s with heap := s.heap.push { cls := .type "tuple", data := .seq (items.toList.take b.toNat).toArray } })
    (hsz : items.size ≤ sizeLine) : wpAny (model prog w) A (getItem (.ref t) (.ref sl)) Q E s := by
  have htake : sizeOk (.seq (items.toList.take b.toNat).toArray) := by
    show (items.toList.take b.toNat).toArray.size ≤ sizeLine
    rw [List.size_toArray, List.length_take, Array.length_toList]
    omega
  obtain ⟨os, hos, hcs, hds⟩ := id hs
  have hTs : s.TypeIs (.ref sl) "slice" := ⟨os, hos, hcs⟩
  unfold getItem
  try with_reducible refine wpAny_holding ?_
  first | refine wpAny_bind (wpAny_pure ?_) | skip
  refine wpAny_bind (wpAny_sequenceKey ht.typeIs (by decide) ?_)
  refine wpAny_bind (wpAny_callSpecial?_slot (name := Str.ofString "__getitem__") ht.typeIs slot_tuple_getitem
    (wpAny_call_entry slot_tuple_getitem ht.typeIs entry_tuple_getitem ?_ (args_tuple_getitem _ _)))
  show wpAny _ _ (Builtin.Tuple.tupleItemsOf (.ref t) >>= _) _ _ s
  refine wpAny_bind (tupleItemsOf_ ht ?_)
  refine wpAny_bind (wpAny_typeOf hTs ?_)
  rw [if_pos (by decide)]
  refine wpAny_bind (sliceApplied_upto hs h0 (by omega) ?_)
  have hno : ¬ (((0 : Int) == 0 && (1 : Int) == 1 && b.toNat == items.size) = true) := by
    have : (b.toNat == items.size) = false := by rw [beq_eq_false_iff_ne]; omega
    rw [this]; simp
  show wpAny _ _ (if ((0 : Int) == 0 && (1 : Int) == 1 && b.toNat == items.size) = true then _ else _) _ _ s
  rw [if_neg hno, pick_upto items b.toNat]
  first
    | exact wpAny_bind (m := Builtin.Tuple.tupleExact _) (wpAny_newObj_type (wpAny_pure ⟨_, rfl, wpAny_pure h⟩) htake)
    | exact wpAny_bind (m := Builtin.Tuple.tupleExact _) (wpAny_newObj_type (wpAny_bind (wpAny_pure (wpAny_pure ⟨_, rfl, wpAny_pure h⟩))) htake)
    | exact wpAny_bind (wpAny_bind (m := Builtin.Tuple.tupleExact _) (wpAny_newObj_type (wpAny_pure (wpAny_pure ⟨_, rfl, wpAny_pure h⟩)) htake))
    | exact wpAny_bind (wpAny_bind (m := Builtin.Tuple.tupleExact _) (wpAny_newObj_type (wpAny_pure ⟨_, rfl, wpAny_pure h⟩) htake))
variable {h₀ : Heap} {L : Addr} {m : Str → Option Value} {news : Led}
theorem slice_tuple_upto {value slice : Expr} {t : Addr} {vs zs : List Value} {c : Nat} {b : Int} {u : Tok} {Q : Value → Shared → Prop} (F : Fr h₀ L s.heap m := by k_asm) (N : News h₀ L s.heap news := by k_asm) (hm : (t, tup (List.toArray vs) c) ∈ news := by k_mem) (h0 : 0 ≤ b := by decide) (hb : b < vs.length := by first | decide | exact Int.lt_of_toNat_lt (Nat.le_of_ble_eq_true rfl)) (hz : vs.length ≤ 1000 := by exact Nat.le_of_ble_eq_true rfl) (e : vs.take b.toNat = zs := by exact rfl) (h : ∀ D h', Fr h₀ L h' m → News h₀ L h' ((D, tup (List.toArray zs) 0) :: news) → (∀ p ∈ news, p.1 < D) → Q (.ref D) { s with heap := h' }) (hs : subscripted slice false (.ref t) (.ref s.heap.objs.size) = operate [.ref s.heap.objs.size, .ref t] (getItem (.ref t) (.ref s.heap.objs.size)) := by with_unfolding_all rfl) (hg : ∀ r, letTemporaryGo value (.ref t) r = pure () := by (intro _; with_unfolding_all rfl)) :
    wpAny (model prog w) A (subscriptTail value slice (.ref t) (.ref s.heap.objs.size)) Q E { s with heap := s.heap.push { cls := .type "slice", data := .fields #[.none, .int b u, .none] } } := by
  subst e
  have ht : IsTup s.heap t vs.toArray := N.isTup hm
  have ht' : IsTup (s.heap.push { cls := .type "slice", data := .fields #[.none, .int b u, .none] }) t vs.toArray := ht.keeps fun _ _ e => Heap.get?_push_of_some _ e
  refine subscriptTail_ops (s := { s with heap := s.heap.push { cls := .type "slice", data := .fields #[.none, .int b u, .none] } }) ht'.typeIs slot_tuple_getitem.lookup
    (getItem_tuple_upto ht' (Heap.IsSliceOf.new ..) h0 (by simpa using hb) ?_ (by rw [sizeLine_eq, List.size_toArray]; omega)) hs hg
  have N1 := News.push (F.push { cls := .type "slice", data := .fields #[.none, .int b u, .none] }) (N.grown fun _ _ e => Heap.get?_push_of_some _ e) { cls := .type "tuple", data := .seq (vs.toArray.toList.take b.toNat).toArray }
  rw [Heap.size_push] at N1
  show Q (.ref (s.heap.push _).objs.size) _
  rw [Heap.size_push]
  exact h _ _ ((F.push _).push _) N1 fun p hp => Nat.lt_succ_of_lt (Heap.lt_size (N p hp).1)
theorem tuple_of_tuple {t : Addr} {vs : Array Value} {c : Nat} {Q : Value → Shared → Prop} (N : News h₀ L s.heap news := by k_asm) (hm : (t, tup vs c) ∈ news := by k_mem) (h : Q (.ref t) s) :
    wpAny (model prog w) A (call (.type "tuple") [.ref t]) Q E s := call_tuple_tup (N.isTup hm) h
end
section
variable {prog : Program} {w : World} {A : Around} {E : Value → Shared → Prop} {s : Shared} {h₀ : Heap} {L t b : Addr} {m : Str → Option Value} {news : Led} {v u : Value} {vs us zs : List Value} {c d : Nat} {Q : Value → Shared → Prop}
/-- two tuples that are not empty, one behind the other -/
theorem add_tup (F : Fr h₀ L s.heap m := by k_asm) (N : News h₀ L s.heap news := by k_asm) (ht : (t, tup (List.toArray (v :: vs)) c) ∈ news := by k_mem) (hb : (b, tup (List.toArray (u :: us)) d) ∈ news := by k_mem) (hz : (v :: vs).length + (u :: us).length ≤ 16384 := by exact Nat.le_of_ble_eq_true rfl) (e : v :: (vs ++ u :: us) = zs := by exact rfl) (h : ∀ D h', Fr h₀ L h' m → News h₀ L h' ((D, tup (List.toArray zs) 0) :: news) → (∀ p ∈ news, p.1 < D) → Q (.ref D) { s with heap := h' }) :
    wpAny (model prog w) A (binaryOp .Add (.ref t) (.ref b)) Q E s :=
  kde_addT F N (N.isTup ht) (N.isTup hb) (List.cons_ne_nil _ _) (List.cons_ne_nil _ _) hz e h
end
/-! ## a comprehension with two targets over a tuple of pairs -/
section
open PySem.Spec PyProof.Rows.LCg PyProof.Rows.LCp
variable {prog : Program} {w : World} {A : Around} {E : Value → Shared → Prop} {s : Shared} {h₀ : Heap} {L : Addr} {m : Str → Option Value} {env : Env}
theorem owned_tupleiter {elts : List Expr} {x1} {pos : Pos} {I l T : Addr} {i : Nat} {Q : Unit → Shared → Prop} (hit : s.heap.IsTupleIter I l i) (hQ : Q () s) :
    wpAny (model prog w) A (letOwnedTupleGo (.Tuple elts x1 pos) (.ref I) (.ref T)) Q E s := by
  obtain ⟨o, ho, hc, hd⟩ := hit
  unfold letOwnedTupleGo
  refine wpAny_bind (wpAny_load ho ?_)
  rw [hc, hd]
  exact wpAny_pure hQ
noncomputable def PairSrc (prog : Program) (w : World) (A : Around) (h₀ : Heap) (L : Addr) (m : Str → Option Value) (env : Env) (elt : Expr) (x x₂ : Str) (scope : Scope) (cl : List (Str × Addr)) (Q : Value → Shared → Prop) (xv : Value) (s₁ : Shared) : Prop :=
  ∃ (ax : Addr) (items : List Value) (c : Nat) (nx : Led) (Inv : Nat → List Value → Led → Prop), xv = .ref ax ∧ A.handled = none ∧ Fr h₀ L s₁.heap m ∧ News h₀ L s₁.heap nx ∧ items.length ≤ 1000 ∧ Inv 0 [] nx ∧
    (∀ i ys nx, Inv i ys nx → (ax, tup (List.toArray items) c) ∈ nx) ∧
    (∀ i ys nx v, Inv i ys nx → items[i]? = some v → ∃ t v₁ v₂ nt, v = .ref t ∧ (t, tup #[v₁, v₂] nt) ∈ nx ∧
      ∀ I oI C oC D m₂ h tk (E' : Value → Shared → Prop), NT oI → NsObj oC m₂ → m₂ x = some v₁ → m₂ x₂ = some v₂ → Fr h₀ L h m → News h₀ L h ((I, oI) :: (C, oC) :: (D, lst ys) :: nx) → Off3 I C D nx → ((@Ne Nat I C) ∧ (@Ne Nat I D) ∧ (@Ne Nat C D)) →
        wpAny (model prog w) A (eval elt (compEnvC scope cl C env)) (CompEnd h₀ L m { s₁ with heap := h, toks := tk } I oI C oC D (lst ys) (fun _ => True) (fun y nx' => Inv (i + 1) (ys ++ [y]) nx')) E' { s₁ with heap := h, toks := tk }) ∧
    ∀ ys nx, Inv items.length ys nx → FinE h₀ L m s₁ Q ys nx
theorem pairs_T (_F₀ : Fr h₀ L s.heap m) {elt iter : Expr} {x x₂ : Str} {px px₂ tp : Pos} {tk} {scope : Scope} {cl : List (Str × Addr)} {pos : Pos} {Q : Value → Shared → Prop}
    (hclos : closureFor scope env = pure cl) (hcell : ∀ y ∈ scope.names, y.2 ≠ .cell) (hkind : scope.kind = .function)
    (hnames : ∀ y ∈ scope.names, y.2 = .local → scope.names.lookup y.1 = some .local) (hx : scope.names.lookup x = some .local) (hx₂ : scope.names.lookup x₂ = some .local) (hxx : x ≠ x₂)
    (h : wpAny (model prog w) A (eval iter env) (PairSrc prog w A h₀ L m env elt x x₂ scope cl Q) E s)
    (hs : ∀ x, foldedSetIterable iter env x = pure x := by intro _; rfl) :
    wpAny (model prog w) A (eval (.ListComp elt [⟨.Tuple [.Name x px, .Name x₂ px₂] tk tp, iter, [], 0⟩] scope pos) env) Q E s := by
  rw [eval_ListComp]
  refine wpAny_comprehension_free (use := none) rfl hs hclos hkind hnames (wpAny_mono h (fun xv s₁ h₁ => ?_) fun _ _ e => e)
  obtain ⟨ax, items, c, nx₀, Inv, rfl, hh, F, N, hsz, hI0, hsrc, hturn, hfin⟩ := h₁
  have hmem := (N _ (hsrc _ _ _ hI0)).1
  have htup : s₁.heap.IsTuple ax items.toArray := ⟨_, hmem, rfl, c, rfl⟩
  have hlt : ax < s₁.heap.objs.size := Heap.lt_size hmem
  refine wpAny_pyIter_tuple htup ?_
  generalize hI : s₁.heap.objs.size = I at hlt ⊢
  have hneI : ax ≠ I := Nat.ne_of_lt hlt
  have W := Walks.tuple (prog := prog) (w := w) hh I ax hneI items.toArray
  have hn : items.toArray.size = items.length := by simp
  rw [hn] at W
  -- the iterator laid
  generalize hH1 : s₁.heap.push { cls := .type "tuple_iterator", data := .fields #[.ref ax, .int 0 0] } = H1
  have up1 : ∀ b o, s₁.heap.get? b = some o → H1.get? b = some o := fun b o e => hH1 ▸ Heap.get?_push_of_some _ e
  have hIH : H1.get? I = some { cls := .type "tuple_iterator", data := .fields #[.ref ax, .int 0 0] } := by rw [← hH1, ← hI]; exact Heap.get?_push_size _ rfl
  have hsz1 : H1.objs.size = I + 1 := by rw [← hH1, Heap.size_push, hI]
  have F1 : Fr h₀ L H1 m := F.keeps up1
  have N1 : News h₀ L H1 nx₀ := N.grown up1
  have st1 : H1.IsTupleIter I ax 0 ∧ H1.IsTuple ax items.toArray := ⟨⟨_, hIH, rfl, rfl⟩, ⟨_, up1 _ _ hmem, rfl, c, rfl⟩⟩
  have hIL : L ≠ I := by rw [← hI]; exact Nat.ne_of_lt F.ns.lt
  have hI₀ : h₀.get? I = none := by rw [← hI]; exact next_is_new F
  have off0 : ∀ p ∈ nx₀, p.1 ≠ I := fun p hp => by rw [← hI]; exact Nat.ne_of_lt (Heap.lt_size (N p hp).1)
  -- the list and the block's own names
  refine wpAny_newObj_type (wpAny_newFunctionEnv hcell (by intro y hy; simp at hy) (fun h₁ hns₁ hsb₁ => ?_) hkind)
  dsimp only at hns₁ hsb₁ ⊢
  generalize hH2 : H1.push { cls := .type "list", dict := none, data := .seq ([] : List Value).toArray } = H2 at hns₁ hsb₁ ⊢
  have hD1 : H1.objs.size = I + 1 := hsz1
  have hC1 : H2.objs.size = I + 2 := by rw [← hH2, Heap.size_push, hsz1]
  generalize hD : H1.objs.size = D at hD1 ⊢
  generalize hC : H2.objs.size = C at hns₁ hsb₁ hC1 ⊢
  have hDC : D ≠ C := by rw [hD1, hC1]; exact Nat.ne_of_lt (Nat.lt_succ_self _)
  have hID : I ≠ D := by rw [hD1]; exact Nat.ne_of_lt (Nat.lt_succ_self _)
  have hIC : I ≠ C := by rw [hC1]; exact Nat.ne_of_lt (Nat.lt_succ_of_lt (Nat.lt_succ_self _))
  have below : ∀ b, b < D → b ≠ C ∧ b ≠ D := fun b hb => ⟨by
    rw [hC1]
    rw [hD1] at hb
    exact Nat.ne_of_lt (Nat.lt_succ_of_lt hb), Nat.ne_of_lt hb⟩
  have old : ∀ b o, H1.get? b = some o → h₁.get? b = some o := fun b o e => hsb₁.extBut b o (below b (hD ▸ Heap.lt_size e)).1 (Heap.get?_push_of_some _ (hH2 ▸ Heap.get?_push_of_some _ e))
  have hacc : h₁.get? D = some (lst []) := hsb₁.extBut _ _ hDC (Heap.get?_push_of_some _ (hH2 ▸ hD ▸ Heap.get?_push_size _ rfl))
  have hst₁ : h₁.IsTupleIter I ax 0 ∧ h₁.IsTuple ax items.toArray := W.frame 0 _ _ st1 fun b _ o e => old b o e
  have fresh₀ : ∀ a, D ≤ a → h₀.get? a = none := fun a ha => by
    cases e : h₀.get? a with
    | none => rfl
    | some o' => exact absurd (hD ▸ Heap.lt_size (F1.keep a o' e)) (Nat.not_lt.mpr ha)
  have hD₀ : h₀.get? D = none := fresh₀ _ (Nat.le_refl _)
  have hC₀ : h₀.get? C = none := fresh₀ _ (by rw [hD1, hC1]; exact Nat.le_succ _)
  have hLlt : L < D := hD ▸ F1.ns.lt
  have hDL : D ≠ L := Ne.symm (below L hLlt).2
  have hCL : C ≠ L := Ne.symm (below L hLlt).1
  have offD : ∀ p ∈ nx₀, p.1 ≠ I ∧ p.1 ≠ C ∧ p.1 ≠ D := fun p hp => ⟨off0 p hp, (below _ (hD ▸ Heap.lt_size (N1 p hp).1)).1, (below _ (hD ▸ Heap.lt_size (N1 p hp).1)).2⟩
  refine codeAny_compStart_list ?_ (W.self 0 _ _ _ hst₁ ?_) <;>
  · refine codeAny_compLoop_pair
      (fun k s' => ∃ h' tk i ys m' nx, s' = { s₁ with heap := h', toks := tk } ∧ i ≤ items.length ∧ k = items.length + 1 - i ∧ ys.length = i ∧ (h'.IsTupleIter I ax i ∧ h'.IsTuple ax items.toArray) ∧ Fr h₀ L h' m ∧ h'.Ns C m' ∧ News h₀ L h' ((D, lst ys) :: nx) ∧
        Off3 I C D nx ∧ Inv i ys nx) ?_ (items.length + 1)
      ⟨h₁, _, 0, [], _, nx₀, rfl, Nat.zero_le _, rfl, rfl, hst₁, F1.keeps old, hns₁, fun p hp => ?_, Off3.of offD, hI0⟩
    · intro k s' hI9
      (try (show wpAny _ _ _ _ _ _; k_fold))
      obtain ⟨h', tk, i, ys, m', nx, rfl, hi, rfl, hyl, hst', F', hn', N', off', hInv⟩ := hI9
      have off3 := off'.mem
      by_cases hlt : i < items.length
      · refine W.item i _ _ _ hlt hst' fun v h₂ tk₂ hPv hst₂ hk₂ => ?_
        have hPv' : items[i]? = some v := by simpa using hPv
        obtain ⟨t, v₁, v₂, nt, rfl, hmt, step⟩ := hturn i ys nx v hInv hPv'
        have N₂ : News h₀ L h₂ ((D, lst ys) :: nx) := news_but N' hk₂ fun p hp => by
          rcases List.mem_cons.mp hp with rfl | hp
          · exact Ne.symm hID
          · exact (off3 p hp).1
        have ht : IsTup h₂ t #[v₁, v₂] := ⟨_, (N₂ _ (List.mem_cons_of_mem _ hmt)).1, rfl, nt, rfl⟩
        refine owned_tupleiter hst₂.1 ?_
        refine assign_Tuple_tuple hh ht rfl rfl fun h₅ he => ?_
        have he' : ∀ b o, h₂.get? b = some o → h₅.get? b = some o := fun b o e => he b o (Nat.ne_of_lt (Heap.lt_size e)) e
        refine assignInOrder_cons (wpAny_assign_Name (wpAny_storeName_local (lookup_relabel_local hx) ((hn'.at' fun o e => hk₂ _ o (by simpa using Ne.symm hIC) e).at' fun o e => he' _ o e) (fun h₆ hn₆ hs₆ => ?_) (by simp [compEnvC, relabel, hkind])))
        refine assignInOrder_cons (wpAny_assign_Name (wpAny_storeName_local (lookup_relabel_local hx₂) hn₆ (fun h₃ hn₃ hs₃ => ?_) (by simp [compEnvC, relabel, hkind])))
        refine assignInOrder_nil ?_
        have old3 : ∀ b o, b ≠ C → h₂.get? b = some o → h₃.get? b = some o := fun b o hb e => hs₃.extBut b o hb (hs₆.extBut b o hb (he' b o e))
        have hst₃ : h₃.IsTupleIter I ax (i + 1) ∧ h₃.IsTuple ax items.toArray := ⟨let ⟨o, e, r⟩ := hst₂.1; ⟨o, old3 _ _ hIC e, r⟩, let ⟨o, e, r⟩ := hst₂.2; ⟨o, old3 _ _ (off3 _ (hsrc _ _ _ hInv)).2.1 e, r⟩⟩
        obtain ⟨oI, heI, hcI, hdI⟩ := hst₃.1
        obtain ⟨oC, heC, hoC⟩ := ns_obj hn₃
        have F₃ : Fr h₀ L h₃ m := (((fr_but F' hk₂ hIL hI₀).keeps he').change hs₆ hCL hC₀).change hs₃ hCL hC₀
        have N₃ : News h₀ L h₃ ((I, oI) :: (C, oC) :: (D, lst ys) :: nx) := fun p hp => by
          rcases List.mem_cons.mp hp with rfl | hp
          · exact ⟨heI, Ne.symm hIL, hI₀⟩
          · rcases List.mem_cons.mp hp with rfl | hp
            · exact ⟨heC, hCL, hC₀⟩
            · have z := N₂ p hp
              refine ⟨old3 _ _ ?_ z.1, z.2⟩
              rcases List.mem_cons.mp hp with rfl | hp
              · exact hDC
              · exact (off3 p hp).2.1
        refine wpAny_mono (step I oI C oC D _ h₃ _ _ (NT.ofCls (by rw [hcI]; simp)) hoC (by simp [hxx]) (by simp) F₃ N₃ off' ⟨hIC, hID, Ne.symm hDC⟩) (fun y s₄ h₄ => ?_) fun _ _ e => e
        (try (show wpAny _ _ _ _ _ _; k_fold))
        obtain ⟨h₄, tk₄, nx₄, rfl, F₄, N₄, off₄, _, hInv₄⟩ := h₄
        have off4 := off₄.mem
        have zI := (N₄ (I, oI) List.mem_cons_self).1
        have zC := (N₄ (C, oC) (List.mem_cons_of_mem _ List.mem_cons_self)).1
        have zD := (N₄ (D, lst ys) (List.mem_cons_of_mem _ (List.mem_cons_of_mem _ List.mem_cons_self))).1
        have N₄' : News h₀ L h₄ nx₄ := fun p hp => N₄ p (List.mem_cons_of_mem _ (List.mem_cons_of_mem _ (List.mem_cons_of_mem _ hp)))
        refine append_at (hsz := by show ys.toArray.size ≤ sizeLine; rw [List.size_toArray, hyl, sizeLine_eq]; omega) zD fun h₅ hs₅ hD₅ => ?_
        have hsrc₄ := hsrc _ _ _ hInv₄
        refine ⟨items.length + 1 - (i + 1), by omega, h₅, tk₄, i + 1, ys ++ [y], _, nx₄, rfl, hlt, rfl, by rw [List.length_append, List.length_singleton, hyl], ⟨⟨oI, hs₅.extBut _ _ hID zI, hcI, hdI⟩, ⟨_, hs₅.extBut _ _ (off4 _ hsrc₄).2.2 (N₄' _ hsrc₄).1, rfl, c, rfl⟩⟩, F₄.change hs₅ hDL hD₀,
          (hoC.ns zC).sameBut hs₅ (Ne.symm hDC), fun p hp => ?_, off₄, hInv₄⟩
        rcases List.mem_cons.mp hp with rfl | hp
        · exact ⟨hD₅.trans (congrArg some (lst_snoc ys y)), hDL, hD₀⟩
        · exact ⟨hs₅.extBut _ _ (off4 p hp).2.2 (N₄' p hp).1, (N₄' p hp).2⟩
      · obtain rfl : i = items.length := Nat.le_antisymm hi (Nat.not_lt.mp hlt)
        refine W.done _ _ _ hst' fun h₂ tk₂ hk₂ => ?_
        have F₂ := fr_but F' hk₂ hIL hI₀
        have N₂ : News h₀ L h₂ ((D, lst ys) :: nx) := news_but N' hk₂ fun p hp => by
          rcases List.mem_cons.mp hp with rfl | hp
          · exact Ne.symm hID
          · exact (off3 p hp).1
        refine ⟨m', hn'.at' fun o e => hk₂ _ o (by simpa using Ne.symm hIC) e, fun h'' hs'' => hfin ys nx hInv D h'' tk₂ (F₂.change hs'' hCL hC₀) (fun p hp => ?_) off'.one⟩
        refine ⟨hs''.extBut _ _ ?_ (N₂ p hp).1, (N₂ p hp).2⟩
        rcases List.mem_cons.mp hp with rfl | hp
        · exact hDC
        · exact (off3 p hp).2.1
    · rcases List.mem_cons.mp hp with rfl | hp
      · exact ⟨hacc, hDL, hD₀⟩
      · exact ⟨old _ _ (N1 p hp).1, (N1 p hp).2⟩
end
/-! ## words for the walk (the names are the library's own tactics, given one more way each) -/
-- k_mem: in the ledger
set_option hygiene false in
local macro_rules | `(tactic| k_mem) => `(tactic| first | exact mem_h | with_reducible assumption | (apply mem_t; k_mem) | (apply mem_e; (with_reducible assumption); k_mem) | fail "k_mem")
-- k_all: none of the ledger lies at this address
set_option hygiene false in
local macro_rules | `(tactic| k_all) => `(tactic| first | with_reducible assumption | with_reducible exact allne_nil | ((with_reducible refine allne_cons ?_ ?_); (first | with_reducible assumption | k_ne); k_all) | (apply Off.ne; (with_reducible assumption); k_mem) | (with_reducible apply ne_succ; first | tbn_find | exact allLt_of (by assumption)) | exact neAll | exact neAllS | fail "k_all")
-- tb_rel: Split, Pick, Off, NT
set_option hygiene false in
local macro_rules | `(tactic| tb_rel) => `(tactic| with_reducible first
  | (apply Split.imm; tb_rel) | (apply Split.lst; tb_rel) | (apply Split.oth; tb_rel; tb_rel) | exact Split.done
  | (apply SplitA.imm; tb_rel) | (apply SplitA.eq; exact rfl; tb_rel) | exact SplitA.done
  | (apply Pick.here; tb_rel) | (apply Pick.imm; tb_rel) | (apply Pick.lst; tb_rel) | (apply Pick.oth; tb_rel; tb_rel)
  | (apply PickA.here; tb_rel) | (apply PickA.imm; tb_rel) | (apply PickA.any; tb_rel)
  | exact Off.nil | (apply Off.cons; k_all; tb_rel)
  | exact NT.of (by assumption) | exact NT.ofCell (by assumption) | fail "tb_rel")
-- ktr_rel: Ext
set_option hygiene false in
local macro_rules | `(tactic| ktr_rel) => `(tactic| with_reducible first
  | exact Ext.refl
  | (apply ext_newS; assumption; k_mem; (intro _ _; k_mem); ktr_rel)
  | (apply ext_newPS; assumption; (intro _ _; k_mem); ktr_rel)
  | (apply ext_step; assumption; ktr_rel)
  | (apply ext_stepQ; assumption; k_mem; ktr_rel)
  | (apply ext_stepK; assumption; assumption; k_mem; ktr_rel)
  | (apply ext_stepKP; assumption; ktr_rel)
  | (apply ext_stepP; assumption; ktr_rel)
  | (apply ext_new; ktr_rel; (first | assumption | omega | tbn_find); tbn_lt)
  | (apply ext_newP; ktr_rel; tbn_lt)
  | assumption
  | fail "ktr_rel")
-- kqd_in, kqd_all: a value bears a datum
set_option hygiene false in
local macro_rules | `(tactic| kqd_in) => `(tactic| first
  | exact DatIn.none | exact DatIn.int _ _ | exact DatIn.str _ _ | exact DatIn.bool _ | with_reducible assumption
  | (apply datTup; k_mem; kqd_all) | (apply datT; kqd_in) | (apply datA; kqd_in) | (apply datE; (with_reducible assumption); kqd_in) | fail "kqd_in")
set_option hygiene false in
local macro_rules | `(tactic| kqd_all) => `(tactic| first
  | exact DatAll.nil | (apply dallCons; kqd_in; kqd_all) | with_reducible assumption
  | (apply dallT; kqd_all) | (apply dallA; kqd_all) | (apply dallE; (with_reducible assumption); kqd_all) | fail "kqd_all")
set_option hygiene false in
local macro_rules | `(tactic| mul_fits) => `(tactic| with_unfolding_all exact fm_mul _ _)
set_option hygiene false in
local macro_rules | `(tactic| size_fits) => `(tactic| (rw [sizeLine_eq]; (try simp only [List.size_toArray, List.length_append, List.length_cons, List.length_nil]); omega))
local macro_rules | `(tactic| walk_at "exec For Name Subscript cons nil") => `(tactic| (k_here; (rename Fr _ _ _ _ => lF'); (with_unfolding_all refine' For_invVF lF' ?k1 ?k2 ?_; (case k1 => exact rfl); (case k2 => exact rfl); k_whole)))
set_option hygiene false in
local macro_rules | `(tactic| walk_at "TurnPost") => `(tactic| (dsimp only [TurnPost]))
set_option hygiene false in
local macro_rules | `(tactic| walk_at "call type:tuple") => `(tactic| (k_here; (with_reducible show wpAny _ _ (call (Value.type _) [Value.ref _]) _ _ _); k_dflt (refine' tupleOf (h := ?_); k_whole); kst_same))
-- ktd_rel: a datum that is at hand
set_option hygiene false in
local macro_rules | `(tactic| ktd_rel) => `(tactic| first | with_reducible assumption | (apply datT; ktd_rel) | (apply datE; (with_reducible assumption); ktd_rel) | (apply dallT; ktd_rel) | (apply dallE; (with_reducible assumption); ktd_rel) | fail "ktd_rel")
-- a def that is walked where it is called
set_option hygiene false in
local macro_rules | `(tactic| k_room) => `(tactic| ktr_room)
set_option hygiene false in
local macro_rules | `(tactic| walk_at "call ref") => `(tactic| (k_here; k_dflt (refine wpAny_call ?_; k_enter)))
set_option hygiene false in
local macro_rules | `(tactic| walk_at "call type:tuple") => `(tactic| (k_here; (with_reducible show wpAny _ _ (call (Value.type _) [Value.ref _]) _ _ _); k_dflt (refine' tuple_of_tuple (h := ?_); k_whole)))
set_option hygiene false in
local macro_rules | `(tactic| walk_at "subscriptTail Name Slice ref ref") => `(tactic| (k_here; (with_reducible show wpAny _ _ (subscriptTail _ (PySem.Expr.Slice none (some _) none _) (Value.ref _) (Value.ref _)) _ _ _); k_dflt (refine' slice_tuple_upto (h := ?_); k_whole); kst_same))
set_option hygiene false in
local macro_rules | `(tactic| walk_at "binaryOp Add ref ref") => `(tactic| (k_here; (with_reducible show wpAny _ _ (binaryOp _ (Value.ref _) (Value.ref _)) _ _ _); k_dflt (refine' add_tup (h := ?_); k_whole); kst_same))
set_option hygiene false in
local macro_rules | `(tactic| walk_at "subscriptTail Name Constant ref int") => `(tactic| (k_here; (with_reducible show wpAny _ _ (subscriptTail _ _ (Value.ref _) (Value.int _ _)) _ _ _); k_dflt (refine' item_tupleT (News.isTup (by k_asm) (by k_mem)) (by decide) (by decide) (by rfl) (by rfl) ?_; k_whole)))
-- kst_src: none of what is newly made lies at this address
set_option hygiene false in
local macro_rules | `(tactic| kst_src) => `(tactic| ((with_reducible refine neOf ?_); first | with_reducible assumption | exact allne_nil | ((with_reducible refine allne_cons ?_ ?_); (first | with_reducible assumption | k_ne | exact Nat.ne_of_gt (by with_reducible assumption) | omega); kst_src) | k_all | fail "kst_src"))
-- what a call hands back is at hand
set_option hygiene false in
local macro_rules | `(tactic| tbn_find) => `(tactic| (apply lt_by; (with_reducible assumption); (with_reducible k_mem)))
set_option hygiene false in
local macro_rules | `(tactic| k_ne) => `(tactic| first | exact neL | exact Ne.symm neL | exact neLs | exact Ne.symm neLs)
-- k_lt: the ledger gets a name once it has two rows
local macro_rules | `(tactic| k_lt $h) => `(tactic| ((with_reducible rename News _ _ _ (_ :: _ :: _) => N9); have hA9 := allLt_of $h; clear $h; refine letN N9 ?_; clear N9; intro nws9 N9))
local macro_rules | `(tactic| ktu_objs) => `(tactic| (intros; (with_reducible rename News _ _ _ _ => N9); (try dsimp only at N9); (try simp only [List.nil_append, List.cons_append] at N9); (try dsimp only); (try k_sweep)))
local macro_rules | `(tactic| kst_same) => `(tactic| (intro D' h' F' N' l1; (try k_lt l1); (try k_sweep)))
theorem off_p3_take : True := by
  w_top off
  exact True.intro
set_option maxHeartbeats 8000000 in
theorem take_ok (w : World) (src : Addr) (o : Obj) (top : Int) (tt : Tok) (W : Led) (hP : Pool o) (hW : ∀ p ∈ W, p.1 ≠ src) (ht : 0 < top) (ht2 : top ≤ 1000) :
    Call w 173 1 [.ref src, .int top tt] ((src, o) :: W) (fun r J => ∃ i t o', r = .int i t ∧ 0 ≤ i ∧ i < top ∧ Pool o' ∧ J = (src, o') :: W) := by
  unfold Call
  k_fill
  intro p loose mean mg mb dp un gd cn cs a ccd cl outer A₀ base h₀ L m s Q E B F X N T hk hd hu hret
  obtain ⟨x, tx, y, ty, n, rfl, hx, hy, hy2⟩ := hP
  refine wpAny_call ?_
  k_dflt ktr_enter
  k_steps
  · refine hret _ _ _ _ (by assumption) (by assumption) ⟨_, _, _, rfl, ?_, ?_, ⟨_, _, _, _, _, rfl, ?_, ?_, ?_⟩, rfl⟩
    · exact Int.fmod_nonneg_of_pos _ ht
    · exact Int.fmod_lt_of_pos _ ht
    · exact Int.fdiv_nonneg hx (by omega)
    · exact hy
    · exact hy2
  · refine hret _ _ _ _ (by assumption) (by assumption) ⟨_, _, _, rfl, ?_, ?_, ⟨_, _, _, _, _, rfl, ?_, ?_, ?_⟩, rfl⟩
    · exact Int.fmod_nonneg_of_pos _ ht
    · exact Int.fmod_lt_of_pos _ ht
    · exact hx
    · exact Int.fmod_nonneg_of_pos _ (by decide)
    · exact Int.fmod_lt_of_pos _ (by decide)
section
variable {w : World} {p : Program} {loose : List Str} {mean : ExcName → Option Value} {mg mb : Str → Option Value} {dp un : Nat} {gd : Option (List Code)} {cn : Str} {cs : Scope} {a : Addr} {ccd : Value} {cl : List (Str × Addr)} {outer : List Env} {A₀ : Around} {base h₀ : Heap} {L : Addr} {m : Str → Option Value} {s : Shared} {Q E : Value → Shared → Prop}
  {src : Addr} {o : Obj} {news : Led} {g : Obj → Led} {top : Int} {tt : Tok}
theorem take_use (F : Fr h₀ L s.heap m := by k_asm) (N : News h₀ L s.heap news := by k_asm) (U : UpdF src o news g := by k_updF) (hP : Pool o := by assumption) (B : Below A₀ base outer h₀ := by k_asm) (X : (hd.heap_1 w.params).In h₀ := by k_asm) (T : Top p loose mean mg mb h₀ := by k_asm) (hk : cs.kind = .function := by first | exact rfl | assumption) (hd : dp + 1 < recursionLimit := by ktr_room) (hu : un + 8 * 1 + 64 < cLine := by ktr_units) (ht : 0 < top := by first | decide | omega | (simp only [List.size_toArray]; omega)) (ht2 : top ≤ 1000 := by first | decide | omega | (simp only [List.size_toArray]; omega)) (h : ∀ i t o' h' tk', 0 ≤ i → i < top → Pool o' → NT o' → Fr h₀ L h' m → News h₀ L h' (g o') → Q (.int i t) { s with heap := h', toks := tk' }) :
    wpAny (model PySem.Challenge.rw_xm0589_01.row.prog w) (ktrTop dp un gd cn cs L a ccd cl outer) (call (.ref 173) [.ref src, .int top tt]) Q E s := by
  obtain ⟨pre, post, rfl, hg, h1, h2⟩ := U.split
  refine take_ok w src o top tt (pre ++ post) hP (fun q hq => (List.mem_append.mp hq).elim (h1 q) (h2 q)) ht ht2 p loose mean mg mb dp un gd cn cs a ccd cl outer A₀ base h₀ L m s Q E B F X (fun q hq => N q ?_) T hk hd hu ?_
  · simp only [List.mem_cons, List.mem_append] at hq ⊢
    rcases hq with hq | hq | hq <;> simp [hq]
  · rintro r J h' tk' F' N' ⟨i, t, o', rfl, hi, hi2, hP', rfl⟩
    refine h i t o' h' tk' hi hi2 hP' hP'.nt F' (fun q hq => N' q ?_)
    rw [hg] at hq
    simp only [List.mem_cons, List.mem_append] at hq ⊢
    rcases hq with hq | hq | hq <;> simp [hq]
end
theorem off_p4_mplace : True := by
  w_top off
  exact True.intro
section
local macro_rules | `(tactic| walk_at "pad8") => `(tactic| skip)
set_option maxHeartbeats 8000000 in
theorem mplace_ok (w : World) (W : Led) (v : Value) (p : Plc) (k : Int) (tk : Tok) (hv : DatIn W v p.dat) (hp : p.small) : PureK w 119 1 [v, .int k tk] W (fun d => d = (p.mv k).dat) := by
  unfold PureK CallK
  k_fill
  intro pr loose mean mg mb dp un gd cn cs a ccd cl outer A₀ base h₀ L m s Q E B F X N T hk hd hu hret
  unfold Plc.small at hp
  obtain ⟨ap, cp, v1, v2, rfl, hm, h1, h2⟩ := d2' hv
  obtain ⟨t1, rfl⟩ := dInt h1
  obtain ⟨at2, vs, ct2, rfl, hm2, hall⟩ := dTup h2
  have hvl := hall.length
  rw [List.length_map] at hvl
  refine wpAny_call ?_
  k_dflt (refine' code_defG ?k1 ?k2 ?k3 ?k4 ?k5 ?kA ?kF ?kK ?k6 ?k7 ?k8 ?k9 ?kB ?_ ?c2 ?c3 ?c4 ?c5; (case kA | kF => exact rfl); (case kK => assumption); (case k1 | k2 | k3 | k4 | k5 => k_asm); (case k6 | k7 => k_is); (case k8 => ktr_room); (case k9 => exact BindsTo.of_eq rfl); (case c5 => decide); (case kB => exact locs rfl); (case c2 | c3 | c4 => exact rfl); k_whole; intros; (try dsimp only); (try k_fold))
  k_steps
  rename_i l' hp1 l1 hp2 F' N'
  refine loop_tuple [] (fun i nx => ∃ us c W', nx = (l', listOf (List.toArray us) c) :: W' ∧ Ext W W W' ∧ (∀ p ∈ W', p.1 ≠ l') ∧ DatAll W' us ((p.stps.take i).map fun t : Stp => (t.mv k).dat) ∧ us.length ≤ i) rfl F' N' (by k_mem) ⟨[], 0, W, rfl, Ext.refl, fun p hp => Nat.ne_of_lt (l1 p hp), .nil, Nat.le_refl _⟩ ?_ ?_ ?_
  · rintro i nx ⟨us, c, W', rfl, e, _⟩
    exact mem_t (e.mem (by assumption))
  · intro i v u nx h tk3 I oI hv hJ9 hNT hoff F₁ N₁
    (try (show wpAny _ _ _ _ _ _; k_fold))
    obtain ⟨us, c, W', rfl, e, hO, hus, hl⟩ := hJ9
    have hIl := neN (hoff _ (.head _))
    obtain ⟨d, hd, hD⟩ := datAll_at hall hv
    have hiv := (List.getElem?_eq_some_iff.mp hv).1
    rw [List.getElem?_map] at hd
    obtain ⟨st, hst, rfl⟩ := Option.map_eq_some_iff.mp hd
    cases st with
    | idx n =>
      obtain ⟨b, cb, w1, w2, rfl, hm3, hw1, hw2⟩ := d2' hD
      obtain ⟨t2, rfl⟩ := dStr hw1
      obtain ⟨t3, rfl⟩ := dInt hw2
      k_steps
      (rename (_ < _ ∧ _ < _ ∧ AllLt _ _) => lD)
      have lD2 := tb_ltOf lD.2.2
      refine TurnEnd.new (by assumption) (by assumption) hoff lD.1 (by (intro z h1 h3; (try simp only [List.contains_cons, List.contains_nil, Bool.or_false, Bool.or_eq_false_iff, beq_eq_false_iff_ne, ne_eq] at h3); simp [inTurn, h1, h3])) ?_
      refine ⟨_, _, _, push_eq, ?_, ?_, ?_, ?_⟩
      · exact e.cons fun q hq => lD2 q (e.mem hq)
      · exact fun q hq => by
          rcases List.mem_cons.mp hq with rfl | hq
          · exact Nat.ne_of_gt lD.2.1
          · exact hO q hq
      · rw [List.take_add_one, hst, List.map_append]
        exact DatAll.append (hus.mono fun _ h => mem_t h) (DatAll.one (.tuple mem_h (.cons (.str _ _) (.cons (.int _ _) .nil))))
      · rw [List.length_append]; exact Nat.succ_le_succ hl
    | fld n =>
      obtain ⟨b, cb, w1, w2, rfl, hm3, hw1, hw2⟩ := d2' hD
      obtain ⟨t2, rfl⟩ := dStr hw1
      k_steps
      refine TurnEnd.old (by assumption) (by assumption) hoff (by (intro z h1 h3; (try simp only [List.contains_cons, List.contains_nil, Bool.or_false, Bool.or_eq_false_iff, beq_eq_false_iff_ne, ne_eq] at h3); simp [inTurn, h1, h3])) ?_
      refine ⟨_, _, _, push_eq, e, hO, ?_, ?_⟩
      · rw [List.take_add_one, hst, List.map_append]
        exact DatAll.append hus (DatAll.one (hD.mono e.sub))
      · rw [List.length_append]; exact Nat.succ_le_succ hl
    | drf =>
      obtain ⟨b, cb, w1, rfl, hm3, hw1⟩ := d1' hD
      obtain ⟨t2, rfl⟩ := dStr hw1
      k_steps
      refine TurnEnd.old (by assumption) (by assumption) hoff (by (intro z h1 h3; (try simp only [List.contains_cons, List.contains_nil, Bool.or_false, Bool.or_eq_false_iff, beq_eq_false_iff_ne, ne_eq] at h3); simp [inTurn, h1, h3])) ?_
      refine ⟨_, _, _, push_eq, e, hO, ?_, ?_⟩
      · rw [List.take_add_one, hst, List.map_append]
        exact DatAll.append hus (DatAll.one (hD.mono e.sub))
      · rw [List.length_append]; exact Nat.succ_le_succ hl
    | dwn n =>
      obtain ⟨b, cb, w1, w2, rfl, hm3, hw1, hw2⟩ := d2' hD
      obtain ⟨t2, rfl⟩ := dStr hw1
      k_steps
      refine TurnEnd.old (by assumption) (by assumption) hoff (by (intro z h1 h3; (try simp only [List.contains_cons, List.contains_nil, Bool.or_false, Bool.or_eq_false_iff, beq_eq_false_iff_ne, ne_eq] at h3); simp [inTurn, h1, h3])) ?_
      refine ⟨_, _, _, push_eq, e, hO, ?_, ?_⟩
      · rw [List.take_add_one, hst, List.map_append]
        exact DatAll.append hus (DatAll.one (hD.mono e.sub))
      · rw [List.length_append]; exact Nat.succ_le_succ hl
  · intro u nx h tk3 hJ9 F₁ N₁
    (try (show wpAny _ _ _ _ _ _; k_fold))
    obtain ⟨us, c, W', rfl, e, hO, hus, hl⟩ := hJ9
    have htk : p.stps.take vs.length = p.stps := by rw [hvl, List.take_length]
    rw [htk] at hus
    have hus2 : DatAll W' us ((p.mv k).stps.map Stp.dat) := by unfold Plc.mv; rw [List.map_map]; exact hus
    have e2 : Ext W W W' := e
    k_steps
    refine' pureK_out hret ?G ?F' ?N' ?F ?N ?S ?e ?D (p.mv k).fine rfl
    case G => assumption
    case F' => assumption
    case N' => assumption
    case F => assumption
    case N => assumption
    case S => tb_rel
    case e => ktr_rel
    case D => exact DatIn.tuple mem_h (.cons (.int _ _) (.cons (.tuple (mem_t mem_h) (by kqd_all)) .nil))
section
variable {w : World} {p : Program} {loose : List Str} {mean : ExcName → Option Value} {mg mb : Str → Option Value} {dp un : Nat} {gd : Option (List Code)} {cn : Str} {cs : Scope} {a : Addr} {ccd : Value} {cl : List (Str × Addr)} {outer : List Env} {A₀ : Around} {base h₀ : Heap} {L : Addr} {m : Str → Option Value} {s : Shared} {Q E : Value → Shared → Prop}
  {news M W : Led} {v : Value} {pl : Plc} {k : Int} {tk : Tok}
theorem mplace_use (F : Fr h₀ L s.heap m := by k_asm) (N : News h₀ L s.heap news := by k_asm) (S : SplitA news M W := by tb_rel) (hv : DatIn W v pl.dat := by ktd_rel) (hp : pl.small := by assumption) (B : Below A₀ base outer h₀ := by k_asm) (X : (hd.heap_1 w.params).In h₀ := by k_asm) (T : Top p loose mean mg mb h₀ := by k_asm) (hk : cs.kind = .function := by first | exact rfl | assumption) (hd : dp + 1 < recursionLimit := by ktr_room) (hu : un + 8 * 1 + 64 < cLine := by ktr_units) (O : Off M W := by tb_rel) (h : ∀ r W' h' tk', Fr h₀ L h' m → News h₀ L h' (M ++ W') → Off M W' → Ext W W W' → DatIn W' r (pl.mv k).dat → Q r { s with heap := h', toks := tk' }) :
    wpAny (model PySem.Challenge.rw_xm0589_01.row.prog w) (ktrTop dp un gd cn cs L a ccd cl outer) (call (.ref 119) [v, .int k tk]) Q E s :=
  pureK_use (mplace_ok w W v pl k tk hv hp) B F X (fun q hq => N q ((S.mem q).mpr hq)) T hk hd hu O fun r W' d h' tk' F' N' O' e D _ hΦ => h r W' h' tk' F' N' O' e (by subst hΦ; exact D)
end
end
set_option hygiene false in
local macro_rules | `(tactic| walk_at "call ref") => `(tactic| (k_here; (with_reducible show wpAny _ _ (call (Value.ref 119) _) _ _ _); k_dflt (refine' mplace_use (h := ?_); k_whole); ktu_objs))
theorem off_p5_mop : True := by
  w_top off
  exact True.intro
section
local macro_rules | `(tactic| walk_at "pad9") => `(tactic| skip)
set_option maxHeartbeats 8000000 in
theorem mop_ok (w : World) (W : Led) (v : Value) (x : Opd) (k : Int) (tk : Tok) (hv : DatIn W v x.dat) (hp : x.small) : PureK w 126 2 [v, .int k tk] W (fun d => d = (x.mv k).dat) := by
  unfold PureK CallK
  k_fill
  intro pr loose mean mg mb dp un gd cn cs a ccd cl outer A₀ base h₀ L m s Q E B F X N T hk hd hu hret
  refine wpAny_call ?_
  k_dflt (refine' code_defG ?k1 ?k2 ?k3 ?k4 ?k5 ?kA ?kF ?kK ?k6 ?k7 ?k8 ?k9 ?kB ?_ ?c2 ?c3 ?c4 ?c5; (case kA | kF => exact rfl); (case kK => assumption); (case k1 | k2 | k3 | k4 | k5 => k_asm); (case k6 | k7 => k_is); (case k8 => ktr_room); (case k9 => exact BindsTo.of_eq rfl); (case c5 => decide); (case kB => exact locs rfl); (case c2 | c3 | c4 => exact rfl); k_whole; intros; (try dsimp only); (try k_fold))
  cases x with
  | cst n =>
    obtain ⟨b, c, v1, v2, v3, rfl, hm, h1, h2, h3⟩ := d3' hv
    obtain ⟨t1, rfl⟩ := dStr h1
    k_steps
    refine' pureK_out (d := (Opd.cst n).dat) hret ?G ?F' ?N' ?F ?N ?S ?e ?D (Opd.cst n).fine rfl
    case G => assumption
    case F' => assumption
    case N' => assumption
    case F => assumption
    case N => assumption
    case S => tb_rel
    case e => ktr_rel
    case D => exact hv
  | cpy p =>
    obtain ⟨b, c, v1, v2, rfl, hm, h1, h2⟩ := d2' hv
    obtain ⟨t1, rfl⟩ := dStr h1
    unfold Opd.small at hp
    k_steps
    refine' pureK_out (d := (Opd.cpy (p.mv k)).dat) hret ?G ?F' ?N' ?F ?N ?S ?e ?D (Opd.cpy (p.mv k)).fine rfl
    case G => assumption
    case F' => assumption
    case N' => assumption
    case F => assumption
    case N => assumption
    case S => tb_rel
    case e => ktr_rel
    case D => kqd_in
  | mov p =>
    obtain ⟨b, c, v1, v2, rfl, hm, h1, h2⟩ := d2' hv
    obtain ⟨t1, rfl⟩ := dStr h1
    unfold Opd.small at hp
    k_steps
    refine' pureK_out (d := (Opd.mov (p.mv k)).dat) hret ?G ?F' ?N' ?F ?N ?S ?e ?D (Opd.mov (p.mv k)).fine rfl
    case G => assumption
    case F' => assumption
    case N' => assumption
    case F => assumption
    case N => assumption
    case S => tb_rel
    case e => ktr_rel
    case D => kqd_in
section
variable {w : World} {p : Program} {loose : List Str} {mean : ExcName → Option Value} {mg mb : Str → Option Value} {dp un : Nat} {gd : Option (List Code)} {cn : Str} {cs : Scope} {a : Addr} {ccd : Value} {cl : List (Str × Addr)} {outer : List Env} {A₀ : Around} {base h₀ : Heap} {L : Addr} {m : Str → Option Value} {s : Shared} {Q E : Value → Shared → Prop}
  {news M W : Led} {v : Value} {x : Opd} {k : Int} {tk : Tok}
theorem mop_use (F : Fr h₀ L s.heap m := by k_asm) (N : News h₀ L s.heap news := by k_asm) (S : SplitA news M W := by tb_rel) (hv : DatIn W v x.dat := by ktd_rel) (hp : x.small := by first | with_reducible assumption | exact Opd.small_mv (by with_reducible assumption)) (B : Below A₀ base outer h₀ := by k_asm) (X : (hd.heap_1 w.params).In h₀ := by k_asm) (T : Top p loose mean mg mb h₀ := by k_asm) (hk : cs.kind = .function := by first | exact rfl | assumption) (hd : dp + 2 < recursionLimit := by ktr_room) (hu : un + 8 * 2 + 64 < cLine := by ktr_units) (O : Off M W := by tb_rel) (h : ∀ r W' h' tk', Fr h₀ L h' m → News h₀ L h' (M ++ W') → Off M W' → Ext W W W' → DatIn W' r (x.mv k).dat → Q r { s with heap := h', toks := tk' }) :
    wpAny (model PySem.Challenge.rw_xm0589_01.row.prog w) (ktrTop dp un gd cn cs L a ccd cl outer) (call (.ref 126) [v, .int k tk]) Q E s :=
  pureK_use (mop_ok w W v x k tk hv hp) B F X (fun q hq => N q ((S.mem q).mpr hq)) T hk hd hu O fun r W' d h' tk' F' N' O' e D _ hΦ => h r W' h' tk' F' N' O' e (by subst hΦ; exact D)
end
end
set_option hygiene false in
local macro_rules | `(tactic| walk_at "call ref") => `(tactic| (k_here; (with_reducible show wpAny _ _ (call (Value.ref 126) _) _ _ _); k_dflt (refine' mop_use (h := ?_); k_whole); ktu_objs))
theorem off_p6_mops : True := by
  w_top off
  exact True.intro
section
local macro_rules | `(tactic| walk_at "pad10") => `(tactic| skip)
set_option maxHeartbeats 8000000 in
theorem mops_ok (w : World) (W : Led) (l : Addr) (c : Nat) (vs : List Value) (xs : List Opd) (k : Int) (tk : Tok) (hl : (l, listOf (List.toArray vs) c) ∈ W) (hvs : DatAll W vs (xs.map Opd.dat)) (hp : ∀ x ∈ xs, x.small) (hn : xs.length ≤ 1000) :
    PureC w 131 3 [.ref l, .int k tk] W (fun d => d = .tuple ((xs.map (Opd.mv k)).map Opd.dat)) := by
  unfold PureC Call
  k_fill
  intro pr loose mean mg mb dp un gd cn cs a ccd cl outer A₀ base h₀ L m s Q E B F X N T hk hd hu hret
  have hlen := hvs.length
  rw [List.length_map] at hlen
  refine wpAny_call ?_
  k_dflt (refine' code_defC ?k1 ?k2 ?k3 ?k4 ?k5 ?kA ?kF ?kK ?k6 ?k7 ?k8 ?k9 ?kB ?kD ?_ ?c2 ?c3 ?c4; (case kA | kF => exact rfl); (case kK => assumption); (case k1 | k2 | k3 | k4 | k5 => k_asm); (case k6 | k7 => k_is); (case k8 => ktr_room); (case k9 => exact BindsTo.of_eq rfl); (case kB | c2 | c3 | c4 => exact rfl); (case kD => decide +kernel); k_whole; intro _ _ _ _ _ _ _ N' Y' _ _ _ l1; k_cells Y'; (try simp only [List.cons_append, List.nil_append] at N'); (try k_lt l1); (try dsimp only); (try k_fold))
  k_steps
  rename_i g' L' hp1 tk2 FG F' B' X' T' o' d1'
  refine LCg.CompSrc.ledger rfl F' N' (mem_t hl) (by rw [List.size_toArray, sizeLine_eq]; omega) ?_
  intro g
  refine comp_ind (fun i ys nx => ∃ W', nx = (L' + 1, o') :: W' ∧ Ext W W W' ∧ (∀ p ∈ W', p.1 ≠ L' + 1) ∧ DatAll W' ys ((xs.take i).map fun x : Opd => (x.mv k).dat)) ?fin ?step _ 0 (Nat.zero_add _) [] _ ⟨W, rfl, Ext.refl, fun p hp => Nat.ne_of_lt (Nat.lt_succ_of_lt (l1 p hp)), .nil⟩
  case step =>
    intro i ys nx v I oI C oC D m₂ h tk3 E' hi hPv hJ9 hC hx F₁ N₁ off ne
    (try (show wpAny _ _ _ _ _ _; k_fold))
    obtain ⟨W', rfl, e, hO, hys⟩ := hJ9
    have hv : vs[i]? = some v := by simpa using hPv
    obtain ⟨d, hd, hD⟩ := datAll_at hvs hv
    rw [List.getElem?_map] at hd
    obtain ⟨x, hxi, rfl⟩ := Option.map_eq_some_iff.mp hd
    have hxs := hp x (List.mem_of_getElem? hxi)
    obtain ⟨⟨oa, ob, oc⟩, off'⟩ := off
    have f1 : ∀ p ∈ W', p.1 ≠ I := fun p hp => (off'.mem p hp).1
    have f2 : ∀ p ∈ W', p.1 ≠ C := fun p hp => (off'.mem p hp).2.1
    have f3 : ∀ p ∈ W', p.1 ≠ D := fun p hp => (off'.mem p hp).2.2
    k_steps
    (rename Off _ _ => O9)
    (rename Ext W' W' _ => E9)
    (rename DatIn _ _ (Opd.mv k x).dat => D9)
    have e9 := ext_stepKP E9 e
    refine LCg.CompEnd.intro (by assumption) (by assumption) ((L' + 1, o') :: _) (fun _ h => h) ⟨⟨oa, ob, oc⟩, LCg.Off3.of fun p hp => ⟨O9 (I, oI) (by k_mem) p hp, O9 (C, oC) (by k_mem) p hp, O9 (D, LCg.lst ys) (by k_mem) p hp⟩⟩
      (.inr ⟨_, mem_t (e9.mem hl), rfl, _, rfl⟩) ⟨_, rfl, e9, fun p hp => O9 (L' + 1, o') (by k_mem) p hp, ?_⟩
    rw [List.take_add_one, hxi, List.map_append]
    exact DatAll.append (hys.mono E9.sub) (DatAll.one D9)
  case fin =>
    intro ys nx hJ9
    (try (show wpAny _ _ _ _ _ _; k_fold))
    obtain ⟨W', rfl, e, hO, hys⟩ := hJ9
    rw [List.size_toArray, hlen, List.take_length] at hys
    have hyl : ys.length ≤ 1000 := by rw [hys.length, List.length_map]; exact hn
    have hys2 : DatAll W' ys ((xs.map (Opd.mv k)).map Opd.dat) := by rw [List.map_map]; exact hys
    k_steps
    refine' pure_out (d := .tuple ((xs.map (Opd.mv k)).map Opd.dat)) hret ?F ?N ?S ?e ?D ?f rfl
    case F => assumption
    case N => assumption
    case S => tb_rel
    case e => ktr_rel
    case D => kqd_in
    case f =>
      refine okD_tuple.mpr fun d hd => ?_
      obtain ⟨x, _, rfl⟩ := List.mem_map.mp hd
      exact okD_le (by decide) x.ok
section
variable {w : World} {p : Program} {loose : List Str} {mean : ExcName → Option Value} {mg mb : Str → Option Value} {dp un : Nat} {gd : Option (List Code)} {cn : Str} {cs : Scope} {a : Addr} {ccd : Value} {cl : List (Str × Addr)} {outer : List Env} {A₀ : Around} {base h₀ : Heap} {L : Addr} {m : Str → Option Value} {s : Shared} {Q E : Value → Shared → Prop}
  {news M W : Led} {l : Addr} {c : Nat} {v1 v2 v3 : Value} {x1 x2 x3 : Opd} {k : Int} {tk : Tok}
theorem mops_use1 (F : Fr h₀ L s.heap m := by k_asm) (N : News h₀ L s.heap news := by k_asm) (S : Split news M W := by tb_rel) (hl : (l, listOf #[v1] c) ∈ news := by k_mem) (h1 : DatIn W v1 x1.dat := by ktd_rel) (hp1 : x1.small := by assumption) (B : Below A₀ base outer h₀ := by k_asm) (X : (hd.heap_1 w.params).In h₀ := by k_asm) (T : Top p loose mean mg mb h₀ := by k_asm) (hk : cs.kind = .function := by first | exact rfl | assumption) (hd : dp + 3 < recursionLimit := by ktr_room) (hu : un + 8 * 3 + 64 < cLine := by ktr_units) (O : Off M W := by tb_rel) (h : ∀ t n u1 W' h' tk', Fr h₀ L h' m → News h₀ L h' (M ++ W') → Off M W' → Ext (M ++ W) W W' → (t, tup #[u1] n) ∈ W' → DatIn W' u1 (x1.mv k).dat → DatIn W' (.ref t) (.tuple (([x1].map (Opd.mv k)).map Opd.dat)) → Q (.ref t) { s with heap := h', toks := tk' }) :
    wpAny (model PySem.Challenge.rw_xm0589_01.row.prog w) (ktrTop dp un gd cn cs L a ccd cl outer) (call (.ref 131) [.ref l, .int k tk]) Q E s := by
  refine pure_use S (mops_ok w (M ++ W) l c [v1] [x1] k tk ((S.mem _).mp hl) (.cons (h1.mono fun _ h => List.mem_append_right _ h) (.nil)) (fun x hx => ?_) (Nat.le_of_ble_eq_true rfl)) B F X N T hk hd hu O fun r W' d h' tk' F' N' O' e D _ hΦ => ?_
  · simp only [List.mem_cons, List.not_mem_nil, or_false] at hx
    rcases hx with rfl
    · exact hp1
  · subst hΦ
    obtain ⟨t, n, u1, rfl, hm, q1⟩ := d1' D
    exact h t n u1 W' h' tk' F' N' O' e hm q1 D
theorem mops_use2 (F : Fr h₀ L s.heap m := by k_asm) (N : News h₀ L s.heap news := by k_asm) (S : Split news M W := by tb_rel) (hl : (l, listOf #[v1, v2] c) ∈ news := by k_mem) (h1 : DatIn W v1 x1.dat := by ktd_rel) (h2 : DatIn W v2 x2.dat := by ktd_rel) (hp1 : x1.small := by assumption) (hp2 : x2.small := by assumption) (B : Below A₀ base outer h₀ := by k_asm) (X : (hd.heap_1 w.params).In h₀ := by k_asm) (T : Top p loose mean mg mb h₀ := by k_asm) (hk : cs.kind = .function := by first | exact rfl | assumption) (hd : dp + 3 < recursionLimit := by ktr_room) (hu : un + 8 * 3 + 64 < cLine := by ktr_units) (O : Off M W := by tb_rel) (h : ∀ t n u1 u2 W' h' tk', Fr h₀ L h' m → News h₀ L h' (M ++ W') → Off M W' → Ext (M ++ W) W W' → (t, tup #[u1, u2] n) ∈ W' → DatIn W' u1 (x1.mv k).dat → DatIn W' u2 (x2.mv k).dat → DatIn W' (.ref t) (.tuple (([x1, x2].map (Opd.mv k)).map Opd.dat)) → Q (.ref t) { s with heap := h', toks := tk' }) :
    wpAny (model PySem.Challenge.rw_xm0589_01.row.prog w) (ktrTop dp un gd cn cs L a ccd cl outer) (call (.ref 131) [.ref l, .int k tk]) Q E s := by
  refine pure_use S (mops_ok w (M ++ W) l c [v1, v2] [x1, x2] k tk ((S.mem _).mp hl) (.cons (h1.mono fun _ h => List.mem_append_right _ h) (.cons (h2.mono fun _ h => List.mem_append_right _ h) (.nil))) (fun x hx => ?_) (Nat.le_of_ble_eq_true rfl)) B F X N T hk hd hu O fun r W' d h' tk' F' N' O' e D _ hΦ => ?_
  · simp only [List.mem_cons, List.not_mem_nil, or_false] at hx
    rcases hx with rfl | rfl
    · exact hp1
    · exact hp2
  · subst hΦ
    obtain ⟨t, n, u1, u2, rfl, hm, q1, q2⟩ := d2' D
    exact h t n u1 u2 W' h' tk' F' N' O' e hm q1 q2 D
theorem mops_use3 (F : Fr h₀ L s.heap m := by k_asm) (N : News h₀ L s.heap news := by k_asm) (S : Split news M W := by tb_rel) (hl : (l, listOf #[v1, v2, v3] c) ∈ news := by k_mem) (h1 : DatIn W v1 x1.dat := by ktd_rel) (h2 : DatIn W v2 x2.dat := by ktd_rel) (h3 : DatIn W v3 x3.dat := by ktd_rel) (hp1 : x1.small := by assumption) (hp2 : x2.small := by assumption) (hp3 : x3.small := by assumption) (B : Below A₀ base outer h₀ := by k_asm) (X : (hd.heap_1 w.params).In h₀ := by k_asm) (T : Top p loose mean mg mb h₀ := by k_asm) (hk : cs.kind = .function := by first | exact rfl | assumption) (hd : dp + 3 < recursionLimit := by ktr_room) (hu : un + 8 * 3 + 64 < cLine := by ktr_units) (O : Off M W := by tb_rel) (h : ∀ t n u1 u2 u3 W' h' tk', Fr h₀ L h' m → News h₀ L h' (M ++ W') → Off M W' → Ext (M ++ W) W W' → (t, tup #[u1, u2, u3] n) ∈ W' → DatIn W' u1 (x1.mv k).dat → DatIn W' u2 (x2.mv k).dat → DatIn W' u3 (x3.mv k).dat → DatIn W' (.ref t) (.tuple (([x1, x2, x3].map (Opd.mv k)).map Opd.dat)) → Q (.ref t) { s with heap := h', toks := tk' }) :
    wpAny (model PySem.Challenge.rw_xm0589_01.row.prog w) (ktrTop dp un gd cn cs L a ccd cl outer) (call (.ref 131) [.ref l, .int k tk]) Q E s := by
  refine pure_use S (mops_ok w (M ++ W) l c [v1, v2, v3] [x1, x2, x3] k tk ((S.mem _).mp hl) (.cons (h1.mono fun _ h => List.mem_append_right _ h) (.cons (h2.mono fun _ h => List.mem_append_right _ h) (.cons (h3.mono fun _ h => List.mem_append_right _ h) (.nil)))) (fun x hx => ?_) (Nat.le_of_ble_eq_true rfl)) B F X N T hk hd hu O fun r W' d h' tk' F' N' O' e D _ hΦ => ?_
  · simp only [List.mem_cons, List.not_mem_nil, or_false] at hx
    rcases hx with rfl | rfl | rfl
    · exact hp1
    · exact hp2
    · exact hp3
  · subst hΦ
    obtain ⟨t, n, u1, u2, u3, rfl, hm, q1, q2, q3⟩ := d3' D
    exact h t n u1 u2 u3 W' h' tk' F' N' O' e hm q1 q2 q3 D
end
end
set_option hygiene false in
local macro_rules | `(tactic| walk_at "call ref") => `(tactic| (k_here; (with_reducible show wpAny _ _ (call (Value.ref 131) _) _ _ _); k_dflt (refine' mops_use1 (h := ?_); k_whole); ktu_objs))
set_option hygiene false in
local macro_rules | `(tactic| walk_at "call ref") => `(tactic| (k_here; (with_reducible show wpAny _ _ (call (Value.ref 131) _) _ _ _); k_dflt (refine' mops_use2 (h := ?_); k_whole); ktu_objs))
set_option hygiene false in
local macro_rules | `(tactic| walk_at "call ref") => `(tactic| (k_here; (with_reducible show wpAny _ _ (call (Value.ref 131) _) _ _ _); k_dflt (refine' mops_use3 (h := ?_); k_whole); ktu_objs))
theorem off_p7_mrv : True := by
  w_top off
  exact True.intro
set_option maxHeartbeats 16000000 in
theorem mrv_use (w : World) (W : Led) (v : Value) (y₀ : Rv) (k : Int) (tk : Tok) (hv : DatIn W v y₀.dat) (hp : y₀.small) (hx : ∃ (a : Opd), y₀ = (Rv.use a)) : PureC w 138 4 [v, .int k tk] W (fun d => d = (y₀.mv k).dat) := by
  unfold PureC Call
  k_fill
  intro pr loose mean mg mb dp un gd cn cs a₀ ccd cl outer A₀ base h₀ L m s Q E B F X N T hk hd hu hret
  refine wpAny_call ?_
  k_dflt ktr_enter
  iterate 28 (have pad : True := trivial; clear pad)
  obtain ⟨a, rfl⟩ := hx
  obtain ⟨b₀, c₀, v1, v2, rfl, hm, h1, h2⟩ := d2' hv
  obtain ⟨t1, rfl⟩ := dStr h1
  unfold Rv.small at hp
  k_steps
  refine' pure_out (d := (Rv.mv k (.use a)).dat) hret ?F ?N ?S ?e ?D (Rv.fine _) rfl
  case F => assumption
  case N => assumption
  case S => tb_rel
  case e => ktr_rel
  case D => kqd_in
set_option maxHeartbeats 16000000 in
theorem mrv_refS (w : World) (W : Led) (v : Value) (y₀ : Rv) (k : Int) (tk : Tok) (hv : DatIn W v y₀.dat) (hp : y₀.small) (hx : ∃ (p : Plc), y₀ = (Rv.refS p)) : PureC w 138 4 [v, .int k tk] W (fun d => d = (y₀.mv k).dat) := by
  unfold PureC Call
  k_fill
  intro pr loose mean mg mb dp un gd cn cs a₀ ccd cl outer A₀ base h₀ L m s Q E B F X N T hk hd hu hret
  refine wpAny_call ?_
  k_dflt ktr_enter
  iterate 14 (have pad : True := trivial; clear pad)
  obtain ⟨p, rfl⟩ := hx
  obtain ⟨b₀, c₀, v1, v2, v3, v4, rfl, hm, h1, h2, h3, h4⟩ := d4' hv
  obtain ⟨t1, rfl⟩ := dStr h1
  obtain rfl := dNone h2
  obtain ⟨t3, rfl⟩ := dStr h3
  unfold Rv.small at hp
  k_steps
  refine' pure_out (d := (Rv.mv k (.refS p)).dat) hret ?F ?N ?S ?e ?D (Rv.fine _) rfl
  case F => assumption
  case N => assumption
  case S => tb_rel
  case e => ktr_rel
  case D => kqd_in
set_option maxHeartbeats 16000000 in
theorem mrv_refM (w : World) (W : Led) (v : Value) (y₀ : Rv) (k : Int) (tk : Tok) (hv : DatIn W v y₀.dat) (hp : y₀.small) (hx : ∃ (p : Plc), y₀ = (Rv.refM p)) : PureC w 138 4 [v, .int k tk] W (fun d => d = (y₀.mv k).dat) := by
  unfold PureC Call
  k_fill
  intro pr loose mean mg mb dp un gd cn cs a₀ ccd cl outer A₀ base h₀ L m s Q E B F X N T hk hd hu hret
  refine wpAny_call ?_
  k_dflt ktr_enter
  iterate 12 (have pad : True := trivial; clear pad)
  obtain ⟨p, rfl⟩ := hx
  obtain ⟨b₀, c₀, v1, v2, v3, v4, rfl, hm, h1, h2, h3, h4⟩ := d4' hv
  obtain ⟨t1, rfl⟩ := dStr h1
  obtain ⟨t2, rfl⟩ := dStr h2
  obtain ⟨t3, rfl⟩ := dStr h3
  unfold Rv.small at hp
  k_steps
  refine' pure_out (d := (Rv.mv k (.refM p)).dat) hret ?F ?N ?S ?e ?D (Rv.fine _) rfl
  case F => assumption
  case N => assumption
  case S => tb_rel
  case e => ktr_rel
  case D => kqd_in
set_option maxHeartbeats 16000000 in
theorem mrv_bin (w : World) (W : Led) (v : Value) (y₀ : Rv) (k : Int) (tk : Tok) (hv : DatIn W v y₀.dat) (hp : y₀.small) (hx : ∃ (a : Opd), ∃ (b : Opd), y₀ = (Rv.bin a b)) : PureC w 138 4 [v, .int k tk] W (fun d => d = (y₀.mv k).dat) := by
  unfold PureC Call
  k_fill
  intro pr loose mean mg mb dp un gd cn cs a₀ ccd cl outer A₀ base h₀ L m s Q E B F X N T hk hd hu hret
  refine wpAny_call ?_
  k_dflt ktr_enter
  iterate 12 (have pad : True := trivial; clear pad)
  obtain ⟨a, b, rfl⟩ := hx
  obtain ⟨b₀, c₀, v1, v2, v3, v4, rfl, hm, h1, h2, h3, h4⟩ := d4' hv
  obtain ⟨t1, rfl⟩ := dStr h1
  obtain ⟨t2, rfl⟩ := dStr h2
  obtain ⟨hp1, hp2⟩ := hp
  k_steps
  refine' pure_out (d := (Rv.mv k (.bin a b)).dat) hret ?F ?N ?S ?e ?D (Rv.fine _) rfl
  case F => assumption
  case N => assumption
  case S => tb_rel
  case e => ktr_rel
  case D => kqd_in
set_option maxHeartbeats 16000000 in
theorem mrv_chk (w : World) (W : Led) (v : Value) (y₀ : Rv) (k : Int) (tk : Tok) (hv : DatIn W v y₀.dat) (hp : y₀.small) (hx : ∃ (a : Opd), ∃ (b : Opd), y₀ = (Rv.chk a b)) : PureC w 138 4 [v, .int k tk] W (fun d => d = (y₀.mv k).dat) := by
  unfold PureC Call
  k_fill
  intro pr loose mean mg mb dp un gd cn cs a₀ ccd cl outer A₀ base h₀ L m s Q E B F X N T hk hd hu hret
  refine wpAny_call ?_
  k_dflt ktr_enter
  iterate 12 (have pad : True := trivial; clear pad)
  obtain ⟨a, b, rfl⟩ := hx
  obtain ⟨b₀, c₀, v1, v2, v3, v4, rfl, hm, h1, h2, h3, h4⟩ := d4' hv
  obtain ⟨t1, rfl⟩ := dStr h1
  obtain ⟨t2, rfl⟩ := dStr h2
  obtain ⟨hp1, hp2⟩ := hp
  k_steps
  refine' pure_out (d := (Rv.mv k (.chk a b)).dat) hret ?F ?N ?S ?e ?D (Rv.fine _) rfl
  case F => assumption
  case N => assumption
  case S => tb_rel
  case e => ktr_rel
  case D => kqd_in
set_option maxHeartbeats 16000000 in
theorem mrv_una (w : World) (W : Led) (v : Value) (y₀ : Rv) (k : Int) (tk : Tok) (hv : DatIn W v y₀.dat) (hp : y₀.small) (hx : ∃ (a : Opd), y₀ = (Rv.una a)) : PureC w 138 4 [v, .int k tk] W (fun d => d = (y₀.mv k).dat) := by
  unfold PureC Call
  k_fill
  intro pr loose mean mg mb dp un gd cn cs a₀ ccd cl outer A₀ base h₀ L m s Q E B F X N T hk hd hu hret
  refine wpAny_call ?_
  k_dflt ktr_enter
  iterate 20 (have pad : True := trivial; clear pad)
  obtain ⟨a, rfl⟩ := hx
  obtain ⟨b₀, c₀, v1, v2, v3, rfl, hm, h1, h2, h3⟩ := d3' hv
  obtain ⟨t1, rfl⟩ := dStr h1
  obtain ⟨t2, rfl⟩ := dStr h2
  unfold Rv.small at hp
  k_steps
  refine' pure_out (d := (Rv.mv k (.una a)).dat) hret ?F ?N ?S ?e ?D (Rv.fine _) rfl
  case F => assumption
  case N => assumption
  case S => tb_rel
  case e => ktr_rel
  case D => kqd_in
set_option maxHeartbeats 16000000 in
theorem mrv_cast (w : World) (W : Led) (v : Value) (y₀ : Rv) (k : Int) (tk : Tok) (hv : DatIn W v y₀.dat) (hp : y₀.small) (hx : ∃ (a : Opd), y₀ = (Rv.cast a)) : PureC w 138 4 [v, .int k tk] W (fun d => d = (y₀.mv k).dat) := by
  unfold PureC Call
  k_fill
  intro pr loose mean mg mb dp un gd cn cs a₀ ccd cl outer A₀ base h₀ L m s Q E B F X N T hk hd hu hret
  refine wpAny_call ?_
  k_dflt ktr_enter
  iterate 24 (have pad : True := trivial; clear pad)
  obtain ⟨a, rfl⟩ := hx
  obtain ⟨b₀, c₀, v1, v2, v3, rfl, hm, h1, h2, h3⟩ := d3' hv
  obtain ⟨t1, rfl⟩ := dStr h1
  unfold Rv.small at hp
  k_steps
  refine' pure_out (d := (Rv.mv k (.cast a)).dat) hret ?F ?N ?S ?e ?D (Rv.fine _) rfl
  case F => assumption
  case N => assumption
  case S => tb_rel
  case e => ktr_rel
  case D => kqd_in
set_option maxHeartbeats 16000000 in
theorem mrv_tpl (w : World) (W : Led) (v : Value) (y₀ : Rv) (k : Int) (tk : Tok) (hv : DatIn W v y₀.dat) (hp : y₀.small) (hx : ∃ (a : Opd), ∃ (b : Opd), y₀ = (Rv.tpl a b)) : PureC w 138 4 [v, .int k tk] W (fun d => d = (y₀.mv k).dat) := by
  unfold PureC Call
  k_fill
  intro pr loose mean mg mb dp un gd cn cs a₀ ccd cl outer A₀ base h₀ L m s Q E B F X N T hk hd hu hret
  refine wpAny_call ?_
  k_dflt ktr_enter
  iterate 8 (have pad : True := trivial; clear pad)
  obtain ⟨a, b, rfl⟩ := hx
  obtain ⟨b₀, c₀, v1, v2, rfl, hm, h1, h2⟩ := d2' hv
  obtain ⟨t1, rfl⟩ := dStr h1
  obtain ⟨b₁, c₁, w1, w2, rfl, hm1, g1, g2⟩ := d2' h2
  obtain ⟨hp1, hp2⟩ := hp
  k_steps
  refine' pure_out (d := (Rv.mv k (.tpl a b)).dat) hret ?F ?N ?S ?e ?D (Rv.fine _) rfl
  case F => assumption
  case N => assumption
  case S => tb_rel
  case e => ktr_rel
  case D => kqd_in
set_option maxHeartbeats 16000000 in
theorem mrv_arr (w : World) (W : Led) (v : Value) (y₀ : Rv) (k : Int) (tk : Tok) (hv : DatIn W v y₀.dat) (hp : y₀.small) (hx : ∃ (a : Opd), ∃ (b : Opd), ∃ (c : Opd), y₀ = (Rv.arr a b c)) : PureC w 138 4 [v, .int k tk] W (fun d => d = (y₀.mv k).dat) := by
  unfold PureC Call
  k_fill
  intro pr loose mean mg mb dp un gd cn cs a₀ ccd cl outer A₀ base h₀ L m s Q E B F X N T hk hd hu hret
  refine wpAny_call ?_
  k_dflt ktr_enter
  obtain ⟨a, b, c, rfl⟩ := hx
  obtain ⟨b₀, c₀, v1, v2, rfl, hm, h1, h2⟩ := d2' hv
  obtain ⟨t1, rfl⟩ := dStr h1
  obtain ⟨b₁, c₁, w1, w2, w3, rfl, hm1, g1, g2, g3⟩ := d3' h2
  obtain ⟨hp1, hp2, hp3⟩ := hp
  k_steps
  refine' pure_out (d := (Rv.mv k (.arr a b c)).dat) hret ?F ?N ?S ?e ?D (Rv.fine _) rfl
  case F => assumption
  case N => assumption
  case S => tb_rel
  case e => ktr_rel
  case D => kqd_in
set_option maxHeartbeats 16000000 in
theorem mrv_adt (w : World) (W : Led) (v : Value) (y₀ : Rv) (k : Int) (tk : Tok) (hv : DatIn W v y₀.dat) (hp : y₀.small) (hx : ∃ (a : Opd), y₀ = (Rv.adt a)) : PureC w 138 4 [v, .int k tk] W (fun d => d = (y₀.mv k).dat) := by
  unfold PureC Call
  k_fill
  intro pr loose mean mg mb dp un gd cn cs a₀ ccd cl outer A₀ base h₀ L m s Q E B F X N T hk hd hu hret
  refine wpAny_call ?_
  k_dflt ktr_enter
  iterate 4 (have pad : True := trivial; clear pad)
  obtain ⟨a, rfl⟩ := hx
  obtain ⟨b₀, c₀, v1, v2, v3, v4, rfl, hm, h1, h2, h3, h4⟩ := d4' hv
  obtain ⟨t1, rfl⟩ := dStr h1
  obtain ⟨t3, rfl⟩ := dInt h3
  obtain ⟨b₁, c₁, w1, rfl, hm1, g1⟩ := d1' h4
  unfold Rv.small at hp
  k_steps
  refine' pure_out (d := (Rv.mv k (.adt a)).dat) hret ?F ?N ?S ?e ?D (Rv.fine _) rfl
  case F => assumption
  case N => assumption
  case S => tb_rel
  case e => ktr_rel
  case D => kqd_in
set_option maxHeartbeats 16000000 in
theorem mrv_disc (w : World) (W : Led) (v : Value) (y₀ : Rv) (k : Int) (tk : Tok) (hv : DatIn W v y₀.dat) (hp : y₀.small) (hx : ∃ (p : Plc), y₀ = (Rv.disc p)) : PureC w 138 4 [v, .int k tk] W (fun d => d = (y₀.mv k).dat) := by
  unfold PureC Call
  k_fill
  intro pr loose mean mg mb dp un gd cn cs a₀ ccd cl outer A₀ base h₀ L m s Q E B F X N T hk hd hu hret
  refine wpAny_call ?_
  k_dflt ktr_enter
  iterate 28 (have pad : True := trivial; clear pad)
  obtain ⟨p, rfl⟩ := hx
  obtain ⟨b₀, c₀, v1, v2, rfl, hm, h1, h2⟩ := d2' hv
  obtain ⟨t1, rfl⟩ := dStr h1
  unfold Rv.small at hp
  k_steps
  refine' pure_out (d := (Rv.mv k (.disc p)).dat) hret ?F ?N ?S ?e ?D (Rv.fine _) rfl
  case F => assumption
  case N => assumption
  case S => tb_rel
  case e => ktr_rel
  case D => kqd_in
set_option maxHeartbeats 16000000 in
theorem mrv_box (w : World) (W : Led) (v : Value) (y₀ : Rv) (k : Int) (tk : Tok) (hv : DatIn W v y₀.dat) (hp : y₀.small) (hx : ∃ (a : Opd), y₀ = (Rv.box a)) : PureC w 138 4 [v, .int k tk] W (fun d => d = (y₀.mv k).dat) := by
  unfold PureC Call
  k_fill
  intro pr loose mean mg mb dp un gd cn cs a₀ ccd cl outer A₀ base h₀ L m s Q E B F X N T hk hd hu hret
  refine wpAny_call ?_
  k_dflt ktr_enter
  iterate 28 (have pad : True := trivial; clear pad)
  obtain ⟨a, rfl⟩ := hx
  obtain ⟨b₀, c₀, v1, v2, rfl, hm, h1, h2⟩ := d2' hv
  obtain ⟨t1, rfl⟩ := dStr h1
  unfold Rv.small at hp
  k_steps
  refine' pure_out (d := (Rv.mv k (.box a)).dat) hret ?F ?N ?S ?e ?D (Rv.fine _) rfl
  case F => assumption
  case N => assumption
  case S => tb_rel
  case e => ktr_rel
  case D => kqd_in
theorem mrv_ok (w : World) (W : Led) (v : Value) (x : Rv) (k : Int) (tk : Tok) (hv : DatIn W v x.dat) (hp : x.small) : PureC w 138 4 [v, .int k tk] W (fun d => d = (x.mv k).dat) := by
  cases x with
  | use a => exact mrv_use w W v _ k tk hv hp ⟨_, rfl⟩
  | refS p => exact mrv_refS w W v _ k tk hv hp ⟨_, rfl⟩
  | refM p => exact mrv_refM w W v _ k tk hv hp ⟨_, rfl⟩
  | bin a b => exact mrv_bin w W v _ k tk hv hp ⟨_, _, rfl⟩
  | chk a b => exact mrv_chk w W v _ k tk hv hp ⟨_, _, rfl⟩
  | una a => exact mrv_una w W v _ k tk hv hp ⟨_, rfl⟩
  | cast a => exact mrv_cast w W v _ k tk hv hp ⟨_, rfl⟩
  | tpl a b => exact mrv_tpl w W v _ k tk hv hp ⟨_, _, rfl⟩
  | arr a b c => exact mrv_arr w W v _ k tk hv hp ⟨_, _, _, rfl⟩
  | adt a => exact mrv_adt w W v _ k tk hv hp ⟨_, rfl⟩
  | disc p => exact mrv_disc w W v _ k tk hv hp ⟨_, rfl⟩
  | box a => exact mrv_box w W v _ k tk hv hp ⟨_, rfl⟩
section
variable {w : World} {p : Program} {loose : List Str} {mean : ExcName → Option Value} {mg mb : Str → Option Value} {dp un : Nat} {gd : Option (List Code)} {cn : Str} {cs : Scope} {a : Addr} {ccd : Value} {cl : List (Str × Addr)} {outer : List Env} {A₀ : Around} {base h₀ : Heap} {L : Addr} {m : Str → Option Value} {s : Shared} {Q E : Value → Shared → Prop}
  {news M W : Led} {v : Value} {x : Rv} {k : Int} {tk : Tok}
theorem mrv_use_at (F : Fr h₀ L s.heap m := by k_asm) (N : News h₀ L s.heap news := by k_asm) (S : Split news M W := by tb_rel) (hv : DatIn W v x.dat := by ktd_rel) (hp : x.small := by first | with_reducible assumption | exact Rv.small_mv (by with_reducible assumption)) (B : Below A₀ base outer h₀ := by k_asm) (X : (hd.heap_1 w.params).In h₀ := by k_asm) (T : Top p loose mean mg mb h₀ := by k_asm) (hk : cs.kind = .function := by first | exact rfl | assumption) (hd : dp + 4 < recursionLimit := by ktr_room) (hu : un + 8 * 4 + 64 < cLine := by ktr_units) (O : Off M W := by tb_rel) (h : ∀ r W' h' tk', Fr h₀ L h' m → News h₀ L h' (M ++ W') → Off M W' → Ext (M ++ W) W W' → DatIn W' r (x.mv k).dat → Q r { s with heap := h', toks := tk' }) :
    wpAny (model PySem.Challenge.rw_xm0589_01.row.prog w) (ktrTop dp un gd cn cs L a ccd cl outer) (call (.ref 138) [v, .int k tk]) Q E s :=
  pure_use S (mrv_ok w (M ++ W) v x k tk (hv.mono fun _ h => List.mem_append_right _ h) hp) B F X N T hk hd hu O fun r W' d h' tk' F' N' O' e D _ hΦ => h r W' h' tk' F' N' O' e (by subst hΦ; exact D)
end
set_option hygiene false in
local macro_rules | `(tactic| walk_at "call ref") => `(tactic| (k_here; (with_reducible show wpAny _ _ (call (Value.ref 138) _) _ _ _); k_dflt (refine' mrv_use_at (h := ?_); k_whole); ktu_objs))
theorem off_p8_mst : True := by
  w_top off
  exact True.intro
set_option maxHeartbeats 16000000 in
theorem mst_asg (w : World) (W : Led) (v : Value) (y₀ : St) (k : Int) (tk : Tok) (hv : DatIn W v y₀.dat) (hp : y₀.small) (hx : ∃ (p : Plc), ∃ (x : Rv), y₀ = (St.asg p x)) : PureC w 145 5 [v, .int k tk] W (fun d => d = (y₀.mv k).dat) := by
  unfold PureC Call
  k_fill
  intro pr loose mean mg mb dp un gd cn cs a₀ ccd cl outer A₀ base h₀ L m s Q E B F X N T hk hd hu hret
  refine wpAny_call ?_
  k_dflt ktr_enter
  obtain ⟨p, x, rfl⟩ := hx
  obtain ⟨b₀, c₀, v1, v2, v3, rfl, hm, h1, h2, h3⟩ := d3' hv
  obtain ⟨t1, rfl⟩ := dStr h1
  obtain ⟨hp1, hp2⟩ := hp
  k_steps
  refine' pure_out (d := (St.mv k (.asg p x)).dat) hret ?F ?N ?S ?e ?D (St.fine _) rfl
  case F => assumption
  case N => assumption
  case S => tb_rel
  case e => ktr_rel
  case D => kqd_in
set_option maxHeartbeats 16000000 in
theorem mst_live (w : World) (W : Led) (v : Value) (y₀ : St) (k : Int) (tk : Tok) (hv : DatIn W v y₀.dat) (hp : y₀.small) (hx : ∃ (n : Int), y₀ = (St.live n)) : PureC w 145 5 [v, .int k tk] W (fun d => d = (y₀.mv k).dat) := by
  unfold PureC Call
  k_fill
  intro pr loose mean mg mb dp un gd cn cs a₀ ccd cl outer A₀ base h₀ L m s Q E B F X N T hk hd hu hret
  refine wpAny_call ?_
  k_dflt ktr_enter
  iterate 4 (have pad : True := trivial; clear pad)
  obtain ⟨n, rfl⟩ := hx
  obtain ⟨b₀, c₀, v1, v2, rfl, hm, h1, h2⟩ := d2' hv
  obtain ⟨t1, rfl⟩ := dStr h1
  obtain ⟨t2, rfl⟩ := dInt h2
  k_steps
  refine' pure_out (d := (St.mv k (.live n)).dat) hret ?F ?N ?S ?e ?D (St.fine _) rfl
  case F => assumption
  case N => assumption
  case S => tb_rel
  case e => ktr_rel
  case D => kqd_in
set_option maxHeartbeats 16000000 in
theorem mst_dead (w : World) (W : Led) (v : Value) (y₀ : St) (k : Int) (tk : Tok) (hv : DatIn W v y₀.dat) (hp : y₀.small) (hx : ∃ (n : Int), y₀ = (St.dead n)) : PureC w 145 5 [v, .int k tk] W (fun d => d = (y₀.mv k).dat) := by
  unfold PureC Call
  k_fill
  intro pr loose mean mg mb dp un gd cn cs a₀ ccd cl outer A₀ base h₀ L m s Q E B F X N T hk hd hu hret
  refine wpAny_call ?_
  k_dflt ktr_enter
  iterate 4 (have pad : True := trivial; clear pad)
  obtain ⟨n, rfl⟩ := hx
  obtain ⟨b₀, c₀, v1, v2, rfl, hm, h1, h2⟩ := d2' hv
  obtain ⟨t1, rfl⟩ := dStr h1
  obtain ⟨t2, rfl⟩ := dInt h2
  k_steps
  refine' pure_out (d := (St.mv k (.dead n)).dat) hret ?F ?N ?S ?e ?D (St.fine _) rfl
  case F => assumption
  case N => assumption
  case S => tb_rel
  case e => ktr_rel
  case D => kqd_in
set_option maxHeartbeats 16000000 in
theorem mst_prt (w : World) (W : Led) (v : Value) (y₀ : St) (k : Int) (tk : Tok) (hv : DatIn W v y₀.dat) (hp : y₀.small) (hx : ∃ (a : Opd), y₀ = (St.prt a)) : PureC w 145 5 [v, .int k tk] W (fun d => d = (y₀.mv k).dat) := by
  unfold PureC Call
  k_fill
  intro pr loose mean mg mb dp un gd cn cs a₀ ccd cl outer A₀ base h₀ L m s Q E B F X N T hk hd hu hret
  refine wpAny_call ?_
  k_dflt ktr_enter
  iterate 8 (have pad : True := trivial; clear pad)
  obtain ⟨a, rfl⟩ := hx
  obtain ⟨b₀, c₀, v1, v2, rfl, hm, h1, h2⟩ := d2' hv
  obtain ⟨t1, rfl⟩ := dStr h1
  unfold St.small at hp
  k_steps
  refine' pure_out (d := (St.mv k (.prt a)).dat) hret ?F ?N ?S ?e ?D (St.fine _) rfl
  case F => assumption
  case N => assumption
  case S => tb_rel
  case e => ktr_rel
  case D => kqd_in
set_option maxHeartbeats 16000000 in
theorem mst_nop (w : World) (W : Led) (v : Value) (y₀ : St) (k : Int) (tk : Tok) (hv : DatIn W v y₀.dat) (hp : y₀.small) (hx : y₀ = (St.nop)) : PureC w 145 5 [v, .int k tk] W (fun d => d = (y₀.mv k).dat) := by
  unfold PureC Call
  k_fill
  intro pr loose mean mg mb dp un gd cn cs a₀ ccd cl outer A₀ base h₀ L m s Q E B F X N T hk hd hu hret
  refine wpAny_call ?_
  k_dflt ktr_enter
  iterate 14 (have pad : True := trivial; clear pad)
  obtain rfl := hx
  obtain ⟨b₀, c₀, v1, rfl, hm, h1⟩ := d1' hv
  obtain ⟨t1, rfl⟩ := dStr h1
  k_steps
  refine' pure_out (d := (St.mv k (.nop)).dat) hret ?F ?N ?S ?e ?D (St.fine _) rfl
  case F => assumption
  case N => assumption
  case S => tb_rel
  case e => ktr_rel
  case D => exact DatIn.mono (fun _ h => mem_t h) hv
theorem mst_ok (w : World) (W : Led) (v : Value) (x : St) (k : Int) (tk : Tok) (hv : DatIn W v x.dat) (hp : x.small) : PureC w 145 5 [v, .int k tk] W (fun d => d = (x.mv k).dat) := by
  cases x with
  | asg p x => exact mst_asg w W v _ k tk hv hp ⟨_, _, rfl⟩
  | live n => exact mst_live w W v _ k tk hv hp ⟨_, rfl⟩
  | dead n => exact mst_dead w W v _ k tk hv hp ⟨_, rfl⟩
  | prt a => exact mst_prt w W v _ k tk hv hp ⟨_, rfl⟩
  | nop => exact mst_nop w W v _ k tk hv hp rfl
section
variable {w : World} {p : Program} {loose : List Str} {mean : ExcName → Option Value} {mg mb : Str → Option Value} {dp un : Nat} {gd : Option (List Code)} {cn : Str} {cs : Scope} {a : Addr} {ccd : Value} {cl : List (Str × Addr)} {outer : List Env} {A₀ : Around} {base h₀ : Heap} {L : Addr} {m : Str → Option Value} {s : Shared} {Q E : Value → Shared → Prop}
  {news M W : Led} {v : Value} {x : St} {k : Int} {tk : Tok}
theorem mst_use (F : Fr h₀ L s.heap m := by k_asm) (N : News h₀ L s.heap news := by k_asm) (S : Split news M W := by tb_rel) (hv : DatIn W v x.dat := by ktd_rel) (hp : x.small := by first | with_reducible assumption | exact St.small_mv (by with_reducible assumption)) (B : Below A₀ base outer h₀ := by k_asm) (X : (hd.heap_1 w.params).In h₀ := by k_asm) (T : Top p loose mean mg mb h₀ := by k_asm) (hk : cs.kind = .function := by first | exact rfl | assumption) (hd : dp + 5 < recursionLimit := by ktr_room) (hu : un + 8 * 5 + 64 < cLine := by ktr_units) (O : Off M W := by tb_rel) (h : ∀ r W' h' tk', Fr h₀ L h' m → News h₀ L h' (M ++ W') → Off M W' → Ext (M ++ W) W W' → DatIn W' r (x.mv k).dat → Q r { s with heap := h', toks := tk' }) :
    wpAny (model PySem.Challenge.rw_xm0589_01.row.prog w) (ktrTop dp un gd cn cs L a ccd cl outer) (call (.ref 145) [v, .int k tk]) Q E s :=
  pure_use S (mst_ok w (M ++ W) v x k tk (hv.mono fun _ h => List.mem_append_right _ h) hp) B F X N T hk hd hu O fun r W' d h' tk' F' N' O' e D _ hΦ => h r W' h' tk' F' N' O' e (by subst hΦ; exact D)
end
/-! ## ends -/
inductive Tm where
  | sw (a : Opd) (rows : List (Int × Int)) (last : Option Int)
  | goto (n : Int)
  | drop (p : Plc) (n : Int)
  | asrt (a : Opd) (n : Int)
  | ret
  | pan
  | unr
noncomputable def rowD (r : Int × Int) : Dat := .tuple [.int r.1, .int r.2]
noncomputable def lastD : Option Int → Dat
  | none => .none
  | some n => .int n
noncomputable def Tm.dat : Tm → Dat
  | .sw a rows last => .tuple [dS "switch", a.dat, .tuple (rows.map rowD), lastD last]
  | .goto n => .tuple [dS "goto", .int n]
  | .drop p n => .tuple [dS "drop", p.dat, .int n]
  | .asrt a n => .tuple [dS "assert", a.dat, .bool true, dS "no", .int n]
  | .ret => .tuple [dS "return"]
  | .pan => .tuple [dS "panic", dS "no"]
  | .unr => .tuple [dS "unreachable"]
noncomputable def rowMv (b : Int) (r : Int × Int) : Int × Int := (r.1, r.2 + b)
noncomputable def Tm.mv (k b : Int) : Tm → Tm
  | .sw a rows last => .sw (a.mv k) (rows.map (rowMv b)) (last.map (· + b))
  | .goto n => .goto (n + b)
  | .drop p n => .drop (p.mv k) (n + b)
  | .asrt a n => .asrt (a.mv k) (n + b)
  | x => x
noncomputable def Tm.small : Tm → Prop
  | .sw a rows _ => a.small ∧ rows.length ≤ 2
  | .drop p _ => p.small
  | .asrt a _ => a.small
  | _ => True
theorem lastD_ok {n : Nat} (l : Option Int) : okD n (lastD l) = true := by
  cases l with
  | none => exact okN
  | some i => exact okI
theorem Tm.ok (x : Tm) : okD 5 x.dat = true := by
  have s : ∀ {x : Str}, PyData.strOk x = true → okD 4 (.str x) = true := okS
  cases x with
  | sw a rows last =>
    refine ok4 (s (by decide +kernel)) a.ok (okD_tuple.mpr fun d hd => ?_) (lastD_ok last)
    obtain ⟨r, _, rfl⟩ := List.mem_map.mp hd
    exact ok2 okI okI
  | goto n => exact ok2 (s (by decide +kernel)) okI
  | drop p n => exact ok3 (s (by decide +kernel)) (okD_up p.ok) okI
  | asrt a n => exact ok5 (s (by decide +kernel)) a.ok okB (s (by decide +kernel)) okI
  | ret => exact ok1 (s (by decide +kernel))
  | pan => exact ok2 (s (by decide +kernel)) (s (by decide +kernel))
  | unr => exact ok1 (s (by decide +kernel))
theorem Tm.fine (x : Tm) : Mine.fine x.dat := okD_le (by decide) x.ok
/-! ## the table of a def's lambdas -/
inductive Tab (q : Str) (pos : Pos) (W : Led) : Obj → Prop
  | fresh : Tab q pos W (tabObj #[])
  | made {c : Addr} {oc : Obj} {vs : Array Value} {t : Tok} (hm : (c, oc) ∈ W) (hd : oc.data = .fields vs) (hv : vs[1]? = some (.str q t)) : Tab q pos W (tabObj (#[] ++ #[rawInt pos.line, rawInt pos.col, .ref c]))
theorem Tab.mono {q : Str} {pos : Pos} {W W' : Led} {t : Obj} (h : Tab q pos W t) (s : ∀ p ∈ W, p ∈ W') : Tab q pos W' t := by
  cases h with
  | fresh => exact .fresh
  | made hm hd hv => exact .made (s _ hm) hd hv
section
variable {M : Model} {A : Around} {E : Value → Shared → Prop} {s : Shared} {h₀ : Heap} {L a c P : Addr} {m mg mb : Str → Option Value} {cn : Str} {cs : Scope} {ccd : Value} {cl : List (Str × Addr)} {news M₀ W : Led} {t : Obj}
  {p : Program} {loose : List Str} {mean : ExcName → Option Value} {name qual : Str} {params : Arguments} {body : Expr} {scope : Scope} {pos : Pos} {firstLine : Nat} {clos : List (Str × Addr)}
theorem lam_rule {Q : Value → Shared → Prop} (F : Fr h₀ L s.heap m := by k_asm) (N : News h₀ L s.heap news := by k_asm) (T : Top p loose mean mg mb h₀ := by k_asm) (hcd : ccd = .ref c := by exact rfl) (C : CodeHd h₀ c P := by kn_code) (S : PickA P t news M₀ W := by tb_rel) (hT : Tab qual pos W t := by assumption) (hM : ∀ p ∈ M₀, p.1 ≠ P := by k_all) (hW : ∀ p ∈ W, p.1 ≠ P := by k_all) (O : Off M₀ W := by tb_rel)
    (hcl : closureFor scope (envX cn cs L a ccd cl) = pure clos := by exact rfl)
    (h : ∀ f c' oc vs tt ct t' W' h' tk, Fr h₀ L h' m → News h₀ L h' ((f, kla_obj name qual params body scope clos ((mg "__name__").getD .none) c' ct) :: (P, t') :: (M₀ ++ W')) → Tab qual pos W' t' → (c', oc) ∈ W' → oc.data = .fields vs → vs[1]? = some (.str qual tt) →
      Off M₀ W' → (∀ p ∈ W', p.1 ≠ P) → Ext ((P, t) :: (M₀ ++ W)) W W' → @LT.lt Nat _ P f → AllLt f (M₀ ++ W') → Q (.ref f) { s with heap := h', toks := tk }) :
    wpAny M A (makeFunction name qual params (.expr body) scope (envX cn cs L a ccd cl) [] [] [] pos firstLine) Q E s := by
  have N₁ : News h₀ L s.heap ((P, t) :: (M₀ ++ W)) := fun q hq => N q ((S.mem q).mpr hq)
  have off : ∀ q ∈ M₀ ++ W, q.1 ≠ P := fun q hq => (List.mem_append.mp hq).elim (hM q) (hW q)
  cases hT with
  | fresh =>
    refine kla_nest F N₁ T C hcd (UpdF.head off) True.intro rfl hcl fun f c' oc vs tt ctv h' tk F' N' hd hv hlt hcf => ?_
    have hPc : @LT.lt Nat _ P c' := hlt _ (.head _)
    have hlt' : ∀ q ∈ M₀ ++ W, @LT.lt Nat _ q.1 c' := fun q hq => hlt q (.tail _ hq)
    have e : Ext ((P, tabObj #[]) :: (M₀ ++ W)) W ((c', oc) :: W) := Ext.refl.cons fun q hq => by
      rcases List.mem_cons.mp hq with rfl | hq
      · exact hPc
      · exact hlt' q hq
    refine h f c' oc vs tt ctv _ ((c', oc) :: W) h' tk F' (fun q hq => N' q ?_) (.made (.head _) hd hv) (.head _) hd hv ?_ ?_ e (Nat.lt_trans hPc hcf) (allLt_of fun q hq => ?_)
    · simp only [List.mem_cons, List.mem_append] at hq ⊢
      rcases hq with hq | hq | hq | hq | hq <;> simp [hq]
    · intro q hq r hr
      rcases List.mem_cons.mp hr with rfl | hr
      · exact Nat.ne_of_gt (hlt' q (List.mem_append_left _ hq))
      · exact O q hq r hr
    · intro r hr
      rcases List.mem_cons.mp hr with rfl | hr
      · exact Nat.ne_of_gt hPc
      · exact hW r hr
    · rcases List.mem_append.mp hq with hq | hq
      · exact Nat.lt_trans (hlt' q (List.mem_append_left _ hq)) hcf
      · rcases List.mem_cons.mp hq with rfl | hq
        · exact hcf
        · exact Nat.lt_trans (hlt' q (List.mem_append_right _ hq)) hcf
  | @made c' oc vs tt hm hd hv =>
    refine kla_hit (c' := c') F N₁ T C hcd (.head _) (by simp [TriplesOk, rawInt]) (by simp [codeAmong, rawInt]) hcl fun f ctv h' tk F' N' hlt => ?_
    exact h f c' oc vs tt ctv _ W h' tk F' N' (.made hm hd hv) hm hd hv O hW Ext.refl (hlt _ (.head _)) (allLt_of fun q hq => hlt q (.tail _ hq))
end
abbrev lamQ : Str := Str.ofString "moved_terminator" ++ Str.ofString ".<locals>." ++ Str.ofString "<lambda>"
abbrev lamPos : Pos := ⟨104, 34, 104, 62⟩
abbrev Tab0 (W : Led) (t : Obj) : Prop := Tab lamQ lamPos W t
noncomputable def CallT (w : World) (f : Addr) (n : Nat) (vs : List Value) (I : Led) (post : Value → Led → Prop) : Prop :=
  ∀ (p : Program) (loose : List Str) (mean : ExcName → Option Value) (mg mb : Str → Option Value) (dp un : Nat) (gd : Option (List Code)) (cn : Str) (cs : Scope) (a : Addr) (ccd : Value) (cl : List (Str × Addr)) (outer : List Env) (A₀ : Around) (base h₀ : Heap) (L : Addr) (m : Str → Option Value) (s : Shared) (Q E : Value → Shared → Prop),
    CodeHd h₀ 151 147 → Below A₀ base outer h₀ → Fr h₀ L s.heap m → (hd.heap_1 w.params).In h₀ → News h₀ L s.heap I → Top p loose mean mg mb h₀ → cs.kind = .function → dp + n < recursionLimit → un + 8 * n + 64 < cLine →
    (∀ r J h' tk', Fr h₀ L h' m → News h₀ L h' J → post r J → Q r { s with heap := h', toks := tk' }) →
    wpAny (model PySem.Challenge.rw_xm0589_01.row.prog w) (ktrTop dp un gd cn cs L a ccd cl outer) (call (.ref f) vs) Q E s
noncomputable def TabC (w : World) (f : Addr) (n : Nat) (vs : List Value) (t : Obj) (W : Led) (Φ : Dat → Prop) : Prop :=
  CallT w f n vs ((147, t) :: W) fun r J => ∃ t' W' d, J = (147, t') :: W' ∧ Tab0 W' t' ∧ Ext ((147, t) :: W) W W' ∧ DatIn W' r d ∧ fine d ∧ Φ d
section
variable {W W' M news : Led} {h₀ h' : Heap} {L : Addr} {t t' : Obj} {m : Str → Option Value} {s : Shared} {Q : Value → Shared → Prop} {Φ : Dat → Prop} {r : Value} {tk' : Nat} {d : Dat}
theorem tab_out (hret : ∀ r J h' tk', Fr h₀ L h' m → News h₀ L h' J → (∃ t' W' d, J = (147, t') :: W' ∧ Tab0 W' t' ∧ Ext ((147, t) :: W) W W' ∧ DatIn W' r d ∧ fine d ∧ Φ d) → Q r { s with heap := h', toks := tk' }) (F : Fr h₀ L h' m) (N : News h₀ L h' news)
    (S : PickA 147 t' news M W') (hT : Tab0 W' t') (e : Ext ((147, t) :: W) W W') (D : DatIn W' r d) (hf : fine d) (hΦ : Φ d) : Q r { s with heap := h', toks := tk' } :=
  hret r _ h' tk' F (fun p hp => N p ((S.mem p).mpr (by
    rcases List.mem_cons.mp hp with rfl | hp
    · exact .head _
    · exact .tail _ (List.mem_append_right _ hp)))) ⟨t', W', d, rfl, hT, e, D, hf, hΦ⟩
end
section
variable {prog : Program} {w : World} {A : Around} {E : Value → Shared → Prop} {s : Shared} {h₀ : Heap} {L : Addr} {m : Str → Option Value} {news : Led}
theorem slice_tuple_two {value slice : Expr} {t : Addr} {vs zs : List Value} {c : Nat} {u : Tok} {Q : Value → Shared → Prop} (F : Fr h₀ L s.heap m := by k_asm) (N : News h₀ L s.heap news := by k_asm) (hm : (t, tup (List.toArray vs) c) ∈ news := by k_mem) (hb : 2 ≤ vs.length := by exact Nat.le_of_ble_eq_true rfl) (hz : vs.length ≤ 1000 := by exact Nat.le_of_ble_eq_true rfl) (e : vs.drop 2 = zs := by exact rfl) (h : ∀ D h', Fr h₀ L h' m → News h₀ L h' ((D, tup (List.toArray zs) 0) :: news) → (∀ p ∈ news, p.1 < D) → Q (.ref D) { s with heap := h' }) (hs : subscripted slice false (.ref t) (.ref s.heap.objs.size) = operate [.ref s.heap.objs.size, .ref t] (getItem (.ref t) (.ref s.heap.objs.size)) := by with_unfolding_all rfl) (hg : ∀ r, letTemporaryGo value (.ref t) r = pure () := by (intro _; with_unfolding_all rfl)) :
    wpAny (model prog w) A (subscriptTail value slice (.ref t) (.ref s.heap.objs.size)) Q E { s with heap := s.heap.push { cls := .type "slice", data := .fields #[.int 2 u, .none, .none] } } := by
  subst e
  exact slice_tuple_from (a := 2) F N (N.isTup hm) (by decide) (by simpa using hb) (fun h' F' N' => h _ h' F' N' fun p hp => Nat.lt_succ_of_lt (Heap.lt_size (N p hp).1)) hs hg (by rw [sizeLine_eq, List.size_toArray]; omega)
end
/-! ## the rows of a switch, each turned -/
section
open PySem.Spec PyProof.Rows.LCg PyProof.Rows.LCp
variable {prog : Program} {w : World} {A : Around} {s₁ : Shared} {h₀ : Heap} {L : Addr} {m : Str → Option Value} {env : Env}
noncomputable def RowEnd (h₀ : Heap) (L : Addr) (m : Str → Option Value) (old W' : Led) (d : Dat) (s : Shared) (y : Value) (s₂ : Shared) : Prop :=
  ∃ D' o' h' tk', s₂ = { s with heap := h', toks := tk' } ∧ Fr h₀ L h' m ∧ News h₀ L h' ((D', o') :: old) ∧ AllLt D' old ∧ y = .ref D' ∧ DatIn ((D', o') :: W') y d
theorem rows_src {p1 p2 p3 p4 : Addr × Obj} {W₀ W9 : Led} {ax : Addr} {c : Nat} {items : List Value} {rows : List (Int × Int)} {elt : Expr} {x x₂ : Str} {scope : Scope} {cl : List (Str × Addr)} {Q : Value → Shared → Prop} (g : Int × Int → Dat)
    (hh : A.handled = none) (F : Fr h₀ L s₁.heap m) (N : News h₀ L s₁.heap (p1 :: p2 :: p3 :: p4 :: W9)) (hm : (ax, tup (List.toArray items) c) ∈ W9) (hall : DatAll W₀ items (rows.map rowD)) (hsub : ∀ p ∈ W₀, p ∈ W9) (hlen : rows.length ≤ 1000) (hoff : Off [p1, p2, p3, p4] W9)
    (step : ∀ (r : Int × Int) t nt t₁ t₂ W' ys I oI C oC D m₂ h tk (E' : Value → Shared → Prop), (t, tup #[.int r.1 t₁, .int r.2 t₂] nt) ∈ W' → Ext ([p1, p2, p3, p4] ++ W9) W9 W' → Off [p1, p2, p3, p4] W' → NT oI → NsObj oC m₂ → m₂ x = some (.int r.1 t₁) → m₂ x₂ = some (.int r.2 t₂) →
      Fr h₀ L h m → News h₀ L h ((I, oI) :: (C, oC) :: (D, lst ys) :: p1 :: p2 :: p3 :: p4 :: W') → Off3 I C D (p1 :: p2 :: p3 :: p4 :: W') → ((@Ne Nat I C) ∧ (@Ne Nat I D) ∧ (@Ne Nat C D)) →
      wpAny (model prog w) A (eval elt (compEnvC scope cl C env)) (RowEnd h₀ L m ((I, oI) :: (C, oC) :: (D, lst ys) :: p1 :: p2 :: p3 :: p4 :: W') W' (g r) { s₁ with heap := h, toks := tk }) E' { s₁ with heap := h, toks := tk })
    (fin : ∀ W' ys D h tk, Ext ([p1, p2, p3, p4] ++ W9) W9 W' → Off [p1, p2, p3, p4] W' → DatAll W' ys (rows.map g) → ys.length ≤ 1000 → Fr h₀ L h m → News h₀ L h ((D, lst ys) :: p1 :: p2 :: p3 :: p4 :: W') → Off1 D (p1 :: p2 :: p3 :: p4 :: W') → Q (.ref D) { s₁ with heap := h, toks := tk }) :
    PairSrc prog w A h₀ L m env elt x x₂ scope cl Q (.ref ax) s₁ := by
  have hlen2 := hall.length
  rw [List.length_map] at hlen2
  refine ⟨ax, items, c, _, fun i ys nx => ∃ W', nx = p1 :: p2 :: p3 :: p4 :: W' ∧ Ext (p1 :: p2 :: p3 :: p4 :: W9) W9 W' ∧ Off [p1, p2, p3, p4] W' ∧ DatAll W' ys ((rows.take i).map g), rfl, hh, F, N, by omega, ⟨W9, rfl, Ext.refl, hoff, .nil⟩, ?_, ?_, ?_⟩
  · rintro i ys nx ⟨W', rfl, e, _⟩
    exact mem_t (mem_t (mem_t (mem_t (e.mem hm))))
  · rintro i ys nx v ⟨W', rfl, e, O, hys⟩ hv
    obtain ⟨d, hd, hD⟩ := datAll_at hall hv
    rw [List.getElem?_map] at hd
    obtain ⟨r, hr, rfl⟩ := Option.map_eq_some_iff.mp hd
    obtain ⟨t, nt, v1, v2, rfl, hmt, h1, h2⟩ := d2' hD
    obtain ⟨t1, rfl⟩ := dInt h1
    obtain ⟨t2, rfl⟩ := dInt h2
    have hmt' := e.mem (hsub _ hmt)
    refine ⟨t, _, _, nt, rfl, mem_t (mem_t (mem_t (mem_t hmt'))), fun I oI C oC D m₂ h tk E' hNT hC hx hx₂ F' N' off ne => ?_⟩
    refine wpAny_mono (step r t nt t1 t2 W' ys I oI C oC D m₂ h tk E' hmt' e O hNT hC hx hx₂ F' N' off ne) (fun y s₂ q => ?_) fun _ _ e => e
    obtain ⟨D', o', h', tk', rfl, F₂, N₂, lt, rfl, hy⟩ := q
    have lt2 := tb_ltOf lt
    have oI' := lt2 (I, oI) (.head _)
    have oC' := lt2 (C, oC) (.tail _ (.head _))
    have oD' := lt2 (D, lst ys) (.tail _ (.tail _ (.head _)))
    obtain ⟨f1, f2, f3, f4, f5⟩ := off
    refine CompEnd.intro F₂ N₂ (p1 :: p2 :: p3 :: p4 :: (D', o') :: W') ?_ ⟨f1, f2, f3, f4, ⟨Nat.ne_of_gt oI', Nat.ne_of_gt oC', Nat.ne_of_gt oD'⟩, f5⟩ True.intro ⟨(D', o') :: W', rfl, e.cons fun q hq => ?_, ?_, ?_⟩
    · intro p hp
      simp only [List.mem_cons] at hp ⊢
      rcases hp with hp | hp | hp | hp | hp | hp | hp | hp | hp <;> simp [hp]
    · simp only [List.mem_cons] at hq
      rcases hq with rfl | rfl | rfl | rfl | hq
      · exact lt2 _ (by simp)
      · exact lt2 _ (by simp)
      · exact lt2 _ (by simp)
      · exact lt2 _ (by simp)
      · exact lt2 q (by simp [e.mem hq])
    · intro q hq p hp
      rcases List.mem_cons.mp hp with rfl | hp
      · refine Nat.ne_of_gt (lt2 q ?_)
        simp only [List.mem_cons, List.not_mem_nil, or_false] at hq ⊢
        rcases hq with hq | hq | hq | hq <;> simp [hq]
      · exact O q hq p hp
    · rw [List.take_add_one, hr, List.map_append]
      exact DatAll.append (hys.mono fun _ h => mem_t h) (DatAll.one hy)
  · rintro ys nx ⟨W', rfl, e, O, hys⟩ D h tk F' N' o1
    rw [hlen2, List.take_length] at hys
    have hyl := hys.length
    rw [List.length_map] at hyl
    exact fin W' ys D h tk e O hys (by omega) F' N' o1
end
theorem off1_mem {D : Addr} : ∀ {l : Led}, LCg.Off1 D l → ∀ p ∈ l, p.1 ≠ D
  | [], _, _, h => nomatch h
  | _ :: _, x, p, h => by
    rcases List.mem_cons.mp h with rfl | h
    · exact x.1
    · exact off1_mem x.2 p h
theorem off_p10_mtm : True := by
  w_top off
  exact True.intro
section
-- a lambda of the call's own
set_option hygiene false in
local macro_rules | `(tactic| walk_at "call ref") => `(tactic| (k_here; kn_here; k_dflt (refine wpAny_call ?_; kla_enter)))
set_option hygiene false in
local macro_rules | `(tactic| walk_at "subscriptTail Name Slice ref ref") => `(tactic| (k_here; (with_reducible show wpAny _ _ (subscriptTail _ (PySem.Expr.Slice (some _) none none _) (Value.ref _) (Value.ref _)) _ _ _); k_dflt (refine' slice_tuple_two (h := ?_); k_whole); kst_same))
local macro_rules | `(tactic| walk_at "eval Lambda") => `(tactic| (k_here; kn_here; k_dflt (refine' kla_eval (by exact rfl) ?_); k_dflt (refine' lam_rule (h := ?_); k_whole); intros; (rename News _ _ _ _ => N9); (rename AllLt _ _ => l9); (try simp only [List.nil_append, List.cons_append] at N9 l9); (try simp only [AllLt, and_true] at l9); (try dsimp only); (try k_sweep)))
set_option hygiene false in
local macro_rules | `(tactic| walk_at "eval ListComp") => `(tactic| (k_here; k_dflt (refine pairs_T (by k_asm) (by with_unfolding_all rfl) (by decide) (by rfl) (by decide) (by rfl) (by rfl) (by decide) ?_)))
set_option maxHeartbeats 16000000 in
theorem mtm_sw0 (w : World) (W : Led) (t : Obj) (v : Value) (y₀ : Tm) (k b : Int) (tk tb : Tok) (hT : Tab0 W t) (hW : ∀ p ∈ W, p.1 ≠ 147) (hv : DatIn W v y₀.dat) (hp : y₀.small) (hx : ∃ (a : Opd), ∃ (rows : List (Int × Int)), y₀ = ((.sw a rows none) : Tm)) : TabC w 152 5 [v, .int k tk, .int b tb] t W (fun d => d = (Tm.mv k b y₀).dat) := by
  unfold TabC CallT
  k_fill
  intro pr loose mean mg mb dp un gd cn cs a₀ ccd cl outer A₀ base h₀ L m s Q E hC B F X N T hk hd hu hret
  refine wpAny_call ?_
  k_dflt (refine' code_defC ?k1 ?k2 ?k3 ?k4 ?k5 ?kA ?kF ?kK ?k6 ?k7 ?k8 ?k9 ?kB ?kD ?_ ?c2 ?c3 ?c4; (case kA | kF => exact rfl); (case kK => assumption); (case k1 | k2 | k3 | k4 | k5 => k_asm); (case k6 | k7 => k_is); (case k8 => ktr_room); (case k9 => exact BindsTo.of_eq rfl); (case kB | c2 | c3 | c4 => exact rfl); (case kD => decide +kernel); k_whole; intro _ _ _ _ _ _ _ N' Y' _ _ _ l1; k_cells Y'; (try simp only [List.cons_append, List.nil_append] at N'); (try k_lt l1); (try dsimp only); (try k_fold))
  (rename Fr h₀ L _ m => FG0)
  have hC' := hC.keeps FG0.keep
  iterate 4 (have pad : True := trivial; clear pad)
  obtain ⟨a, rows, rfl⟩ := hx
  obtain ⟨b₀, c₀, v1, v2, v3, v4, rfl, hm, h1, h2, h3, h4⟩ := d4' hv
  obtain ⟨t1, rfl⟩ := dStr h1
  obtain ⟨b₁, items, c₁, rfl, hm1, hall⟩ := dTup h3
  obtain rfl := dNone h4
  obtain ⟨hp, hrl⟩ := hp
  k_steps
  refine' rows_src (fun r => rowD (rowMv b r)) rfl ?F ?N ?hm ?hall ?hsub ?hlen ?hoff ?step ?fin
  case F => assumption
  case N => assumption
  case hm => k_mem
  case hall => exact hall
  case hsub => exact Ext.sub (by assumption)
  case hlen => omega
  case hoff => tb_rel
  case step =>
    intro r t nt t₁ t₂ W8 ys I oI C oC D m₂ h8 tk8 E' hmt e8 O8 hNT hC2 hx hx₂ F8 N8 off8 ne8
    k_steps
    exact ⟨_, _, _, _, rfl, by assumption, by assumption, by tbn_lt, rfl, .tuple mem_h (.cons (.int _ _) (.cons (.int _ _) .nil))⟩
  case fin =>
  intro W8 ys D h8 tk8 e8 O8 hys hyl F8 N8 o8
  have hys2 : DatAll W8 ys ((rows.map (rowMv b)).map rowD) := by rw [List.map_map]; exact hys
  clear hys
  obtain ⟨o81, o82, o83, o84, o85⟩ := o8
  have o86 := off1_mem o85
  k_steps
  refine' tab_out (d := (Tm.mv k b (.sw a rows none)).dat) hret ?F ?N ?S ?hT ?e ?D (Tm.fine _) rfl
  case F => assumption
  case N => assumption
  case S => tb_rel
  case hT => exact Tab.mono (by assumption) (fun p hp => by k_mem)
  case e => ktr_rel
  case D => kqd_in
set_option maxHeartbeats 16000000 in
theorem mtm_sw1 (w : World) (W : Led) (t : Obj) (v : Value) (y₀ : Tm) (k b : Int) (tk tb : Tok) (hT : Tab0 W t) (hW : ∀ p ∈ W, p.1 ≠ 147) (hv : DatIn W v y₀.dat) (hp : y₀.small) (hx : ∃ (a : Opd), ∃ (rows : List (Int × Int)), ∃ (z : Int), y₀ = ((.sw a rows (some z)) : Tm)) : TabC w 152 5 [v, .int k tk, .int b tb] t W (fun d => d = (Tm.mv k b y₀).dat) := by
  unfold TabC CallT
  k_fill
  intro pr loose mean mg mb dp un gd cn cs a₀ ccd cl outer A₀ base h₀ L m s Q E hC B F X N T hk hd hu hret
  refine wpAny_call ?_
  k_dflt (refine' code_defC ?k1 ?k2 ?k3 ?k4 ?k5 ?kA ?kF ?kK ?k6 ?k7 ?k8 ?k9 ?kB ?kD ?_ ?c2 ?c3 ?c4; (case kA | kF => exact rfl); (case kK => assumption); (case k1 | k2 | k3 | k4 | k5 => k_asm); (case k6 | k7 => k_is); (case k8 => ktr_room); (case k9 => exact BindsTo.of_eq rfl); (case kB | c2 | c3 | c4 => exact rfl); (case kD => decide +kernel); k_whole; intro _ _ _ _ _ _ _ N' Y' _ _ _ l1; k_cells Y'; (try simp only [List.cons_append, List.nil_append] at N'); (try k_lt l1); (try dsimp only); (try k_fold))
  (rename Fr h₀ L _ m => FG0)
  have hC' := hC.keeps FG0.keep
  obtain ⟨a, rows, z, rfl⟩ := hx
  obtain ⟨b₀, c₀, v1, v2, v3, v4, rfl, hm, h1, h2, h3, h4⟩ := d4' hv
  obtain ⟨t1, rfl⟩ := dStr h1
  obtain ⟨b₁, items, c₁, rfl, hm1, hall⟩ := dTup h3
  obtain ⟨t4, rfl⟩ := dInt h4
  obtain ⟨hp, hrl⟩ := hp
  k_steps
  refine' rows_src (fun r => rowD (rowMv b r)) rfl ?F ?N ?hm ?hall ?hsub ?hlen ?hoff ?step ?fin
  case F => assumption
  case N => assumption
  case hm => k_mem
  case hall => exact hall
  case hsub => exact Ext.sub (by assumption)
  case hlen => omega
  case hoff => tb_rel
  case step =>
    intro r t nt t₁ t₂ W8 ys I oI C oC D m₂ h8 tk8 E' hmt e8 O8 hNT hC2 hx hx₂ F8 N8 off8 ne8
    k_steps
    exact ⟨_, _, _, _, rfl, by assumption, by assumption, by tbn_lt, rfl, .tuple mem_h (.cons (.int _ _) (.cons (.int _ _) .nil))⟩
  case fin =>
  intro W8 ys D h8 tk8 e8 O8 hys hyl F8 N8 o8
  have hys2 : DatAll W8 ys ((rows.map (rowMv b)).map rowD) := by rw [List.map_map]; exact hys
  clear hys
  obtain ⟨o81, o82, o83, o84, o85⟩ := o8
  have o86 := off1_mem o85
  k_steps
  refine' tab_out (d := (Tm.mv k b (.sw a rows (some z))).dat) hret ?F ?N ?S ?hT ?e ?D (Tm.fine _) rfl
  case F => assumption
  case N => assumption
  case S => tb_rel
  case hT => exact Tab.mono (by assumption) (fun p hp => by k_mem)
  case e => ktr_rel
  case D => kqd_in
set_option maxHeartbeats 16000000 in
theorem mtm_goto (w : World) (W : Led) (t : Obj) (v : Value) (y₀ : Tm) (k b : Int) (tk tb : Tok) (hT : Tab0 W t) (hW : ∀ p ∈ W, p.1 ≠ 147) (hv : DatIn W v y₀.dat) (hp : y₀.small) (hx : ∃ (n : Int), y₀ = ((.goto n) : Tm)) : TabC w 152 5 [v, .int k tk, .int b tb] t W (fun d => d = (Tm.mv k b y₀).dat) := by
  unfold TabC CallT
  k_fill
  intro pr loose mean mg mb dp un gd cn cs a₀ ccd cl outer A₀ base h₀ L m s Q E hC B F X N T hk hd hu hret
  refine wpAny_call ?_
  k_dflt (refine' code_defC ?k1 ?k2 ?k3 ?k4 ?k5 ?kA ?kF ?kK ?k6 ?k7 ?k8 ?k9 ?kB ?kD ?_ ?c2 ?c3 ?c4; (case kA | kF => exact rfl); (case kK => assumption); (case k1 | k2 | k3 | k4 | k5 => k_asm); (case k6 | k7 => k_is); (case k8 => ktr_room); (case k9 => exact BindsTo.of_eq rfl); (case kB | c2 | c3 | c4 => exact rfl); (case kD => decide +kernel); k_whole; intro _ _ _ _ _ _ _ N' Y' _ _ _ l1; k_cells Y'; (try simp only [List.cons_append, List.nil_append] at N'); (try k_lt l1); (try dsimp only); (try k_fold))
  (rename Fr h₀ L _ m => FG0)
  have hC' := hC.keeps FG0.keep
  iterate 26 (have pad : True := trivial; clear pad)
  obtain ⟨n, rfl⟩ := hx
  obtain ⟨b₀, c₀, v1, v2, rfl, hm, h1, h2⟩ := d2' hv
  obtain ⟨t1, rfl⟩ := dStr h1
  obtain ⟨t2, rfl⟩ := dInt h2
  k_steps
  refine' tab_out (d := (Tm.mv k b (.goto n)).dat) hret ?F ?N ?S ?hT ?e ?D (Tm.fine _) rfl
  case F => assumption
  case N => assumption
  case S => tb_rel
  case hT => exact Tab.mono (by assumption) (fun p hp => by k_mem)
  case e => ktr_rel
  case D => kqd_in
set_option maxHeartbeats 16000000 in
theorem mtm_drop (w : World) (W : Led) (t : Obj) (v : Value) (y₀ : Tm) (k b : Int) (tk tb : Tok) (hT : Tab0 W t) (hW : ∀ p ∈ W, p.1 ≠ 147) (hv : DatIn W v y₀.dat) (hp : y₀.small) (hx : ∃ (p : Plc), ∃ (n : Int), y₀ = ((.drop p n) : Tm)) : TabC w 152 5 [v, .int k tk, .int b tb] t W (fun d => d = (Tm.mv k b y₀).dat) := by
  unfold TabC CallT
  k_fill
  intro pr loose mean mg mb dp un gd cn cs a₀ ccd cl outer A₀ base h₀ L m s Q E hC B F X N T hk hd hu hret
  refine wpAny_call ?_
  k_dflt (refine' code_defC ?k1 ?k2 ?k3 ?k4 ?k5 ?kA ?kF ?kK ?k6 ?k7 ?k8 ?k9 ?kB ?kD ?_ ?c2 ?c3 ?c4; (case kA | kF => exact rfl); (case kK => assumption); (case k1 | k2 | k3 | k4 | k5 => k_asm); (case k6 | k7 => k_is); (case k8 => ktr_room); (case k9 => exact BindsTo.of_eq rfl); (case kB | c2 | c3 | c4 => exact rfl); (case kD => decide +kernel); k_whole; intro _ _ _ _ _ _ _ N' Y' _ _ _ l1; k_cells Y'; (try simp only [List.cons_append, List.nil_append] at N'); (try k_lt l1); (try dsimp only); (try k_fold))
  (rename Fr h₀ L _ m => FG0)
  have hC' := hC.keeps FG0.keep
  iterate 20 (have pad : True := trivial; clear pad)
  obtain ⟨p, n, rfl⟩ := hx
  obtain ⟨b₀, c₀, v1, v2, v3, rfl, hm, h1, h2, h3⟩ := d3' hv
  obtain ⟨t1, rfl⟩ := dStr h1
  obtain ⟨t3, rfl⟩ := dInt h3
  unfold Tm.small at hp
  k_steps
  refine' tab_out (d := (Tm.mv k b (.drop p n)).dat) hret ?F ?N ?S ?hT ?e ?D (Tm.fine _) rfl
  case F => assumption
  case N => assumption
  case S => tb_rel
  case hT => exact Tab.mono (by assumption) (fun p hp => by k_mem)
  case e => ktr_rel
  case D => kqd_in
set_option maxHeartbeats 16000000 in
theorem mtm_asrt (w : World) (W : Led) (t : Obj) (v : Value) (y₀ : Tm) (k b : Int) (tk tb : Tok) (hT : Tab0 W t) (hW : ∀ p ∈ W, p.1 ≠ 147) (hv : DatIn W v y₀.dat) (hp : y₀.small) (hx : ∃ (a : Opd), ∃ (n : Int), y₀ = ((.asrt a n) : Tm)) : TabC w 152 5 [v, .int k tk, .int b tb] t W (fun d => d = (Tm.mv k b y₀).dat) := by
  unfold TabC CallT
  k_fill
  intro pr loose mean mg mb dp un gd cn cs a₀ ccd cl outer A₀ base h₀ L m s Q E hC B F X N T hk hd hu hret
  refine wpAny_call ?_
  k_dflt (refine' code_defC ?k1 ?k2 ?k3 ?k4 ?k5 ?kA ?kF ?kK ?k6 ?k7 ?k8 ?k9 ?kB ?kD ?_ ?c2 ?c3 ?c4; (case kA | kF => exact rfl); (case kK => assumption); (case k1 | k2 | k3 | k4 | k5 => k_asm); (case k6 | k7 => k_is); (case k8 => ktr_room); (case k9 => exact BindsTo.of_eq rfl); (case kB | c2 | c3 | c4 => exact rfl); (case kD => decide +kernel); k_whole; intro _ _ _ _ _ _ _ N' Y' _ _ _ l1; k_cells Y'; (try simp only [List.cons_append, List.nil_append] at N'); (try k_lt l1); (try dsimp only); (try k_fold))
  (rename Fr h₀ L _ m => FG0)
  have hC' := hC.keeps FG0.keep
  iterate 6 (have pad : True := trivial; clear pad)
  obtain ⟨a, n, rfl⟩ := hx
  obtain ⟨b₀, c₀, v1, v2, v3, v4, v5, rfl, hm, h1, h2, h3, h4, h5⟩ := d5' hv
  obtain ⟨t1, rfl⟩ := dStr h1
  obtain rfl := dBool h3
  obtain ⟨t4, rfl⟩ := dStr h4
  obtain ⟨t5, rfl⟩ := dInt h5
  unfold Tm.small at hp
  k_steps
  refine' tab_out (d := (Tm.mv k b (.asrt a n)).dat) hret ?F ?N ?S ?hT ?e ?D (Tm.fine _) rfl
  case F => assumption
  case N => assumption
  case S => tb_rel
  case hT => exact Tab.mono (by assumption) (fun p hp => by k_mem)
  case e => ktr_rel
  case D => kqd_in
set_option maxHeartbeats 16000000 in
theorem mtm_ret (w : World) (W : Led) (t : Obj) (v : Value) (y₀ : Tm) (k b : Int) (tk tb : Tok) (hT : Tab0 W t) (hW : ∀ p ∈ W, p.1 ≠ 147) (hv : DatIn W v y₀.dat) (hp : y₀.small) (hx : y₀ = ((.ret) : Tm)) : TabC w 152 5 [v, .int k tk, .int b tb] t W (fun d => d = (Tm.mv k b y₀).dat) := by
  unfold TabC CallT
  k_fill
  intro pr loose mean mg mb dp un gd cn cs a₀ ccd cl outer A₀ base h₀ L m s Q E hC B F X N T hk hd hu hret
  refine wpAny_call ?_
  k_dflt (refine' code_defC ?k1 ?k2 ?k3 ?k4 ?k5 ?kA ?kF ?kK ?k6 ?k7 ?k8 ?k9 ?kB ?kD ?_ ?c2 ?c3 ?c4; (case kA | kF => exact rfl); (case kK => assumption); (case k1 | k2 | k3 | k4 | k5 => k_asm); (case k6 | k7 => k_is); (case k8 => ktr_room); (case k9 => exact BindsTo.of_eq rfl); (case kB | c2 | c3 | c4 => exact rfl); (case kD => decide +kernel); k_whole; intro _ _ _ _ _ _ _ N' Y' _ _ _ l1; k_cells Y'; (try simp only [List.cons_append, List.nil_append] at N'); (try k_lt l1); (try dsimp only); (try k_fold))
  (rename Fr h₀ L _ m => FG0)
  have hC' := hC.keeps FG0.keep
  iterate 36 (have pad : True := trivial; clear pad)
  obtain rfl := hx
  obtain ⟨b₀, c₀, v1, rfl, hm, h1⟩ := d1' hv
  obtain ⟨t1, rfl⟩ := dStr h1
  k_steps
  refine' tab_out (d := (Tm.mv k b (.ret)).dat) hret ?F ?N ?S ?hT ?e ?D (Tm.fine _) rfl
  case F => assumption
  case N => assumption
  case S => tb_rel
  case hT => exact Tab.mono (by assumption) (fun p hp => by k_mem)
  case e => ktr_rel
  case D => kqd_in
set_option maxHeartbeats 16000000 in
theorem mtm_pan (w : World) (W : Led) (t : Obj) (v : Value) (y₀ : Tm) (k b : Int) (tk tb : Tok) (hT : Tab0 W t) (hW : ∀ p ∈ W, p.1 ≠ 147) (hv : DatIn W v y₀.dat) (hp : y₀.small) (hx : y₀ = ((.pan) : Tm)) : TabC w 152 5 [v, .int k tk, .int b tb] t W (fun d => d = (Tm.mv k b y₀).dat) := by
  unfold TabC CallT
  k_fill
  intro pr loose mean mg mb dp un gd cn cs a₀ ccd cl outer A₀ base h₀ L m s Q E hC B F X N T hk hd hu hret
  refine wpAny_call ?_
  k_dflt (refine' code_defC ?k1 ?k2 ?k3 ?k4 ?k5 ?kA ?kF ?kK ?k6 ?k7 ?k8 ?k9 ?kB ?kD ?_ ?c2 ?c3 ?c4; (case kA | kF => exact rfl); (case kK => assumption); (case k1 | k2 | k3 | k4 | k5 => k_asm); (case k6 | k7 => k_is); (case k8 => ktr_room); (case k9 => exact BindsTo.of_eq rfl); (case kB | c2 | c3 | c4 => exact rfl); (case kD => decide +kernel); k_whole; intro _ _ _ _ _ _ _ N' Y' _ _ _ l1; k_cells Y'; (try simp only [List.cons_append, List.nil_append] at N'); (try k_lt l1); (try dsimp only); (try k_fold))
  (rename Fr h₀ L _ m => FG0)
  have hC' := hC.keeps FG0.keep
  iterate 28 (have pad : True := trivial; clear pad)
  obtain rfl := hx
  obtain ⟨b₀, c₀, v1, v2, rfl, hm, h1, h2⟩ := d2' hv
  obtain ⟨t1, rfl⟩ := dStr h1
  obtain ⟨t2, rfl⟩ := dStr h2
  k_steps
  refine' tab_out (d := (Tm.mv k b (.pan)).dat) hret ?F ?N ?S ?hT ?e ?D (Tm.fine _) rfl
  case F => assumption
  case N => assumption
  case S => tb_rel
  case hT => exact Tab.mono (by assumption) (fun p hp => by k_mem)
  case e => ktr_rel
  case D => kqd_in
set_option maxHeartbeats 16000000 in
theorem mtm_unr (w : World) (W : Led) (t : Obj) (v : Value) (y₀ : Tm) (k b : Int) (tk tb : Tok) (hT : Tab0 W t) (hW : ∀ p ∈ W, p.1 ≠ 147) (hv : DatIn W v y₀.dat) (hp : y₀.small) (hx : y₀ = ((.unr) : Tm)) : TabC w 152 5 [v, .int k tk, .int b tb] t W (fun d => d = (Tm.mv k b y₀).dat) := by
  unfold TabC CallT
  k_fill
  intro pr loose mean mg mb dp un gd cn cs a₀ ccd cl outer A₀ base h₀ L m s Q E hC B F X N T hk hd hu hret
  refine wpAny_call ?_
  k_dflt (refine' code_defC ?k1 ?k2 ?k3 ?k4 ?k5 ?kA ?kF ?kK ?k6 ?k7 ?k8 ?k9 ?kB ?kD ?_ ?c2 ?c3 ?c4; (case kA | kF => exact rfl); (case kK => assumption); (case k1 | k2 | k3 | k4 | k5 => k_asm); (case k6 | k7 => k_is); (case k8 => ktr_room); (case k9 => exact BindsTo.of_eq rfl); (case kB | c2 | c3 | c4 => exact rfl); (case kD => decide +kernel); k_whole; intro _ _ _ _ _ _ _ N' Y' _ _ _ l1; k_cells Y'; (try simp only [List.cons_append, List.nil_append] at N'); (try k_lt l1); (try dsimp only); (try k_fold))
  (rename Fr h₀ L _ m => FG0)
  have hC' := hC.keeps FG0.keep
  iterate 36 (have pad : True := trivial; clear pad)
  obtain rfl := hx
  obtain ⟨b₀, c₀, v1, rfl, hm, h1⟩ := d1' hv
  obtain ⟨t1, rfl⟩ := dStr h1
  k_steps
  refine' tab_out (d := (Tm.mv k b (.unr)).dat) hret ?F ?N ?S ?hT ?e ?D (Tm.fine _) rfl
  case F => assumption
  case N => assumption
  case S => tb_rel
  case hT => exact Tab.mono (by assumption) (fun p hp => by k_mem)
  case e => ktr_rel
  case D => kqd_in
theorem mtm_ok (w : World) (W : Led) (t : Obj) (v : Value) (x : Tm) (k b : Int) (tk tb : Tok) (hT : Tab0 W t) (hW : ∀ p ∈ W, p.1 ≠ 147) (hv : DatIn W v x.dat) (hp : x.small) : TabC w 152 5 [v, .int k tk, .int b tb] t W (fun d => d = (x.mv k b).dat) := by
  cases x with
  | sw a rows last => cases last with
    | none => exact mtm_sw0 w W t v _ k b tk tb hT hW hv hp ⟨_, _, rfl⟩
    | some z => exact mtm_sw1 w W t v _ k b tk tb hT hW hv hp ⟨_, _, _, rfl⟩
  | goto n => exact mtm_goto w W t v _ k b tk tb hT hW hv hp ⟨_, rfl⟩
  | drop p n => exact mtm_drop w W t v _ k b tk tb hT hW hv hp ⟨_, _, rfl⟩
  | asrt a n => exact mtm_asrt w W t v _ k b tk tb hT hW hv hp ⟨_, _, rfl⟩
  | ret => exact mtm_ret w W t v _ k b tk tb hT hW hv hp rfl
  | pan => exact mtm_pan w W t v _ k b tk tb hT hW hv hp rfl
  | unr => exact mtm_unr w W t v _ k b tk tb hT hW hv hp rfl
section
variable {w : World} {p : Program} {loose : List Str} {mean : ExcName → Option Value} {mg mb : Str → Option Value} {dp un : Nat} {gd : Option (List Code)} {cn : Str} {cs : Scope} {a : Addr} {ccd : Value} {cl : List (Str × Addr)} {outer : List Env} {A₀ : Around} {base h₀ : Heap} {L : Addr} {m : Str → Option Value} {s : Shared} {Q E : Value → Shared → Prop}
  {news W : Led} {src : Addr} {o t : Obj} {v : Value} {x : Tm} {k b : Int} {tk tb : Tok}
theorem mtm_use (F : Fr h₀ L s.heap m := by k_asm) (N : News h₀ L s.heap news := by k_asm) (S : Pick 147 t news [(src, o)] W := by tb_rel) (hP : Pool o := by assumption) (hT : Tab0 W t := by first | assumption | exact Tab.mono (by assumption) (fun p hp => by k_mem)) (hC : CodeHd h₀ 151 147 := by assumption) (hv : DatIn W v x.dat := by ktd_rel) (hp : x.small := by first | with_reducible assumption | exact Tm.small_mv (by with_reducible assumption)) (B : Below A₀ base outer h₀ := by k_asm) (X : (hd.heap_1 w.params).In h₀ := by k_asm) (T : Top p loose mean mg mb h₀ := by k_asm) (hk : cs.kind = .function := by first | exact rfl | assumption) (hd : dp + 5 < recursionLimit := by ktr_room) (hu : un + 8 * 5 + 64 < cLine := by ktr_units) (hsT : ∀ q ∈ [(src, o)], q.1 ≠ 147 := by kst_src) (O : Off [(147, t), (src, o)] W := by tb_rel) (h : ∀ r t' W' h' tk', Fr h₀ L h' m → News h₀ L h' ((147, t') :: (src, o) :: W') → Tab0 W' t' → Off [(147, t'), (src, o)] W' → Ext ((147, t) :: ([(src, o)] ++ W)) W W' → DatIn W' r (x.mv k b).dat → Q r { s with heap := h', toks := tk' }) :
    wpAny (model PySem.Challenge.rw_xm0589_01.row.prog w) (ktrTop dp un gd cn cs L a ccd cl outer) (call (.ref 152) [v, .int k tk, .int b tb]) Q E s := by
  have hW : ∀ q ∈ [(src, o)] ++ W, q.1 ≠ 147 := fun q hq => (List.mem_append.mp hq).elim (hsT q) (O _ (.head _) q)
  refine mtm_ok w ([(src, o)] ++ W) t v x k b tk tb (hT.mono fun _ h => List.mem_append_right _ h) hW (hv.mono fun _ h => List.mem_append_right _ h) hp p loose mean mg mb dp un gd cn cs a ccd cl outer A₀ base h₀ L m s Q E hC B F X (fun q hq => N q ((S.mem q).mpr hq)) T hk hd hu fun r J h' tk' F' N' hpost => ?_
  obtain ⟨t', W', d, rfl, hT', ⟨add, rfl, hadd⟩, hD, hf, rfl⟩ := hpost
  have e : Ext ((147, t) :: ([(src, o)] ++ W)) W (add ++ W) := ⟨add, rfl, hadd⟩
  have O' := O.ext e fun q hq => ⟨q, by
    rcases List.mem_cons.mp hq with rfl | hq
    · exact .head _
    · exact .tail _ (List.mem_append_left _ hq), rfl⟩
  refine h r t' (add ++ W) h' tk' F' (fun q hq => N' q ?_) ?_ (Off.cons (O' _ (.head _)) (Off.cons (O' (src, o) (.tail _ (.head _))) Off.nil)) e (DatIn.strong S.nts 12 hD hf)
  · simp only [List.mem_append, List.mem_cons, List.not_mem_nil, or_false] at hq ⊢
    rcases hq with hq | hq | hq | hq <;> simp [hq]
  · cases hT' with
    | fresh => exact .fresh
    | made hm hd' hv' =>
      refine .made ?_ hd' hv'
      simp only [List.mem_append, List.mem_cons, List.not_mem_nil, or_false] at hm ⊢
      rcases hm with hm | hm | hm
      · exact .inl hm
      · obtain ⟨_, _, _, _, _, rfl, _⟩ := hP
        cases hm
        cases hd'
      · exact .inr hm
end
end
-- a number drawn
set_option hygiene false in
local macro_rules | `(tactic| walk_at "call ref") => `(tactic| (k_here; (with_reducible show wpAny _ _ (call (Value.ref 173) _) _ _ _); k_dflt (refine' take_use (h := ?_); k_whole); ktu_objs))
theorem off_p11_lone : True := by
  w_top off
  exact True.intro
section
section
variable {prog : Program} {w : World} {A : Around} {E : Value → Shared → Prop} {s : Shared} {h₀ : Heap} {L l : Addr} {news : Led} {vs : List Value} {c : Nat} {k : Int} {u : Tok} {Q : Value → Shared → Prop}
/-- some item of a list -/
theorem item_any {value slice : Expr} (N : News h₀ L s.heap news := by k_asm) (hm : (l, listOf (List.toArray vs) c) ∈ news := by k_mem) (h0 : 0 ≤ k := by assumption) (h1 : k < (vs.length : Int) := by first | assumption | (simp only [List.size_toArray] at *; assumption)) (hz : vs.length ≤ 1000 := by assumption) (h : ∀ v, vs[k.toNat]? = some v → Q v s) (hs : subscripted slice false (.ref l) (.int k u) = operate [.ref l, .int k u] (getItem (.ref l) (.int k u)) := by with_unfolding_all rfl) (hg : ∀ r, letTemporaryGo value (.ref l) r = pure () := by (intro _; with_unfolding_all rfl)) :
    wpAny (model prog w) A (subscriptTail value slice (.ref l) (.int k u)) Q E s := by
  have hk : k.toNat < vs.length := by omega
  have e : vs[k.toNat]? = some vs[k.toNat] := List.getElem?_eq_getElem hk
  exact item_listL (N.isList hm) h0 (by omega) e (h _ e) hs hg
end
local macro_rules | `(tactic| walk_at "call builtin:len") => `(tactic| (k_here; (with_reducible show wpAny _ _ (call (Value.builtin _) [Value.ref _]) _ _ _); k_dflt (refine' PyProof.Rows.len_list ?a ?b ?_; (case a => exact News.isList (by k_asm) (by k_mem)); (case b => (rw [List.size_toArray]; omega)); k_whole)))
local macro_rules | `(tactic| walk_at "subscriptTail Name Call ref int") => `(tactic| (k_here; k_dflt (refine' item_any (h := ?_); k_whole); intro v9 hv9))
set_option maxHeartbeats 8000000 in
theorem lone_ok (w : World) (src l : Addr) (o : Obj) (vs : List Value) (c : Nat) (W : Led) (hP : Pool o) (hW : ∀ p ∈ W, p.1 ≠ src) (hl : (l, listOf (List.toArray vs) c) ∈ W) (hne : 0 < vs.length) (hz : vs.length ≤ 1000) :
    Call w 180 2 [.ref src, .ref l] ((src, o) :: W) (fun r J => ∃ (i : Nat) (o' : Obj), vs[i]? = some r ∧ Pool o' ∧ J = (src, o') :: W) := by
  unfold Call
  k_fill
  intro p loose mean mg mb dp un gd cn cs a ccd cl outer A₀ base h₀ L m s Q E B F X N T hk hd hu hret
  refine wpAny_call ?_
  k_dflt ktr_enter
  k_steps
  refine hret _ _ _ _ (by assumption) (by assumption) ⟨_, _, by assumption, by assumption, rfl⟩
section
variable {w : World} {p : Program} {loose : List Str} {mean : ExcName → Option Value} {mg mb : Str → Option Value} {dp un : Nat} {gd : Option (List Code)} {cn : Str} {cs : Scope} {a : Addr} {ccd : Value} {cl : List (Str × Addr)} {outer : List Env} {A₀ : Around} {base h₀ : Heap} {L : Addr} {m : Str → Option Value} {s : Shared} {Q E : Value → Shared → Prop}
  {src l : Addr} {o : Obj} {news : Led} {g : Obj → Led} {vs : List Value} {c : Nat}
theorem lone_use (F : Fr h₀ L s.heap m := by k_asm) (N : News h₀ L s.heap news := by k_asm) (U : UpdF src o news g := by k_updF) (hP : Pool o := by assumption) (hl : (l, listOf (List.toArray vs) c) ∈ news := by k_mem) (hs : l ≠ src := by (refine' Nat.ne_of_gt ?xc; (case xc => first | with_reducible assumption | tbn_find | omega))) (hne : 0 < vs.length := by exact Nat.zero_lt_succ _) (hz : vs.length ≤ 1000 := by exact Nat.le_of_ble_eq_true rfl) (B : Below A₀ base outer h₀ := by k_asm) (X : (hd.heap_1 w.params).In h₀ := by k_asm) (T : Top p loose mean mg mb h₀ := by k_asm) (hk : cs.kind = .function := by first | exact rfl | assumption) (hd : dp + 2 < recursionLimit := by ktr_room) (hu : un + 8 * 2 + 64 < cLine := by ktr_units) (h : ∀ r o' h' tk', At vs r → Pool o' → NT o' → Fr h₀ L h' m → News h₀ L h' (g o') → Q r { s with heap := h', toks := tk' }) :
    wpAny (model PySem.Challenge.rw_xm0589_01.row.prog w) (ktrTop dp un gd cn cs L a ccd cl outer) (call (.ref 180) [.ref src, .ref l]) Q E s := by
  obtain ⟨pre, post, rfl, hg, h1, h2⟩ := U.split
  have hl2 : (l, listOf (List.toArray vs) c) ∈ pre ++ post := by
    simp only [List.mem_cons, List.mem_append] at hl ⊢
    rcases hl with hl | hl | hl
    · exact .inl hl
    · exact absurd (congrArg Prod.fst hl) hs
    · exact .inr hl
  refine lone_ok w src l o vs c (pre ++ post) hP (fun q hq => (List.mem_append.mp hq).elim (h1 q) (h2 q)) hl2 hne hz p loose mean mg mb dp un gd cn cs a ccd cl outer A₀ base h₀ L m s Q E B F X (fun q hq => N q ?_) T hk hd hu ?_
  · simp only [List.mem_cons, List.mem_append] at hq ⊢
    rcases hq with hq | hq | hq <;> simp [hq]
  · rintro r J h' tk' F' N' ⟨i, o', hi, hP', rfl⟩
    refine h r o' h' tk' ⟨i, hi⟩ hP' hP'.nt F' (fun q hq => N' q ?_)
    rw [hg] at hq
    simp only [List.mem_cons, List.mem_append] at hq ⊢
    rcases hq with hq | hq | hq <;> simp [hq]
end
end
theorem off_p12_place : True := by
  w_top off
  exact True.intro
section
/-- a goal that the walk leaves alone -/
structure Halt (p : Prop) : Prop where
  out : p
section
variable {h₀ : Heap} {x : Str} {m₀ : Str → Option Value} {stored : List Str}
theorem TurnEnd.split {J : Led → Prop} {h' : Heap} {L I : Addr} {oI : Obj} {m' : Str → Option Value} {news M W' : Led} {s₁ : Shared} {tk : Nat} (F : Fr h₀ L h' m') (N : News h₀ L h' news) (S : SplitA news ((I, oI) :: M) W') (hM : ∀ p ∈ M, p.1 ≠ I) (hW : ∀ p ∈ W', p.1 ≠ I)
    (hm : ∀ z, z ≠ x → stored.contains z = false → m' z = m₀ z) (hJ : J (M ++ W')) : TurnEnd h₀ L x stored m₀ J I oI s₁ { s₁ with heap := h', toks := tk } := by
  refine ⟨h', tk, m', _, rfl, F, fun p hp => N p ((S.mem p).mpr ?_), fun p hp => ?_, hm, hJ⟩
  · simpa using hp
  · rcases List.mem_append.mp hp with hp | hp
    · exact hM p hp
    · exact hW p hp
theorem TurnEnd.split3 {J : Led → Prop} {h' : Heap} {L I : Addr} {oI : Obj} {m' : Str → Option Value} {news W' : Led} {q1 q2 q3 : Addr × Obj} {s₁ : Shared} {tk : Nat} (F : Fr h₀ L h' m') (N : News h₀ L h' news) (S : SplitA news [(I, oI), q1, q2, q3] W') (hM : ∀ p ∈ [q1, q2, q3], p.1 ≠ I) (hW : ∀ p ∈ W', p.1 ≠ I)
    (hm : ∀ z, z ≠ x → stored.contains z = false → m' z = m₀ z) (hJ : J (q1 :: q2 :: q3 :: W')) : TurnEnd h₀ L x stored m₀ J I oI s₁ { s₁ with heap := h', toks := tk } :=
  TurnEnd.split F N S hM hW hm hJ
end
section
variable {prog : Program} {w : World} {A : Around} {E : Value → Shared → Prop} {s : Shared} {h₀ : Heap} {L l : Addr} {news : Led} {vs : List Value} {c : Nat} {k : Int} {u : Tok} {Q : Value → Shared → Prop}
/-- some item of a tuple -/
theorem item_anyT {value slice : Expr} (N : News h₀ L s.heap news := by k_asm) (hm : (l, tup (List.toArray vs) c) ∈ news := by k_mem) (h0 : 0 ≤ k := by first | omega | assumption) (h1 : k < (vs.length : Int) := by (simp only [List.length_cons, List.length_nil]; omega)) (hz : vs.length ≤ 1000 := by exact Nat.le_of_ble_eq_true rfl) (h : ∀ v, At vs v → Q v s) (hs : subscripted slice false (.ref l) (.int k u) = operate [.ref l, .int k u] (getItem (.ref l) (.int k u)) := by with_unfolding_all rfl) :
    wpAny (model prog w) A (subscriptTail value slice (.ref l) (.int k u)) Q E s := by
  have hk : k.toNat < vs.length := by omega
  have e : vs[k.toNat]? = some vs[k.toNat] := List.getElem?_eq_getElem hk
  have ht : IsTup s.heap l vs.toArray := N.isTup hm
  refine tail_any ht.typeIs slot_tuple_getitem.lookup (getItem_tuple (j := k.toNat) ht (by omega) (by omega) ?_ (by simpa using e) (h _ ⟨_, e⟩)) hs
  unfold seqIndex?
  have h2 : ¬ k < 0 := by omega
  have h3 : k < ((List.toArray vs).size : Int) := by simpa using h1
  simp [h0, h2, h1]
end
-- a range of a number; a loop over it stands still
set_option hygiene false in
local macro_rules | `(tactic| walk_at "call type:range") => `(tactic| (k_here; k_dflt (refine' range1_rows (by k_asm) (by k_asm) ?_; k_whole); intros; (try k_sweep)))
set_option hygiene false in
local macro_rules | `(tactic| walk_at "pyIter ref") => `(tactic| (k_here; (with_reducible show wpAny _ _ (pyIter _) (fun _ _ => LoopAtV _ _ _ _ _ _ _ _ _ _ _) _ _); refine Halt.out ?_))
local macro_rules | `(tactic| walk_at "exec For Name Call cons nil") => `(tactic| (k_here; (rename Fr _ _ _ _ => lF'); (with_unfolding_all refine' For_invVF lF' ?k1 ?k2 ?_; (case k1 => exact rfl); (case k2 => exact rfl); k_whole)))
-- some item of a tuple that is written down
local macro_rules | `(tactic| walk_at "subscriptTail Tuple") => `(tactic| (k_here; k_dflt (refine' item_anyT (h := ?_); k_whole); intro v9 hv9))
set_option maxHeartbeats 8000000 in
theorem lplace_ok (w : World) (src : Addr) (o : Obj) (W : Led) (k : Int) (tk : Tok) (hP : Pool o) (hNT : NT o) (hW : ∀ p ∈ W, p.1 ≠ src) :
    PoolC w 187 2 [.ref src, .int k tk] src o W (fun d => ∃ p : Plc, p.small ∧ d = .tuple [p.dat, (p.mv k).dat]) := by
  unfold PoolC Call
  k_fill
  intro p loose mean mg mb dp un gd cn cs a ccd cl outer A₀ base h₀ L m s Q E B F X N T hk hd hu hret
  refine wpAny_call ?_
  k_dflt ktr_enter
  k_steps
  refine ⟨?_⟩
  (rename IsRange _ _ _ _ _ _ _ _ => hR)
  rename_i i₀ t₀ o₀ h₀₀ tk₀₀ lo0 hi0 P0 T0 l₁ hp1 A1 w1 l₂ hp2 A2 w2 D₁ hp3 A3 w3 hp4 hp5 hp6 tk0 i₁ t₁ o₁ h₁ tk1 lo1 hi1 P1 T1 h₂ tk2 t₂ u₂ v₂ F1 N1 G1
  obtain ⟨n₁, rfl⟩ : ∃ n : Nat, i₁ = (n : Int) := ⟨i₁.toNat, by omega⟩
  refine' loop_range ["way", "number", "step"] (fun i nx => ∃ ts ms c d o' W' stps, nx = (l₂, listOf (List.toArray ms) d) :: (l₁, listOf (List.toArray ts) c) :: (src, o') :: W' ∧ Pool o' ∧ NT o' ∧ Ext ((src, o) :: W) W W' ∧ (∀ p ∈ W', p.1 ≠ l₂) ∧ (∀ p ∈ W', p.1 ≠ l₁) ∧ (∀ p ∈ W', p.1 ≠ src) ∧
    DatAll W' ts (stps.map Stp.dat) ∧ DatAll W' ms (stps.map fun t : Stp => (t.mv k).dat) ∧ stps.length ≤ i) rfl hR ?small (n := n₁) ?size F1 (fun p hp => N1 p (mem_t hp)) ⟨[], [], 0, 0, _, W, [], rfl, P1, T1, Ext.refl, ?f1, ?f2, hW, .nil, .nil, Nat.le_refl _⟩ ?_ ?_
  case small => exact small_one (by omega) (by omega) (by omega) (by omega)
  case size => rw [rangeSize_nat]; omega
  case f1 => k_all
  case f2 => k_all
  · intro i tk3 u nx h tk4 I oI hi hJ9 hNTI hoff F₁ N₁
    (try (show wpAny _ _ _ _ _ _; k_fold))
    obtain ⟨ts, ms, c, d, o', W', stps, rfl, P2, T2, e, f1, f2, f3, hts, hms, hl⟩ := hJ9
    have hI2 := hoff (l₂, _) (by k_mem)
    have hI1 := hoff (l₁, _) (by k_mem)
    have hI0 := hoff (src, _) (by k_mem)
    have oI2 := neN (hoff (l₂, _) (by k_mem))
    have oI1 := neN (hoff (l₁, _) (by k_mem))
    have oI0 := neN (hoff (src, _) (by k_mem))
    have hoff' : ∀ p ∈ W', p.1 ≠ I := fun p hp => hoff p (mem_t (mem_t (mem_t hp)))
    have htl : ts.length ≤ 3 := by have := hts.length; rw [List.length_map] at this; omega
    have hml : ms.length ≤ 3 := by have := hms.length; rw [List.length_map] at this; omega
    have n21 : (@Ne Nat l₂ l₁) := Nat.ne_of_gt A2.1
    (repeat' (first | ((first | (with_reducible show wpAny _ _ (exec _ _) _ _ _) | (with_reducible show wpAny _ _ (eval (PySem.Expr.Tuple _ _ _) _) _ _ _)); k_fold) | (k_unfold; (try dsimp only)) | (k_end; wrow_close) | walk1 | (dsimp only; walk1) | (leave1; try dsimp only) | fail "no step"))
    · refine' TurnEnd.split3 (q1 := (l₂, _)) (q2 := (l₁, _)) (q3 := (src, _)) ?F ?N ?S ?hM ?hW ?hm ?J
      case F => assumption
      case N => assumption
      case S => tb_rel
      case hM => exact allne_cons hI2 (allne_cons hI1 (allne_cons hI0 allne_nil))
      case hW => kst_src
      case hm => (intro z h1 h3; (try simp only [List.contains_cons, List.contains_nil, Bool.or_false, Bool.or_eq_false_iff, beq_eq_false_iff_ne, ne_eq] at h3); simp [inTurn, h1, h3])
      case J =>
        refine' ⟨_, _, _, _, _, _, stps ++ [.idx _], ?e1, ?e2, ?e3, ?e4, ?e5, ?e6, ?e7, ?e8, ?e9, ?e10⟩
        case e1 => simp only [List.push_toArray]; rfl
        case e2 => assumption
        case e3 => assumption
        case e4 => ktr_rel
        case e5 => kst_src
        case e6 => kst_src
        case e7 => kst_src
        case e8 =>
          rw [List.map_append]
          exact DatAll.append (hts.mono fun _ h => mem_t (mem_t (mem_t h))) (DatAll.one (.tuple (by k_mem) (.cons (.str _ _) (.cons (.int _ _) .nil))))
        case e9 =>
          rw [List.map_append]
          exact DatAll.append (hms.mono fun _ h => mem_t (mem_t (mem_t h))) (DatAll.one (.tuple (by k_mem) (.cons (.str _ _) (.cons (.int _ _) .nil))))
        case e10 => rw [List.length_append]; exact Nat.succ_le_succ hl
    · refine' TurnEnd.split3 (q1 := (l₂, _)) (q2 := (l₁, _)) (q3 := (src, _)) ?F ?N ?S ?hM ?hW ?hm ?J
      case F => assumption
      case N => assumption
      case S => tb_rel
      case hM => exact allne_cons hI2 (allne_cons hI1 (allne_cons hI0 allne_nil))
      case hW => kst_src
      case hm => (intro z h1 h3; (try simp only [List.contains_cons, List.contains_nil, Bool.or_false, Bool.or_eq_false_iff, beq_eq_false_iff_ne, ne_eq] at h3); simp [inTurn, h1, h3])
      case J =>
        (rename At _ _ => hA)
        rcases hA.c3 with rfl | rfl | rfl
        · refine' ⟨_, _, _, _, _, _, stps ++ [.fld _], ?e1, ?e2, ?e3, ?e4, ?e5, ?e6, ?e7, ?e8, ?e9, ?e10⟩
          case e1 => simp only [List.push_toArray]; rfl
          case e2 => assumption
          case e3 => assumption
          case e4 => ktr_rel
          case e5 => kst_src
          case e6 => kst_src
          case e7 => kst_src
          case e8 =>
            rw [List.map_append]
            exact DatAll.append (hts.mono fun _ h => mem_t (mem_t (mem_t (mem_t (mem_t h))))) (DatAll.one (.tuple (by k_mem) (.cons (.str _ _) (.cons (.int _ _) .nil))))
          case e9 =>
            rw [List.map_append]
            exact DatAll.append (hms.mono fun _ h => mem_t (mem_t (mem_t (mem_t (mem_t h))))) (DatAll.one (.tuple (by k_mem) (.cons (.str _ _) (.cons (.int _ _) .nil))))
          case e10 => rw [List.length_append]; exact Nat.succ_le_succ hl
        · refine' ⟨_, _, _, _, _, _, stps ++ [.drf], ?e1, ?e2, ?e3, ?e4, ?e5, ?e6, ?e7, ?e8, ?e9, ?e10⟩
          case e1 => simp only [List.push_toArray]; rfl
          case e2 => assumption
          case e3 => assumption
          case e4 => ktr_rel
          case e5 => kst_src
          case e6 => kst_src
          case e7 => kst_src
          case e8 =>
            rw [List.map_append]
            exact DatAll.append (hts.mono fun _ h => mem_t (mem_t (mem_t (mem_t (mem_t h))))) (DatAll.one (.tuple (by k_mem) (.cons (.str _ _) .nil)))
          case e9 =>
            rw [List.map_append]
            exact DatAll.append (hms.mono fun _ h => mem_t (mem_t (mem_t (mem_t (mem_t h))))) (DatAll.one (.tuple (by k_mem) (.cons (.str _ _) .nil)))
          case e10 => rw [List.length_append]; exact Nat.succ_le_succ hl
        · refine' ⟨_, _, _, _, _, _, stps ++ [.dwn _], ?e1, ?e2, ?e3, ?e4, ?e5, ?e6, ?e7, ?e8, ?e9, ?e10⟩
          case e1 => simp only [List.push_toArray]; rfl
          case e2 => assumption
          case e3 => assumption
          case e4 => ktr_rel
          case e5 => kst_src
          case e6 => kst_src
          case e7 => kst_src
          case e8 =>
            rw [List.map_append]
            exact DatAll.append (hts.mono fun _ h => mem_t (mem_t (mem_t (mem_t (mem_t h))))) (DatAll.one (.tuple (by k_mem) (.cons (.str _ _) (.cons (.int _ _) .nil))))
          case e9 =>
            rw [List.map_append]
            exact DatAll.append (hms.mono fun _ h => mem_t (mem_t (mem_t (mem_t (mem_t h))))) (DatAll.one (.tuple (by k_mem) (.cons (.str _ _) (.cons (.int _ _) .nil))))
          case e10 => rw [List.length_append]; exact Nat.succ_le_succ hl
  · intro u nx h tk3 hJ9 F₁ N₁
    (try (show wpAny _ _ _ _ _ _; k_fold))
    obtain ⟨ts, ms, c, d, o', W', stps, rfl, P2, T2, e, f1, f2, f3, hts, hms, hl⟩ := hJ9
    have hms2 : DatAll W' ms ((Plc.mv k ⟨i₀, stps⟩).stps.map Stp.dat) := by unfold Plc.mv; rw [List.map_map]; exact hms
    have htl : ts.length ≤ 3 := by have := hts.length; rw [List.length_map] at this; omega
    have hml : ms.length ≤ 3 := by have := hms.length; rw [List.length_map] at this; omega
    (repeat' (first | ((first | (with_reducible show wpAny _ _ (exec _ _) _ _ _) | (with_reducible show wpAny _ _ (eval (PySem.Expr.Tuple _ _ _) _) _ _ _)); k_fold) | (k_unfold; (try dsimp only)) | (k_end; wrow_close) | walk1 | (dsimp only; walk1) | (leave1; try dsimp only) | fail "no step"))
    refine' pool_out (d := .tuple [Plc.dat ⟨i₀, stps⟩, (Plc.mv k ⟨i₀, stps⟩).dat]) hret ?F ?N ?S ?hP ?e ?D ?f ⟨⟨i₀, stps⟩, ?sm, rfl⟩
    case F => assumption
    case N => assumption
    case S => tb_rel
    case hP => assumption
    case e => ktr_rel
    case D => kqd_in
    case f => exact okD_le (by decide) (ok2 (Plc.ok _) (Plc.ok _))
    case sm => unfold Plc.small; show stps.length ≤ 1000; omega
section
variable {w : World} {p : Program} {loose : List Str} {mean : ExcName → Option Value} {mg mb : Str → Option Value} {dp un : Nat} {gd : Option (List Code)} {cn : Str} {cs : Scope} {a : Addr} {ccd : Value} {cl : List (Str × Addr)} {outer : List Env} {A₀ : Around} {base h₀ : Heap} {L : Addr} {m : Str → Option Value} {s : Shared} {Q E : Value → Shared → Prop}
  {f : Addr} {n : Nat} {vs : List Value} {src : Addr} {o : Obj} {news M W : Led}
/-- a call that draws from the pool and hands back a datum and its moved one -/
theorem pair_use {α : Type} (dat : α → Dat) (mv : α → α) (sm : α → Prop) (C : Pool o → NT o → ∀ W', (∀ q ∈ W', q.1 ≠ src) → PoolC w f n vs src o W' (fun d => ∃ x, sm x ∧ d = .tuple [dat x, dat (mv x)])) (F : Fr h₀ L s.heap m := by k_asm) (N : News h₀ L s.heap news := by k_asm) (S : Pick src o news M W := by tb_rel) (hM : ∀ q ∈ M, q.1 ≠ src := by kst_src) (B : Below A₀ base outer h₀ := by k_asm) (X : (hd.heap_1 w.params).In h₀ := by k_asm) (T : Top p loose mean mg mb h₀ := by k_asm) (hk : cs.kind = .function := by first | exact rfl | assumption) (hd : dp + n < recursionLimit := by ktr_room) (hu : un + 8 * n + 64 < cLine := by ktr_units) (O : Off ((src, o) :: M) W := by tb_rel) (hP : Pool o := by assumption) (hNT : NT o := by assumption) (h : ∀ t c v1 v2 x o' W' h' tk', Fr h₀ L h' m → News h₀ L h' ((src, o') :: (M ++ W')) → Pool o' → NT o' → Off ((src, o') :: M) W' → Ext ((src, o) :: (M ++ W)) W W' → (t, tup #[v1, v2] c) ∈ W' → DatIn W' v1 (dat x) → DatIn W' v2 (dat (mv x)) → sm x → Q (.ref t) { s with heap := h', toks := tk' }) :
    wpAny (model PySem.Challenge.rw_xm0589_01.row.prog w) (ktrTop dp un gd cn cs L a ccd cl outer) (call (.ref f) vs) Q E s := by
  refine pool_use (C hP hNT (M ++ W) fun q hq => (List.mem_append.mp hq).elim (hM q) (O _ (.head _) q)) F N S B X T hk hd hu O fun r o' W' d h' tk' F' N' P' NT' O' e hD _ hΦ => ?_
  obtain ⟨x, hx, rfl⟩ := hΦ
  obtain ⟨t, c, v1, v2, rfl, hm, h1, h2⟩ := d2' hD
  exact h t c v1 v2 x o' W' h' tk' F' N' P' NT' O' e hm h1 h2 hx
end
end
-- a place drawn
set_option hygiene false in
local macro_rules | `(tactic| walk_at "call ref") => `(tactic| (k_here; (with_reducible show wpAny _ _ (call (Value.ref 187) _) _ _ _); k_dflt (refine' pair_use Plc.dat (Plc.mv _) Plc.small (fun P' NT' W' hW' => lplace_ok _ _ _ W' _ _ P' NT' hW') (h := ?_); k_whole); ktu_objs))
theorem off_p13_op : True := by
  w_top off
  exact True.intro
set_option maxHeartbeats 8000000 in
theorem lop_ok (w : World) (src : Addr) (o : Obj) (W : Led) (k : Int) (tk : Tok) (hP : Pool o) (hNT : NT o) (hW : ∀ p ∈ W, p.1 ≠ src) :
    PoolC w 194 3 [.ref src, .int k tk] src o W (fun d => ∃ x : Opd, x.small ∧ d = .tuple [x.dat, (x.mv k).dat]) := by
  unfold PoolC Call
  k_fill
  intro p loose mean mg mb dp un gd cn cs a ccd cl outer A₀ base h₀ L m s Q E B F X N T hk hd hu hret
  refine wpAny_call ?_
  k_dflt ktr_enter
  (repeat' (first | ((first | (with_reducible show wpAny _ _ (exec _ _) _ _ _) | (with_reducible show wpAny _ _ (eval (PySem.Expr.Tuple _ _ _) _) _ _ _)); k_fold) | (k_unfold; (try dsimp only)) | (k_end; wrow_close) | walk1 | (dsimp only; walk1) | (leave1; try dsimp only) | fail "no step"))
  · refine' pool_out hret ?F ?N ?S ?hP ?e ?D ?f ⟨Opd.cst _, ?sm, rfl⟩
    case F => assumption
    case N => assumption
    case S => tb_rel
    case hP => assumption
    case e => ktr_rel
    case D => kqd_in
    case f => exact okD_le (by decide) (ok2 (Opd.ok _) (Opd.ok _))
    case sm => exact True.intro
  · refine' pool_out hret ?F ?N ?S ?hP ?e ?D ?f ⟨Opd.cpy _, ?sm, rfl⟩
    case F => assumption
    case N => assumption
    case S => tb_rel
    case hP => assumption
    case e => ktr_rel
    case D => kqd_in
    case f => exact okD_le (by decide) (ok2 (Opd.ok _) (Opd.ok _))
    case sm => assumption
  · refine' pool_out hret ?F ?N ?S ?hP ?e ?D ?f ⟨Opd.mov _, ?sm, rfl⟩
    case F => assumption
    case N => assumption
    case S => tb_rel
    case hP => assumption
    case e => ktr_rel
    case D => kqd_in
    case f => exact okD_le (by decide) (ok2 (Opd.ok _) (Opd.ok _))
    case sm => assumption
-- an operand drawn
set_option hygiene false in
local macro_rules | `(tactic| walk_at "call ref") => `(tactic| (k_here; (with_reducible show wpAny _ _ (call (Value.ref 194) _) _ _ _); k_dflt (refine' pair_use Opd.dat (Opd.mv _) Opd.small (fun P' NT' W' hW' => lop_ok _ _ _ W' _ _ P' NT' hW') (h := ?_); k_whole); ktu_objs))

theorem off_p14_rv : True := by
  w_top off
  exact True.intro
section
/-- the item at this place -/
structure AtN (vs : List Value) (i : Nat) (v : Value) : Prop where
  out : vs[i]? = some v
section
variable {prog : Program} {w : World} {A : Around} {E : Value → Shared → Prop} {s : Shared} {h₀ : Heap} {L l : Addr} {news : Led} {vs : List Value} {c : Nat} {k : Int} {u : Tok} {Q : Value → Shared → Prop}
theorem item_anyW {value slice : Expr} (N : News h₀ L s.heap news := by k_asm) (hm : (l, listOf (List.toArray vs) c) ∈ news := by k_mem) (h0 : 0 ≤ k := by first | assumption | omega) (h1 : k < (vs.length : Int) := by (simp only [List.length_cons, List.length_nil]; omega)) (hz : vs.length ≤ 1000 := by exact Nat.le_of_ble_eq_true rfl) (h : ∀ v, AtN vs k.toNat v → Q v s) (hs : subscripted slice false (.ref l) (.int k u) = operate [.ref l, .int k u] (getItem (.ref l) (.int k u)) := by with_unfolding_all rfl) :
    wpAny (model prog w) A (subscriptTail value slice (.ref l) (.int k u)) Q E s := by
  have hk : k.toNat < vs.length := by omega
  have e : vs[k.toNat]? = some vs[k.toNat] := List.getElem?_eq_getElem hk
  have hl : s.heap.IsList l vs.toArray := N.isList hm
  exact tail_any hl.typeIs slot_list_getitem.lookup (wpAny_getItem_list hl h0 (by omega) (by simpa using e) (h _ ⟨e⟩)) hs
end
section
variable {W W' M news : Led} {h₀ h' : Heap} {L src : Addr} {o o' : Obj} {m : Str → Option Value} {s : Shared} {Q : Value → Shared → Prop} {r : Value} {tk' : Nat}
/-- the end of a call that hands back a datum and its moved one -/
theorem pair_out {α : Type} {dat : α → Dat} {mv : α → α} {sm : α → Prop} (hret : ∀ r J h' tk', Fr h₀ L h' m → News h₀ L h' J → (∃ o' W' d, J = (src, o') :: W' ∧ Pool o' ∧ Ext ((src, o) :: W) W W' ∧ DatIn W' r d ∧ fine d ∧ ∃ x, sm x ∧ d = .tuple [dat x, dat (mv x)]) → Q r { s with heap := h', toks := tk' }) (hf : ∀ x, okD 7 (dat x) = true) (F : Fr h₀ L h' m) (N : News h₀ L h' news)
    (S : PickA src o' news M W') (hP : Pool o') (e : Ext ((src, o) :: W) W W') (D : ∃ x, sm x ∧ DatIn W' r (.tuple [dat x, dat (mv x)])) : Q r { s with heap := h', toks := tk' } := by
  obtain ⟨x, hx, D⟩ := D
  exact pool_out hret F N S hP e D (okD_le (by decide) (ok2 (hf _) (hf _))) ⟨x, hx, rfl⟩
end
/-- the ledger without this one -/
inductive Less (p : Addr × Obj) : Led → Led → Prop
  | here {r : Led} : Less p (p :: r) r
  | skip {q : Addr × Obj} {r r' : Led} : Less p r r' → Less p (q :: r) (q :: r')
theorem Less.mem {p : Addr × Obj} {l r : Led} (h : Less p l r) : ∀ q, q ∈ p :: r → q ∈ l := by
  induction h with
  | here => exact fun _ h => h
  | skip h ih =>
    intro q hq
    rcases List.mem_cons.mp hq with rfl | hq
    · exact .tail _ (ih _ (.head _))
    · rcases List.mem_cons.mp hq with rfl | hq
      · exact .head _
      · exact .tail _ (ih _ (.tail _ hq))
theorem UnrEnd.less {h₀ : Heap} {L I : Addr} {it : Obj} {rest : (Str → Option Value) → List (Addr × Obj) → Prop} {s₁ : Shared} {h' : Heap} {tk : Nat} {m' : Str → Option Value} {all r : List (Addr × Obj)} (F : Fr h₀ L h' m') (N : News h₀ L h' all) (S : Less (I, it) all r) (off : ∀ p ∈ r, p.1 ≠ I) (q : rest m' r) : UnrEnd h₀ L s₁ I it rest { s₁ with heap := h', toks := tk } :=
  UnrEnd.intro F N r S.mem off q
/-- the first or the moved one of two -/
noncomputable def atN {α : Type} (f : α → α) : Nat → α → α
  | 0, x => x
  | _ + 1, x => f x
section
variable {prog : Program} {w : World} {A : Around} {E : Value → Shared → Prop} {s : Shared} {h₀ : Heap} {L l : Addr} {news W : Led} {v1 v2 : Value} {c i : Nat} {u : Tok} {Q : Value → Shared → Prop}
theorem item_pair {α : Type} (dat : α → Dat) (mv : α → α) {x : α} {value slice : Expr} (N : News h₀ L s.heap news) (hm : (l, tup #[v1, v2] c) ∈ news) (hi : i < 2) (h1 : DatIn W v1 (dat x)) (h2 : DatIn W v2 (dat (mv x))) (h : ∀ v, DatIn W v (dat (atN mv i x)) → Q v s)
    (hs : subscripted slice false (.ref l) (.int (0 + (i : Int) * 1) u) = operate [.ref l, .int (0 + (i : Int) * 1) u] (getItem (.ref l) (.int (0 + (i : Int) * 1) u))) :
    wpAny (model prog w) A (subscriptTail value slice (.ref l) (.int (0 + (i : Int) * 1) u)) Q E s := by
  have ht : IsTup s.heap l #[v1, v2] := N.isTup hm
  have e : ∃ v, (#[v1, v2] : Array Value)[i]? = some v ∧ DatIn W v (dat (atN mv i x)) := by
    match i, hi with
    | 0, _ => exact ⟨v1, rfl, h1⟩
    | 1, _ => exact ⟨v2, rfl, h2⟩
  obtain ⟨v, e, D⟩ := e
  refine tail_any ht.typeIs slot_tuple_getitem.lookup (getItem_tuple (j := i) ht (by simpa using hi) (by omega) ?_ e (h _ D)) hs
  unfold seqIndex?
  have h2 : ¬ (i : Int) < 0 := by omega
  have h3 : (i : Int) < 2 := by omega
  simp [h2, h3]
theorem datAll_two {us : List Value} {d1 d2 : Dat} (h : DatAll W us [d1, d2]) : ∃ v u, us = [v, u] ∧ DatIn W v d1 ∧ DatIn W u d2 := by
  obtain ⟨v, us, rfl, h1, h⟩ := aC h
  obtain ⟨u, us, rfl, h2, h⟩ := aC h
  obtain rfl := a0 h
  exact ⟨v, u, rfl, h1, h2⟩
end
/-- what is newer than a turn's start -/
inductive Up (r : Addr) (W : Led) : Led → Prop
  | done : Up r W W
  | step {a : Addr} {o : Obj} {l : Led} (h : @LE.le Nat _ r a) (u : Up r W l) : Up r W ((a, o) :: l)
theorem Up.ne {r b : Addr} {W l : Led} (u : Up r W l) (h : @LT.lt Nat _ b r) (k : ∀ p ∈ W, p.1 ≠ b) : ∀ p ∈ l, p.1 ≠ b := by
  induction u with
  | done => exact k
  | step h2 _ ih => exact allne_cons (Nat.ne_of_gt (Nat.lt_of_lt_of_le h h2)) ih
theorem Up.ext {r : Addr} {W₀ W l : Led} (u : Up r W l) (e : Ext W₀ W₀ W) (h : ∀ p ∈ W, @LT.lt Nat _ p.1 r) : Ext W₀ W₀ l := by
  induction u with
  | done => exact e
  | step h2 _ ih => exact ih.cons fun q hq => Nat.lt_of_lt_of_le (h q (e.mem hq)) h2
theorem Up.sub {r : Addr} {W l : Led} (u : Up r W l) : ∀ p ∈ W, p ∈ l := by
  induction u with
  | done => exact fun _ h => h
  | step _ _ ih => exact fun p h => .tail _ (ih p h)
theorem take_pair {α : Type} (dat : α → Dat) (mv : α → α) (x : α) {i : Nat} (h : i < 2) : [dat x, dat (mv x)].take (i + 1) = [dat x, dat (mv x)].take i ++ [dat (atN mv i x)] := by
  match i, h with
  | 0, _ => rfl
  | 1, _ => rfl
noncomputable def rvs (a b : Opd) (p : Plc) : List Rv := [.use a, .refS p, .refM p, .bin a b, .chk a b, .una a, .cast a, .tpl a b, .arr b a b, .adt a, .disc p]
theorem rvs_at (k : Int) (i : Nat) (a b : Opd) (p : Plc) : rvs (atN (Opd.mv k) i a) (atN (Opd.mv k) i b) (atN (Plc.mv k) i p) = (rvs a b p).map (atN (Rv.mv k) i) := by cases i <;> rfl
theorem rvs_small {a b : Opd} {p : Plc} (ha : a.small) (hb : b.small) (hp : p.small) : ∀ x ∈ rvs a b p, x.small := by
  intro x hx
  simp only [rvs, List.mem_cons, List.not_mem_nil, or_false] at hx
  rcases hx with rfl | rfl | rfl | rfl | rfl | rfl | rfl | rfl | rfl | rfl | rfl <;> simp [Rv.small, ha, hb, hp]
section
variable {h₀ : Heap} {x : Str} {m₀ : Str → Option Value} {stored : List Str}
theorem turn_up {J : Led → Prop} {P : Value → Led → Prop} {vs : List Value} {n : Nat} {v : Value} (_ : AtN vs n v) {h' : Heap} {L I T l src : Addr} {oI ol ol' o1 : Obj} {m' : Str → Option Value} {news W₁ W' W₂ : Led} {q0 : Addr × Obj} {s₁ : Shared} {tk : Nat} (hT : AllLt T ((I, oI) :: (l, ol) :: (src, o1) :: W')) (F : Fr h₀ L h' m') (N : News h₀ L h' news) (S : SplitA news [q0, (I, oI), (l, ol'), (src, o1)] W₂) (u : Up T W' W₂)
    (hM : ∀ p ∈ [(l, ol'), (src, o1)], p.1 ≠ I) (h0 : ∀ p ∈ W', p.1 ≠ I) (e : Ext W₁ W₁ W') (g1 : ∀ p ∈ W', p.1 ≠ l) (g2 : ∀ p ∈ W', p.1 ≠ src) (D : (∀ p ∈ W', p ∈ W₂) → P v W₂)
    (hm : ∀ z, z ≠ x → stored.contains z = false → m' z = m₀ z) (hJ : ∀ Z, Ext W₁ W₁ Z → (∀ p ∈ W', p ∈ Z) → (∀ p ∈ Z, p.1 ≠ l) → (∀ p ∈ Z, p.1 ≠ src) → P v Z → J ((l, ol') :: (src, o1) :: Z)) : TurnEnd h₀ L x stored m₀ J I oI s₁ { s₁ with heap := h', toks := tk } :=
  ⟨h', tk, m', (l, ol') :: (src, o1) :: W₂, rfl, F, fun p hp => N p ((S.mem p).mpr (.tail _ hp)), fun p hp => by
    rcases List.mem_cons.mp hp with rfl | hp
    · exact hM _ (.head _)
    · rcases List.mem_cons.mp hp with rfl | hp
      · exact hM _ (.tail _ (.head _))
      · exact u.ne hT.1 h0 _ hp, hm, hJ _ (u.ext e (AllLt.mem hT.2.2.2)) u.sub (u.ne hT.2.1 g1) (u.ne hT.2.2.1 g2) (D u.sub)⟩
end
theorem rv_pick {k : Int} {i n : Nat} {a b : Opd} {p : Plc} {x : Rv} {vs : List Value} {v : Value} {Z : Led} (hv : AtN vs n v) (hx : (rvs a b p)[n]? = some x) (D : DatAll Z vs ((rvs (atN (Opd.mv k) i a) (atN (Opd.mv k) i b) (atN (Plc.mv k) i p)).map Rv.dat)) : DatIn Z v (Rv.dat (atN (Rv.mv k) i x)) := by
  obtain ⟨d, hd, hD⟩ := datAll_at D hv.out
  rw [rvs_at, List.map_map, List.getElem?_map, hx] at hd
  cases hd
  exact hD
-- a range of a number; a loop over it stands still
set_option hygiene false in
local macro_rules | `(tactic| walk_at "call type:range") => `(tactic| (k_here; k_dflt (refine' range1_rows (by k_asm) (by k_asm) ?_; k_whole); intros; (try k_sweep)))
set_option hygiene false in
local macro_rules | `(tactic| walk_at "pyIter ref") => `(tactic| (k_here; (with_reducible show wpAny _ _ (pyIter _) (fun _ _ => LoopAtV _ _ _ _ _ _ _ _ _ _ _) _ _); refine Halt.out ?_))
local macro_rules | `(tactic| walk_at "exec For Name Call cons nil") => `(tactic| (k_here; (rename Fr _ _ _ _ => lF'); (with_unfolding_all refine' For_invVF lF' ?k1 ?k2 ?_; (case k1 => exact rfl); (case k2 => exact rfl); k_whole)))
-- some item of a list that is written down
local macro_rules | `(tactic| walk_at "subscriptTail List") => `(tactic| (k_here; k_dflt (refine' item_anyW (h := ?_); k_whole); intro v9 hv9))
-- an item of a list of the call's own
set_option hygiene false in
local macro_rules | `(tactic| walk_at "subscriptTail Name Constant ref int") => `(tactic| (k_here; (with_reducible show wpAny _ _ (subscriptTail _ _ (Value.ref _) (Value.int _ _)) _ _ _); k_dflt (refine' item_list (News.isList (by k_asm) (by k_mem)) (by decide) (by decide) (by rfl) ?_ (by with_unfolding_all rfl) (by intro _; with_unfolding_all rfl); k_whole)))
local macro_rules | `(tactic| kpr_head) => `(tactic| first | with_reducible exact Up.done | (with_reducible refine' Up.step ?lh ?lx; (case lh => first | exact Nat.le_refl _ | (refine' Nat.le_of_lt ?lz; (case lz => first | with_reducible assumption | tbn_find)) | (refine' Nat.le_of_lt (AllLt.mem ?la (_, _) ?lm); (case la => with_reducible assumption); (case lm => k_mem))); (case lx => kpr_head)) | fail "up")
local macro_rules | `(tactic| walk_at "subscriptTail Name Name ref int") => `(tactic| (k_here; (with_reducible show wpAny _ _ (subscriptTail _ _ (Value.ref _) (Value.int _ _)) _ _ _); k_dflt (first
  | (refine' item_pair Opd.dat (Opd.mv _) ?N ?m ?i ?h1 ?h2 ?_ ?e; (case N => k_asm); (case m => k_mem); (case i => assumption); (case h1 => with_reducible assumption); (case h2 => with_reducible assumption); (case e => with_unfolding_all rfl))
  | (refine' item_pair Plc.dat (Plc.mv _) ?N ?m ?i ?h1 ?h2 ?_ ?e; (case N => k_asm); (case m => k_mem); (case i => assumption); (case h1 => with_reducible assumption); (case h2 => with_reducible assumption); (case e => with_unfolding_all rfl))); k_whole; intro v9 D9))
set_option maxHeartbeats 16000000 in
theorem lrv_ok (w : World) (src : Addr) (o : Obj) (W : Led) (k : Int) (tk : Tok) (hP : Pool o) (hNT : NT o) (hW : ∀ p ∈ W, p.1 ≠ src) :
    PoolC w 201 4 [.ref src, .int k tk] src o W (fun d => ∃ x : Rv, x.small ∧ d = .tuple [x.dat, (x.mv k).dat]) := by
  unfold PoolC Call
  k_fill
  intro p loose mean mg mb dp un gd cn cs a ccd cl outer A₀ base h₀ L m s Q E B F X N T hk hd hu hret
  refine wpAny_call ?_
  k_dflt ktr_enter
  k_steps
  refine ⟨?_⟩
  rename_i ta na a1 a2 xa oa Wa ha1 ha2 Pa Ta Oa Ea Ha Da1 Da2 Sa tb nb b1 b2 xb ob Wb hb1 hb2 Pb Tb Ob Eb Hb Db1 Db2 Sb tc nc c1 c2 xc oc Wc hc1 hc2 Pc Tc Oc Ec Hc Dc1 Dc2 Sc T1 hT1 AT1 lT1 h41 h42 h43 h44 tk1 i₁ ti o1 h1 tk2 lo1 hi1 P1 N1 bt hbt Abt lbt l₁ hl Al ll T2 hT2 AT2 lT2 h51 h52 h53 tk3 h9 tk4 t2 u2 v2 R9 F9 N9 G9
  obtain ⟨x, hx⟩ : ∃ x, (rvs xa xb xc)[i₁.toNat]? = some x := ⟨_, List.getElem?_eq_getElem (by show i₁.toNat < 11; omega)⟩
  have Sx := rvs_small Sa Sb Sc x (List.mem_of_getElem? hx)
  obtain ⟨W₁, hW1⟩ : ∃ W₁, W₁ = (bt, tup #[.str (Str.ofString "int") tk2, .str (Str.ofString "u8") (tk2 + 1)] 0) :: Wc := ⟨_, rfl⟩
  have D₁ : ∀ {v d}, DatIn Wc v d → DatIn W₁ v d := fun D => by subst hW1; exact D.mono fun _ h => mem_t h
  have m1 : ∀ {p}, p ∈ Wc → p ∈ W₁ := fun h => by subst hW1; exact mem_t h
  have A1 := D₁ ((Da1.mono Eb.sub).mono Ec.sub)
  have A2 := D₁ ((Da2.mono Eb.sub).mono Ec.sub)
  have B1 := D₁ (Db1.mono Ec.sub)
  have B2 := D₁ (Db2.mono Ec.sub)
  have C1 := D₁ Dc1
  have C2 := D₁ Dc2
  have hA := m1 (Ec.sub _ (Eb.sub _ Ha))
  have hB := m1 (Ec.sub _ Hb)
  have hC := m1 Hc
  have hby : DatIn W₁ (.ref bt) byteD := by subst hW1; kqd_in
  have e1 : Ext ((src, o) :: W) W W₁ := by subst hW1; ktr_rel
  have f2 : ∀ p ∈ W₁, p.1 ≠ src := by subst hW1; exact allne_cons (Nat.ne_of_gt Abt.2.1) (Oc (src, oc) (.head _))
  have f1 : ∀ p ∈ W₁, p.1 ≠ l₁ := by subst hW1; exact allne_cons (Nat.ne_of_lt Al.1) fun p hp => Nat.ne_of_lt (AllLt.mem Al.2.2.2 p hp)
  have n1 : ∀ p ∈ (l₁, listOf (List.toArray []) 0) :: (src, o1) :: W₁, p ∈ (T2, tup #[.int i₁ ti, .ref bt, .ref l₁] 0) :: (l₁, listOf #[] 0) :: (bt, tup #[.str (Str.ofString "int") tk2, .str (Str.ofString "u8") (tk2 + 1)] 0) :: (T1, tup #[.ref ta, .ref tb, .ref tc] 0) :: (src, o1) :: Wc := by
    subst hW1
    intro p hp
    simp only [List.mem_cons] at hp ⊢
    rcases hp with hp | hp | hp | hp <;> simp [hp]
  have nls : (@LT.lt Nat _ src l₁) := Al.2.2.1
  refine' loop_range ["a", "b"] (fun i nx => ∃ us c W', nx = (l₁, listOf (List.toArray us) c) :: (src, o1) :: W' ∧ Ext W₁ W₁ W' ∧ (∀ p ∈ W', p.1 ≠ l₁) ∧ (∀ p ∈ W', p.1 ≠ src) ∧ DatAll W' us ([x.dat, (x.mv k).dat].take i)) rfl R9 ?small (n := 2) ?size F9 (fun p hp => N9 p (n1 p hp)) ⟨[], 0, W₁, rfl, Ext.refl, f1, f2, .nil⟩ ?_ ?_
  case small => decide
  case size => rfl
  · intro i tk5 u nx h tk6 I oI hi hJ9 hNTI hoff F₁ N₁
    (try (show wpAny _ _ _ _ _ _; k_fold))
    obtain ⟨us, c, W', rfl, e, g1, g2, hus⟩ := hJ9
    have hI1 := hoff (l₁, _) (by k_mem)
    have hI2 := hoff (src, _) (by k_mem)
    have oI1 := neN hI1
    have oI2 := neN hI2
    have hoff' : ∀ p ∈ W', p.1 ≠ I := fun p hp => hoff p (mem_t (mem_t hp))
    have hul : us.length ≤ 2 := by have := hus.length; rw [List.length_take] at this; omega
    have A1 := A1.mono e.sub
    have A2 := A2.mono e.sub
    have B1 := B1.mono e.sub
    have B2 := B2.mono e.sub
    have C1 := C1.mono e.sub
    have C2 := C2.mono e.sub
    have hA := e.sub _ hA
    have hB := e.sub _ hB
    have hC := e.sub _ hC
    have hby := hby.mono e.sub
    (repeat' (first | ((first | (with_reducible show wpAny _ _ (exec _ _) _ _ _) | (with_reducible show wpAny _ _ (eval (PySem.Expr.Tuple _ _ _) _) _ _ _)); k_fold) | (k_unfold; (try dsimp only)) | (k_end; wrow_close) | walk1 | (dsimp only; walk1) | (leave1; try dsimp only) | fail "no step"))
    (rename AtN _ _ _ => hv9)
    (with_reducible rename AllLt _ ((I, oI) :: _) => hT)
    refine' turn_up (P := fun v Z => DatIn Z v (Rv.dat (atN (Rv.mv k) i x))) hv9 hT ?F ?N ?S ?u ?hM hoff' e g1 g2 ?D ?hm ?J
    case F => assumption
    case N => assumption
    case S => tb_rel
    case u => kpr_head
    case hM => exact allne_cons hI1 (allne_cons hI2 allne_nil)
    case hm => (intro z h1 h3; (try simp only [List.contains_cons, List.contains_nil, Bool.or_false, Bool.or_eq_false_iff, beq_eq_false_iff_ne, ne_eq] at h3); simp [inTurn, h1, h3])
    case D =>
      intro hs
      refine rv_pick hv9 hx ?_
      exact (.cons (.tuple (by k_mem) (.cons (.str _ _) (.cons (DatIn.mono hs (by with_reducible assumption)) .nil)))
        (.cons (.tuple (by k_mem) (.cons (.str _ _) (.cons .none (.cons (.str _ _) (.cons (DatIn.mono hs (by with_reducible assumption)) .nil)))))
        (.cons (.tuple (by k_mem) (.cons (.str _ _) (.cons (.str _ _) (.cons (.str _ _) (.cons (DatIn.mono hs (by with_reducible assumption)) .nil)))))
        (.cons (.tuple (by k_mem) (.cons (.str _ _) (.cons (.str _ _) (.cons (DatIn.mono hs (by with_reducible assumption)) (.cons (DatIn.mono hs (by with_reducible assumption)) .nil)))))
        (.cons (.tuple (by k_mem) (.cons (.str _ _) (.cons (.str _ _) (.cons (DatIn.mono hs (by with_reducible assumption)) (.cons (DatIn.mono hs (by with_reducible assumption)) .nil)))))
        (.cons (.tuple (by k_mem) (.cons (.str _ _) (.cons (.str _ _) (.cons (DatIn.mono hs (by with_reducible assumption)) .nil))))
        (.cons (.tuple (by k_mem) (.cons (.str _ _) (.cons (DatIn.mono hs (by with_reducible assumption)) (.cons (DatIn.mono hs hby) .nil))))
        (.cons (.tuple (by k_mem) (.cons (.str _ _) (.cons (.tuple (by k_mem) (.cons (DatIn.mono hs (by with_reducible assumption)) (.cons (DatIn.mono hs (by with_reducible assumption)) .nil))) .nil)))
        (.cons (.tuple (by k_mem) (.cons (.str _ _) (.cons (.tuple (by k_mem) (.cons (DatIn.mono hs (by with_reducible assumption)) (.cons (DatIn.mono hs (by with_reducible assumption)) (.cons (DatIn.mono hs (by with_reducible assumption)) .nil)))) .nil)))
        (.cons (.tuple (by k_mem) (.cons (.str _ _) (.cons (by kqd_in) (.cons (.int _ _) (.cons (.tuple (by k_mem) (.cons (DatIn.mono hs (by with_reducible assumption)) .nil)) .nil)))))
        (.cons (.tuple (by k_mem) (.cons (.str _ _) (.cons (DatIn.mono hs (by with_reducible assumption)) .nil)))
        .nil)))))))))))
    case J =>
      intro Z e' hs g1' g2' hD
      refine' ⟨us ++ [_], _, Z, ?e1, e', g1', g2', ?e2⟩
      case e1 => simp only [List.push_toArray]; rfl
      case e2 =>
        rw [take_pair Rv.dat (Rv.mv k) x hi]
        exact DatAll.append (hus.mono hs) (DatAll.one hD)
  · intro u nx h tk3 hJ9 F₁ N₁
    (try (show wpAny _ _ _ _ _ _; k_fold))
    obtain ⟨us, c, W', rfl, e, g1, g2, hus⟩ := hJ9
    obtain ⟨y1, y2, rfl, hy1, hy2⟩ := datAll_two hus
    have e2 : Ext ((src, o) :: W) W W' := ext_stepK (o₂ := o1) e (Off.cons g2 Off.nil) (.head _) e1
    k_steps
    refine' pool_out hret ?F ?N ?S ?hP ?e ?D (okD_le (by decide) (ok2 (Rv.ok x) (Rv.ok (x.mv k)))) ⟨x, Sx, rfl⟩
    case F => assumption
    case N => assumption
    case S => tb_rel
    case hP => assumption
    case e => exact ext_newS (by assumption) (by k_mem) (fun p hp => mem_t (mem_t (e2.sub _ hp))) e2
    case D => exact .tuple mem_h (.cons (hy1.mono fun _ h => mem_t h) (.cons (hy2.mono fun _ h => mem_t h) .nil))
end
-- an rvalue drawn
set_option hygiene false in
local macro_rules | `(tactic| walk_at "call ref") => `(tactic| (k_here; (with_reducible show wpAny _ _ (call (Value.ref 201) _) _ _ _); k_dflt (refine' pair_use Rv.dat (Rv.mv _) Rv.small (fun P' NT' W' hW' => lrv_ok _ _ _ W' _ _ P' NT' hW') (h := ?_); k_whole); ktu_objs))
-- one of a list of things
set_option hygiene false in
local macro_rules | `(tactic| walk_at "call ref") => `(tactic| (k_here; (with_reducible show wpAny _ _ (call (Value.ref 180) _) _ _ _); k_dflt (refine' lone_use (h := ?_); k_whole); ktu_objs))
theorem off_p15_st : True := by
  w_top off
  exact True.intro
set_option maxHeartbeats 16000000 in
theorem lst_ok (w : World) (src : Addr) (o : Obj) (W : Led) (k : Int) (tk : Tok) (hP : Pool o) (hNT : NT o) (hW : ∀ p ∈ W, p.1 ≠ src) :
    PoolC w 208 5 [.ref src, .int k tk] src o W (fun d => ∃ x : St, x.small ∧ d = .tuple [x.dat, (x.mv k).dat]) := by
  unfold PoolC Call
  k_fill
  intro p loose mean mg mb dp un gd cn cs a ccd cl outer A₀ base h₀ L m s Q E B F X N T hk hd hu hret
  refine wpAny_call ?_
  k_dflt ktr_enter
  (repeat' (first | ((first | (with_reducible show wpAny _ _ (exec _ _) _ _ _) | (with_reducible show wpAny _ _ (eval (PySem.Expr.Tuple _ _ _) _) _ _ _)); k_fold) | (k_unfold; (try dsimp only)) | (k_end; wrow_close) | walk1 | (dsimp only; walk1) | (leave1; try dsimp only) | fail "no step"))
  · refine' pool_out hret ?F ?N ?S ?hP ?e ?D ?f ⟨St.asg _ _, ?sm, rfl⟩
    case F => assumption
    case N => assumption
    case S => tb_rel
    case hP => assumption
    case e => ktr_rel
    case D => kqd_in
    case f => exact okD_le (by decide) (ok2 (St.ok _) (St.ok _))
    case sm => exact ⟨by assumption, by assumption⟩
  · refine' pool_out hret ?F ?N ?S ?hP ?e ?D ?f ⟨St.asg _ (Rv.box _), ?sm, rfl⟩
    case F => assumption
    case N => assumption
    case S => tb_rel
    case hP => assumption
    case e => ktr_rel
    case D => kqd_in
    case f => exact okD_le (by decide) (ok2 (St.ok _) (St.ok _))
    case sm => exact ⟨by assumption, by assumption⟩
  · refine' pool_out hret ?F ?N ?S ?hP ?e ?D ?f ⟨St.prt _, ?sm, rfl⟩
    case F => assumption
    case N => assumption
    case S => tb_rel
    case hP => assumption
    case e => ktr_rel
    case D => kqd_in
    case f => exact okD_le (by decide) (ok2 (St.ok _) (St.ok _))
    case sm => assumption
  · (rename At _ _ => hA)
    rcases hA.c2 with rfl | rfl
    · refine' pool_out hret ?F ?N ?S ?hP ?e ?D ?f ⟨St.live _, ?sm, rfl⟩
      case F => assumption
      case N => assumption
      case S => tb_rel
      case hP => assumption
      case e => ktr_rel
      case D => kqd_in
      case f => exact okD_le (by decide) (ok2 (St.ok _) (St.ok _))
      case sm => exact True.intro
    · refine' pool_out hret ?F ?N ?S ?hP ?e ?D ?f ⟨St.dead _, ?sm, rfl⟩
      case F => assumption
      case N => assumption
      case S => tb_rel
      case hP => assumption
      case e => ktr_rel
      case D => kqd_in
      case f => exact okD_le (by decide) (ok2 (St.ok _) (St.ok _))
      case sm => exact True.intro
  · refine' pool_out hret ?F ?N ?S ?hP ?e ?D ?f ⟨St.nop, ?sm, rfl⟩
    case F => assumption
    case N => assumption
    case S => tb_rel
    case hP => assumption
    case e => ktr_rel
    case D => kqd_in
    case f => exact okD_le (by decide) (ok2 (St.ok _) (St.ok _))
    case sm => exact True.intro
/-! ## moved in two steps -/
theorem Stp.mv_mv (a b : Int) (x : Stp) : (x.mv a).mv b = x.mv (a + b) := by cases x <;> simp [Stp.mv, Int.add_assoc]
theorem Stp.mv_zero (x : Stp) : x.mv 0 = x := by cases x <;> simp [Stp.mv]
theorem Plc.mv_mv (a b : Int) (x : Plc) : (x.mv a).mv b = x.mv (a + b) := by
  cases x with
  | mk l s =>
    unfold Plc.mv
    simp only [List.map_map, Int.add_assoc]
    congr 1
    exact List.map_congr_left fun y _ => Stp.mv_mv a b y
theorem Plc.mv_zero (x : Plc) : x.mv 0 = x := by
  cases x with
  | mk l s =>
    unfold Plc.mv
    simp only [Int.add_zero]
    congr 1
    have : Stp.mv 0 = id := funext Stp.mv_zero
    rw [this, List.map_id]
theorem Opd.mv_mv (a b : Int) (x : Opd) : (x.mv a).mv b = x.mv (a + b) := by cases x <;> simp [Opd.mv, Plc.mv_mv]
theorem Opd.mv_zero (x : Opd) : x.mv 0 = x := by cases x <;> simp [Opd.mv, Plc.mv_zero]
theorem Rv.mv_mv (a b : Int) (x : Rv) : (x.mv a).mv b = x.mv (a + b) := by cases x <;> simp [Rv.mv, Plc.mv_mv, Opd.mv_mv]
theorem Rv.mv_zero (x : Rv) : x.mv 0 = x := by cases x <;> simp [Rv.mv, Plc.mv_zero, Opd.mv_zero]
theorem St.mv_mv (a b : Int) (x : St) : (x.mv a).mv b = x.mv (a + b) := by cases x <;> simp [St.mv, Plc.mv_mv, Rv.mv_mv, Opd.mv_mv, Int.add_assoc]
theorem St.mv_zero (x : St) : x.mv 0 = x := by cases x <;> simp [St.mv, Plc.mv_zero, Rv.mv_zero, Opd.mv_zero]
theorem St.undo (k : Int) (x : St) : (x.mv k).mv (0 - k) = x := by
  rw [St.mv_mv, show k + (0 - k) = 0 by omega, St.mv_zero]
theorem St.two (k p : Int) (x : St) : (x.mv p).mv (k - p) = x.mv k := by
  rw [St.mv_mv, show p + (k - p) = k by omega]
theorem Tm.undo (k b : Int) (x : Tm) : (x.mv k b).mv (0 - k) (0 - b) = x := by
  have e1 : ∀ n : Int, n + b + (0 - b) = n := fun n => by omega
  have e2 : ∀ y : Opd, (y.mv k).mv (0 - k) = y := fun y => by rw [Opd.mv_mv, show k + (0 - k) = 0 by omega, Opd.mv_zero]
  have e3 : ∀ y : Plc, (y.mv k).mv (0 - k) = y := fun y => by rw [Plc.mv_mv, show k + (0 - k) = 0 by omega, Plc.mv_zero]
  cases x with
  | sw a rows last =>
    simp only [Tm.mv, e2, List.map_map]
    congr 1
    · have : rowMv (0 - b) ∘ rowMv b = id := by
        funext r
        cases r
        simp only [Function.comp, rowMv, e1, id]
      rw [this, List.map_id]
    · cases last <;> simp only [Option.map, e1]
  | goto n => simp only [Tm.mv, e1]
  | drop p n => simp only [Tm.mv, e1, e3]
  | asrt a n => simp only [Tm.mv, e1, e2]
  | ret => rfl
  | pan => rfl
  | unr => rfl
theorem Plc.small_mv {x : Plc} {k : Int} (h : x.small) : (x.mv k).small := by
  unfold Plc.small Plc.mv at *
  simpa using h
theorem Opd.small_mv {x : Opd} {k : Int} (h : x.small) : (x.mv k).small := by cases x <;> first | exact True.intro | exact Plc.small_mv h
theorem Rv.small_mv {x : Rv} {k : Int} (h : x.small) : (x.mv k).small := by
  cases x <;> first | exact Plc.small_mv h | exact Opd.small_mv h | exact ⟨Opd.small_mv h.1, Opd.small_mv h.2⟩ | exact ⟨Opd.small_mv h.1, Opd.small_mv h.2.1, Opd.small_mv h.2.2⟩
theorem St.small_mv {x : St} {k : Int} (h : x.small) : (x.mv k).small := by
  cases x <;> first | exact True.intro | exact Opd.small_mv h | exact ⟨Plc.small_mv h.1, Rv.small_mv h.2⟩
theorem Tm.small_mv {x : Tm} {k b : Int} (h : x.small) : (x.mv k b).small := by
  cases x with
  | sw a rows last => exact ⟨Opd.small_mv h.1, by rw [List.length_map]; exact h.2⟩
  | drop p n => exact Plc.small_mv h
  | asrt a n => exact Opd.small_mv h
  | _ => exact True.intro
section
variable {prog : Program} {w : World} {A : Around} {E : Value → Shared → Prop} {s : Shared} {h₀ : Heap} {L : Addr} {news : Led} {v u : Value} {d d' : Dat} {Q : Value → Shared → Prop}
theorem alike_ne (N : News h₀ L s.heap news := by k_asm) (Dv : DatIn news v d := by kqd_in) (Du : DatIn news u d' := by kqd_in) (e : d = d' := by first | with_reducible exact rfl | with_reducible exact congrArg Tm.dat (Tm.undo _ _ _) | with_reducible exact congrArg St.dat (St.undo _ _) | with_reducible exact congrArg St.dat (St.two _ _ _) | exact rfl | exact congrArg St.dat (St.undo _ _) | exact congrArg St.dat (St.two _ _ _)) (hd : fine d := by first | with_reducible exact St.fine _ | with_reducible exact Rv.fine _ | with_reducible exact Opd.fine _ | with_reducible exact Tm.fine _ | with_reducible exact Plc.fine _ | exact okD_le (by decide) (ok2 (Opd.ok _) (Opd.ok _))) (hu : A.units + 64 < cLine := by ktr_units) (h : Q (.bool false) s) :
    wpAny (model prog w) A (compareOp .NotEq v u) Q E s := same_ne N Dv (fun _ h => h) (e ▸ Du) (fun _ h => h) hd hu h
theorem alike_eq (N : News h₀ L s.heap news := by k_asm) (Dv : DatIn news v d := by kqd_in) (Du : DatIn news u d' := by kqd_in) (e : d = d' := by first | with_reducible exact rfl | with_reducible exact congrArg Tm.dat (Tm.undo _ _ _) | with_reducible exact congrArg St.dat (St.undo _ _) | with_reducible exact congrArg St.dat (St.two _ _ _) | exact rfl | exact congrArg St.dat (St.undo _ _) | exact congrArg St.dat (St.two _ _ _)) (hd : fine d := by first | with_reducible exact St.fine _ | with_reducible exact Rv.fine _ | with_reducible exact Opd.fine _ | with_reducible exact Tm.fine _ | with_reducible exact Plc.fine _ | exact okD_le (by decide) (ok2 (Opd.ok _) (Opd.ok _))) (hu : A.units + 64 < cLine := by ktr_units) (h : Q (.bool true) s) :
    wpAny (model prog w) A (compareOp .Eq v u) Q E s := same_eq N Dv (fun _ h => h) (e ▸ Du) (fun _ h => h) hd hu h
end
-- a statement drawn
set_option hygiene false in
local macro_rules | `(tactic| walk_at "call ref") => `(tactic| (k_here; (with_reducible show wpAny _ _ (call (Value.ref 208) _) _ _ _); k_dflt (refine' pair_use St.dat (St.mv _) St.small (fun P' NT' W' hW' => lst_ok _ _ _ W' _ _ P' NT' hW') (h := ?_); k_whole); ktu_objs))
-- alike
set_option hygiene false in
local macro_rules | `(tactic| walk_at "compareOp NotEq") => `(tactic| (k_here; k_dflt (refine' alike_ne (h := ?_); k_whole)))
set_option hygiene false in
local macro_rules | `(tactic| walk_at "compareOp NotEq ref ref") => `(tactic| (k_here; k_dflt (refine' alike_ne (h := ?_); k_whole)))
theorem off_p18_rows : True := by
  w_top off
  exact True.intro
section
theorem NT.itR {a b : Int} : NT (itR a b) := NT.ofCls (by unfold PySem.W.itR; simp)
-- the end of a turn of a loop that is rolled out
local macro_rules | `(tactic| kpr_head) => `(tactic| first | with_reducible exact Less.here | (with_reducible refine' Less.skip ?lx; (case lx => kpr_head)) | fail "less")
set_option hygiene false in
local macro_rules | `(tactic| walk_at "UnrEnd") => `(tactic| (refine' UnrEnd.less (by assumption) (by assumption) (by kpr_head) (by kst_src) ?_))
-- an item of a list of the call's own
set_option hygiene false in
local macro_rules | `(tactic| walk_at "subscriptTail Name Constant ref int") => `(tactic| (k_here; (with_reducible show wpAny _ _ (subscriptTail _ _ (Value.ref _) (Value.int _ _)) _ _ _); k_dflt (refine' item_list (News.isList (by k_asm) (by k_mem)) (by decide) (by decide) (by rfl) ?_ (by with_unfolding_all rfl) (by intro _; with_unfolding_all rfl); k_whole)))
-- a statement moved
set_option hygiene false in
local macro_rules | `(tactic| walk_at "call ref") => `(tactic| (k_here; (with_reducible show wpAny _ _ (call (Value.ref 145) _) _ _ _); k_dflt (refine' mst_use (h := ?_); k_whole); ktu_objs))
-- the iterator of a range
set_option hygiene false in
local macro_rules | `(tactic| tb_rel) => `(tactic| first | with_reducible exact NT.itR | fail "itR")
set_option hygiene false in
local macro_rules | `(tactic| walk_at "compareOp Eq") => `(tactic| (k_here; k_dflt (refine' alike_eq (h := ?_); k_whole)))
set_option hygiene false in
local macro_rules | `(tactic| walk_at "compareOp Eq ref ref") => `(tactic| (k_here; k_dflt (refine' alike_eq (h := ?_); k_whole)))
set_option maxHeartbeats 16000000 in
theorem lrows_ok (w : World) (src : Addr) (o : Obj) (W : Led) (k : Int) (tk : Tok) (hk0 : 0 ≤ k) (hk1 : k ≤ 40) (hP : Pool o) (hNT : NT o) (hW : ∀ p ∈ W, p.1 ≠ src) :
    PoolC w 220 7 [.ref src, .int k tk] src o W (fun d => d = .bool true) := by
  unfold PoolC Call
  k_fill
  intro p loose mean mg mb dp un gd cn cs a ccd cl outer A₀ base h₀ L m s Q E B F X N T hk hd hu hret
  refine wpAny_call ?_
  k_dflt ktr_enter
  (repeat' (first | ((first | (with_reducible show wpAny _ _ (exec _ _) _ _ _) | (with_reducible show wpAny _ _ (eval (PySem.Expr.Tuple _ _ _) _) _ _ _)); k_fold) | (k_unfold; (try dsimp only)) | (k_end; wrow_close) | walk1 | (dsimp only; walk1) | (leave1; try dsimp only) | fail "no step"))
  refine' pool_out (d := .bool true) hret ?F ?N ?S ?hP ?e ?D ?f rfl
  case F => assumption
  case N => assumption
  case S => tb_rel
  case hP => assumption
  case e => ktr_rel
  case D => kqd_in
  case f => exact okB
end
theorem off_p19_key : True := by
  w_top off
  exact True.intro
section
theorem Tm.word {W : Led} {v : Value} (x : Tm) (h : DatIn W v x.dat) : ∃ a y t vs n, v = .ref a ∧ (a, tup (List.toArray (.str y t :: vs)) n) ∈ W ∧ (y == Str.ofString "call") = false := by
  have key : ∀ {y : Str} {ds : List Dat}, (y == Str.ofString "call") = false → DatIn W v (.tuple (.str y :: ds)) → ∃ a y t vs n, v = .ref a ∧ (a, tup (List.toArray (.str y t :: vs)) n) ∈ W ∧ (y == Str.ofString "call") = false := by
    intro y ds hy h
    obtain ⟨a, vs, n, rfl, hm, h⟩ := dTup h
    obtain ⟨v1, us, rfl, h1, h⟩ := aC h
    obtain ⟨t, rfl⟩ := dStr h1
    exact ⟨a, y, t, us, n, rfl, hm, hy⟩
  cases x <;> exact key (by decide +kernel) h
section
variable {prog : Program} {w : World} {A : Around} {E : Value → Shared → Prop} {s : Shared} {h₀ : Heap} {L l : Addr} {news : Led} {v : Value} {vs : List Value} {c : Nat} {u : Tok} {Q : Value → Shared → Prop}
/-- the first of a tuple -/
theorem item_zero {value slice : Expr} (N : News h₀ L s.heap news := by k_asm) (hm : (l, tup (List.toArray (v :: vs)) c) ∈ news := by first | with_reducible assumption | with_reducible k_mem | k_mem) (h : Q v s) (hs : subscripted slice false (.ref l) (.int 0 u) = operate [.ref l, .int 0 u] (getItem (.ref l) (.int 0 u)) := by with_unfolding_all rfl) :
    wpAny (model prog w) A (subscriptTail value slice (.ref l) (.int 0 u)) Q E s := by
  have ht : IsTup s.heap l (v :: vs).toArray := N.isTup hm
  refine tail_any ht.typeIs slot_tuple_getitem.lookup (getItem_tuple (j := 0) ht (by omega) (by omega) ?_ (by simp) h) hs
  unfold seqIndex?
  simp
end
local macro_rules | `(tactic| walk_at "subscriptTail Name Constant ref int") => `(tactic| (k_here; k_dflt (refine' item_zero (h := ?_); k_whole)))
set_option maxHeartbeats 8000000 in
/-- called_key of an end that is no call -/
theorem mck_ok (w : World) (W : Led) (v : Value) (x : Tm) (hv : DatIn W v x.dat) : PureC w 159 1 [v] W (fun d => d = .none) := by
  unfold PureC Call
  k_fill
  intro pr loose mean mg mb dp un gd cn cs a₀ ccd cl outer A₀ base h₀ L m s Q E B F X N T hk hd hu hret
  obtain ⟨b₀, y, t, vs, n, rfl, hm, hy⟩ := Tm.word x hv
  refine wpAny_call ?_
  k_dflt ktr_enter
  k_steps
  refine' pure_out (d := .none) hret ?F ?N ?S ?e ?D okN rfl
  case F => assumption
  case N => assumption
  case S => tb_rel
  case e => ktr_rel
  case D => exact DatIn.none
section
variable {w : World} {p : Program} {loose : List Str} {mean : ExcName → Option Value} {mg mb : Str → Option Value} {dp un : Nat} {gd : Option (List Code)} {cn : Str} {cs : Scope} {a : Addr} {ccd : Value} {cl : List (Str × Addr)} {outer : List Env} {A₀ : Around} {base h₀ : Heap} {L : Addr} {m : Str → Option Value} {s : Shared} {Q E : Value → Shared → Prop}
  {news M W : Led} {v : Value} {x : Tm}
theorem mck_use (F : Fr h₀ L s.heap m := by k_asm) (N : News h₀ L s.heap news := by k_asm) (S : Split news M W := by tb_rel) (hv : DatIn W v x.dat := by ktd_rel) (B : Below A₀ base outer h₀ := by k_asm) (X : (hd.heap_1 w.params).In h₀ := by k_asm) (T : Top p loose mean mg mb h₀ := by k_asm) (hk : cs.kind = .function := by first | exact rfl | assumption) (hd : dp + 1 < recursionLimit := by ktr_room) (hu : un + 8 * 1 + 64 < cLine := by ktr_units) (O : Off M W := by tb_rel) (h : ∀ W' h' tk', Fr h₀ L h' m → News h₀ L h' (M ++ W') → Off M W' → Ext (M ++ W) W W' → Q .none { s with heap := h', toks := tk' }) :
    wpAny (model PySem.Challenge.rw_xm0589_01.row.prog w) (ktrTop dp un gd cn cs L a ccd cl outer) (call (.ref 159) [v]) Q E s :=
  pure_use S (mck_ok w (M ++ W) v x (hv.mono fun _ h => List.mem_append_right _ h)) B F X N T hk hd hu O fun r W' d h' tk' F' N' O' e D _ hΦ => by
    subst hΦ
    obtain rfl := dNone D
    exact h W' h' tk' F' N' O' e
end
end
theorem off_p16_end : True := by
  w_top off
  exact True.intro
section
section
open PyProof.Rows.LCg
theorem comp_end {h₀ : Heap} {L I C D T : Addr} {m : Str → Option Value} {s₁ : Shared} {oI oC oD oT : Obj} {S : List (Addr × Obj) → Prop} {rest : Value → List (Addr × Obj) → Prop} {y : Value} {h' : Heap} {tk : Nat} {old : Led}
    (F : Fr h₀ L h' m := by assumption) (N : News h₀ L h' ((T, oT) :: (I, oI) :: (C, oC) :: (D, oD) :: old) := by assumption) (lt : AllLt T ((I, oI) :: (C, oC) :: (D, oD) :: old) := by with_reducible assumption) (off : Off3 I C D old := by with_reducible assumption) (hS : S ((T, oT) :: old) := by exact .inr ⟨_, by k_mem, rfl, _, rfl⟩) (r : rest y ((T, oT) :: old)) :
    CompEnd h₀ L m s₁ I oI C oC D oD S rest y { s₁ with heap := h', toks := tk } := by
  refine CompEnd.intro F N ((T, oT) :: old) (fun p hp => ?_) (Off3.of fun p hp => ?_) hS r
  · simp only [List.mem_cons] at hp ⊢
    rcases hp with hp | hp | hp | hp | hp <;> simp [hp]
  · rcases List.mem_cons.mp hp with rfl | hp
    · exact ⟨Nat.ne_of_gt lt.1, Nat.ne_of_gt lt.2.1, Nat.ne_of_gt lt.2.2.1⟩
    · exact off.mem p hp
end
section
open PyProof.Rows.LCg
variable {prog : Program} {w : World} {A : Around} {E : Value → Shared → Prop} {s : Shared} {h₀ : Heap} {L l : Addr} {m : Str → Option Value} {news : Led} {us : List Value} {Q : Value → Shared → Prop}
/-- tuple(a list that a comprehension has made) -/
theorem tupleOfL (F : Fr h₀ L s.heap m := by k_asm) (N : News h₀ L s.heap news := by k_asm) (hm : (l, lst us) ∈ news := by with_reducible exact mem_h) (hz : us.length ≤ 16384 := by first | exact Nat.le_of_ble_eq_true rfl | ((try simp only [List.length_append, List.length_cons, List.length_nil]); omega))
    (h : ∀ D h', Fr h₀ L h' m → News h₀ L h' ((D, tup (List.toArray us) 0) :: news) → (∀ p ∈ news, p.1 < D) → Q (.ref D) { s with heap := h' }) : wpAny (model prog w) A (call (.type "tuple") [.ref l]) Q E s :=
  tupleOf F N hm hz h
end
section
variable {prog : Program} {w : World} {A : Around} {E : Value → Shared → Prop} {s : Shared} {h₀ : Heap} {L l : Addr} {m : Str → Option Value} {news : Led} {r1 r2 : Value} {c : Nat} {b : Int} {u : Tok} {Q : Value → Shared → Prop}
theorem slice_cut {value slice : Expr} (F : Fr h₀ L s.heap m := by k_asm) (N : News h₀ L s.heap news := by k_asm) (hm : (l, listOf (List.toArray [r1, r2]) c) ∈ news := by k_mem) (h0 : 0 ≤ b := by first | assumption | omega) (hb : b < 3 := by first | assumption | omega) (ha : ∀ D h', Fr h₀ L h' m → News h₀ L h' ((D, listOf (List.toArray []) 0) :: news) → (∀ p ∈ news, p.1 < D) → Q (.ref D) { s with heap := h' }) (hb' : ∀ D h', Fr h₀ L h' m → News h₀ L h' ((D, listOf (List.toArray [r1]) 0) :: news) → (∀ p ∈ news, p.1 < D) → Q (.ref D) { s with heap := h' }) (hc : ∀ D h', Fr h₀ L h' m → News h₀ L h' ((D, listOf (List.toArray [r1, r2]) 0) :: news) → (∀ p ∈ news, p.1 < D) → Q (.ref D) { s with heap := h' }) (hs : subscripted slice false (.ref l) (.ref s.heap.objs.size) = operate [.ref s.heap.objs.size, .ref l] (getItem (.ref l) (.ref s.heap.objs.size)) := by with_unfolding_all rfl) :
    wpAny (model prog w) A (subscriptTail value slice (.ref l) (.ref s.heap.objs.size)) Q E { s with heap := s.heap.push { cls := .type "slice", data := .fields #[.none, .int b u, .none] } } := by
  have hl : s.heap.IsList l (List.toArray [r1, r2]) := N.isList hm
  refine tail_any (Heap.IsList.typeIs (s := { s with heap := s.heap.push { cls := .type "slice", data := .fields #[.none, .int b u, .none] } }) (hl.push _)) list_getitem_lookup
    (wpAny_getItem_list_slice (hl.push _) (Heap.IsSliceOf.new ..) .none (.int b u) .none (by simp) ?_ (by rw [sizeLine_eq]; exact Nat.le_of_ble_eq_true rfl)) hs
  have N1 := News.push (F.push { cls := .type "slice", data := .fields #[.none, .int b u, .none] }) (N.grown fun _ _ e => Heap.get?_push_of_some _ e) { cls := .type "list", data := .seq (slicePick (List.toArray [r1, r2]) none (some b) none) }
  rw [Heap.size_push] at N1
  show Q (.ref (s.heap.push _).objs.size) _
  rw [Heap.size_push]
  rw [kms_pick_eq] at N1 ⊢
  have l1 : ∀ p ∈ news, @LT.lt Nat _ p.1 (s.heap.objs.size + 1) := fun p hp => Nat.lt_succ_of_lt (Heap.lt_size (N p hp).1)
  have hb3 : b = 0 ∨ b = 1 ∨ b = 2 := by omega
  rcases hb3 with rfl | rfl | rfl
  · exact ha _ _ ((F.push _).push _) N1 l1
  · exact hb' _ _ ((F.push _).push _) N1 l1
  · exact hc _ _ ((F.push _).push _) N1 l1
end
section
variable {w : World} {p : Program} {loose : List Str} {mean : ExcName → Option Value} {mg mb : Str → Option Value} {dp un : Nat} {gd : Option (List Code)} {cn : Str} {cs : Scope} {a : Addr} {ccd : Value} {cl : List (Str × Addr)} {outer : List Env} {A₀ : Around} {base h₀ : Heap} {L : Addr} {m : Str → Option Value} {s : Shared} {Q E : Value → Shared → Prop}
  {src l : Addr} {o : Obj} {news : Led} {g : Obj → Led} {u v : Value} {c : Nat}
/-- one of two, told apart -/
theorem lone_use2 (F : Fr h₀ L s.heap m := by k_asm) (N : News h₀ L s.heap news := by k_asm) (U : UpdF src o news g := by k_updF) (hP : Pool o := by assumption) (hl : (l, listOf (List.toArray [u, v]) c) ∈ news := by k_mem) (hs : l ≠ src := by (refine' Nat.ne_of_gt ?xc; (case xc => first | with_reducible assumption | tbn_find | omega))) (B : Below A₀ base outer h₀ := by k_asm) (X : (hd.heap_1 w.params).In h₀ := by k_asm) (T : Top p loose mean mg mb h₀ := by k_asm) (hk : cs.kind = .function := by first | exact rfl | assumption) (hd : dp + 2 < recursionLimit := by ktr_room) (hu : un + 8 * 2 + 64 < cLine := by ktr_units) (h1 : ∀ o' h' tk', Pool o' → NT o' → Fr h₀ L h' m → News h₀ L h' (g o') → Q u { s with heap := h', toks := tk' }) (h2 : ∀ o' h' tk', Pool o' → NT o' → Fr h₀ L h' m → News h₀ L h' (g o') → Q v { s with heap := h', toks := tk' }) :
    wpAny (model PySem.Challenge.rw_xm0589_01.row.prog w) (ktrTop dp un gd cn cs L a ccd cl outer) (call (.ref 180) [.ref src, .ref l]) Q E s :=
  lone_use F N U hP hl hs (Nat.zero_lt_succ _) (Nat.le_of_ble_eq_true rfl) B X T hk hd hu fun r o' h' tk' hA P' T' F' N' => by
    rcases At.c2 hA with rfl | rfl
    · exact h1 o' h' tk' P' T' F' N'
    · exact h2 o' h' tk' P' T' F' N'
end
-- some item of a tuple that is written down
local macro_rules | `(tactic| walk_at "subscriptTail Tuple") => `(tactic| (k_here; k_dflt (refine' item_anyT (h := ?_); k_whole); intro v9 hv9))
-- the first of two rows: none, one, both
set_option hygiene false in
local macro_rules | `(tactic| walk_at "subscriptTail Name Slice ref ref") => `(tactic| (focus (k_here; (with_reducible show wpAny _ _ (subscriptTail _ (PySem.Expr.Slice none (some _) none _) (Value.ref _) (Value.ref _)) _ _ _); k_dflt (refine' slice_cut (ha := ?_) (hb' := ?_) (hc := ?_)); all_goals kst_same)))
-- one of two things, told apart
set_option hygiene false in
local macro_rules | `(tactic| walk_at "call ref") => `(tactic| (focus (k_here; (with_reducible show wpAny _ _ (call (Value.ref 180) _) _ _ _); k_dflt (refine' lone_use2 (h1 := ?_) (h2 := ?_)); all_goals ktu_objs)))
-- the rows, each turned
set_option hygiene false in
local macro_rules | `(tactic| walk_at "eval ListComp") => `(tactic| (k_here; k_dflt (refine LCp.ListComp_P (F₀ := by k_asm) (by with_unfolding_all rfl) (by decide) (by rfl) (by decide) (by rfl) (by rfl) (by decide) ?_)))
local macro_rules | `(tactic| walk_at "SrcLP") => `(tactic| (k_here; k_dflt (refine' LCp.SrcLP.ledger (by exact rfl) (by k_asm) (by k_asm) (by k_mem) (by rw [sizeLine_eq]; exact Nat.le_of_ble_eq_true rfl) ?_); intro g'; lcp_lit))
set_option hygiene false in
local macro_rules | `(tactic| walk_at "call type:tuple") => `(tactic| (k_here; (with_reducible show wpAny _ _ (call (Value.type _) [Value.ref _]) _ _ _); k_dflt (with_reducible refine' tupleOf (h := ?_); k_whole); kst_same))
set_option hygiene false in
local macro_rules | `(tactic| walk_at "call type:tuple") => `(tactic| (k_here; (with_reducible show wpAny _ _ (call (Value.type _) [Value.ref _]) _ _ _); k_dflt (with_reducible refine' tupleOfL (h := ?_); k_whole); kst_same))
local macro_rules | `(tactic| walk_at "CompRestP") => `(tactic| (with_unfolding_all first
  | (refine LCp.CompRestP.succ ?_; intro v' hv'; lcg_open hv'; refine ⟨_, _, _, _, _, rfl, by k_mem, rfl, rfl, ?_⟩; intros)
  | refine LCp.CompRestP.zero ?_))
set_option hygiene false in
local macro_rules | `(tactic| walk_at "CompEnd") => `(tactic| (refine' comp_end (r := ?_)))
set_option maxHeartbeats 16000000 in
theorem lend_ok (w : World) (src : Addr) (o : Obj) (W : Led) (k b : Int) (tk tb : Tok) (hP : Pool o) (hNT : NT o) (hW : ∀ p ∈ W, p.1 ≠ src) :
    PoolC w 213 5 [.ref src, .int k tk, .int b tb] src o W (fun d => ∃ x : Tm, x.small ∧ d = .tuple [x.dat, (x.mv k b).dat]) := by
  unfold PoolC Call
  k_fill
  intro p loose mean mg mb dp un gd cn cs a ccd cl outer A₀ base h₀ L m s Q E B F X N T hk hd hu hret
  refine wpAny_call ?_
  k_dflt (refine' code_defC ?k1 ?k2 ?k3 ?k4 ?k5 ?kA ?kF ?kK ?k6 ?k7 ?k8 ?k9 ?kB ?kD ?_ ?c2 ?c3 ?c4; (case kA | kF => exact rfl); (case kK => assumption); (case k1 | k2 | k3 | k4 | k5 => k_asm); (case k6 | k7 => k_is); (case k8 => ktr_room); (case k9 => exact BindsTo.of_eq rfl); (case kB | c2 | c3 | c4 => exact rfl); (case kD => decide +kernel); k_whole; intro _ _ _ _ _ _ _ N' Y' _ _ _ l1; k_cells Y'; (try simp only [List.cons_append, List.nil_append] at N'); (try k_lt l1); (try dsimp only); (try k_fold))
  (repeat' (first | ((first | (with_reducible show wpAny _ _ (exec _ _) _ _ _) | (with_reducible show wpAny _ _ (eval (PySem.Expr.Tuple _ _ _) _) _ _ _)); k_fold) | (k_unfold; (try dsimp only)) | (k_end; wrow_close) | walk1 | (dsimp only; walk1) | (leave1; try dsimp only) | fail "no step"))
  · refine' pair_out hret (fun x => okD_le (by decide) (Tm.ok x)) ?F ?N ?S ?hP ?e ?D
    case F => assumption
    case N => assumption
    case S => tb_rel
    case hP => assumption
    case e => ktr_rel
    case D =>
    refine' ⟨Tm.sw _ [] none, ?sm, ?d⟩
    case d => kqd_in
    case sm => exact ⟨by assumption, Nat.le_of_ble_eq_true rfl⟩
  · refine' pair_out hret (fun x => okD_le (by decide) (Tm.ok x)) ?F ?N ?S ?hP ?e ?D
    case F => assumption
    case N => assumption
    case S => tb_rel
    case hP => assumption
    case e => ktr_rel
    case D =>
    refine' ⟨Tm.sw _ [] (some _), ?sm, ?d⟩
    case d => kqd_in
    case sm => exact ⟨by assumption, Nat.le_of_ble_eq_true rfl⟩
  · refine' pair_out hret (fun x => okD_le (by decide) (Tm.ok x)) ?F ?N ?S ?hP ?e ?D
    case F => assumption
    case N => assumption
    case S => tb_rel
    case hP => assumption
    case e => ktr_rel
    case D =>
    refine' ⟨Tm.sw _ [(_, _)] none, ?sm, ?d⟩
    case d => kqd_in
    case sm => exact ⟨by assumption, Nat.le_of_ble_eq_true rfl⟩
  · refine' pair_out hret (fun x => okD_le (by decide) (Tm.ok x)) ?F ?N ?S ?hP ?e ?D
    case F => assumption
    case N => assumption
    case S => tb_rel
    case hP => assumption
    case e => ktr_rel
    case D =>
    refine' ⟨Tm.sw _ [(_, _)] (some _), ?sm, ?d⟩
    case d => kqd_in
    case sm => exact ⟨by assumption, Nat.le_of_ble_eq_true rfl⟩
  · refine' pair_out hret (fun x => okD_le (by decide) (Tm.ok x)) ?F ?N ?S ?hP ?e ?D
    case F => assumption
    case N => assumption
    case S => tb_rel
    case hP => assumption
    case e => ktr_rel
    case D =>
    refine' ⟨Tm.sw _ [(_, _), (_, _)] none, ?sm, ?d⟩
    case d => kqd_in
    case sm => exact ⟨by assumption, Nat.le_of_ble_eq_true rfl⟩
  · refine' pair_out hret (fun x => okD_le (by decide) (Tm.ok x)) ?F ?N ?S ?hP ?e ?D
    case F => assumption
    case N => assumption
    case S => tb_rel
    case hP => assumption
    case e => ktr_rel
    case D =>
    refine' ⟨Tm.sw _ [(_, _), (_, _)] (some _), ?sm, ?d⟩
    case d => kqd_in
    case sm => exact ⟨by assumption, Nat.le_of_ble_eq_true rfl⟩
  · refine' pair_out hret (fun x => okD_le (by decide) (Tm.ok x)) ?F ?N ?S ?hP ?e ?D
    case F => assumption
    case N => assumption
    case S => tb_rel
    case hP => assumption
    case e => ktr_rel
    case D =>
    refine' ⟨Tm.goto _, ?sm, ?d⟩
    case d => kqd_in
    case sm => exact True.intro
  · refine' pair_out hret (fun x => okD_le (by decide) (Tm.ok x)) ?F ?N ?S ?hP ?e ?D
    case F => assumption
    case N => assumption
    case S => tb_rel
    case hP => assumption
    case e => ktr_rel
    case D =>
    refine' ⟨Tm.drop _ _, ?sm, ?d⟩
    case d => kqd_in
    case sm => assumption
  · refine' pair_out hret (fun x => okD_le (by decide) (Tm.ok x)) ?F ?N ?S ?hP ?e ?D
    case F => assumption
    case N => assumption
    case S => tb_rel
    case hP => assumption
    case e => ktr_rel
    case D =>
    refine' ⟨Tm.asrt _ _, ?sm, ?d⟩
    case d => kqd_in
    case sm => assumption
  · (rename At _ _ => hA)
    refine' pair_out hret (fun x => okD_le (by decide) (Tm.ok x)) ?F ?N ?S ?hP ?e ?D
    case F => assumption
    case N => assumption
    case S => tb_rel
    case hP => assumption
    case e => ktr_rel
    case D =>
    rcases hA.c3 with rfl | rfl | rfl
    · refine' ⟨Tm.ret, ?sm, ?d⟩
      case d => kqd_in
      case sm => exact True.intro
    · refine' ⟨Tm.pan, ?sm, ?d⟩
      case d => kqd_in
      case sm => exact True.intro
    · refine' ⟨Tm.unr, ?sm, ?d⟩
      case d => kqd_in
      case sm => exact True.intro
end
/-! ## loops whose names are told too -/
theorem wpAny_letOwnedGo_any {prog : Program} {w : World} {A : Around} {E : Value → Shared → Prop} {s : Shared} {elts : List Expr} {k : Nat} {pos : Pos} {I l : Addr} {v : Value} {i : Nat} {Q : Unit → Shared → Prop} (hit : s.heap.IsListIter I l i) (hQ : Q () s) : wpAny (model prog w) A (letOwnedTupleGo (.Tuple elts k pos) (.ref I) v) Q E s := by
  cases v with
  | ref a => exact wpAny_letOwnedTupleGo_listiter hit hQ
  | _ => exact wpAny_pure hQ
section
variable {prog : Program} {w : World} {A : Around} {E : Value → Shared → Prop} {s : Shared} {env : Env} {h₀ : Heap} {target : Expr} {body : List Stmt} {Q : Flow → Shared → Prop} {m₀ : Str → Option Value} {nx₀ : Led}
noncomputable def TurnEndM (h₀ : Heap) (L : Addr) (J : (Str → Option Value) → Led → Prop) (I : Addr) (oI : Obj) (s₁ s₂ : Shared) : Prop :=
  ∃ h' tk m' nx, s₂ = { s₁ with heap := h', toks := tk } ∧ Fr h₀ L h' m' ∧ News h₀ L h' ((I, oI) :: nx) ∧ (∀ p ∈ nx, p.1 ≠ I) ∧ J m' nx
noncomputable def TurnPostM (h₀ : Heap) (L : Addr) (J : (Str → Option Value) → Led → Prop) (I : Addr) (oI : Obj) (s₁ : Shared) (Q : Flow → Shared → Prop) (f : Flow) (s₂ : Shared) : Prop :=
  match f with
  | .ret v => Q (.ret v) s₂
  | .brk => Q .next s₂
  | _ => TurnEndM h₀ L J I oI s₁ s₂
theorem turns_core {I : Addr} {fp : List Addr} {n : Nat} {P : Nat → Value → Prop} {St : Nat → Heap → Prop} (J : Nat → (Str → Option Value) → Led → Prop) (W : Walks prog w A I fp [I] n P St)
    (hgo : ∀ i v (s : Shared) (Q : Unit → Shared → Prop) (E : Value → Shared → Prop), St i s.heap → Q () s → wpAny (model prog w) A (letOwnedTupleGo target (.ref I) v) Q E s) (hIf : I ∈ fp) (hLf : env.locals ∉ fp) (hI : h₀.get? I = none) (hst : St 0 s.heap)
    (hob : ∀ i h, St i h → ∃ o, h.get? I = some o ∧ NT o) (F : Fr h₀ env.locals s.heap m₀) (N : News h₀ env.locals s.heap nx₀) (hn : ∀ p ∈ nx₀, p.1 ≠ I) (hj : J 0 m₀ nx₀)
    (hfx : ∀ b ∈ fp, b ≠ I → ∃ ob, ∀ i m nx, J i m nx → (b, ob) ∈ nx)
    (turn : ∀ i v m₁ nx h tk oI, i < n → P i v → J i m₁ nx → NT oI → (∀ p ∈ nx, p.1 ≠ I) → Fr h₀ env.locals h m₁ → News h₀ env.locals h ((I, oI) :: nx) →
      wpAny (model prog w) A (assign target env v) (fun _ s₃ => wpAny (model prog w) A (execs body env) (TurnPostM h₀ env.locals (J (i + 1)) I oI { s with heap := h, toks := tk } Q) E s₃) E { s with heap := h, toks := tk })
    (done : ∀ m nx h tk, J n m nx → Fr h₀ env.locals h m → News h₀ env.locals h nx → Q .next { s with heap := h, toks := tk }) :
    TurnsAt prog w A h₀ env target body Q E (.ref I) s := by
  refine ⟨I, fp, [I], n, _, _, St, m₀, nx₀, J, rfl, KTurns.ofWalks W hgo, hLf, ?_, ?_, hst, F, N, hj, ?_, ?_⟩
  · intro b hb
    rw [List.mem_singleton.mp hb]
    exact hI
  · intro p hp hq
    exact hn p hp (List.mem_singleton.mp hq)
  · intro i v m₁ nx h tk own hin hP hJ hoff hown hget hmem hst' F₁ N₁
    obtain ⟨oI, hoI, hNT⟩ := hob _ _ hst'
    have hne : ∀ p ∈ nx, p.1 ≠ I := fun p hp e => hoff p hp (List.mem_singleton.mpr e)
    have hIown : (I, oI) ∈ own := hmem I hIf hI oI hoI
    have N₂ : News h₀ env.locals h ((I, oI) :: nx) := fun p hp => N₁ p <| by
      rcases List.mem_cons.mp hp with rfl | hp
      · exact List.mem_append_left _ hIown
      · exact List.mem_append_right _ hp
    refine wpAny_mono (turn i v m₁ nx h tk oI hin hP hJ hNT hne F₁ N₂) (fun _ s₃ h₃ => wpAny_mono h₃ (fun f s₂ p => ?_) fun _ _ e => e) fun _ _ e => e
    have fin : TurnEndM h₀ env.locals (J (i + 1)) I oI { s with heap := h, toks := tk } s₂ → LoopStepU h₀ env.locals [I] own (J (i + 1)) { s with heap := h, toks := tk } .next s₂ := by
      rintro ⟨h', tk', m', nx', rfl, F', N', hoff', hJ'⟩
      refine ⟨rfl, h', tk', m', nx', rfl, F', fun p hp => ?_, fun p hp hq => hoff' p hp (List.mem_singleton.mp hq), hJ'⟩
      rcases List.mem_append.mp hp with hp | hp
      · by_cases hpI : p.1 = I
        · have e1 := hget p hp
          rw [hpI] at e1
          have e2 : p = (I, oI) := by
            have : some p.2 = some oI := e1.symm.trans hoI
            obtain ⟨a, b⟩ := p
            simp only at hpI this
            rw [hpI, Option.some.inj this]
          rw [e2]
          exact N' _ (.head _)
        · obtain ⟨ob, hfix⟩ := hfx p.1 (hown p hp) hpI
          have e1 := (N₁ _ (List.mem_append_right _ (hfix i m₁ nx hJ))).1
          have e2 := (N₁ _ (List.mem_append_left _ hp)).1
          have e3 : p.2 = ob := Option.some.inj (e2.symm.trans e1)
          have := N' _ (List.Mem.tail _ (hfix (i + 1) m' nx' hJ'))
          rw [← e3] at this
          exact this
      · exact N' p (.tail _ hp)
    cases f with
    | ret v => exact .ret p
    | brk => exact .brk p
    | next => exact .next (fin p)
    | cont => exact .cont (fin p)
  · rintro h' tk m' nx' F' N' _ hJ
    exact done m' nx' h' tk hJ F' N'
theorem turns_range {x : Str} {px : Pos} (J : Nat → (Str → Option Value) → Led → Prop) {r : Addr} {a₀ b₀ : Int} {t₀ u₀ v₀ : Tok} {n : Nat} (hh : A.handled = none) (hr : IsRange s.heap r a₀ b₀ 1 t₀ u₀ v₀) (hsmall : Builtin.Range.small a₀ b₀ 1 = true) (hsz : Builtin.Range.rangeSize a₀ b₀ 1 = (n : Int))
    (F : Fr h₀ env.locals s.heap m₀) (N : News h₀ env.locals s.heap nx₀) (hj : J 0 m₀ nx₀)
    (turn : ∀ i t m₁ nx h tk I oI, i < n → J i m₁ nx → NT oI → (∀ p ∈ nx, p.1 ≠ I) → Fr h₀ env.locals h m₁ → News h₀ env.locals h ((I, oI) :: nx) →
      wpAny (model prog w) A (assign (.Name x px) env (.int (a₀ + (i : Int) * 1) t)) (fun _ s₃ => wpAny (model prog w) A (execs body env) (TurnPostM h₀ env.locals (J (i + 1)) I oI { s with heap := h, toks := tk } Q) E s₃) E { s with heap := h, toks := tk })
    (done : ∀ m nx h tk, J n m nx → Fr h₀ env.locals h m → News h₀ env.locals h nx → Q .next { s with heap := h, toks := tk }) :
    wpAny (model prog w) A (pyIter (.ref r)) (fun it s₂ => TurnsAt prog w A h₀ env (.Name x px) body Q E it s₂) E s := by
  refine wpAny_pyIter_range hr hsmall ?_
  have W : Walks prog w A s.heap.objs.size [s.heap.objs.size] [s.heap.objs.size] n (fun i v => ∃ t, v = .int (a₀ + i * 1) t)
      (fun i h => IsRangeIter h s.heap.objs.size (a₀ + (i : Nat) * 1) ((n : Int) - (i : Nat)) 1) := Walks.range hh _ a₀ 1 n
  refine turns_core (s := { s with heap := _ }) (nx₀ := nx₀) J W (fun i v s Q E _ h => wpAny_pure h) (.head _) ?_ (next_is_new F) (by show IsRangeIter _ _ _ _ _; rw [hsz]; simpa using Heap.get?_push_size _ rfl) ?_ (F.push _) (fun p hp => ⟨Heap.get?_push_of_some _ (N p hp).1, (N p hp).2⟩) (fun p hp => Nat.ne_of_lt (Heap.lt_size (N p hp).1)) hj ?_ ?_ done
  · intro hm
    exact absurd F.ns.lt ((List.mem_singleton.mp hm) ▸ Nat.lt_irrefl _)
  · intro i h hi
    exact ⟨_, hi, NT.ofCls (by show Value.type "range_iterator" ≠ Value.type "tuple"; simp)⟩
  · intro b hb hbI
    exact absurd (List.mem_singleton.mp hb) hbI
  · rintro i v m₁ nx h tk oI hin ⟨t, rfl⟩ hJ hNT hoff F₁ N₁
    exact turn i t m₁ nx h tk _ oI hin hJ hNT hoff F₁ N₁
theorem turns_list {elts : List Expr} {k : Nat} {pos : Pos} (J : Nat → (Str → Option Value) → Led → Prop) {l : Addr} {vs : List Value} {c : Nat} (hh : A.handled = none) (F : Fr h₀ env.locals s.heap m₀) (N : News h₀ env.locals s.heap nx₀)
    (ht : (l, listOf (List.toArray vs) c) ∈ nx₀) (hj : J 0 m₀ nx₀) (hfx : ∀ i m nx, J i m nx → (l, listOf (List.toArray vs) c) ∈ nx)
    (turn : ∀ i v m₁ nx h tk I oI, vs[i]? = some v → J i m₁ nx → NT oI → (∀ p ∈ nx, p.1 ≠ I) → Fr h₀ env.locals h m₁ → News h₀ env.locals h ((I, oI) :: nx) →
      wpAny (model prog w) A (assign (.Tuple elts k pos) env v) (fun _ s₃ => wpAny (model prog w) A (execs body env) (TurnPostM h₀ env.locals (J (i + 1)) I oI { s with heap := h, toks := tk } Q) E s₃) E { s with heap := h, toks := tk })
    (done : ∀ m nx h tk, J vs.length m nx → Fr h₀ env.locals h m → News h₀ env.locals h nx → Q .next { s with heap := h, toks := tk }) :
    wpAny (model prog w) A (pyIter (.ref l)) (fun it s₂ => TurnsAt prog w A h₀ env (.Tuple elts k pos) body Q E it s₂) E s := by
  have hg := (N _ ht).1
  have hl : s.heap.IsList l vs.toArray := N.isList ht
  have hlt : l < s.heap.objs.size := Heap.lt_size hg
  have hne : l ≠ s.heap.objs.size := Nat.ne_of_lt hlt
  refine wpAny_pyIter_list hl ?_
  have W := Walks.list (prog := prog) (w := w) hh s.heap.objs.size l hne vs.toArray
  have hlen : vs.toArray.size = vs.length := by simp
  rw [hlen] at W
  refine turns_core (s := { s with heap := _ }) (nx₀ := nx₀) J W (fun i v s Q E hs h => wpAny_letOwnedGo_any hs.1 h) (.head _) ?_ (next_is_new F) ⟨⟨_, Heap.get?_push_size _ rfl, rfl, rfl⟩, hl.push _⟩ ?_ (F.push _) (fun p hp => ⟨Heap.get?_push_of_some _ (N p hp).1, (N p hp).2⟩) (fun p hp => Nat.ne_of_lt (Heap.lt_size (N p hp).1)) hj ?_ ?_ done
  · intro hm
    rcases List.mem_cons.mp hm with e | hm
    · exact absurd F.ns.lt (e ▸ Nat.lt_irrefl _)
    · exact absurd (List.mem_singleton.mp hm).symm (N _ ht).2.1
  · rintro i h ⟨⟨o, ho, hc, _⟩, _⟩
    exact ⟨o, ho, NT.ofCls (by rw [hc]; simp)⟩
  · intro b hb hbI
    rcases List.mem_cons.mp hb with e | hb
    · exact absurd e hbI
    · rw [List.mem_singleton.mp hb]
      exact ⟨_, hfx⟩
  · intro i v m₁ nx h tk oI hin hP hJ hNT hoff F₁ N₁
    exact turn i v m₁ nx h tk _ oI (by simpa using hP) hJ hNT hoff F₁ N₁
end
/-! ## a body's blocks -/
theorem At.all4 {a b c d : Value} {P : Value → Prop} (h1 : P a) (h2 : P b) (h3 : P c) (h4 : P d) : ∀ v, At [a, b, c, d] v → P v := by
  intro v h
  rcases h.c4 with rfl | rfl | rfl | rfl <;> assumption
noncomputable def callS : Str := Str.ofString "call"
/-- a tuple that opens with this text -/
noncomputable def Word (W : Led) (v : Value) : Prop := ∃ e x t es n, v = .ref e ∧ (e, tup (List.toArray (.str x t :: es)) n) ∈ W
/-- a block: its rows, its end; how many rows, and whether the end is a call -/
noncomputable def Blk (W : Led) (v : Value) (d : Nat × Bool) : Prop :=
  ∃ b r e nb nr ne rs x t es, v = .ref b ∧ (b, listOf (List.toArray [.ref r, .ref e]) nb) ∈ W ∧ (r, listOf (List.toArray rs) nr) ∈ W ∧ rs.length = d.1 ∧ d.1 ≤ 10 ∧ (e, tup (List.toArray (.str x t :: es)) ne) ∈ W ∧ (x == Str.ofString "call") = d.2
theorem Blk.mono {W W' : Led} {v : Value} {d : Nat × Bool} (h : Blk W v d) (s : ∀ p ∈ W, p ∈ W') : Blk W' v d := by
  obtain ⟨b, r, e, nb, nr, ne, rs, x, t, es, h1, h2, h3, h4, h7, h5, h6⟩ := h
  exact ⟨b, r, e, nb, nr, ne, rs, x, t, es, h1, s _ h2, s _ h3, h4, h7, s _ h5, h6⟩
inductive Blks (W : Led) : List Value → List (Nat × Bool) → Prop
  | nil : Blks W [] []
  | snoc {vs : List Value} {ds : List (Nat × Bool)} {v : Value} {d : Nat × Bool} : Blks W vs ds → Blk W v d → Blks W (vs ++ [v]) (ds ++ [d])
theorem Blks.mono {W W' : Led} {vs : List Value} {ds : List (Nat × Bool)} (h : Blks W vs ds) (s : ∀ p ∈ W, p ∈ W') : Blks W' vs ds := by
  induction h with
  | nil => exact .nil
  | snoc _ hb ih => exact .snoc ih (hb.mono s)
theorem Blks.len {W : Led} {vs : List Value} {ds : List (Nat × Bool)} (h : Blks W vs ds) : vs.length = ds.length := by
  induction h with
  | nil => rfl
  | snoc _ _ ih => simp [ih]
theorem Blks.at_ {W : Led} {vs : List Value} {ds : List (Nat × Bool)} (h : Blks W vs ds) : ∀ {i : Nat} {v : Value}, vs[i]? = some v → ∃ d, ds[i]? = some d ∧ Blk W v d := by
  induction h with
  | nil => intro i v h; simp at h
  | @snoc vs ds u d hs hb ih =>
    intro i v hv
    have hl := hs.len
    by_cases h : i < vs.length
    · rw [List.getElem?_append_left h] at hv
      obtain ⟨d, hd, hB⟩ := ih hv
      exact ⟨d, by rw [List.getElem?_append_left (hl ▸ h)]; exact hd, hB⟩
    · have h2 : i = vs.length := by
        have := List.getElem?_eq_some_iff.mp hv
        obtain ⟨h3, _⟩ := this
        simp at h3
        omega
      subst h2
      simp at hv
      subst hv
      exact ⟨d, by rw [hl]; simp, hb⟩
/-- how many rows and ends -/
noncomputable def manyOf : List (Nat × Bool) → Int
  | [] => 0
  | d :: ds => (d.1 : Int) + 1 + manyOf ds
noncomputable def callsOf : List (Nat × Bool) → Int
  | [] => 0
  | d :: ds => (if d.2 then 1 else 0) + callsOf ds
theorem manyOf_snoc (ds : List (Nat × Bool)) (d : Nat × Bool) : manyOf (ds ++ [d]) = manyOf ds + (d.1 : Int) + 1 := by
  induction ds with
  | nil => simp [manyOf]
  | cons e ds ih => simp only [List.cons_append, manyOf, ih]; omega
theorem callsOf_snoc (ds : List (Nat × Bool)) (d : Nat × Bool) : callsOf (ds ++ [d]) = callsOf ds + (if d.2 then 1 else 0) := by
  induction ds with
  | nil => simp [callsOf]
  | cons e ds ih => simp only [List.cons_append, callsOf, ih]; omega
theorem callsOf_nonneg (ds : List (Nat × Bool)) : 0 ≤ callsOf ds := by
  induction ds with
  | nil => simp [callsOf]
  | cons e ds ih => simp only [callsOf]; split <;> omega
theorem callsOf_zero (ds : List (Nat × Bool)) : callsOf ds = 0 ↔ ∀ d ∈ ds, d.2 = false := by
  induction ds with
  | nil => simp [callsOf]
  | cons e ds ih =>
    have := callsOf_nonneg ds
    simp only [callsOf, List.mem_cons, forall_eq_or_imp]
    cases h : e.2 with
    | true => exact ⟨fun q => by simp at q; omega, fun q => absurd q.1 (by simp)⟩
    | false => rw [← ih]; simp
section
variable {prog : Program} {w : World} {A : Around} {E : Value → Shared → Prop} {s : Shared} {h₀ : Heap} {L l : Addr} {m : Str → Option Value} {news : Led} {v : Value} {x : Int} {u : Tok} {c : Nat} {Q : Value → Shared → Prop}
/-- one thing, so and so often -/
theorem mul_one (F : Fr h₀ L s.heap m := by k_asm) (N : News h₀ L s.heap news := by k_asm) (hm : (l, listOf (List.toArray [v]) c) ∈ news := by k_mem) (h0 : 0 ≤ x := by first | assumption | omega) (h1 : x < 200 := by omega) (h : ∀ ws D h', ws.length = x.toNat → Fr h₀ L h' m → News h₀ L h' ((D, listOf (List.toArray ws) 0) :: news) → (∀ p ∈ news, p.1 < D) → Q (.ref D) { s with heap := h' }) :
    wpAny (model prog w) A (binaryOp .Mult (.ref l) (.int x u)) Q E s :=
  KMa.mul F N (N.isList hm) (by omega) (by omega) (by simp; omega) rfl fun D h' F' N' l1 => h _ D h' (by simp) F' N' l1
end
section
variable {w : World} {p : Program} {loose : List Str} {mean : ExcName → Option Value} {mg mb : Str → Option Value} {dp un : Nat} {gd : Option (List Code)} {cn : Str} {cs : Scope} {a : Addr} {ccd : Value} {cl : List (Str × Addr)} {outer : List Env} {A₀ : Around} {base h₀ : Heap} {L : Addr} {m : Str → Option Value} {s : Shared} {Q E : Value → Shared → Prop}
  {src l : Addr} {o : Obj} {news : Led} {g : Obj → Led} {vs : List Value} {c : Nat}
/-- one of some tuples that open with a text -/
theorem lone_word (F : Fr h₀ L s.heap m := by k_asm) (N : News h₀ L s.heap news := by k_asm) (U : UpdF src o news g := by k_updF) (hP : Pool o := by assumption) (hNT : NT o := by assumption) (hl : (l, listOf (List.toArray vs) c) ∈ news := by k_mem) (hs : l ≠ src := by (refine' Nat.ne_of_gt ?xc; (case xc => first | with_reducible assumption | tbn_find | omega))) (hne : 0 < vs.length := by exact Nat.zero_lt_succ _) (hz : vs.length ≤ 1000 := by exact Nat.le_of_ble_eq_true rfl) (hvs : ∀ v, At vs v → Word news v := by exact At.all4 ⟨_, _, _, _, _, rfl, by k_mem⟩ ⟨_, _, _, _, _, rfl, by k_mem⟩ ⟨_, _, _, _, _, rfl, by k_mem⟩ ⟨_, _, _, _, _, rfl, by k_mem⟩) (B : Below A₀ base outer h₀ := by k_asm) (X : (hd.heap_1 w.params).In h₀ := by k_asm) (T : Top p loose mean mg mb h₀ := by k_asm) (hk : cs.kind = .function := by first | exact rfl | assumption) (hd : dp + 2 < recursionLimit := by ktr_room) (hu : un + 8 * 2 + 64 < cLine := by ktr_units) (h : ∀ e x t es n o' h' tk', (e, tup (List.toArray (.str x t :: es)) n) ∈ g o' → Pool o' → NT o' → Fr h₀ L h' m → News h₀ L h' (g o') → Q (.ref e) { s with heap := h', toks := tk' }) :
    wpAny (model PySem.Challenge.rw_xm0589_01.row.prog w) (ktrTop dp un gd cn cs L a ccd cl outer) (call (.ref 180) [.ref src, .ref l]) Q E s := by
  obtain ⟨pre, post, e1, hg, h1, h2⟩ := id U.split
  refine lone_use F N U hP hl hs hne hz B X T hk hd hu fun r o' h' tk' hA P' T' F' N' => ?_
  obtain ⟨e, x, t, es, n, rfl, hm⟩ := hvs r hA
  refine h e x t es n o' h' tk' ?_ P' T' F' N'
  rw [hg]
  rw [e1] at hm
  simp only [List.mem_cons, List.mem_append] at hm ⊢
  rcases hm with hm | hm | hm
  · exact .inl hm
  · exact absurd (congrArg Prod.snd hm).symm (hNT _ _)
  · exact .inr (.inr hm)
end
theorem fr_tell4 {h₀ h : Heap} {L : Addr} {m : Str → Option Value} {x1 x2 x3 x4 : Str} {v1 v2 v3 v4 : Value} (e1 : m x1 = some v1) (e2 : m x2 = some v2) (e3 : m x3 = some v3) (e4 : m x4 = some v4) (F : Fr h₀ L h m) :
    Fr h₀ L h (fun y => if y = x1 then some v1 else if y = x2 then some v2 else if y = x3 then some v3 else if y = x4 then some v4 else m y) := by
  have e : m = fun y => if y = x1 then some v1 else if y = x2 then some v2 else if y = x3 then some v3 else if y = x4 then some v4 else m y := by
    funext y
    by_cases h1 : y = x1
    · simp [h1, e1]
    · by_cases h2 : y = x2
      · subst h2; simp [h1, e2]
      · by_cases h3 : y = x3
        · subst h3; simp [h1, h2, e3]
        · by_cases h4 : y = x4
          · subst h4; simp [h1, h2, h3, e4]
          · simp [h1, h2, h3, h4]
  exact e ▸ F
theorem Less.back {p : Addr × Obj} {l r : Led} (h : Less p l r) : ∀ q ∈ l, q = p ∨ q ∈ r := by
  induction h with
  | here => exact fun q hq => List.mem_cons.mp hq
  | skip h ih =>
    intro q hq
    rcases List.mem_cons.mp hq with rfl | hq
    · exact .inr (.head _)
    · exact (ih q hq).imp id (.tail _)
theorem TurnEndM.of3 {h₀ : Heap} {L I : Addr} {J : (Str → Option Value) → Led → Prop} {oI : Obj} {s₁ : Shared} {h' : Heap} {tk : Nat} {m' : Str → Option Value} {all r1 r2 r3 : Led} {p2 p3 : Addr × Obj} (F : Fr h₀ L h' m') (N : News h₀ L h' all) (S1 : Less (I, oI) all r1) (S2 : Less p2 r1 r2) (S3 : Less p3 r2 r3)
    (hI2 : p2.1 ≠ I) (hI3 : p3.1 ≠ I) (n1 : NT oI) (n2 : NT p2.2) (n3 : NT p3.2) (hI : ∀ p ∈ r3, p.1 ≠ I) (hJ : (∀ e vs n, (e, tup vs n) ∈ all → (e, tup vs n) ∈ r3) → J m' (p2 :: p3 :: r3)) : TurnEndM h₀ L J I oI s₁ { s₁ with heap := h', toks := tk } := by
  refine ⟨h', tk, m', p2 :: p3 :: r3, rfl, F, fun p hp => N p (S1.mem p ?_), fun p hp => ?_, hJ fun e vs n hm => ?_⟩
  · rcases List.mem_cons.mp hp with rfl | hp
    · exact .head _
    · refine .tail _ (S2.mem p ?_)
      rcases List.mem_cons.mp hp with rfl | hp
      · exact .head _
      · exact .tail _ (S3.mem p hp)
  · rcases List.mem_cons.mp hp with rfl | hp
    · exact hI2
    · rcases List.mem_cons.mp hp with rfl | hp
      · exact hI3
      · exact hI p hp
  · rcases S1.back _ hm with h | h
    · exact absurd (congrArg Prod.snd h).symm (n1 _ _)
    · rcases S2.back _ h with h | h
      · exact absurd (congrArg Prod.snd h).symm (n2 _ _)
      · rcases S3.back _ h with h | h
        · exact absurd (congrArg Prod.snd h).symm (n3 _ _)
        · exact h
theorem fr_tell2 {h₀ h : Heap} {L : Addr} {m : Str → Option Value} {x1 x2 : Str} {v1 v2 : Value} (e1 : m x1 = some v1) (e2 : m x2 = some v2) (F : Fr h₀ L h m) : Fr h₀ L h (fun y => if y = x1 then some v1 else if y = x2 then some v2 else m y) := by
  have e : m = fun y => if y = x1 then some v1 else if y = x2 then some v2 else m y := by
    funext y
    by_cases h1 : y = x1
    · simp [h1, e1]
    · by_cases h2 : y = x2
      · subst h2; simp [h1, e2]
      · simp [h1, h2]
  exact e ▸ F
theorem take_snoc {α : Type} {ds : List α} {j : Nat} {d : α} (h : ds[j]? = some d) : ds.take (j + 1) = ds.take j ++ [d] := by
  rw [List.take_add_one, h]
  rfl
theorem calls_pos {ds : List (Nat × Bool)} {j : Nat} {d : Nat × Bool} (h : ds[j]? = some d) (hd : d.2 = true) : 1 ≤ callsOf ds := by
  have h0 := callsOf_nonneg ds
  have h1 : callsOf ds ≠ 0 := fun e => by
    have := (callsOf_zero ds).mp e d (List.mem_of_getElem? h)
    rw [hd] at this
    cases this
  omega
theorem all_snoc {ds : List (Nat × Bool)} {d : Nat × Bool} (h : ∀ e ∈ ds, e.2 = false) (hd : d.2 = false) : ∀ e ∈ ds ++ [d], e.2 = false := by
  intro e he
  rcases List.mem_append.mp he with he | he
  · exact h e he
  · rw [List.mem_singleton.mp he]; exact hd
theorem TurnEndM.same {h₀ : Heap} {L I : Addr} {J : (Str → Option Value) → Led → Prop} {oI : Obj} {s₁ : Shared} {h' : Heap} {tk : Nat} {m' : Str → Option Value} {nx : Led} (F : Fr h₀ L h' m') (N : News h₀ L h' ((I, oI) :: nx)) (hI : ∀ p ∈ nx, p.1 ≠ I) (hJ : J m' nx) : TurnEndM h₀ L J I oI s₁ { s₁ with heap := h', toks := tk } :=
  ⟨h', tk, m', nx, rfl, F, N, hI, hJ⟩
-- a def at its address is called
set_option hygiene false in
local macro_rules | `(tactic| walk_at "callWith ref") => `(tactic| (k_here; k_dflt (first | (refine' callWith_K (by k_asm) (by k_is) ?_; k_whole) | (refine' callWith_K0 (by k_in) (by k_is) ?_; k_whole) | fail "callWith")))
theorem off_p20_ends : True := by
  w_top off
  exact True.intro
section
section
variable {prog : Program} {w : World} {A : Around} {E : Value → Shared → Prop} {s : Shared} {h₀ : Heap} {L l : Addr} {news : Led} {vs : List Value} {v : Value} {c : Nat} {k : Int} {u : Tok} {Q : Value → Shared → Prop}
/-- a told item of a tuple -/
theorem item_lit {value slice : Expr} (N : News h₀ L s.heap news := by k_asm) (hm : (l, tup (List.toArray vs) c) ∈ news := by with_reducible k_mem) (h0 : 0 ≤ k := by decide) (h1 : k < (vs.length : Int) := by exact Int.lt_of_toNat_lt (Nat.le_of_ble_eq_true rfl)) (hz : vs.length ≤ 1000 := by exact Nat.le_of_ble_eq_true rfl) (e : vs[k.toNat]? = some v := by exact rfl) (h : Q v s) (hs : subscripted slice false (.ref l) (.int k u) = operate [.ref l, .int k u] (getItem (.ref l) (.int k u)) := by with_unfolding_all rfl) :
    wpAny (model prog w) A (subscriptTail value slice (.ref l) (.int k u)) Q E s := by
  have ht : IsTup s.heap l vs.toArray := N.isTup hm
  refine tail_any ht.typeIs slot_tuple_getitem.lookup (getItem_tuple (j := k.toNat) ht (by omega) (by omega) ?_ (by simpa using e) h) hs
  unfold seqIndex?
  have h2 : ¬ k < 0 := by omega
  have h3 : k < ((List.toArray vs).size : Int) := by simpa using h1
  simp [h0, h2, h1]
end
theorem Tab.nt {q : Str} {pos : Pos} {W : Led} {t : Obj} (h : Tab q pos W t) : NT t := by
  cases h <;> exact fun _ _ e => by simp [tabObj] at e
section
variable {w : World} {p : Program} {loose : List Str} {mean : ExcName → Option Value} {mg mb : Str → Option Value} {dp un : Nat} {gd : Option (List Code)} {cn : Str} {cs : Scope} {a : Addr} {ccd : Value} {cl : List (Str × Addr)} {outer : List Env} {A₀ : Around} {base h₀ : Heap} {L : Addr} {m : Str → Option Value} {s : Shared} {Q E : Value → Shared → Prop}
  {src l : Addr} {o : Obj} {news : Led} {g : Obj → Led} {v1 v2 v3 v4 v5 : Value} {c : Nat}
/-- one of five, told apart -/
theorem lone_use5 (F : Fr h₀ L s.heap m := by k_asm) (N : News h₀ L s.heap news := by k_asm) (U : UpdF src o news g := by k_updF) (hP : Pool o := by assumption) (hl : (l, listOf (List.toArray [v1, v2, v3, v4, v5]) c) ∈ news := by k_mem) (hs : l ≠ src := by (refine' Nat.ne_of_gt ?xc; (case xc => first | with_reducible assumption | tbn_find | omega))) (B : Below A₀ base outer h₀ := by k_asm) (X : (hd.heap_1 w.params).In h₀ := by k_asm) (T : Top p loose mean mg mb h₀ := by k_asm) (hk : cs.kind = .function := by first | exact rfl | assumption) (hd : dp + 2 < recursionLimit := by ktr_room) (hu : un + 8 * 2 + 64 < cLine := by ktr_units) (h1 : ∀ o' h' tk', Pool o' → NT o' → Fr h₀ L h' m → News h₀ L h' (g o') → Q v1 { s with heap := h', toks := tk' }) (h2 : ∀ o' h' tk', Pool o' → NT o' → Fr h₀ L h' m → News h₀ L h' (g o') → Q v2 { s with heap := h', toks := tk' }) (h3 : ∀ o' h' tk', Pool o' → NT o' → Fr h₀ L h' m → News h₀ L h' (g o') → Q v3 { s with heap := h', toks := tk' }) (h4 : ∀ o' h' tk', Pool o' → NT o' → Fr h₀ L h' m → News h₀ L h' (g o') → Q v4 { s with heap := h', toks := tk' }) (h5 : ∀ o' h' tk', Pool o' → NT o' → Fr h₀ L h' m → News h₀ L h' (g o') → Q v5 { s with heap := h', toks := tk' }) :
    wpAny (model PySem.Challenge.rw_xm0589_01.row.prog w) (ktrTop dp un gd cn cs L a ccd cl outer) (call (.ref 180) [.ref src, .ref l]) Q E s :=
  lone_use F N U hP hl hs (Nat.zero_lt_succ _) (Nat.le_of_ble_eq_true rfl) B X T hk hd hu fun r o' h' tk' hA P' T' F' N' => by
    rcases At.c5 hA with rfl | rfl | rfl | rfl | rfl
    · exact h1 o' h' tk' P' T' F' N'
    · exact h2 o' h' tk' P' T' F' N'
    · exact h3 o' h' tk' P' T' F' N'
    · exact h4 o' h' tk' P' T' F' N'
    · exact h5 o' h' tk' P' T' F' N'
end
section
variable {h₀ h' : Heap} {L src : Addr} {m : Str → Option Value} {s : Shared} {Q : Value → Shared → Prop} {r : Value} {tk' : Nat} {all r1 r2 W : Led} {o' t' : Obj}
theorem ends_out (hret : ∀ r J h' tk', Fr h₀ L h' m → News h₀ L h' J → (∃ o' t' W', J = (src, o') :: (147, t') :: W' ∧ Pool o' ∧ Tab0 W' t' ∧ Off [(src, o'), (147, t')] W' ∧ (∀ p ∈ W, p ∈ W') ∧ r = .bool true) → Q r { s with heap := h', toks := tk' }) (F : Fr h₀ L h' m) (N : News h₀ L h' all)
    (S1 : Less (src, o') all r1) (S2 : Less (147, t') r1 r2) (hP : Pool o') (hT : Tab0 r2 t') (O1 : ∀ p ∈ r2, p.1 ≠ src) (O2 : ∀ p ∈ r2, p.1 ≠ 147) (sb : ∀ p ∈ W, p ∈ r2) (e : r = .bool true) : Q r { s with heap := h', toks := tk' } := by
  refine hret r ((src, o') :: (147, t') :: r2) h' tk' F (fun p hp => N p (S1.mem p ?_)) ⟨o', t', r2, rfl, hP, hT, Off.cons O1 (Off.cons O2 Off.nil), sb, e⟩
  rcases List.mem_cons.mp hp with rfl | hp
  · exact .head _
  · exact .tail _ (S2.mem p hp)
end
-- an end drawn
set_option hygiene false in
local macro_rules | `(tactic| walk_at "call ref") => `(tactic| (k_here; (with_reducible show wpAny _ _ (call (Value.ref 213) _) _ _ _); k_dflt (refine' pair_use Tm.dat (Tm.mv _ _) Tm.small (fun P' NT' W' hW' => lend_ok _ _ _ W' _ _ _ _ P' NT' hW') (h := ?_); k_whole); ktu_objs))
-- called_key of an end
set_option hygiene false in
local macro_rules | `(tactic| walk_at "call ref") => `(tactic| (k_here; (with_reducible show wpAny _ _ (call (Value.ref 159) _) _ _ _); k_dflt (refine' mck_use (h := ?_); k_whole); ktu_objs))
-- an end moved
local macro_rules | `(tactic| walk_at "call ref") => `(tactic| (k_here; (with_reducible show wpAny _ _ (call (Value.ref 152) _) _ _ _); k_dflt (refine' mtm_use (h := ?_); k_whole); (ktu_objs; (rename Tab0 _ _ => T9); have NT9 := Tab.nt T9)))
-- one of five things, told apart
local macro_rules | `(tactic| walk_at "call ref") => `(tactic| (focus (k_here; (with_reducible show wpAny _ _ (call (Value.ref 180) _) _ _ _); k_dflt (refine' lone_use5 (hl := ?hl) (h1 := ?_) (h2 := ?_) (h3 := ?_) (h4 := ?_) (h5 := ?_); (case hl => with_reducible k_mem)); all_goals ktu_objs)))
set_option hygiene false in
local macro_rules | `(tactic| walk_at "subscriptTail Subscript Constant ref int") => `(tactic| (k_here; k_dflt (refine' item_lit (h := ?_); k_whole)))
set_option hygiene false in
local macro_rules | `(tactic| walk_at "subscriptTail Subscript") => `(tactic| (k_here; k_dflt (refine' item_lit (h := ?_); k_whole)))
local macro_rules | `(tactic| kpr_head) => `(tactic| first | with_reducible exact Less.here | (with_reducible refine' Less.skip ?lx; (case lx => kpr_head)) | fail "less")
set_option maxHeartbeats 16000000 in
theorem lends_ok (w : World) (src : Addr) (o t : Obj) (W : Led) (k : Int) (tk : Tok) (hP : Pool o) (hNT : NT o) (hT : Tab0 W t) (hNTt : NT t) (hW : ∀ p ∈ W, p.1 ≠ src) (hW7 : ∀ p ∈ W, p.1 ≠ 147) (hs7 : (@Ne Nat src 147)) :
    CallT w 227 8 [.ref src, .int k tk] ((src, o) :: (147, t) :: W) (fun r J => ∃ o' t' W', J = (src, o') :: (147, t') :: W' ∧ Pool o' ∧ Tab0 W' t' ∧ Off [(src, o'), (147, t')] W' ∧ (∀ p ∈ W, p ∈ W') ∧ r = .bool true) := by
  unfold CallT
  k_fill
  intro pr loose mean mg mb dp un gd cn cs a₀ ccd cl outer A₀ base h₀ L m s Q E hC B F X N T hk hd hu hret
  refine wpAny_call ?_
  k_dflt ktr_enter
  (rename Fr h₀ L _ m => FG0)
  have hC' := hC.keeps FG0.keep
  (repeat' (first | ((first | (with_reducible show wpAny _ _ (exec _ _) _ _ _) | (with_reducible show wpAny _ _ (eval (PySem.Expr.Tuple _ _ _) _) _ _ _)); k_fold) | (k_unfold; (try dsimp only)) | (k_end; wrow_close) | walk1 | (dsimp only; walk1) | (leave1; try dsimp only) | fail "no step"))
  · refine' ends_out hret ?F ?N ?S1 ?S2 ?hP ?hT ?O1 ?O2 ?sb ?e
    case F => assumption
    case N => assumption
    case S1 => kpr_head
    case S2 => kpr_head
    case hP => assumption
    case hT => exact Tab.mono (by assumption) (fun p hp => by with_reducible k_mem)
    case O1 => kst_src
    case O2 => kst_src
    case sb => exact fun p hp => by with_reducible k_mem
    case e => first | rfl | simp
  · refine' ends_out hret ?F ?N ?S1 ?S2 ?hP ?hT ?O1 ?O2 ?sb ?e
    case F => assumption
    case N => assumption
    case S1 => kpr_head
    case S2 => kpr_head
    case hP => assumption
    case hT => exact Tab.mono (by assumption) (fun p hp => by with_reducible k_mem)
    case O1 => kst_src
    case O2 => kst_src
    case sb => exact fun p hp => by with_reducible k_mem
    case e => first | rfl | simp
  · refine' ends_out hret ?F ?N ?S1 ?S2 ?hP ?hT ?O1 ?O2 ?sb ?e
    case F => assumption
    case N => assumption
    case S1 => kpr_head
    case S2 => kpr_head
    case hP => assumption
    case hT => exact Tab.mono (by assumption) (fun p hp => by with_reducible k_mem)
    case O1 => kst_src
    case O2 => kst_src
    case sb => exact fun p hp => by with_reducible k_mem
    case e => first | rfl | simp
  · refine' ends_out hret ?F ?N ?S1 ?S2 ?hP ?hT ?O1 ?O2 ?sb ?e
    case F => assumption
    case N => assumption
    case S1 => kpr_head
    case S2 => kpr_head
    case hP => assumption
    case hT => exact Tab.mono (by assumption) (fun p hp => by with_reducible k_mem)
    case O1 => kst_src
    case O2 => kst_src
    case sb => exact fun p hp => by with_reducible k_mem
    case e => first | rfl | simp
  · refine' ends_out hret ?F ?N ?S1 ?S2 ?hP ?hT ?O1 ?O2 ?sb ?e
    case F => assumption
    case N => assumption
    case S1 => kpr_head
    case S2 => kpr_head
    case hP => assumption
    case hT => exact Tab.mono (by assumption) (fun p hp => by with_reducible k_mem)
    case O1 => kst_src
    case O2 => kst_src
    case sb => exact fun p hp => by with_reducible k_mem
    case e => first | rfl | simp
end
theorem off_p23_pool : True := by
  w_top off
  exact True.intro
section
theorem fm_nonneg (a : Int) : 0 ≤ a.fmod 2147483647 := by have := (fdiv_fmod_facts a 2147483647); omega
theorem fm_lt (a : Int) : a.fmod 2147483647 < 2147483647 := by have := (fdiv_fmod_facts a 2147483647); omega
theorem IsList.keeps9 {h h' : Heap} {a : Addr} {items : Array Value} (hl : h.IsList a items) (k : ∀ b o, h.get? b = some o → h'.get? b = some o) : h'.IsList a items := by
  obtain ⟨o, e, r⟩ := hl
  exact ⟨o, k _ _ e, r⟩
local macro_rules | `(tactic| walk_at "call builtin:len") => `(tactic| (k_here; (with_reducible show wpAny _ _ (call (Value.builtin _) [Value.ref _]) _ _ _); k_dflt (refine' PyProof.Rows.len_list ?a ?b ?_; (case a => exact IsList.keeps9 (by assumption) (Fr.keep (by k_asm))); (case b => (rw [List.size_toArray]; omega)); k_whole)))
set_option maxHeartbeats 16000000 in
theorem lpool_ok (w : World) (p : Program) (loose : List Str) (mean : ExcName → Option Value) (mg mb : Str → Option Value) (dp un : Nat) (gd : Option (List Code)) (cn : Str) (cs : Scope) (a : Addr) (ccd : Value) (cl : List (Str × Addr)) (outer : List Env) (A₀ : Around) (base h₀ : Heap) (L : Addr) (m : Str → Option Value) (s : Shared) (Q E : Value → Shared → Prop)
    (W : Led) (sc : Addr) (vs : List Value) (ns : List Int) (k : Int) (tk : Tok) (hsc : h₀.IsList sc vs.toArray) (hint : IntsAre vs ns) (hz : vs.length ≤ 63) (hk0 : 0 ≤ k) (hk1 : k ≤ 63)
    (B : Below A₀ base outer h₀) (F : Fr h₀ L s.heap m) (X : (hd.heap_1 w.params).In h₀) (N : News h₀ L s.heap W) (T : Top p loose mean mg mb h₀) (hk : cs.kind = .function) (hd : dp + 1 < recursionLimit) (hu : un + 8 * 1 + 64 < cLine)
    (hret : ∀ r o h' tk', Fr h₀ L h' m → News h₀ L h' ((r, o) :: W) → Pool o → AllLt r W → Q (.ref r) { s with heap := h', toks := tk' }) :
    wpAny (model PySem.Challenge.rw_xm0589_01.row.prog w) (ktrTop dp un gd cn cs L a ccd cl outer) (call (.ref 166) [.ref sc, .int k tk]) Q E s := by
  revert X
  k_fill
  intro X
  refine wpAny_call ?_
  k_dflt ktr_enter
  (rename Fr h₀ L _ m => FG0)
  have hsc2 := IsList.keeps9 hsc FG0.keep
  (repeat' (first | ((first | (with_reducible show wpAny _ _ (exec _ _) _ _ _) | (with_reducible show wpAny _ _ (eval (PySem.Expr.Tuple _ _ _) _) _ _ _)); k_fold) | (k_unfold; (try dsimp only)) | (k_end; wrow_close) | walk1 | (dsimp only; walk1) | (leave1; try dsimp only) | fail "no step"))
  · refine' hret _ _ _ _ ?F ?N ⟨_, _, _, _, _, rfl, ?x, ?y, ?z⟩ ?l
    case F => assumption
    case N => assumption
    case x => exact Int.mul_nonneg (by split <;> omega) (by split <;> omega)
    case y => exact fm_nonneg _
    case z => exact fm_lt _
    case l => exact allLt_of (by assumption)
  · refine' hret _ _ _ _ ?F ?N ⟨_, _, _, _, _, rfl, ?x, ?y, ?z⟩ ?l
    case F => assumption
    case N => assumption
    case x => exact Int.mul_nonneg (by split <;> omega) (by split <;> omega)
    case y => exact fm_nonneg _
    case z => exact fm_lt _
    case l => exact allLt_of (by assumption)
section
variable {w : World} {p : Program} {loose : List Str} {mean : ExcName → Option Value} {mg mb : Str → Option Value} {dp un : Nat} {gd : Option (List Code)} {cn : Str} {cs : Scope} {a : Addr} {ccd : Value} {cl : List (Str × Addr)} {outer : List Env} {A₀ : Around} {base h₀ : Heap} {L sc : Addr} {m : Str → Option Value} {s : Shared} {Q E : Value → Shared → Prop} {W : Led} {vs : List Value} {ns : List Int} {k : Int} {tk : Tok}
theorem lpool_use (F : Fr h₀ L s.heap m := by k_asm) (N : News h₀ L s.heap W := by k_asm) (hsc : h₀.IsList sc vs.toArray := by assumption) (hint : IntsAre vs ns := by assumption) (hz : vs.length ≤ 63 := by assumption) (hk0 : 0 ≤ k := by omega) (hk1 : k ≤ 63 := by omega)
    (B : Below A₀ base outer h₀ := by k_asm) (X : (hd.heap_1 w.params).In h₀ := by k_asm) (T : Top p loose mean mg mb h₀ := by k_asm) (hk : cs.kind = .function := by first | exact rfl | assumption) (hd : dp + 1 < recursionLimit := by ktr_room) (hu : un + 8 * 1 + 64 < cLine := by ktr_units)
    (h : ∀ r o h' tk', Fr h₀ L h' m → News h₀ L h' ((r, o) :: W) → Pool o → NT o → AllLt r W → Q (.ref r) { s with heap := h', toks := tk' }) :
    wpAny (model PySem.Challenge.rw_xm0589_01.row.prog w) (ktrTop dp un gd cn cs L a ccd cl outer) (call (.ref 166) [.ref sc, .int k tk]) Q E s :=
  lpool_ok w p loose mean mg mb dp un gd cn cs a ccd cl outer A₀ base h₀ L m s Q E W sc vs ns k tk hsc hint hz hk0 hk1 B F X N T hk hd hu fun r o h' tk' F' N' hP l => h r o h' tk' F' N' hP hP.nt l
end
end
theorem off_p22_small : True := by
  w_top off
  exact True.intro
section
-- the end of a turn of a loop that is rolled out
local macro_rules | `(tactic| kpr_head) => `(tactic| first | with_reducible exact Less.here | (with_reducible refine' Less.skip ?lx; (case lx => kpr_head)) | fail "less")
set_option hygiene false in
local macro_rules | `(tactic| walk_at "UnrEnd") => `(tactic| (refine' UnrEnd.less (by assumption) (by assumption) (by kpr_head) (by kst_src) ?_))
-- an item of a list of the call's own
set_option hygiene false in
local macro_rules | `(tactic| walk_at "subscriptTail Name Constant ref int") => `(tactic| (k_here; (with_reducible show wpAny _ _ (subscriptTail _ _ (Value.ref _) (Value.int _ _)) _ _ _); k_dflt (refine' item_list (News.isList (by k_asm) (by k_mem)) (by decide) (by decide) (by rfl) ?_ (by with_unfolding_all rfl) (by intro _; with_unfolding_all rfl); k_whole)))
-- a loop whose names are told stands still
set_option hygiene false in
local macro_rules | `(tactic| walk_at "call type:range") => `(tactic| (k_here; k_dflt (refine' range1_rows (by k_asm) (by k_asm) ?_; k_whole); intros; (try k_sweep)))
set_option hygiene false in
local macro_rules | `(tactic| walk_at "pyIter ref") => `(tactic| (k_here; (with_reducible show wpAny _ _ (pyIter _) (fun _ _ => TurnsAt _ _ _ _ _ _ _ _ _ _ _) _ _); refine Halt.out ?_))
local macro_rules | `(tactic| walk_at "exec For Name Call cons nil") => `(tactic| (k_here; (rename Fr _ _ _ _ => lF'); (with_unfolding_all refine' For_turns lF' ?_; k_whole)))
local macro_rules | `(tactic| walk_at "exec For Tuple Attribute cons nil") => `(tactic| (k_here; (rename Fr _ _ _ _ => lF'); (with_unfolding_all refine' For_turns lF' ?_; k_whole)))
set_option hygiene false in
local macro_rules | `(tactic| walk_at "TurnPostM") => `(tactic| (dsimp only [TurnPostM]))
-- a row, so and so often
local macro_rules | `(tactic| walk_at "binaryOp Mult ref int") => `(tactic| (k_here; (with_reducible show wpAny _ _ (binaryOp Operator.Mult (Value.ref _) (Value.int _ _)) _ _ _); k_dflt (refine' mul_one (h := ?_); k_whole); intro ws9 D' h' hw9 F' N' l1; (try k_lt l1); (try k_sweep)))
-- one of four ends
set_option hygiene false in
local macro_rules | `(tactic| walk_at "call ref") => `(tactic| (k_here; (with_reducible show wpAny _ _ (call (Value.ref 180) _) _ _ _); k_dflt (refine' lone_word (h := ?_); k_whole); (ktu_objs; (try k_sweep))))
-- the first of a tuple that opens with a text
set_option hygiene false in
local macro_rules | `(tactic| walk_at "subscriptTail Name Constant ref int") => `(tactic| (k_here; k_dflt (refine' item_zero (h := ?_); k_whole)))
set_option hygiene false in
local macro_rules | `(tactic| walk_at "call builtin:len") => `(tactic| (k_here; (with_reducible show wpAny _ _ (call (Value.builtin _) [Value.ref _]) _ _ _); k_dflt (refine' PyProof.Rows.len_list (News.isList (by k_asm) (by with_reducible k_mem)) (by rw [List.size_toArray]; omega) ?_; k_whole)))
set_option maxHeartbeats 16000000 in
theorem lsmall_ok (w : World) (src : Addr) (o : Obj) (W : Led) (hP : Pool o) (hNT : NT o) (hW : ∀ p ∈ W, p.1 ≠ src) :
    PoolC w 234 4 [.ref src] src o W (fun d => d = .bool true) := by
  unfold PoolC Call
  k_fill
  intro p loose mean mg mb dp un gd cn cs a ccd cl outer A₀ base h₀ L m s Q E B F X N T hk hd hu hret
  refine wpAny_call ?_
  k_dflt ktr_enter
  k_steps
  refine ⟨?_⟩
  (rename IsRange _ _ _ _ _ _ _ _ => hR)
  rename_i l h1 hA1 l1 D h2 hA2 l2 h3 h4 h5 tk1 i t1 o1 h7 tk2 lo hi P1 T1 h8 tk3 t2 u2 v2 F1 N1 G1
  obtain ⟨n₁, hn₁⟩ : ∃ n : Nat, 1 + i = (n : Int) := ⟨(1 + i).toNat, by omega⟩
  refine' turns_range (fun j m nx => ∃ bs c o' W' ds tM tC, nx = (l, listOf (List.toArray bs) c) :: (src, o') :: W' ∧ Pool o' ∧ NT o' ∧ Ext ((src, o) :: W) W W' ∧ (∀ p ∈ W', p.1 ≠ l) ∧ (∀ p ∈ W', p.1 ≠ src) ∧ Blks W' bs ds ∧ ds.length ≤ j ∧
    m (Str.ofString "source") = some (.ref src) ∧ m (Str.ofString "blocks") = some (.ref l) ∧ m (Str.ofString "many") = some (.int (manyOf ds) tM) ∧ m (Str.ofString "calls") = some (.int (callsOf ds) tC)) rfl hR ?small (n := n₁) ?size F1 (fun p hp => N1 p (mem_t hp)) ⟨[], 0, _, W, [], _, _, rfl, P1, T1, Ext.refl, ?f1, hW, .nil, Nat.le_refl _, ?m1, ?m2, ?m3, ?m4⟩ ?turn ?done
  case small => exact small_one (by omega) (by omega) (by omega) (by omega)
  case size => rw [hn₁, rangeSize_nat]; omega
  case f1 => k_all
  case m1 => with_unfolding_all rfl
  case m2 => with_unfolding_all rfl
  case m3 => with_unfolding_all rfl
  case m4 => with_unfolding_all rfl
  case turn =>
    intro j tj m₁ nx h9 tk9 I oI hj hJ9 hNTI hoff F₁ N₁
    (try (show wpAny _ _ _ _ _ _; k_fold))
    obtain ⟨bs, c, o', W', ds, tM, tC, rfl, P2, T2, e, f1, f2, hB, hl, q1, q2, q3, q4⟩ := hJ9
    have F₂ := fr_tell4 q1 q2 q3 q4 F₁
    clear F₁
    have hI1 := hoff (l, _) (by k_mem)
    have hI0 := hoff (src, _) (by k_mem)
    have oI1 := neN (hoff (l, _) (by k_mem))
    have oI0 := neN (hoff (src, _) (by k_mem))
    have hoff' : ∀ p ∈ W', p.1 ≠ I := fun p hp => hoff p (mem_t (mem_t hp))
    have hbl : bs.length ≤ 3 := by rw [hB.len]; omega
    have nls : (@Ne Nat l src) := Nat.ne_of_gt hA1.1
    (repeat' (first | ((first | (with_reducible show wpAny _ _ (exec _ _) _ _ _) | (with_reducible show wpAny _ _ (eval (PySem.Expr.Tuple _ _ _) _) _ _ _)); k_fold) | (k_unfold; (try dsimp only)) | (k_end; wrow_close) | walk1 | (dsimp only; walk1) | (leave1; try dsimp only) | fail "no step"))
    (rename Str => x)
    (rename List Value => es)
    (rename (_, tup (List.toArray (Value.str _ _ :: _)) _) ∈ _ => m9)
    revert es
    (rename List Value => ws)
    intro es m9
    have m10 := (Less.back (p := (l, _)) (by kpr_head) _ m9).resolve_left (fun h => absurd (congrArg Prod.snd h).symm (NT.lst _ _))
    refine' TurnEndM.of3 (p2 := (l, _)) (p3 := (src, _)) ?F ?N ?S1 ?S2 ?S3 ?hIa ?hIb hNTI ?n2 ?n3 ?hI fun back => ⟨bs ++ [.ref _], _, _, _, ds ++ [(ws.length, x == Str.ofString "call")], _, _, ?e1, ?P, ?T, ?e, ?g1, ?g2, ?B, ?l, ?m1, ?m2, ?m3, ?m4⟩
    case F => assumption
    case N => assumption
    case S1 => kpr_head
    case S2 => kpr_head
    case S3 => kpr_head
    case e1 => (simp only [List.push_toArray]; rfl)
    case n2 => exact NT.lst
    case n3 => assumption
    case hIa => exact hI1
    case hIb => exact hI0
    case P => assumption
    case T => assumption
    case hI => kst_src
    case e => ktr_rel
    case g1 => kst_src
    case g2 => kst_src
    case B => exact .snoc (hB.mono fun p hp => by with_reducible k_mem) ⟨_, _, _, _, _, _, _, x, _, es, rfl, by with_reducible k_mem, by with_reducible k_mem, rfl, (by show ws.length ≤ 10; omega), back _ _ _ (mem_t (mem_t (Less.mem (p := (l, _)) (by kpr_head) _ (mem_t m10)))), rfl⟩
    case l => rw [List.length_append]; exact Nat.succ_le_succ hl
    case m1 => with_unfolding_all rfl
    case m2 => with_unfolding_all rfl
    case m3 => rw [manyOf_snoc]; with_unfolding_all rfl
    case m4 => rw [callsOf_snoc]; with_unfolding_all rfl
  case done =>
    intro m₁ nx h9 tk9 hJ9 F₁ N₁
    (try (show wpAny _ _ _ _ _ _; k_fold))
    obtain ⟨bs, c, o', W', ds, tM, tC, rfl, P2, T2, e, f1, f2, hB, hl, q1, q2, q3, q4⟩ := hJ9
    have F₂ := fr_tell4 q1 q2 q3 q4 F₁
    clear F₁
    have hbl : bs.length ≤ 3 := by rw [hB.len]; omega
    have nls : (@Ne Nat l src) := Nat.ne_of_gt hA1.1
    (repeat' (first | ((first | (with_reducible show wpAny _ _ (exec _ _) _ _ _) | (with_reducible show wpAny _ _ (eval (PySem.Expr.Tuple _ _ _) _) _ _ _)); k_fold) | (k_unfold; (try dsimp only)) | (k_end; wrow_close) | walk1 | (dsimp only; walk1) | (leave1; try dsimp only) | fail "no step"))
    refine ⟨?_⟩
    refine' turns_list (fun j m nx => nx = _ ∧ (∃ t, m (Str.ofString "many") = some (.int (manyOf (ds.take j)) t)) ∧ m (Str.ofString "most") = some (.int _ _) ∧ ∀ d ∈ ds.take j, d.2 = false) (l := l) (vs := bs) rfl ?F ?N ?ht ⟨rfl, ?j1, ?j2, ?j3⟩ ?hfx ?turn ?done
    case F => assumption
    case N => assumption
    case ht => with_reducible k_mem
    case j1 => exact ⟨_, by with_unfolding_all rfl⟩
    case j2 => with_unfolding_all rfl
    case j3 => exact fun _ h => by simp at h
    case hfx => rintro j m nx ⟨rfl, _⟩; with_reducible k_mem
    case turn =>
      intro j v m₂ nx h8 tk8 I oI hv hJ9 hNTI hoff F₃ N₃
      (try (show wpAny _ _ _ _ _ _; k_fold))
      obtain ⟨rfl, ⟨tm, r1⟩, r2, hall⟩ := hJ9
      have F₄ := fr_tell2 r1 r2 F₃
      clear F₃
      obtain ⟨d, hd, b, r, e9, nb, nr, ne, rs, x, tx, es, rfl, hb, hr, hlen, hlen2, he, hx⟩ := hB.at_ hv
      have hrs : rs.length ≤ 10 := by omega
      cases hdd : d.2 with
      | true =>
        rw [hdd] at hx
        have hc := calls_pos hd hdd
        (repeat' (first | ((first | (with_reducible show wpAny _ _ (exec _ _) _ _ _) | (with_reducible show wpAny _ _ (eval (PySem.Expr.Tuple _ _ _) _) _ _ _)); k_fold) | (k_unfold; (try dsimp only)) | (k_end; wrow_close) | walk1 | (dsimp only; walk1) | (leave1; try dsimp only) | fail "no step"))
        · exfalso
          (rename callsOf ds = 0 => hz)
          omega
        · have e0 : (false == (callsOf ds == 0)) = true := by
            have : (callsOf ds == 0) = false := by
              rw [beq_eq_false_iff_ne]
              omega
            rw [this]
            rfl
          rw [e0]
          refine' pool_out (d := .bool true) hret ?F ?N ?S ?hP ?e ?D ?f rfl
          case F => assumption
          case N => assumption
          case S => tb_rel
          case hP => assumption
          case e => ktr_rel
          case D => exact DatIn.bool _
          case f => exact okB
      | false =>
        rw [hdd] at hx
        (repeat' (first | ((first | (with_reducible show wpAny _ _ (exec _ _) _ _ _) | (with_reducible show wpAny _ _ (eval (PySem.Expr.Tuple _ _ _) _) _ _ _)); k_fold) | (k_unfold; (try dsimp only)) | (k_end; wrow_close) | walk1 | (dsimp only; walk1) | (leave1; try dsimp only) | fail "no step"))
        refine' TurnEndM.same ?F ?N hoff ⟨rfl, ⟨_, ?j1⟩, ?j2, ?j3⟩
        case F => assumption
        case N => assumption
        case j1 => rw [take_snoc hd, manyOf_snoc, ← hlen]; with_unfolding_all rfl
        case j2 => with_unfolding_all rfl
        case j3 => rw [take_snoc hd]; exact all_snoc hall hdd
    case done =>
      intro m₂ nx h8 tk8 hJ9 F₃ N₃
      (try (show wpAny _ _ _ _ _ _; k_fold))
      obtain ⟨rfl, ⟨tm, r1⟩, r2, hall⟩ := hJ9
      rw [hB.len, List.take_length] at r1 hall
      have hc0 : callsOf ds = 0 := (callsOf_zero ds).mpr hall
      have F₄ := fr_tell2 r1 r2 F₃
      clear F₃
      (repeat' (first | ((first | (with_reducible show wpAny _ _ (exec _ _) _ _ _) | (with_reducible show wpAny _ _ (eval (PySem.Expr.Tuple _ _ _) _) _ _ _)); k_fold) | (k_unfold; (try dsimp only)) | (k_end; wrow_close) | walk1 | (dsimp only; walk1) | (leave1; try dsimp only) | fail "no step"))
      rw [beq_self_eq_true]
      refine' pool_out (d := .bool true) hret ?F ?N ?S ?hP ?e ?D ?f rfl
      case F => assumption
      case N => assumption
      case S => tb_rel
      case hP => assumption
      case e => ktr_rel
      case D => exact DatIn.bool _
      case f => exact okB
      exact absurd hc0 (by assumption)
end
theorem off_p24_law : True := by
  w_top off
  exact True.intro
section
/-- no record of a code -/
noncomputable def NoCode (o : Obj) : Prop := ∀ (vs : Array Value) (q : Str) (t : Tok), o.data = .fields vs → vs[1]? = some (.str q t) → False
theorem nocode_range : ∀ o : Obj, (∃ (h : Heap) (I : Addr) (a b c : Int), IsRangeIter h I a b c ∧ h.get? I = some o) → NoCode o := by
  rintro o ⟨h, I, a, b, c, h1, h2⟩ vs q t hd hv
  have e := Option.some.inj (h2.symm.trans h1)
  subst e
  cases hd
  simp [rawInt] at hv
theorem TurnEnd.less2 {h₀ : Heap} {x : Str} {m₀ : Str → Option Value} {stored : List Str} {J : Led → Prop} {h' : Heap} {L I : Addr} {oI : Obj} {m' : Str → Option Value} {all r1 r2 : Led} {p2 : Addr × Obj} {s₁ : Shared} {tk : Nat} (F : Fr h₀ L h' m') (N : News h₀ L h' all) (S1 : Less (I, oI) all r1) (S2 : Less p2 r1 r2) (h2 : p2.1 ≠ I) (hI : ∀ p ∈ r2, p.1 ≠ I)
    (hm : ∀ z, z ≠ x → stored.contains z = false → m' z = m₀ z) (hJ : J (p2 :: r2)) : TurnEnd h₀ L x stored m₀ J I oI s₁ { s₁ with heap := h', toks := tk } := by
  refine ⟨h', tk, m', p2 :: r2, rfl, F, fun p hp => N p (S1.mem p ?_), fun p hp => ?_, hm, hJ⟩
  · rcases List.mem_cons.mp hp with rfl | hp
    · exact .head _
    · exact .tail _ (S2.mem p hp)
  · rcases List.mem_cons.mp hp with rfl | hp
    · exact h2
    · exact hI p hp
section
variable {prog : Program} {w : World} {A : Around} {E : Value → Shared → Prop} {s : Shared} {env : Env} {h₀ : Heap} {x : Str} {body : List Stmt} {Q : Flow → Shared → Prop} {m₀ : Str → Option Value} {nx₀ : Led}
/-- a loop of one or two turns -/
theorem loop_two (PO : Obj → Prop) (hPO : ∀ o, (∃ h I a b c, IsRangeIter h I a b c ∧ h.get? I = some o) → PO o) (stored : List Str) (J : Nat → Led → Prop) {r : Addr} {b₀ : Int} {t₀ u₀ v₀ : Tok} (hh : A.handled = none) (hr : IsRange s.heap r 0 b₀ 1 t₀ u₀ v₀) (hb : 0 ≤ b₀ ∧ b₀ ≤ 2)
    (F : Fr h₀ env.locals s.heap m₀) (N : News h₀ env.locals s.heap nx₀) (hj : J 0 nx₀)
    (turn : ∀ k t i u nx h tk I oI, 0 ≤ k → k ≤ 63 → J i nx → NT oI → PO oI → (∀ p ∈ nx, p.1 ≠ I) → Fr h₀ env.locals h (inTurn x (.int k t) stored u m₀) → News h₀ env.locals h ((I, oI) :: nx) →
      wpAny (model prog w) A (execs body env) (TurnPost h₀ env.locals x stored m₀ (J (i + 1)) I oI { s with heap := h, toks := tk } Q) E { s with heap := h, toks := tk })
    (done : ∀ u nx h tk i, J i nx → Fr h₀ env.locals h (outTurn x stored u m₀) → News h₀ env.locals h nx → Q .next { s with heap := h, toks := tk }) :
    wpAny (model prog w) A (pyIter (.ref r)) (fun it s₂ => LoopAtV prog w A h₀ env x body Q E it s₂) E s := by
  obtain ⟨n, hn⟩ : ∃ n : Nat, b₀ = (n : Int) := ⟨b₀.toNat, by omega⟩
  subst hn
  refine loop_rangeP PO hPO stored J hh hr (small_one (by omega) (by omega) (by omega) (by omega)) (n := n) (by rw [rangeSize_nat]; omega) F N hj (fun i t u nx h tk I oI hi hJ hNT hPO hoff F₁ N₁ => ?_) fun u nx h tk hJ F₁ N₁ => done u nx h tk n hJ F₁ N₁
  exact turn _ t i u nx h tk I oI (by omega) (by omega) hJ hNT hPO hoff F₁ N₁
end
theorem ints_le {vs : List Value} {ns : List Int} (h : IntsAre vs ns) (hc : ns.length ≤ 63) : vs.length ≤ 63 := by
  have := h.length
  omega
section
variable {w : World} {p : Program} {loose : List Str} {mean : ExcName → Option Value} {mg mb : Str → Option Value} {dp un : Nat} {gd : Option (List Code)} {cn : Str} {cs : Scope} {a : Addr} {ccd : Value} {cl : List (Str × Addr)} {outer : List Env} {A₀ : Around} {base h₀ : Heap} {L : Addr} {m : Str → Option Value} {s : Shared} {Q E : Value → Shared → Prop}
  {src : Addr} {o t : Obj} {news W : Led} {k : Int} {tk : Tok}
theorem ends_use {I : Addr} {oI : Obj} (F : Fr h₀ L s.heap m := by k_asm) (N : News h₀ L s.heap news := by k_asm) (hPO : NoCode oI := by assumption) (hC : CodeHd h₀ 151 147 := by assumption) (hP : Pool o := by assumption) (hNT : NT o := by assumption) (hI7 : (@Ne Nat 147 I) := by assumption) (hIs : (@Ne Nat I src) := by first | assumption | omega) (S : Pick src o news [(I, oI), (147, t)] W := by tb_rel) (hT : Tab0 W t := by first | assumption | exact Tab.mono (by assumption) (fun p hp => by k_mem)) (hNTt : NT t := by assumption) (hs7 : (@Ne Nat src 147) := by first | assumption | omega) (O : Off [(src, o), (I, oI), (147, t)] W := by tb_rel) (B : Below A₀ base outer h₀ := by k_asm) (X : (hd.heap_1 w.params).In h₀ := by k_asm) (T : Top p loose mean mg mb h₀ := by k_asm) (hk : cs.kind = .function := by first | exact rfl | assumption) (hd : dp + 8 < recursionLimit := by ktr_room) (hu : un + 8 * 8 + 64 < cLine := by ktr_units) (h : ∀ o' t' W' h' tk', Pool o' → Tab0 W' t' → Off [(src, o'), (I, oI), (147, t')] W' → Fr h₀ L h' m → News h₀ L h' ((src, o') :: (I, oI) :: (147, t') :: W') → Q (.bool true) { s with heap := h', toks := tk' }) :
    wpAny (model PySem.Challenge.rw_xm0589_01.row.prog w) (ktrTop dp un gd cn cs L a ccd cl outer) (call (.ref 227) [.ref src, .int k tk]) Q E s := by
  have hWs : ∀ p ∈ (I, oI) :: W, p.1 ≠ src := fun p hp => by
    rcases List.mem_cons.mp hp with rfl | hp
    · exact hIs
    · exact O _ (.head _) p hp
  have hW7 : ∀ p ∈ (I, oI) :: W, p.1 ≠ 147 := fun p hp => by
    rcases List.mem_cons.mp hp with rfl | hp
    · exact Ne.symm hI7
    · exact O _ (.tail _ (.tail _ (.head _))) p hp
  refine lends_ok w src o t ((I, oI) :: W) k tk hP hNT (hT.mono fun _ h => mem_t h) hNTt hWs hW7 hs7 p loose mean mg mb dp un gd cn cs a ccd cl outer A₀ base h₀ L m s Q E hC B F X (fun q hq => N q ((S.mem q).mpr ?_)) T hk hd hu ?_
  · simp only [List.mem_cons, List.mem_append, List.not_mem_nil, or_false] at hq ⊢
    rcases hq with hq | hq | hq | hq <;> simp [hq]
  · rintro r J h' tk' F' N' ⟨o', t', W', rfl, P', T', O', sub, rfl⟩
    have hI := N' (I, oI) (mem_t (mem_t (sub _ mem_h)))
    have keep : ∀ p ∈ W', p.1 ≠ I → p ∈ W'.filter (fun p => decide (p.1 ≠ I)) := fun p hp h => List.mem_filter.mpr ⟨hp, by simpa using h⟩
    have T2 : Tab0 (W'.filter (fun p => decide (p.1 ≠ I))) t' := by
      cases T' with
      | fresh => exact .fresh
      | @made c oc vs tt hm hd' hv =>
        refine .made (keep _ hm fun e => ?_) hd' hv
        have e1 := (N' _ (mem_t (mem_t hm))).1
        have e : c = I := e
        subst e
        have e2 : oc = oI := Option.some.inj (e1.symm.trans hI.1)
        subst e2
        exact hPO _ _ _ hd' hv
    refine h o' t' _ h' tk' P' T2 ?_ F' fun p hp => N' p ?_
    · have sb : ∀ p ∈ W'.filter (fun p => decide (p.1 ≠ I)), p ∈ W' ∧ p.1 ≠ I := fun p hp => by simpa using List.mem_filter.mp hp
      exact Off.cons (fun p hp => O' _ (.head _) p (sb p hp).1) (Off.cons (fun p hp => (sb p hp).2) (Off.cons (fun p hp => O' _ (.tail _ (.head _)) p (sb p hp).1) Off.nil))
    · simp only [List.mem_cons, List.mem_filter] at hp ⊢
      rcases hp with hp | hp | hp | hp
      · simp [hp]
      · exact .inr (.inr (hp ▸ sub _ mem_h))
      · simp [hp]
      · simp [hp.1]
end
theorem ends_hW {src I : Addr} {o oI t : Obj} {W : Led} (O : Off [(src, o), (I, oI), (147, t)] W) (h1 : (@Ne Nat I src)) (h2 : (@Ne Nat 147 src)) : ∀ q ∈ [(I, oI), ((147 : Addr), t)] ++ W, q.1 ≠ src := by
  intro q hq
  rcases List.mem_append.mp hq with hq | hq
  · rcases List.mem_cons.mp hq with rfl | hq
    · exact h1
    · rw [List.mem_singleton.mp hq]
      exact h2
  · exact O _ (.head _) q hq
-- a range of a number; a loop over it stands still
set_option hygiene false in
local macro_rules | `(tactic| walk_at "call type:range") => `(tactic| (k_here; k_dflt (refine' range1_rows (by k_asm) (by k_asm) ?_; k_whole); intros; (try k_sweep)))
set_option hygiene false in
local macro_rules | `(tactic| walk_at "pyIter ref") => `(tactic| (k_here; (with_reducible show wpAny _ _ (pyIter _) (fun _ _ => LoopAtV _ _ _ _ _ _ _ _ _ _ _) _ _); refine Halt.out ?_))
local macro_rules | `(tactic| walk_at "exec For Name Call cons nil") => `(tactic| (k_here; (rename Fr _ _ _ _ => lF'); (with_unfolding_all refine' For_invVF lF' ?k1 ?k2 ?_; (case k1 => exact rfl); (case k2 => exact rfl); k_whole)))
-- the first place
set_option hygiene false in
local macro_rules | `(tactic| walk_at "call ref") => `(tactic| (k_here; (with_reducible show wpAny _ _ (call (Value.ref 119) _) _ _ _); k_dflt (refine' mplace_use (pl := ⟨1, [.idx 2, .fld 2]⟩) (hv := by kqd_in) (hp := by exact Nat.le_of_ble_eq_true rfl) (h := ?_); k_whole); ktu_objs))
-- the pool
local macro_rules | `(tactic| walk_at "call ref") => `(tactic| (k_here; k_dflt (refine' lpool_use (h := ?_); k_whole); intros; (rename AllLt _ _ => l9); have hA9 := l9; (try simp only [AllLt, and_true] at l9); (try k_sweep)))
-- the rows are right
set_option hygiene false in
local macro_rules | `(tactic| walk_at "call ref") => `(tactic| (k_here; (with_reducible show wpAny _ _ (call (Value.ref 220) _) _ _ _); k_dflt (refine' pool_useB (fun P' NT' hW' => lrows_ok _ _ _ _ _ _ (by assumption) (by omega) P' NT' hW') (h := ?_); k_whole); ktu_objs))
-- a body is told right
set_option hygiene false in
local macro_rules | `(tactic| walk_at "call ref") => `(tactic| (k_here; (with_reducible show wpAny _ _ (call (Value.ref 234) _) _ _ _); k_dflt (refine' pool_useB (fun P' NT' hW' => lsmall_ok _ _ _ _ P' NT' hW') (h := ?_); k_whole); ktu_objs))
-- the ends are right
local macro_rules | `(tactic| walk_at "call ref") => `(tactic| (k_here; (with_reducible show wpAny _ _ (call (Value.ref 227) _) _ _ _); k_dflt (refine' ends_use (h := ?_); k_whole); intros; (rename Pool _ => P9); (rename Tab0 _ _ => T9); have n9 := Pool.nt P9; have NT9 := Tab.nt T9; (try k_sweep)))
local macro_rules | `(tactic| kpr_head) => `(tactic| first | with_reducible exact Less.here | (with_reducible refine' Less.skip ?lx; (case lx => kpr_head)) | fail "less")
set_option maxHeartbeats 16000000 in
set_option maxRecDepth 100000 in
theorem whole : PySem.Challenge.rw_xm0589_01.Holds := hd (by
  k_go0
  (all_goals try k_fold)
  (rename ¬ _ => hc)
  (rename IntsAre _ _ => hI)
  have hvz := ints_le hI (by omega)
  k_steps
  refine ⟨?_⟩
  (rename IsRange _ _ _ _ _ _ _ _ => hR)
  (rename Off _ _ => O9)
  (rename Fr _ _ _ _ => F9)
  (rename News _ _ _ _ => N9)
  refine' loop_two NoCode ?zno ["source", "shift"] (fun _ nx => ∃ t W, nx = (147, t) :: W ∧ Tab0 W t ∧ NT t ∧ ∀ p ∈ W, p.1 ≠ 147) rfl hR ?zb F9 (fun p hp => N9 p (mem_t (mem_t (mem_t (mem_t hp))))) ⟨_, _, rfl, .fresh, Tab.nt (q := lamQ) (pos := lamPos) (W := []) .fresh, O9 _ (.head _)⟩ ?zturn ?zdone
  case zno => exact nocode_range
  case zb => constructor <;> (repeat' split) <;> omega
  case zturn =>
    intro k t i u nx h tk I oI hk0 hk1 hJ9 hNTI hPO hoff F₁ N₁
    (try (show wpAny _ _ _ _ _ _; k_fold))
    obtain ⟨t', W', rfl, hT, hNTt, hW⟩ := hJ9
    have oI1 := neN (hoff (147, _) (by k_mem))
    have hI1 := hoff (147, _) (by k_mem)
    have hI1' : (@Ne Nat 147 I) := hI1
    have hoff' : ∀ p ∈ W', p.1 ≠ I := fun p hp => hoff p (mem_t hp)
    (repeat' (first | ((first | (with_reducible show wpAny _ _ (exec _ _) _ _ _) | (with_reducible show wpAny _ _ (eval (PySem.Expr.Tuple _ _ _) _) _ _ _)); k_fold) | (k_unfold; (try dsimp only)) | (k_end; wrow_close) | walk1 | (dsimp only; walk1) | (leave1; try dsimp only) | fail "no step"))
    refine' TurnEnd.less2 (p2 := (147, _)) ?zF ?zN ?zS1 ?zS2 ?zh2 ?zNI ?zm ?zJ
    case zF => assumption
    case zN => assumption
    case zS1 => kpr_head
    case zS2 => kpr_head
    case zNI => kst_src
    case zm => (intro z h1 h3; (try simp only [List.contains_cons, List.contains_nil, Bool.or_false, Bool.or_eq_false_iff, beq_eq_false_iff_ne, ne_eq] at h3); simp [inTurn, h1, h3])
    case zh2 => exact hI1'
    case zJ =>
      refine' ⟨_, _, rfl, ?zT, ?zNT, ?zO⟩
      case zT => exact Tab.mono (by assumption) (fun p hp => by with_reducible k_mem)
      case zNT => assumption
      case zO => kst_src
  case zdone =>
    intro u nx h tk i hJ9 F₁ N₁
    (try (show wpAny _ _ _ _ _ _; k_fold))
    obtain ⟨t', W', rfl, hT, hNTt, hW⟩ := hJ9
    obtain ⟨ps, rfl⟩ : ∃ ps, t' = tabObj ps := by cases hT <;> exact ⟨_, rfl⟩
    (repeat' (first | ((first | (with_reducible show wpAny _ _ (exec _ _) _ _ _) | (with_reducible show wpAny _ _ (eval (PySem.Expr.Tuple _ _ _) _) _ _ _)); k_fold) | (k_unfold; (try dsimp only)) | (k_end; wrow_close) | walk1 | (dsimp only; walk1) | (leave1; try dsimp only) | fail "no step")))
end
end Mine
theorem PySem.Challenge.cw_xm0589_01_holds : PySem.Challenge.rw_xm0589_01.Holds := by
  exact Mine.whole
