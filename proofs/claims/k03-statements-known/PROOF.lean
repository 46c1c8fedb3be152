import PyProof.Rows.All
import Wide.All
import OpenK.AllK
import Wide.FinOn
import HandS.ForMost
import HandS.IsInst
import HandS.Flow
import HandS.Walk
import HandS.TupAny
import HandS.Conv
import HandS.Steps
import HandS.Style
import PyProof.NeData
import KE.GoesMore
import PySem.Challenge.RW_tacticwright_k03_statements_known
set_option Elab.async false
set_option linter.all false
set_option maxRecDepth 100000
set_option maxHeartbeats 4000000
namespace G
open PySem PySem.Spec PyProof.Rows L2

/-! ### data and what stands for it -/
mutual
inductive R (K : PySem.W.Frag) (H : Hp) : V → PyData → Prop
  | non : R K H .non .none
  | bl (b : Bool) : R K H (.bl b) (.bool b)
  | int (i : Int) : R K H (.int i) (.int i)
  | str (x : Str) : R K H (.str x) (.str x)
  | lst {a : Addr} {xs : List V} {ds : List PyData} : H a = some (.lst xs) → RA K H xs ds → R K H (.ref a) (.list ds)
  | tup {a : Addr} {xs : List V} {ds : List PyData} : SqT K H a xs → RA K H xs ds → R K H (.ref a) (.tuple ds)
  | dct {a : Addr} {kvs : List (Key × V)} : H a = some (.dK kvs) → R K H (.ref a) (.dict [])
inductive RA (K : PySem.W.Frag) (H : Hp) : List V → List PyData → Prop
  | nil : RA K H [] []
  | cons {v : V} {vs : List V} {d : PyData} {ds : List PyData} : R K H v d → RA K H vs ds → RA K H (v :: vs) (d :: ds)
end
section
variable {K : PySem.W.Frag} {H H' : Hp}
theorem _root_.L2.Same.tup {a : Addr} {xs : List V} (e : Same H H') (h : SqT K H a xs) : SqT K H' a xs := by
  rcases h with (h | ⟨o, h⟩) | h
  · exact .inl (.inl (e _ _ h))
  · exact .inl (.inr ⟨o, e _ _ h⟩)
  · exact .inr h
mutual
theorem R.mono (e : Same H H') : ∀ {v : V} {d : PyData}, R K H v d → R K H' v d
  | _, _, .non => .non
  | _, _, .bl b => .bl b
  | _, _, .int i => .int i
  | _, _, .str x => .str x
  | _, _, .lst h r => .lst (e _ _ h) (RA.mono e r)
  | _, _, .tup h r => .tup (e.tup h) (RA.mono e r)
  | _, _, .dct h => .dct (e _ _ h)
theorem RA.mono (e : Same H H') : ∀ {vs : List V} {ds : List PyData}, RA K H vs ds → RA K H' vs ds
  | _, _, .nil => .nil
  | _, _, .cons h r => .cons (R.mono e h) (RA.mono e r)
end
theorem RA.length : ∀ {vs : List V} {ds : List PyData}, RA K H vs ds → vs.length = ds.length
  | _, _, .nil => rfl
  | _, _, .cons _ r => by simp [RA.length r]
theorem RA.get : ∀ {vs : List V} {ds : List PyData} {i : Nat} {d : PyData}, RA K H vs ds → ds[i]? = some d → ∃ v, vs[i]? = some v ∧ R K H v d
  | _, _, i, _, .nil, e => by simp at e
  | _, _, 0, _, .cons h _, e => by simp at e; subst e; exact ⟨_, rfl, h⟩
  | _, _, i + 1, _, .cons _ r, e => by
    obtain ⟨v, h1, h2⟩ := RA.get (i := i) r (by simpa using e)
    exact ⟨v, by simpa using h1, h2⟩
theorem RA.getV : ∀ {vs : List V} {ds : List PyData} {i : Nat} {v : V}, RA K H vs ds → vs[i]? = some v → ∃ d, ds[i]? = some d ∧ R K H v d
  | _, _, i, _, .nil, e => by simp at e
  | _, _, 0, _, .cons h _, e => by simp at e; subst e; exact ⟨_, rfl, h⟩
  | _, _, i + 1, _, .cons _ r, e => by
    obtain ⟨v, h1, h2⟩ := RA.getV (i := i) r (by simpa using e)
    exact ⟨v, by simpa using h1, h2⟩
theorem RA.append : ∀ {vs ws : List V} {ds es : List PyData}, RA K H vs ds → RA K H ws es → RA K H (vs ++ ws) (ds ++ es)
  | _, _, _, _, .nil, s => s
  | _, _, _, _, .cons h r, s => .cons h (RA.append r s)
theorem RA.drop : ∀ (n : Nat) {vs : List V} {ds : List PyData}, RA K H vs ds → RA K H (vs.drop n) (ds.drop n)
  | 0, _, _, r => r
  | _ + 1, _, _, .nil => .nil
  | n + 1, _, _, .cons _ r => RA.drop n r
theorem RA.take : ∀ (n : Nat) {vs : List V} {ds : List PyData}, RA K H vs ds → RA K H (vs.take n) (ds.take n)
  | 0, _, _, _ => .nil
  | _ + 1, _, _, .nil => .nil
  | n + 1, _, _, .cons h r => .cons h (RA.take n r)
theorem RA.bools : ∀ {vs : List V} {bs : List Bool}, RA K H vs (bs.map PyData.bool) → vs = bs.map V.bl
  | _, [], .nil => rfl
  | _, _ :: _, .cons h r => by cases h; rw [RA.bools r]; rfl
theorem RA.ints : ∀ {vs : List V} {bs : List Int}, RA K H vs (bs.map PyData.int) → vs = bs.map V.int
  | _, [], .nil => rfl
  | _, _ :: _, .cons h r => by cases h; rw [RA.ints r]; rfl
theorem RA.strs : ∀ {vs : List V} {bs : List Str}, RA K H vs (bs.map PyData.str) → vs = bs.map V.str
  | _, [], .nil => rfl
  | _, _ :: _, .cons h r => by cases h; rw [RA.strs r]; rfl
theorem R.inv_str {v : V} {x : Str} (h : R K H v (.str x)) : v = .str x := by cases h; rfl
theorem R.inv_int {v : V} {x : Int} (h : R K H v (.int x)) : v = .int x := by cases h; rfl
theorem R.inv_bl {v : V} {x : Bool} (h : R K H v (.bool x)) : v = .bl x := by cases h; rfl
theorem R.inv_non {v : V} (h : R K H v .none) : v = .non := by cases h; rfl
theorem R.inv_tup {v : V} {ds : List PyData} (h : R K H v (.tuple ds)) : ∃ a xs, v = .ref a ∧ SqT K H a xs ∧ RA K H xs ds := by cases h; exact ⟨_, _, rfl, ‹_›, ‹_›⟩
theorem R.inv_lst {v : V} {ds : List PyData} (h : R K H v (.list ds)) : ∃ a xs, v = .ref a ∧ H a = some (.lst xs) ∧ RA K H xs ds := by cases h; exact ⟨_, _, rfl, ‹_›, ‹_›⟩
theorem RA.inv_cons {vs : List V} {d : PyData} {ds : List PyData} (h : RA K H vs (d :: ds)) : ∃ v ws, vs = v :: ws ∧ R K H v d ∧ RA K H ws ds := by cases h; exact ⟨_, _, rfl, ‹_›, ‹_›⟩
theorem RA.inv_nil {vs : List V} (h : RA K H vs []) : vs = [] := by cases h; rfl
/-- a new object -/
theorem same_new {p : Addr} (h : H p = none) (o : HO) : Same H (upd H p o) := fun b u q => by rw [upd_ne (ne_of_none q h)]; exact q
mutual
theorem R.dp : ∀ {v : V} {d : PyData}, R K H v d → d.canLay0 = true → Dp K H v d
  | _, _, .non, _ => .non
  | _, _, .bl b, _ => .bl b
  | _, _, .int i, _ => .int i
  | _, _, .str x, _ => .str x
  | _, _, .lst h r, c => .lst (.inl (.inl h)) (RA.dp r (by simpa [PyData.canLay0] using c))
  | _, _, .tup h r, c => .tup h (RA.dp r (by simpa [PyData.canLay0] using c))
  | _, _, .dct h, c => by simp [PyData.canLay0] at c
theorem RA.dp : ∀ {vs : List V} {ds : List PyData}, RA K H vs ds → PyData.canLayAll0 ds = true → DpAll K H vs ds
  | _, _, .nil, _ => .nil
  | _, _, .cons h r, c => by
    simp only [PyData.canLayAll0, Bool.and_eq_true] at c
    exact .cons (R.dp h c.1) (RA.dp r c.2)
end
end

/-! ### calls of defs -/
structure Cal (P : Program) (w : World) (K : PySem.W.Frag) (mg : Str → Option Value) (base : Heap) (k : Nat) (x : Str) (sp : Sp) : Prop where
  ex : ∃ (f : Addr) (fd : FuncData) (ps : List Str), FnOk P w K mg base CX0 k f fd ps sp ∧ mg x = some (.ref f) ∧ PySem.W.keepIn K (.ref f) = true ∧ Binds K fd ps []
structure Df (K : PySem.W.Frag) (mg : Str → Option Value) (x : Str) (st : Stmt) (ps : List Str) : Prop where
  ex : ∃ f fd, Fun K x x st f fd ∧ mg x = some (.ref f) ∧ Binds K fd ps []
section
variable {X : Cx}
theorem pe_c {j k : Nat} {x : Str} {sp : Sp} {e : Expr} {es : List Expr} {t : TA} {p pos : Pos} (c : Cal X.prog X.w X.K X.mg X.base k x sp) (hr : Room j X.A) (hk : k ≤ j) (hg : Gl X x) (ha : PA X (e :: es) t)
    (hdb : (x == ("__debug__" : Str)) = false := by decide) (he : starEach (e :: es) X.env = (false, eval e X.env) :: starEach es X.env := by rfl) (hpl : (backTo pos (starEach es X.env)).any (·.1) = false := by rfl) :
    PE X (.Call (.Name x p) (e :: es) [] pos) (tCall sp [] E0 t) := by
  obtain ⟨f, fd, ps, F, hm, kp, b⟩ := c.ex
  exact pe_call F (hr.mono hk) hg hm kp b .nil pass0 ha hdb he hpl
theorem Df.cal {P : Program} {w : World} {K : PySem.W.Frag} {mg : Str → Option Value} {base : Heap} {x : Str} {st : Stmt} {N ps : List Str} {k : Nat} {sp : Sp} (D : Df K mg x st ps) (S : FnScope N ps (defScope st)) (len : ∀ vs H Q E, sp vs H Q E → vs.length = ps.length)
    (hbody : ∀ (f : Addr) (cdv : Value) (A : Around) (outer : List Env) (s : Shared) (H : Hp) (vs : List V) (Q : VK) (E : XK), Room k (A.deeper (envOfC x (defScope st) s.heap.objs.size f cdv)) → sp vs H Q E →
      ∃ t, PSs (cxOf CX0 P w K mg base N x (defScope st) f cdv A outer s H E).nox (defBody st) t ∧ t { nx := fun _ H' => Q .non H', rt := Q } (start N vs) H) : Cal P w K mg base (k + 1) x sp := by
  obtain ⟨f, fd, F, hm, b⟩ := D.ex
  exact ⟨f, fd, ps, F.ok S len (hbody f), hm, F.kp, b⟩
theorem Cal.mono {P : Program} {w : World} {K : PySem.W.Frag} {mg : Str → Option Value} {base : Heap} {k : Nat} {x : Str} {sp sp' : Sp} (c : Cal P w K mg base k x sp) (h : ∀ vs H Q E, sp' vs H Q E → sp vs H Q E) : Cal P w K mg base k x sp' := by
  obtain ⟨f, fd, ps, F, hm, kp, b⟩ := c.ex
  exact ⟨f, fd, ps, ⟨fun vs H Q E q => F.1 vs H Q E (h vs H Q E q), fun A outer s H args us vs Q E a1 a2 a3 a4 q => F.2 A outer s H args us vs Q E a1 a2 a3 a4 (h vs H Q E q)⟩, hm, kp, b⟩

/-! ### redescribing a thing -/
theorem redesc {pins : List (Addr × Obj)} {σ : L2.St} {H : Hp} {s : Shared} {d : Addr} {u o : HO} (I : Inv X pins σ H s) (h : H d = some u) (mu : Mut (some u)) (new : ObjOk X.prog X.w (upd H d o) s.heap d o) : Inv X pins σ (upd H d o) s :=
  I.write (x := d) (e := d) (t' := s.toks) (h' := s.heap) (by rw [h]; exact mu) (.inl rfl) (fun b v _ q => q) (by
    have x := I.hok d u h
    cases u with
    | lst xs => obtain ⟨_, _, _, _, e⟩ := x; exact ⟨_, e⟩
    | dK kvs => obtain ⟨_, _, _, _, o, _, _, e, _⟩ := x; exact ⟨o, e⟩
    | dT kvs => obtain ⟨_, _, _, _, o, _, _, e, _⟩ := x; exact ⟨o, e⟩
    | set S n => obtain ⟨o, _, _, _, e, _⟩ := x; exact ⟨o, e⟩
    | ins C dx fs => obtain ⟨_, _, _, e, _⟩ := x; exact ⟨_, e⟩
    | ext φ => obtain ⟨_, ⟨_, e⟩, _⟩ := x; exact ⟨_, e⟩
    | _ => exact False.elim mu) new
end
/-! ### the state: a list of two ints, told by no more -/
def StP (p : Addr) (h : Heap) : Prop := ∃ (a b : Int) (t u : Tok) (n : Nat), h.get? p = some { cls := .type "list", data := .seq #[.int a t, .int b u] n }
def Stt (p : Addr) : HO := .ext (StP p)
theorem st_open {X : Cx} {pins : List (Addr × Obj)} {σ : L2.St} {H : Hp} {s : Shared} {p : Addr} (I : Inv X pins σ H s) (h : H p = some (Stt p)) : ∃ a b : Int, Inv X pins σ (upd H p (.lst [.int a, .int b])) s := by
  obtain ⟨⟨a, b, t, u, n, e⟩, _, _⟩ := I.hok p _ h
  refine ⟨a, b, redesc I h True.intro ?_⟩
  exact ⟨by show 2 ≤ sizeLine; decide, [.int a t, .int b u], n, .cons ⟨_, rfl⟩ (.cons ⟨_, rfl⟩ .nil), e⟩
theorem st_close {X : Cx} {pins : List (Addr × Obj)} {σ : L2.St} {H : Hp} {s : Shared} {p : Addr} {a b : Int} (I : Inv X pins σ H s) (h : H p = some (.lst [.int a, .int b])) : Inv X pins σ (upd H p (Stt p)) s := by
  obtain ⟨_, its, n, r, e⟩ := I.hok p _ h
  refine redesc I h True.intro ?_
  have z : StP p s.heap := by
    cases r with
    | cons r1 r =>
      cases r with
      | cons r2 r =>
        cases r
        obtain ⟨t, rfl⟩ := r1
        obtain ⟨u, rfl⟩ := r2
        exact ⟨a, b, t, u, n, e⟩
  exact ⟨z, ⟨_, e⟩, fun h1 h2 ⟨a, b, t, u, n, e⟩ k => ⟨a, b, t, u, n, k _ e⟩⟩
/-- a block that has the state's two ints open -/
def tOpen (t : TS) : TS := fun D σ H => ∃ p, H p = some (Stt p) ∧ ∀ a b : Int,
  t ⟨fun σ' H' => ∃ a b : Int, H' p = some (.lst [.int a, .int b]) ∧ D.nx σ' (upd H' p (Stt p)), fun v H' => ∃ a b : Int, H' p = some (.lst [.int a, .int b]) ∧ D.rt v (upd H' p (Stt p)), fun _ _ => False, fun _ _ => False⟩ σ (upd H p (.lst [.int a, .int b]))
theorem pss_open {X : Cx} {st : List Stmt} {t : TS} (h : PSs X st t) : PSs X st (tOpen t) := by
  refine ⟨fun pins s σ H D I hw => ?_⟩
  obtain ⟨p, hp, hw⟩ := hw
  obtain ⟨a, b, I1⟩ := st_open I hp
  refine thn (h.run pins s σ _ _ I1 (hw a b)) fun f s1 q => ?_
  cases f with
  | next => obtain ⟨σ', H', I2, a, b, e, q⟩ := q; exact ⟨σ', _, st_close I2 e, q⟩
  | brk => obtain ⟨σ', H', I2, q⟩ := q; exact q.elim
  | cont => obtain ⟨σ', H', I2, q⟩ := q; exact q.elim
  | ret v => obtain ⟨x, σ', H', I2, r, a, b, e, q⟩ := q; exact ⟨x, σ', _, st_close I2 e, r, q⟩
/-- a block that hands back a new list of two ints: told as a state -/
def tShut (t : TS) : TS := fun D σ H => t { D with rt := fun v H' => ∃ (p : Addr) (a b : Int), v = .ref p ∧ H' p = some (.lst [.int a, .int b]) ∧ D.rt v (upd H' p (Stt p)) } σ H
theorem pss_shut {X : Cx} {st : List Stmt} {t : TS} (h : PSs X st t) : PSs X st (tShut t) := by
  refine ⟨fun pins s σ H D I hw => ?_⟩
  refine thn (h.run pins s σ _ _ I hw) fun f s1 q => ?_
  cases f with
  | next => exact q
  | brk => exact q
  | cont => exact q
  | ret v => obtain ⟨x, σ', H', I2, r, p, a, b, e1, e, q⟩ := q; exact ⟨x, σ', _, st_close I2 e, r, q⟩
end G

namespace G
open PySem PySem.Spec PyProof.Rows L2

theorem big_le {n : Nat} (h : n ≤ 1000000) : n ≤ sizeLine := Nat.le_trans h (by decide)

def NewT (_K : PySem.W.Frag) (xs : List V) (H : Hp) (Q : VK) : Prop := xs.length ≤ sizeLine ∧ ∀ p, H p = none → Q (.ref p) (upd H p (.tup xs))
def NewL (_K : PySem.W.Frag) (xs : List V) (H : Hp) (Q : VK) : Prop := xs.length ≤ sizeLine ∧ ∀ p, H p = none → Q (.ref p) (upd H p (.lst xs))
def tTupK (_K : PySem.W.Frag) (t : TA) : TE := tTup t
def tLstK (_K : PySem.W.Frag) (t : TA) : TE := tLst t
theorem pe_tupK (K : PySem.W.Frag) {X : Cx} {es : List Expr} {t : TA} {pos : Pos} {x1 : Nat} (h : PA X es t) : PE X (.Tuple es x1 pos) (tTupK K t) := pe_tup h
theorem pe_lstK (K : PySem.W.Frag) {X : Cx} {es : List Expr} {t : TA} {pos : Pos} (h : PA X es t) : PE X (.List es pos) (tLstK K t) := pe_lst h
/-! ### control: what a reading asks next -/
section
variable {K : PySem.W.Frag} {σ : L2.St} {H : Hp} {nx : L2.St → Hp → Prop} {rt : VK} {bk ct : L2.St → Hp → Prop} {t u : TS} {te ta tb : TE} {c d : TT} {Q : VK} {QB : Bool → Hp → Prop} {v : V} {i : Nat}
theorem st_seq (h : t ⟨fun σ H => u ⟨nx, rt, bk, ct⟩ σ H, rt, bk, ct⟩ σ H) : tSeq t u ⟨nx, rt, bk, ct⟩ σ H := h
theorem st_next (h : nx σ H) : tNext ⟨nx, rt, bk, ct⟩ σ H := h
theorem st_break (h : bk σ H) : tBreak ⟨nx, rt, bk, ct⟩ σ H := h
theorem st_cont (h : ct σ H) : tCont ⟨nx, rt, bk, ct⟩ σ H := h
theorem st_drop (h : te σ H fun _ H1 => nx σ H1) : tDrop te ⟨nx, rt, bk, ct⟩ σ H := h
theorem st_ret (h : te σ H rt) : tRet te ⟨nx, rt, bk, ct⟩ σ H := h
theorem st_retN (h : rt .non H) : tRetN ⟨nx, rt, bk, ct⟩ σ H := h
theorem st_if (h : c σ H fun b H1 => if b = true then t ⟨nx, rt, bk, ct⟩ σ H1 else u ⟨nx, rt, bk, ct⟩ σ H1) : tIfS c t u ⟨nx, rt, bk, ct⟩ σ H := h
theorem st_set (h : te σ H fun x H1 => nx (σ.set i (some x)) H1) : tAsg te (gName i) ⟨nx, rt, bk, ct⟩ σ H := h
theorem st_var (hv : σ[i]? = some (some v)) (h : Q v H) : tVar i σ H Q := ⟨v, hv, h⟩
theorem st_c (h : Q v H) : tC v σ H Q := h
theorem st_tB (h : te σ H fun x H1 => ∃ k, x = .bl k ∧ QB k H1) : tB te σ H QB := h
theorem st_tTest (h : te σ H fun x H1 => ∃ k, x = .bl k ∧ QB k H1) : tTest te σ H QB := h
theorem st_bl {b : Bool} {P : Bool → Prop} (h : P b) : ∃ k, V.bl b = .bl k ∧ P k := ⟨b, rfl, h⟩
theorem st_and (h : c σ H fun b H1 => if b = true then d σ H1 QB else QB false H1) : tAnd c d σ H QB := h
theorem st_or (h : c σ H fun b H1 => if b = true then QB true H1 else d σ H1 QB) : tOr c d σ H QB := h
theorem st_not (h : c σ H fun b H1 => QB (!b) H1) : tNot c σ H QB := h
theorem st_andV (h : ta σ H fun x H1 => ∃ k, x = .bl k ∧ if k = true then tb σ H1 Q else Q (.bl false) H1) : tAndV ta tb σ H Q := h
theorem st_orV (h : ta σ H fun x H1 => ∃ k, x = .bl k ∧ if k = true then Q (.bl true) H1 else tb σ H1 Q) : tOrV ta tb σ H Q := h
theorem st_notV (h : ta σ H fun x H1 => ∃ k, x = .bl k ∧ Q (.bl (!k)) H1) : tNotV ta σ H Q := h
theorem st_tIf (h : c σ H fun b H1 => if b = true then ta σ H1 Q else tb σ H1 Q) : tIf c ta tb σ H Q := h
theorem st_op {r : R2} (h : ta σ H fun x H1 => tb σ H1 fun y H2 => r x y H2 Q) : tOp r ta tb σ H Q := h
theorem st_un {r : V → Hp → VK → Prop} (h : ta σ H fun x H1 => r x H1 Q) : tUn r ta σ H Q := h
theorem st_chain {r r' : R2} {tc : TE} (h : ta σ H fun x H1 => tb σ H1 fun y H2 => r x y H2 fun z H3 => ∃ k, z = .bl k ∧ if k = true then tc σ H3 fun w H4 => r' y w H4 Q else Q (.bl false) H3) : tChain r r' ta tb tc σ H Q := by
  unfold tChain
  exact h
theorem st_nil {QA : List V → Hp → Prop} (h : QA [] H) : tNil σ H QA := h
theorem st_cons {QA : List V → Hp → Prop} {tr : TA} (h : te σ H fun x H1 => tr σ H1 fun xs H2 => QA (x :: xs) H2) : tCons te tr σ H QA := h
theorem st_call {sp : Sp} {E : XK} {a : TA} (h : a σ H fun vs H1 => sp vs H1 Q E) : tCall sp [] E a σ H Q := by
  unfold tCall
  simp only [List.append_nil]
  exact h
theorem st_CB {r : List V → Hp → VK → Prop} {a : TA} (h : a σ H fun vs H1 => r vs H1 Q) : tCB r a σ H Q := h
theorem st_ite {b : Bool} {A B : Prop} (h1 : b = true → A) (h2 : b = false → B) : if b = true then A else B := by
  cases b with
  | true => rw [if_pos rfl]; exact h1 rfl
  | false => rw [if_neg Bool.false_ne_true]; exact h2 rfl
theorem st_slice {r : V → Option Int → Option Int → Hp → VK → Prop} {tl th : TO} (h : te σ H fun x H1 => tl σ H1 fun l H2 => th σ H2 fun u H3 => r x l u H3 Q) : tSl r te tl th σ H Q := h
theorem st_noPart {QO : Option Int → Hp → Prop} (h : QO none H) : tNoPart σ H QO := h
theorem st_part {QO : Option Int → Hp → Prop} (h : te σ H fun x H1 => ∃ i, x = .int i ∧ QO (some i) H1) : tPart te σ H QO := h
theorem st_exInt {P : Int → Prop} {j : Int} (h : P j) : ∃ i, V.int j = .int i ∧ P i := ⟨j, rfl, h⟩
/-- a new tuple | list -/
theorem st_tup {a : TA} (h : a σ H fun xs H1 => NewT K xs H1 Q) : tTupK K a σ H Q := h
theorem st_lst {a : TA} (h : a σ H fun xs H1 => NewL K xs H1 Q) : tLstK K a σ H Q := h
theorem st_newT {xs : List V} {ds : List PyData} (r : RA K H xs ds) (hl : xs.length ≤ 1000000) (h : ∀ v H', Same H H' → R K H' v (.tuple ds) → Q v H') : NewT K xs H Q :=
  ⟨big_le hl, fun p hp => h _ _ (same_new hp _) (.tup (.inl (.inl upd_same)) (r.mono (same_new hp _)))⟩
theorem st_newL {xs : List V} {ds : List PyData} (r : RA K H xs ds) (hl : xs.length ≤ 1000000) (h : ∀ v H', Same H H' → R K H' v (.list ds) → Q v H') : NewL K xs H Q :=
  ⟨big_le hl, fun p hp => h _ _ (same_new hp _) (.lst upd_same (r.mono (same_new hp _)))⟩
end

/-! ### operators, by what they are given -/
section
variable {X : Cx}
abbrev rI2 (g : Int → Int → V) : R2 := rI0 g
def rAddS2 : R2 := fun x y H Q => ∃ i j, x = .str i ∧ y = .str j ∧ i.length + j.length ≤ sizeLine ∧ Q (.str (i ++ j)) H
def rAddU (K : PySem.W.Frag) : R2 := fun x y H Q => rI0 (fun i j => .int (i + j)) x y H Q ∨ rAddS2 x y H Q ∨ rCat x y H Q ∨ rCatA K x y H Q
theorem op_addU : OpR X (binaryOp .Add) (rAddU X.K) := OpR.or op_add (OpR.or op_add_str (OpR.or op_cat op_catA))
def rEqX (K : PySem.W.Frag) : R2 := fun x y H Q => ∃ d e, Dp K H x d ∧ Dp K H y e ∧ d.canLay0 = true ∧ e.canLay0 = true ∧ min d.depth e.depth ≤ 190 ∧ Q (.bl (PyData.eqv d e)) H
def rNeX (K : PySem.W.Frag) : R2 := fun x y H Q => ∃ d e, Dp K H x d ∧ Dp K H y e ∧ d.canLay0 = true ∧ e.canLay0 = true ∧ min d.depth e.depth ≤ 190 ∧ Q (.bl (!PyData.eqv d e)) H
theorem op_eqX {k : Nat} (hr : Room k X.A) : OpR X (compareOp .Eq) (rEqX X.K) := by
  intro pins s σ H x y v u Q I rx ry h
  obtain ⟨d, e, hd, he, sd, se, hm, q⟩ := h
  obtain ⟨as, r1⟩ := Dp.reads I d x v hd rx
  obtain ⟨bs, r2⟩ := Dp.reads I e y u he ry
  exact SeqAt.compareEq_reads r1 r2 sd se (by have := hr.un; omega) ⟨.bl _, H, I, rfl, q⟩
theorem op_neX {k : Nat} (hr : Room k X.A) : OpR X (compareOp .NotEq) (rNeX X.K) := by
  intro pins s σ H x y v u Q I rx ry h
  obtain ⟨d, e, hd, he, sd, se, hm, q⟩ := h
  obtain ⟨as, r1⟩ := Dp.reads I d x v hd rx
  obtain ⟨bs, r2⟩ := Dp.reads I e y u he ry
  exact SeqAt.compareNe_reads r1 r2 sd se (by have := hr.un; omega) ⟨.bl _, H, I, rfl, q⟩
def rEqU (K : PySem.W.Frag) : R2 := fun x y H Q => rEq x y H Q ∨ rEqX K x y H Q
def rNeU (K : PySem.W.Frag) : R2 := fun x y H Q => rNe x y H Q ∨ rNeX K x y H Q
theorem op_eqU {k : Nat} (hr : Room k X.A) : OpR X (compareOp .Eq) (rEqU X.K) := OpR.or op_eq (op_eqX hr)
theorem op_neU {k : Nat} (hr : Room k X.A) : OpR X (compareOp .NotEq) (rNeU X.K) := OpR.or op_ne (op_neX hr)
def rIsU : R2 := fun x y H Q => rIsN x y H Q ∨ rIsB x y H Q
def rNisU : R2 := fun x y H Q => rNotN x y H Q ∨ rNotB x y H Q
theorem op_isU : OpR X (compareOp .Is) rIsU := OpR.or op_isN1 op_isBl
theorem op_nisU : OpR X (compareOp .IsNot) rNisU := OpR.or op_notN1 op_notBl
def rInU (K : PySem.W.Frag) : R2 := fun x y H Q => rInS x y H Q ∨ rIn K false x y H Q
def rNinU (K : PySem.W.Frag) : R2 := fun x y H Q => rNotInS x y H Q ∨ rIn K true x y H Q
theorem op_inU : OpR X (compareOp .In) (rInU X.K) := OpR.or op_inS op_in_seq
theorem op_ninU : OpR X (compareOp .NotIn) (rNinU X.K) := OpR.or op_notInS op_notIn_seq
def rSlU (K : PySem.W.Frag) : V → Option Int → Option Int → Hp → VK → Prop := fun x lo hi H Q => rSlS x lo hi H Q ∨ rSlL K x lo hi H Q ∨ rSlA K x lo hi H Q
theorem sl_U : SlR X (rSlU X.K) := SlR.or sl_str (SlR.or sl_list sl_tupA)
end

/-! ### what they give, by data -/
def inS (w : Str) : List PyData → Bool
  | [] => false
  | .str z :: ds => decide (z = w) || inS w ds
  | _ :: ds => inS w ds
def allS : List PyData → Bool
  | [] => true
  | .str _ :: ds => allS ds
  | _ :: _ => false
def inI (w : Int) : List PyData → Bool
  | [] => false
  | .int z :: ds => decide (z = w) || inI w ds
  | _ :: ds => inI w ds
def allI : List PyData → Bool
  | [] => true
  | .int _ :: ds => allI ds
  | _ :: _ => false
def isNone : PyData → Bool
  | .none => true
  | _ => false
def cutD (xs : List PyData) (lo hi : Option Int) : List PyData := (xs.drop (HT.sIx xs.length 0 lo)).take (HT.sIx xs.length xs.length hi - HT.sIx xs.length 0 lo)
section
variable {K : PySem.W.Frag} {σ : L2.St} {H : Hp} {Q : VK} {x y : V}
theorem add_int {i j : Int} (h : Q (.int (i + j)) H) : rAddU K (.int i) (.int j) H Q := .inl ⟨i, j, rfl, rfl, h⟩
theorem add_str {i j : Str} (hl : i.length + j.length ≤ 1000000) (h : Q (.str (i ++ j)) H) : rAddU K (.str i) (.str j) H Q := .inr (.inl ⟨i, j, rfl, rfl, big_le hl, h⟩)
theorem add_lst {ds es : List PyData} (r : R K H x (.list ds)) (s : R K H y (.list es)) (hl : ds.length + es.length ≤ 1000000) (h : ∀ v H', Same H H' → R K H' v (.list (ds ++ es)) → Q v H') : rAddU K x y H Q := by
  obtain ⟨a, xs, rfl, ha, ra⟩ := r.inv_lst
  obtain ⟨b, ys, rfl, hb, rb⟩ := s.inv_lst
  refine .inr (.inr (.inl ⟨a, b, xs, ys, rfl, rfl, ha, hb, big_le (by rw [ra.length, rb.length]; exact hl), fun p hp => ?_⟩))
  exact h _ _ (same_new hp _) (.lst upd_same ((ra.append rb).mono (same_new hp _)))
theorem add_tup {ds es : List PyData} (r : R K H x (.tuple ds)) (s : R K H y (.tuple es)) (hl : ds.length + es.length ≤ 1000000) (h : ∀ v H', Same H H' → R K H' v (.tuple (ds ++ es)) → Q v H') : rAddU K x y H Q := by
  obtain ⟨a, xs, rfl, ha, ra⟩ := r.inv_tup
  obtain ⟨b, ys, rfl, hb, rb⟩ := s.inv_tup
  refine .inr (.inr (.inr ⟨a, b, xs, ys, rfl, rfl, ha, hb, big_le (by rw [ra.length, rb.length]; exact hl), fun e => ?_, fun e1 e2 => ?_, fun e1 e2 p hp => ?_⟩))
  · subst e
    cases ra
    exact h _ _ (Same.refl _) (.tup hb rb)
  · subst e2
    cases rb
    exact h _ _ (Same.refl _) (by rw [List.append_nil]; exact .tup ha ra)
  · exact h _ _ (same_new hp _) (.tup (.inl (.inl upd_same)) ((ra.append rb).mono (same_new hp _)))
theorem i0 {g : Int → Int → V} {i j : Int} (h : Q (g i j) H) : rI0 g (.int i) (.int j) H Q := ⟨i, j, rfl, rfl, h⟩
theorem iC {C : Int → Int → Prop} {g : Int → Int → V} {i j : Int} (hc : C i j) (h : Q (g i j) H) : rI C g (.int i) (.int j) H Q := ⟨i, j, rfl, rfl, hc, h⟩
theorem eq_str {i j : Str} (h : Q (.bl (decide (i = j))) H) : rEqU K (.str i) (.str j) H Q := .inl ⟨rfl, by
  have e : decide (V.str i = V.str j) = decide (i = j) := by simp
  rw [e]; exact h⟩
theorem eq_int {i j : Int} (h : Q (.bl (decide (i = j))) H) : rEqU K (.int i) (.int j) H Q := .inl ⟨rfl, by
  have e : decide (V.int i = V.int j) = decide (i = j) := by simp
  rw [e]; exact h⟩
theorem eq_bl {i j : Bool} (h : Q (.bl (i == j)) H) : rEqU K (.bl i) (.bl j) H Q := .inl ⟨rfl, by
  have e : decide (V.bl i = V.bl j) = (i == j) := by cases i <;> cases j <;> rfl
  rw [e]; exact h⟩
theorem ne_str {i j : Str} (h : Q (.bl (!decide (i = j))) H) : rNeU K (.str i) (.str j) H Q := .inl ⟨rfl, by
  have e : decide (V.str i = V.str j) = decide (i = j) := by simp
  rw [e]; exact h⟩
theorem ne_int {i j : Int} (h : Q (.bl (!decide (i = j))) H) : rNeU K (.int i) (.int j) H Q := .inl ⟨rfl, by
  have e : decide (V.int i = V.int j) = decide (i = j) := by simp
  rw [e]; exact h⟩
theorem eq_R {d e : PyData} (r : R K H x d) (s : R K H y e) (c : d.canLay0 = true) (c' : e.canLay0 = true) (hm : min d.depth e.depth ≤ 190) (h : Q (.bl (PyData.eqv d e)) H) : rEqU K x y H Q := .inr ⟨d, e, r.dp c, s.dp c', c, c', hm, h⟩
theorem ne_R {d e : PyData} (r : R K H x d) (s : R K H y e) (c : d.canLay0 = true) (c' : e.canLay0 = true) (hm : min d.depth e.depth ≤ 190) (h : Q (.bl (!PyData.eqv d e)) H) : rNeU K x y H Q := .inr ⟨d, e, r.dp c, s.dp c', c, c', hm, h⟩
theorem is_none {d : PyData} (r : R K H x d) (h : Q (.bl (isNone d)) H) : rIsU x .non H Q := .inl ⟨rfl, by
  have e : decide (x = V.non) = isNone d := by cases r <;> simp [isNone]
  rw [e]; exact h⟩
theorem isnt_none {d : PyData} (r : R K H x d) (h : Q (.bl (!isNone d)) H) : rNisU x .non H Q := .inl ⟨rfl, by
  have e : decide (x = V.non) = isNone d := by cases r <;> simp [isNone]
  rw [e]; exact h⟩
theorem is_bl {a b : Bool} (h : Q (.bl (a == b)) H) : rIsU (.bl a) (.bl b) H Q := .inr ⟨a, b, rfl, rfl, by
  have e : decide (a = b) = (a == b) := by cases a <;> cases b <;> rfl
  rw [e]; exact h⟩
theorem isnt_bl {a b : Bool} (h : Q (.bl (!(a == b))) H) : rNisU (.bl a) (.bl b) H Q := .inr ⟨a, b, rfl, rfl, by
  have e : decide (a = b) = (a == b) := by cases a <;> cases b <;> rfl
  rw [e]; exact h⟩
theorem in_sign {c : Nat} {z : Str} (h : Q (.bl (decide (c ∈ z.cps.toList))) H) : rInU K (.str ⟨#[c]⟩) (.str z) H Q := .inl ⟨c, z, rfl, rfl, h⟩
theorem nin_sign {c : Nat} {z : Str} (h : Q (.bl (!decide (c ∈ z.cps.toList))) H) : rNinU K (.str ⟨#[c]⟩) (.str z) H Q := .inl ⟨c, z, rfl, rfl, h⟩
theorem flat_S : ∀ {xs : List V} {ds : List PyData}, RA K H xs ds → allS ds = true → xs.all flatV = true ∧ ∀ w, inV (.str w) xs = inS w ds
  | _, [], .nil, _ => ⟨rfl, fun _ => rfl⟩
  | _, .str z :: ds, .cons h r, c => by
    have e := h.inv_str
    subst e
    obtain ⟨q1, q2⟩ := flat_S r c
    refine ⟨by simpa [flatV] using q1, fun w => ?_⟩
    show (eqV (.str z) (.str w) || inV (.str w) _) = (decide (z = w) || inS w ds)
    rw [q2]
    congr 1
  | _, .none :: _, _, c => by simp [allS] at c
  | _, .bool _ :: _, _, c => by simp [allS] at c
  | _, .int _ :: _, _, c => by simp [allS] at c
  | _, .list _ :: _, _, c => by simp [allS] at c
  | _, .tuple _ :: _, _, c => by simp [allS] at c
  | _, .dict _ :: _, _, c => by simp [allS] at c
theorem flat_I : ∀ {xs : List V} {ds : List PyData}, RA K H xs ds → allI ds = true → xs.all flatV = true ∧ ∀ w, inV (.int w) xs = inI w ds
  | _, [], .nil, _ => ⟨rfl, fun _ => rfl⟩
  | _, .int z :: ds, .cons h r, c => by
    have e := h.inv_int
    subst e
    obtain ⟨q1, q2⟩ := flat_I r c
    refine ⟨by simpa [flatV] using q1, fun w => ?_⟩
    show (eqV (.int z) (.int w) || inV (.int w) _) = (decide (z = w) || inI w ds)
    rw [q2]
    congr 1
  | _, .none :: _, _, c => by simp [allI] at c
  | _, .bool _ :: _, _, c => by simp [allI] at c
  | _, .str _ :: _, _, c => by simp [allI] at c
  | _, .list _ :: _, _, c => by simp [allI] at c
  | _, .tuple _ :: _, _, c => by simp [allI] at c
  | _, .dict _ :: _, _, c => by simp [allI] at c
theorem in_strsT {w : Str} {ds : List PyData} (r : R K H y (.tuple ds)) (c : allS ds = true) (h : Q (.bl (inS w ds)) H) : rInU K (.str w) y H Q := by
  obtain ⟨a, xs, rfl, ha, ra⟩ := r.inv_tup
  obtain ⟨q1, q2⟩ := flat_S ra c
  exact .inr ⟨a, xs, rfl, .inr ha, rfl, q1, by rw [if_neg Bool.false_ne_true, q2]; exact h⟩
theorem nin_strsT {w : Str} {ds : List PyData} (r : R K H y (.tuple ds)) (c : allS ds = true) (h : Q (.bl (!inS w ds)) H) : rNinU K (.str w) y H Q := by
  obtain ⟨a, xs, rfl, ha, ra⟩ := r.inv_tup
  obtain ⟨q1, q2⟩ := flat_S ra c
  exact .inr ⟨a, xs, rfl, .inr ha, rfl, q1, by rw [if_pos rfl, q2]; exact h⟩
theorem in_strsL {w : Str} {ds : List PyData} (r : R K H y (.list ds)) (c : allS ds = true) (h : Q (.bl (inS w ds)) H) : rInU K (.str w) y H Q := by
  obtain ⟨a, xs, rfl, ha, ra⟩ := r.inv_lst
  obtain ⟨q1, q2⟩ := flat_S ra c
  exact .inr ⟨a, xs, rfl, .inl (.inl (.inl ha)), rfl, q1, by rw [if_neg Bool.false_ne_true, q2]; exact h⟩
theorem nin_strsL {w : Str} {ds : List PyData} (r : R K H y (.list ds)) (c : allS ds = true) (h : Q (.bl (!inS w ds)) H) : rNinU K (.str w) y H Q := by
  obtain ⟨a, xs, rfl, ha, ra⟩ := r.inv_lst
  obtain ⟨q1, q2⟩ := flat_S ra c
  exact .inr ⟨a, xs, rfl, .inl (.inl (.inl ha)), rfl, q1, by rw [if_pos rfl, q2]; exact h⟩
theorem in_intsT {w : Int} {ds : List PyData} (r : R K H y (.tuple ds)) (c : allI ds = true) (h : Q (.bl (inI w ds)) H) : rInU K (.int w) y H Q := by
  obtain ⟨a, xs, rfl, ha, ra⟩ := r.inv_tup
  obtain ⟨q1, q2⟩ := flat_I ra c
  exact .inr ⟨a, xs, rfl, .inr ha, rfl, q1, by rw [if_neg Bool.false_ne_true, q2]; exact h⟩
theorem nin_intsT {w : Int} {ds : List PyData} (r : R K H y (.tuple ds)) (c : allI ds = true) (h : Q (.bl (!inI w ds)) H) : rNinU K (.int w) y H Q := by
  obtain ⟨a, xs, rfl, ha, ra⟩ := r.inv_tup
  obtain ⟨q1, q2⟩ := flat_I ra c
  exact .inr ⟨a, xs, rfl, .inr ha, rfl, q1, by rw [if_pos rfl, q2]; exact h⟩
theorem atI_pos {α : Type} {xs : List α} {i : Int} {v : α} (h0 : 0 ≤ i) (h : xs[i.toNat]? = some v) : atI xs i = some v := by
  have e := atI_nat h
  rwa [show ((i.toNat : Nat) : Int) = i by omega] at e
theorem ix_tupR {ds : List PyData} {i : Int} {d : PyData} (r : R K H x (.tuple ds)) (h0 : 0 ≤ i) (hd : ds[i.toNat]? = some d) (h : ∀ v, R K H v d → Q v H) : rIx K x (.int i) H Q := by
  obtain ⟨a, xs, rfl, ha, ra⟩ := r.inv_tup
  obtain ⟨v, e, rv⟩ := ra.get hd
  exact .inr (.inl ⟨a, xs, i, v, rfl, rfl, ha, atI_pos h0 e, h v rv⟩)
theorem ix_lstR {ds : List PyData} {i : Int} {d : PyData} (r : R K H x (.list ds)) (h0 : 0 ≤ i) (hd : ds[i.toNat]? = some d) (h : ∀ v, R K H v d → Q v H) : rIx K x (.int i) H Q := by
  obtain ⟨a, xs, rfl, ha, ra⟩ := r.inv_lst
  obtain ⟨v, e, rv⟩ := ra.get hd
  exact .inl ⟨a, xs, i, v, rfl, rfl, .inl (.inl ha), atI_pos h0 e, h v rv⟩
/-- any of them -/
theorem ix_tupM {ds : List PyData} {i : Int} (r : R K H x (.tuple ds)) (h0 : 0 ≤ i) (h1 : i < (ds.length : Int)) (h : ∀ v d, d ∈ ds → R K H v d → Q v H) : rIx K x (.int i) H Q :=
  ix_tupR r h0 (List.getElem?_eq_getElem (by omega)) fun v rv => h v _ (List.getElem_mem (by omega)) rv
theorem ix_lstM {ds : List PyData} {i : Int} (r : R K H x (.list ds)) (h0 : 0 ≤ i) (h1 : i < (ds.length : Int)) (h : ∀ v d, d ∈ ds → R K H v d → Q v H) : rIx K x (.int i) H Q :=
  ix_lstR r h0 (List.getElem?_eq_getElem (by omega)) fun v rv => h v _ (List.getElem_mem (by omega)) rv
theorem ix_strR {z : Str} {i : Int} {c : Nat} (hl : z.length ≤ 1000000) (h0 : 0 ≤ i) (hc : z.cps.toList[i.toNat]? = some c) (h : Q (.str ⟨#[c]⟩) H) : rIx K (.str z) (.int i) H Q :=
  .inr (.inr ⟨z, i, c, rfl, rfl, big_le hl, atI_pos h0 hc, h⟩)
theorem ix_strM {z : Str} {i : Int} (hl : z.length ≤ 1000000) (h0 : 0 ≤ i) (h1 : i < (z.length : Int)) (h : ∀ c, c ∈ z.cps.toList → Q (.str ⟨#[c]⟩) H) : rIx K (.str z) (.int i) H Q := by
  have e : z.length = z.cps.toList.length := by simp [Str.length]
  have hi : i.toNat < z.cps.toList.length := by omega
  exact ix_strR hl h0 (List.getElem?_eq_getElem hi) (h _ (List.getElem_mem hi))
theorem cut_RA {xs : List V} {ds : List PyData} (r : RA K H xs ds) (lo hi : Option Int) : RA K H (cutV xs lo hi) (cutD ds lo hi) := by
  unfold cutV cutD
  rw [r.length]
  exact (r.drop _).take _
theorem sl_strR {z : Str} {lo hi : Option Int} (hl : z.length ≤ 1000000) (h : Q (.str (cutS z lo hi)) H) : rSlU K (.str z) lo hi H Q := .inl ⟨z, rfl, big_le hl, h⟩
theorem sl_lstR {ds : List PyData} {lo hi : Option Int} (r : R K H x (.list ds)) (h : ∀ v H', Same H H' → R K H' v (.list (cutD ds lo hi)) → Q v H') : rSlU K x lo hi H Q := by
  obtain ⟨a, xs, rfl, ha, ra⟩ := r.inv_lst
  exact .inr (.inl ⟨a, xs, rfl, .inl (.inl ha), fun p hp => h _ _ (same_new hp _) (.lst upd_same ((cut_RA ra lo hi).mono (same_new hp _)))⟩)
theorem cutV_whole {xs : List V} {lo hi : Option Int} (h : HT.sIx xs.length 0 lo = 0 ∧ HT.sIx xs.length xs.length hi = xs.length) : cutV xs lo hi = xs := by
  unfold cutV
  rw [h.1, h.2]
  simp
theorem sl_tupR {ds : List PyData} {lo hi : Option Int} (r : R K H x (.tuple ds)) (h : ∀ v H', Same H H' → R K H' v (.tuple (cutD ds lo hi)) → Q v H') : rSlU K x lo hi H Q := by
  obtain ⟨a, xs, rfl, ha, ra⟩ := r.inv_tup
  refine .inr (.inr ⟨a, xs, rfl, ha, fun e => ?_, fun e p hp => ?_⟩)
  · have q := cut_RA ra lo hi
    rw [cutV_whole e] at q
    exact h _ _ (Same.refl _) (.tup ha q)
  · exact h _ _ (same_new hp _) (.tup (.inl (.inl upd_same)) ((cut_RA ra lo hi).mono (same_new hp _)))
end
end G

namespace G
open PySem PySem.Spec PyProof.Rows L2

/-! ### a list that is put aside while an expression runs -/
def hide (H : Hp) (d : Addr) : Hp := fun b => if b = d then none else H b
theorem hide_same {H : Hp} {d : Addr} : hide H d d = none := by unfold hide; rw [if_pos rfl]
theorem hide_ne {H : Hp} {b d : Addr} (h : b ≠ d) : hide H d b = H b := by unfold hide; rw [if_neg h]
theorem hide_upd {H : Hp} {d : Addr} {o : HO} (h : H d = none) : hide (upd H d o) d = H := by
  funext b
  by_cases e : b = d
  · rw [e, hide_same, h]
  · rw [hide_ne e, upd_ne e]
section
variable {X : Cx} {pins : List (Addr × Obj)} {σ : L2.St} {H : Hp} {s : Shared} {d : Addr} {xs : List V}
theorem inv_hide (I : Inv X pins σ H s) (h : H d = some (.lst xs)) : ∃ ob, s.heap.get? d = some ob ∧ Inv X ((d, ob) :: pins) σ (hide H d) s := by
  obtain ⟨hz, its, n, r, e⟩ := I.hok d _ h
  have nof : d ∉ X.fs := fun hb => by
    have h0 := I.ok.frf d hb
    obtain ⟨_, o, ho, _⟩ := I.ok.funs.mem hb
    have q := I.base.free d o ho h0 (fun hx => I.ok.exfs d hx hb)
    rw [h] at q; cases q
  have neN : ∀ b, H b = none → b ≠ d := fun b e z => by rw [z, h] at e; cases e
  refine ⟨_, e, ⟨I.ok, I.os, I.bare, ⟨I.base.keep, I.base.slot, fun b o e n hx => ?_, I.base.there, fun b ys e => ?_, fun b o x e => ?_, fun b ps e => ?_⟩, I.loc, I.cell, ?_, fun x c e => ?_, fun p hp => ?_, fun b o q => ?_, I.len⟩⟩
  · rw [hide_ne (neN b (I.base.free b o e n hx))]; exact I.base.free b o e n hx
  · have q := I.base.tups b ys e
    rw [hide_ne (fun z => by rw [z, h] at q; cases q)]; exact q
  · have q := I.base.frzs b o x e
    rw [hide_ne (fun z => by rw [z, h] at q; cases q)]; exact q
  · obtain ⟨m, q⟩ := I.base.tbls b ps e
    exact ⟨m, by rw [hide_ne (fun z => by rw [z, h] at q; cases q)]; exact q⟩
  · rw [hide_ne (neN _ I.free)]; exact I.free
  · rw [hide_ne (neN c (I.freeC x c e))]; exact I.freeC x c e
  · have hp' : p = (d, { cls := Value.type "list", data := Data.seq its.toArray n }) ∨ p ∈ X.pn ++ pins := by
      simp only [List.mem_append, List.mem_cons] at hp ⊢
      rcases hp with hp | hp | hp
      · exact .inr (.inl hp)
      · exact .inl hp
      · exact .inr (.inr hp)
    rcases hp' with hp' | hp'
    · rw [hp']
      exact ⟨e, hide_same, fun z => neN _ I.free z.symm, nof, fun v z => by cases z⟩
    · obtain ⟨e, n, q⟩ := I.pin p hp'
      exact ⟨e, by rw [hide_ne (neN _ n)]; exact n, q⟩
  · by_cases hb : b = d
    · rw [hb, hide_same] at q; cases q
    · rw [hide_ne hb] at q
      refine (I.hok b o q).stay (fun c v _ q => q) (fun c q => ?_) fun c ys q => ?_
      · rw [hide_ne (fun z => by rw [z, h] at q; cases q)]; exact q
      · rw [hide_ne (fun z => by rw [z, h] at q; cases q)]; exact q
theorem inv_show {σ' : L2.St} {H' : Hp} {s' : Shared} {ob : Obj} (I : Inv X pins σ H s) (h : H d = some (.lst xs)) (e : s.heap.get? d = some ob) (J : Inv X ((d, ob) :: pins) σ' H' s') : H' d = none ∧ Inv X pins σ' (upd H' d (.lst xs)) s' := by
  obtain ⟨e', n', nl, nf, nc⟩ := J.pin (d, ob) (by simp)
  refine ⟨n', ?_⟩
  have neN : ∀ b, H b = none → b ≠ d := fun b e z => by rw [z, h] at e; cases e
  have neS : ∀ b o, H' b = some o → b ≠ d := fun b o e z => by rw [z] at e; rw [show H' d = none from n'] at e; cases e
  refine ⟨J.ok, J.os, J.bare, ⟨J.base.keep, J.base.slot, fun b o e n hx => ?_, J.base.there, fun b ys e => ?_, fun b o x e => ?_, fun b ps e => ?_⟩, J.loc, J.cell, ?_, fun x c e => ?_, fun p hp => ?_, fun b o q => ?_, J.len⟩
  · rw [upd_ne (neN b (I.base.free b o e n hx))]; exact J.base.free b o e n hx
  · have q := J.base.tups b ys e
    rw [upd_ne (neS _ _ q)]; exact q
  · have q := J.base.frzs b o x e
    rw [upd_ne (neS _ _ q)]; exact q
  · obtain ⟨m, q⟩ := J.base.tbls b ps e
    exact ⟨m, by rw [upd_ne (neS _ _ q)]; exact q⟩
  · rw [upd_ne (fun z => nl z.symm)]; exact J.free
  · rw [upd_ne (neN c (I.freeC x c (by exact e)))]; exact J.freeC x c e
  · obtain ⟨e, n, q⟩ := J.pin p (by simp only [List.mem_append, List.mem_cons] at hp ⊢; rcases hp with hp | hp; exact .inl hp; exact .inr (.inr hp))
    have n0 := (I.pin p hp).2.1
    exact ⟨e, by rw [upd_ne (neN _ n0)]; exact n, q⟩
  · by_cases hb : b = d
    · rw [hb, upd_same] at q
      cases q
      rw [hb]
      obtain ⟨hz, its, n, r, e2⟩ := I.hok d _ h
      have z : ob = _ := Option.some.inj (e.symm.trans e2)
      exact ⟨hz, its, n, r, by rw [← z]; exact e'⟩
    · rw [upd_ne hb] at q
      refine (J.hok b o q).stay (fun c v _ q => q) (fun c q => ?_) fun c ys q => ?_
      · rw [upd_ne (neS _ _ q)]; exact q
      · rw [upd_ne (neS _ _ q)]; exact q
def tHide (t : TE) : TE := fun σ H Q => ∃ D xs, H D = some (.lst xs) ∧ t σ (hide H D) fun v H' => H' D = none → Q v (upd H' D (.lst xs))
theorem pe_hide {e : Expr} {t : TE} (h : PE X e t) : PE X e (tHide t) := by
  refine ⟨fun pins s σ H Q I hw => ?_⟩
  obtain ⟨d, xs, hd, hw⟩ := hw
  obtain ⟨ob, e1, I1⟩ := inv_hide I hd
  refine thn (h.run _ s σ _ _ I1 hw) fun v s1 ⟨x, H1, I2, r, q⟩ => ?_
  obtain ⟨n, I3⟩ := inv_show I hd e1 I2
  exact ⟨x, _, I3, r, q n⟩
end

/-! ### list comprehensions over anything that walks; the list that grows is put aside at each turn -/
section
variable {K : PySem.W.Frag} {J : It} {n : Nat} {G : Hp → Prop} {Y : Nat → Hp → V → Hp → Prop} {te : TE} {vs : List Nat} {σ : L2.St} {H : Hp} {Q : VK} {j : Nat}
theorem lc_gen (w : L2.Walk J n G Y) (It : Nat → V → Prop) (hY : ∀ i H x H', Y i H x H' → H' = H ∧ It i x) (hG : ∀ H', Same H H' → G H') (hn : n ≤ 1000000) (hw : ∀ x, wipe ((wipe σ vs).set j (some x)) vs = wipe σ vs)
    (P : Nat → PyData → Prop)
    (he : ∀ i x H1, i < n → It i x → Same H H1 → ∀ Qt : VK, (∀ y H2 e, Same H1 H2 → R K H2 y e → P i e → Qt y H2) → te ((wipe σ vs).set j (some x)) H1 Qt)
    (hq : ∀ v H1 es, Same H H1 → R K H1 v (.list es) → es.length = n → (∀ i e, es[i]? = some e → P i e) → Q v H1) :
    ∀ D, H D = none → ∃ W : Nat → Nat → Hp → Prop, (∃ m, W 0 m (upd H D (.lst []))) ∧ ∀ i m H, W i m H →
      (J.stop i H ∧ Q (.ref D) H) ∨ (J.go i H ∧ ∃ Nx : Hp → Prop, (∀ H', Nx H' → ∃ m', m' < m ∧ W (i + 1) m' H') ∧ ∀ x H', J.yld i H x H' → gName j x (wipe σ vs) H' fun σ2 H2 => wipe σ2 vs = wipe σ vs ∧ tYes σ2 H2 fun b H3 =>
        if b = true then (tHide te) σ2 H3 fun y H4 => ∃ acc, H4 D = some (.lst acc) ∧ acc.length < sizeLine ∧ Nx (upd H4 D (.lst (acc ++ [y]))) else Nx H3) := by
  intro D hD
  let Pv : Nat → Hp → Prop := fun i H' => ∃ Hb xs es, H' = upd Hb D (.lst xs) ∧ Hb D = none ∧ Same H Hb ∧ RA K Hb xs es ∧ es.length = i ∧ ∀ i e, es[i]? = some e → P i e
  refine L2.lc_it w Pv ?_ ?_ ?_ ?_
  · exact ⟨H, [], [], rfl, hD, Same.refl _, .nil, rfl, fun i e h => by simp at h⟩
  · rintro i H' hi ⟨Hb, xs, es, rfl, hb, sm, _⟩
    exact hG _ (sm.trans (same_new hb _))
  · rintro i x H' H'' hi ⟨Hb, xs, es, rfl, hb, sm, ra, hl, hP⟩ y
    obtain ⟨rfl, hit⟩ := hY _ _ _ _ y
    refine ⟨hw x, ?_⟩
    unfold tYes
    dsimp only
    rw [if_pos rfl]
    refine ⟨D, xs, upd_same, ?_⟩
    rw [hide_upd hb]
    have hxl : xs.length = i := by rw [ra.length, hl]
    refine he i x Hb hi hit sm _ fun y H2 e s2 re pe n2 => ⟨xs, upd_same, ?_, ?_⟩
    · exact Nat.lt_of_le_of_lt (by omega : xs.length ≤ 1000000) (by decide)
    · rw [upd_upd]
      refine ⟨H2, xs ++ [y], es ++ [e], rfl, n2, sm.trans s2, (ra.mono s2).append (.cons re .nil), by simp [hl], fun i' e' h' => ?_⟩
      rw [List.getElem?_append] at h'
      split at h'
      · exact hP _ _ h'
      · have h1 : i' - es.length = 0 := by
          rcases Nat.eq_zero_or_pos (i' - es.length) with z | z
          · exact z
          · rw [List.getElem?_eq_none (by simp; omega)] at h'; cases h'
        rw [h1] at h'
        simp at h'
        have h2 : i' = i := by omega
        rw [h2, ← h']
        exact pe
  · rintro H' ⟨Hb, xs, es, rfl, hb, sm, ra, hl, hP⟩
    exact hq _ _ es (sm.trans (same_new hb _)) (.lst upd_same (ra.mono (same_new hb _))) hl hP
/-- the same over the four things that are walked; l is what the iter's expression gives -/
def LcG (J : It) (j : Nat) (te : TE) (vs : List Nat) (σ : L2.St) (H : Hp) (Q : VK) : Prop :=
    ∀ D, H D = none → ∃ W : Nat → Nat → Hp → Prop, (∃ m, W 0 m (upd H D (.lst []))) ∧ ∀ i m H, W i m H →
      (J.stop i H ∧ Q (.ref D) H) ∨ (J.go i H ∧ ∃ Nx : Hp → Prop, (∀ H', Nx H' → ∃ m', m' < m ∧ W (i + 1) m' H') ∧ ∀ x H', J.yld i H x H' → gName j x (wipe σ vs) H' fun σ2 H2 => wipe σ2 vs = wipe σ vs ∧ tYes σ2 H2 fun b H3 =>
        if b = true then (tHide te) σ2 H3 fun y H4 => ∃ acc, H4 D = some (.lst acc) ∧ acc.length < sizeLine ∧ Nx (upd H4 D (.lst (acc ++ [y]))) else Nx H3)
def LcL (K : PySem.W.Frag) (j : Nat) (te : TE) (vs : List Nat) (σ : L2.St) (x : V) (H : Hp) (Q : VK) : Prop := ∃ a, x = .ref a ∧ (∃ xs, SqL K H a xs) ∧ LcG (Itl K a) j te vs σ H Q
def LcT (K : PySem.W.Frag) (j : Nat) (te : TE) (vs : List Nat) (σ : L2.St) (x : V) (H : Hp) (Q : VK) : Prop := ∃ a, x = .ref a ∧ (∃ xs, SqT K H a xs) ∧ LcG (Itt K a) j te vs σ H Q
def LcS (j : Nat) (te : TE) (vs : List Nat) (σ : L2.St) (x : V) (H : Hp) (Q : VK) : Prop := ∃ z, x = .str z ∧ LcG (Its z) j te vs σ H Q
def LcR (j : Nat) (te : TE) (vs : List Nat) (σ : L2.St) (xs : List V) (H : Hp) (Q : VK) : Prop := ∃ i : Int, xs = [.int i] ∧ -(2 ^ 62) ≤ i ∧ i < 2 ^ 62 ∧ LcG (Itr 0 i.toNat) j te vs σ H Q
theorem st_lcL {tl : TE} (h : tl σ H fun x H1 => LcL K j te vs σ x H1 Q) : tLc (iList K tl) (gName j) tYes (tHide te) vs σ H Q := h
theorem st_lcT {tl : TE} (h : tl σ H fun x H1 => LcT K j te vs σ x H1 Q) : tLc (iTup K tl) (gName j) tYes (tHide te) vs σ H Q := h
theorem st_lcS {tl : TE} (h : tl σ H fun x H1 => LcS j te vs σ x H1 Q) : tLc (iStr tl) (gName j) tYes (tHide te) vs σ H Q := h
theorem st_lcR {ta : TA} (h : ta σ H fun x H1 => LcR j te vs σ x H1 Q) : tLc (iRng1 ta) (gName j) tYes (tHide te) vs σ H Q := h
theorem lc_R (P : Nat → PyData → Prop) {i : Int} (h0 : 0 ≤ i) (h1 : i ≤ 1000000) (hw : ∀ x, wipe ((wipe σ vs).set j (some x)) vs = wipe σ vs)
    (he : ∀ (k : Nat) H1, (k : Int) < i → Same H H1 → ∀ Qt : VK, (∀ y H2 e, Same H1 H2 → R K H2 y e → P k e → Qt y H2) → te ((wipe σ vs).set j (some (.int (k : Int)))) H1 Qt)
    (hq : ∀ v H1 es, Same H H1 → R K H1 v (.list es) → es.length = i.toNat → (∀ i e, es[i]? = some e → P i e) → Q v H1) : LcR j te vs σ [.int i] H Q := by
  refine ⟨i, rfl, by omega, by omega, ?_⟩
  refine lc_gen (K := K) (walk_range (lo := 0) (n := i.toNat)) (fun k x => x = .int (k : Int)) (fun k H x H' y => ⟨y.1, by rw [y.2]; show V.int (0 + (k : Int)) = _; rw [Int.zero_add]⟩) (fun _ _ => True.intro) (by show i.toNat ≤ 1000000; omega) hw P (fun k x H1 hk hx sm Qt hQ => ?_) hq
  subst hx
  exact he k H1 (by omega) sm Qt hQ
theorem lc_L (P : Nat → PyData → Prop) {x : V} {ds : List PyData} (r : R K H x (.list ds)) (hl : ds.length ≤ 1000000) (hw : ∀ x, wipe ((wipe σ vs).set j (some x)) vs = wipe σ vs)
    (he : ∀ k v d H1, ds[k]? = some d → R K H1 v d → Same H H1 → ∀ Qt : VK, (∀ y H2 e, Same H1 H2 → R K H2 y e → P k e → Qt y H2) → te ((wipe σ vs).set j (some v)) H1 Qt)
    (hq : ∀ v H1 es, Same H H1 → R K H1 v (.list es) → es.length = ds.length → (∀ i e, es[i]? = some e → P i e) → Q v H1) : LcL K j te vs σ x H Q := by
  obtain ⟨a, xs, rfl, ha, ra⟩ := r.inv_lst
  refine ⟨a, rfl, ⟨xs, .inl (.inl ha)⟩, ?_⟩
  rw [← ra.length] at hl hq
  refine lc_gen (K := K) (walk_list (K := K) (a := a) (xs := xs)) (fun k x => xs[k]? = some x) (fun k H x H' y => ⟨y.1, y.2⟩) (fun H' s => s.seq (.inl (.inl ha))) hl hw P (fun k x H1 hk hx sm Qt hQ => ?_) hq
  obtain ⟨d, e1, e2⟩ := ra.getV hx
  exact he k x d H1 e1 (e2.mono sm) sm Qt hQ
theorem lc_T (P : Nat → PyData → Prop) {x : V} {ds : List PyData} (r : R K H x (.tuple ds)) (hl : ds.length ≤ 1000000) (hw : ∀ x, wipe ((wipe σ vs).set j (some x)) vs = wipe σ vs)
    (he : ∀ k v d H1, ds[k]? = some d → R K H1 v d → Same H H1 → ∀ Qt : VK, (∀ y H2 e, Same H1 H2 → R K H2 y e → P k e → Qt y H2) → te ((wipe σ vs).set j (some v)) H1 Qt)
    (hq : ∀ v H1 es, Same H H1 → R K H1 v (.list es) → es.length = ds.length → (∀ i e, es[i]? = some e → P i e) → Q v H1) : LcT K j te vs σ x H Q := by
  obtain ⟨a, xs, rfl, ha, ra⟩ := r.inv_tup
  refine ⟨a, rfl, ⟨xs, ha⟩, ?_⟩
  rw [← ra.length] at hl hq
  refine lc_gen (K := K) (walk_tup (K := K) (a := a) (xs := xs)) (fun k x => xs[k]? = some x) (fun k H x H' y => ⟨y.1, y.2⟩) (fun H' s => s.tup ha) hl hw P (fun k x H1 hk hx sm Qt hQ => ?_) hq
  obtain ⟨d, e1, e2⟩ := ra.getV hx
  exact he k x d H1 e1 (e2.mono sm) sm Qt hQ
theorem lc_S (P : Nat → PyData → Prop) {z : Str} (hl : z.cps.toList.length ≤ 1000000) (hw : ∀ x, wipe ((wipe σ vs).set j (some x)) vs = wipe σ vs)
    (he : ∀ k c H1, z.cps.toList[k]? = some c → Same H H1 → ∀ Qt : VK, (∀ y H2 e, Same H1 H2 → R K H2 y e → P k e → Qt y H2) → te ((wipe σ vs).set j (some (.str ⟨#[c]⟩))) H1 Qt)
    (hq : ∀ v H1 es, Same H H1 → R K H1 v (.list es) → es.length = z.cps.toList.length → (∀ i e, es[i]? = some e → P i e) → Q v H1) : LcS j te vs σ (.str z) H Q := by
  refine ⟨z, rfl, ?_⟩
  have hs : z.cps.toList.length = z.cps.size := by simp
  rw [hs] at hl hq
  refine lc_gen (K := K) (walk_str (z := z)) (fun k x => ∃ c, z.cps[k]? = some c ∧ x = .str ⟨#[c]⟩) (fun k H x H' y => ⟨y.1, y.2⟩) (fun _ _ => True.intro) hl hw P (fun k x H1 hk hx sm Qt hQ => ?_) hq
  obtain ⟨c, e1, rfl⟩ := hx
  exact he k c H1 (by simpa using e1) sm Qt hQ
/-- exact: each the value of a function -/
theorem list_of_at {α β : Type} {f : α → β} {xs : List α} {es : List β} (hl : es.length = xs.length) (h : ∀ (i : Nat) (e : β), es[i]? = some e → ∃ x, xs[i]? = some x ∧ e = f x) : es = xs.map f := by
  apply List.ext_getElem?
  intro i
  rw [List.getElem?_map]
  cases e : es[i]? with
  | none =>
    have q : xs[i]? = none := List.getElem?_eq_none (by have := List.getElem?_eq_none_iff.mp e; omega)
    rw [q]; rfl
  | some v =>
    obtain ⟨x, h1, h2⟩ := h i v e
    rw [h1, h2]; rfl
end

/-! ### built-in calls by data -/
def lenD : PyData → Option Nat
  | .str z => some z.length
  | .tuple ds => some ds.length
  | .list ds => some ds.length
  | _ => none
def tyD : PyData → String
  | .none => "NoneType"
  | .bool _ => "bool"
  | .int _ => "int"
  | .str _ => "str"
  | .list _ => "list"
  | .tuple _ => "tuple"
  | .dict _ => "dict"
def isaD (T : String) (d : PyData) : Bool := decide (tyD d = T) || (decide (T = "int") && decide (tyD d = "bool"))
section
variable {K : PySem.W.Frag} {H : Hp} {Q : VK} {x y : V}
theorem R.ty {d : PyData} (r : R K H x d) : TyX K H x (.type (tyD d)) := by
  cases r with
  | non => exact .base .non
  | bl b => exact .base (.bl b)
  | int i => exact .base (.int i)
  | str z => exact .base (.str z)
  | lst h _ => exact .base (.lst h)
  | tup h _ =>
    rcases h with (h | ⟨o, h⟩) | ⟨o, its, n, h, c, _⟩
    · exact .base (.tup h)
    · exact .fTuple h
    · exact .kTuple h c
  | dct h => exact .base (.dK h)
theorem kit_tab : ∀ t ∈ ["NoneType", "bool", "int", "str", "list", "tuple", "dict"], ∀ T ∈ ["str", "int", "bool", "tuple", "list", "dict"], L2.kitB t T = some (decide (t = T) || (decide (T = "int") && decide (t = "bool"))) := by decide +kernel
theorem kit_all (d : PyData) (T : String) (h : T ∈ ["str", "int", "bool", "tuple", "list", "dict"]) : L2.kitB (tyD d) T = some (isaD T d) :=
  kit_tab (tyD d) (by cases d <;> simp [tyD]) T h
theorem isi_R {d : PyData} {T : String} (r : R K H x d) (hT : T ∈ ["str", "int", "bool", "tuple", "list", "dict"]) (h : Q (.bl (isaD T d)) H) : rIsi K [x, .ty T] H Q :=
  ⟨x, .ty T, .type (tyD d), .type T, isaD T d, rfl, .ty T, r.ty, kit_ty (kit_all d T hT), h⟩
def rLen (K : PySem.W.Frag) : List V → Hp → VK → Prop := fun xs H Q => ∃ x n, xs = [x] ∧ LenV K x H n ∧ Q (.int (n : Nat)) H
theorem len_str {z : Str} (hl : z.length ≤ 1000000) (h : Q (.int (z.length : Nat)) H) : rLen K [.str z] H Q := ⟨_, _, rfl, ⟨big_le hl, rfl⟩, h⟩
theorem len_tup {ds : List PyData} (r : R K H x (.tuple ds)) (h : Q (.int (ds.length : Nat)) H) : rLen K [x] H Q := by
  obtain ⟨a, xs, rfl, ha, ra⟩ := r.inv_tup
  exact ⟨_, _, rfl, .inr ⟨xs, ha, rfl⟩, by rw [ra.length]; exact h⟩
theorem len_lst {ds : List PyData} (r : R K H x (.list ds)) (h : Q (.int (ds.length : Nat)) H) : rLen K [x] H Q := by
  obtain ⟨a, xs, rfl, ha, ra⟩ := r.inv_lst
  exact ⟨_, _, rfl, .inl ⟨xs, .inl (.inl ha), rfl⟩, by rw [ra.length]; exact h⟩
theorem all_R {bs : List Bool} (r : R K H x (.list (bs.map PyData.bool))) (h : Q (.bl (bs.all id)) H) : rAll K [x] H Q := by
  obtain ⟨a, xs, rfl, ha, ra⟩ := r.inv_lst
  exact ⟨a, bs, rfl, .inl (.inl (by rw [ha, ra.bools])), h⟩
theorem any_R {bs : List Bool} (r : R K H x (.list (bs.map PyData.bool))) (h : Q (.bl (bs.any id)) H) : rAny K [x] H Q := by
  obtain ⟨a, xs, rfl, ha, ra⟩ := r.inv_lst
  exact ⟨a, bs, rfl, .inl (.inl (by rw [ha, ra.bools])), h⟩
theorem sum_R {ns : List Int} (r : R K H x (.list (ns.map PyData.int))) (h : Q (.int ns.sum) H) : rSum K [x] H Q := by
  obtain ⟨a, xs, rfl, ha, ra⟩ := r.inv_lst
  exact ⟨a, ns, rfl, .inl (.inl (by rw [ha, ra.ints])), h⟩
theorem tupOf_L {ds : List PyData} (r : R K H x (.list ds)) (h : ∀ v H', Same H H' → R K H' v (.tuple ds) → Q v H') : kTup K x H Q := by
  obtain ⟨a, xs, rfl, ha, ra⟩ := r.inv_lst
  exact .inl ⟨a, xs, rfl, .inl (.inl ha), fun q hq => h _ _ (same_new hq _) (.tup (.inl (.inl upd_same)) (ra.mono (same_new hq _)))⟩
theorem tupOf_T {ds : List PyData} (r : R K H x (.tuple ds)) (h : Q x H) : kTup K x H Q := by
  obtain ⟨a, xs, rfl, ha, ra⟩ := r.inv_tup
  exact .inr ⟨a, xs, rfl, ha, h⟩
theorem st_then {σ : L2.St} {ta : TE} {k : V → Hp → VK → Prop} (h : ta σ H fun x H1 => k x H1 Q) : tThen ta k σ H Q := h
def rListOf (K : PySem.W.Frag) : List V → Hp → VK → Prop := fun xs H Q => ∃ p ys, xs = [.ref p] ∧ (SqL K H p ys ∨ SqT K H p ys) ∧ ∀ l, H l = none → Q (.ref l) (upd H l (.lst ys))
theorem lstOf_T {ds : List PyData} (r : R K H x (.tuple ds)) (h : ∀ v H', Same H H' → R K H' v (.list ds) → Q v H') : rListOf K [x] H Q := by
  obtain ⟨a, xs, rfl, ha, ra⟩ := r.inv_tup
  exact ⟨a, xs, rfl, .inr ha, fun q hq => h _ _ (same_new hq _) (.lst upd_same (ra.mono (same_new hq _)))⟩
theorem lstOf_L {ds : List PyData} (r : R K H x (.list ds)) (h : ∀ v H', Same H H' → R K H' v (.list ds) → Q v H') : rListOf K [x] H Q := by
  obtain ⟨a, xs, rfl, ha, ra⟩ := r.inv_lst
  exact ⟨a, xs, rfl, .inl (.inl (.inl ha)), fun q hq => h _ _ (same_new hq _) (.lst upd_same (ra.mono (same_new hq _)))⟩
/-- methods of a text -/
theorem st_M0 {σ : L2.St} {r : V → List V → Hp → VK → Prop} {to : TE} (h : to σ H fun x H1 => (∃ a, x = .str a) ∧ r x [] H1 Q) : tM0 r to σ H Q := h
theorem st_M1 {σ : L2.St} {r : V → List V → Hp → VK → Prop} {to te : TE} (h : to σ H fun x H1 => (∃ a, x = .str a) ∧ te σ H1 fun y H2 => r x [y] H2 Q) : tM1 r to te σ H Q := h
def rJoin (K : PySem.W.Frag) : V → List V → Hp → VK → Prop := fun x xs H Q => ∃ a p, ∃ ys : List Str, x = .str a ∧ xs = [.ref p] ∧ (SqL K H p (ys.map V.str) ∨ SqT K H p (ys.map V.str)) ∧ (ys.map (·.length)).sum + ys.length * a.length ≤ 16777216 ∧ Q (.str (Txt.join a ys)) H
theorem join_R {a : Str} {ys : List Str} (r : R K H x (.list (ys.map PyData.str))) (hl : (ys.map (·.length)).sum + ys.length * a.length ≤ 16777216) (h : Q (.str (Txt.join a ys)) H) : rJoin K (.str a) [x] H Q := by
  obtain ⟨b, xs, rfl, ha, ra⟩ := r.inv_lst
  exact ⟨a, b, ys, rfl, rfl, .inl (.inl (.inl (by rw [ha, ra.strs]))), hl, h⟩
def rUpper : V → List V → Hp → VK → Prop := fun x xs H Q => ∃ a, x = .str a ∧ xs = [] ∧ a.length ≤ 5592405 ∧ Q (.str (Txt.upper a)) H
theorem upper_R {a : Str} (hl : a.length ≤ 1000000) (h : Q (.str (Txt.upper a)) H) : rUpper (.str a) [] H Q := ⟨a, rfl, rfl, Nat.le_trans hl (by decide), h⟩
end
end G

namespace G
open PySem PySem.Spec PyProof.Rows L2
section
variable {X : Cx}
theorem pe_gv {x : Str} {v : V} {pos : Pos} (hg : Gl X x) (h : ∃ u, X.mg x = some u ∧ RelV v u) (hdb : (x == ("__debug__" : Str)) = false := by decide) : PE X (.Name x pos) (tC v) := by
  obtain ⟨u, hm, r⟩ := h
  exact pe_glob hg hm r hdb
theorem call_lenR : CallR X (.builtin "len") (rLen X.K) := call_len
theorem call_listR : CallR X (.type "list") (rListOf X.K) := call_list_of
theorem pe_joinR {o e : Expr} {to te : TE} {apos pos : Pos} (ho : PE X o to) (he : PE X e te) (h1 : starEach [e] X.env = [(false, eval e X.env)] := by rfl)
    (h2 : attributeBase o (Str.ofString "join") X.env (eval o X.env) = eval o X.env := by rfl) (h3 : (apos.endLine == pos.line) = true := by rfl) : PE X (.Call (.Attribute o (Str.ofString "join") apos) [e] [] pos) (tM1 (rJoin X.K) to te) := pe_join ho he h1 h2 h3
theorem pe_upperR {o : Expr} {to : TE} {apos pos : Pos} (ho : PE X o to) (h2 : attributeBase o (Str.ofString "upper") X.env (eval o X.env) = eval o X.env := by rfl) (h3 : (apos.endLine == pos.line) = true := by rfl) :
    PE X (.Call (.Attribute o (Str.ofString "upper") apos) [] [] pos) (tM0 rUpper to) := pe_upper ho h2 h3
/-! the same, the written part named -/
variable {K : PySem.W.Frag}
theorem op_addK (K : PySem.W.Frag) (hK : X.K = K := by rfl) : OpR X (binaryOp .Add) (rAddU K) := hK ▸ op_addU
theorem op_eqK (K : PySem.W.Frag) {k : Nat} (hr : Room k X.A) (hK : X.K = K := by rfl) : OpR X (compareOp .Eq) (rEqU K) := hK ▸ op_eqU hr
theorem op_neK (K : PySem.W.Frag) {k : Nat} (hr : Room k X.A) (hK : X.K = K := by rfl) : OpR X (compareOp .NotEq) (rNeU K) := hK ▸ op_neU hr
theorem op_inK (K : PySem.W.Frag) (hK : X.K = K := by rfl) : OpR X (compareOp .In) (rInU K) := hK ▸ op_inU
theorem op_ninK (K : PySem.W.Frag) (hK : X.K = K := by rfl) : OpR X (compareOp .NotIn) (rNinU K) := hK ▸ op_ninU
theorem ix_K (K : PySem.W.Frag) (hK : X.K = K := by rfl) : IxR X (rIx K) := hK ▸ ix_seq
theorem sl_K (K : PySem.W.Frag) (hK : X.K = K := by rfl) : SlR X (rSlU K) := hK ▸ sl_U
theorem isi_K (K : PySem.W.Frag) (hK : X.K = K := by rfl) : CallR X (.builtin "isinstance") (rIsi K) := hK ▸ call_isi
theorem len_K (K : PySem.W.Frag) (hK : X.K = K := by rfl) : CallR X (.builtin "len") (rLen K) := hK ▸ call_lenR
theorem list_K (K : PySem.W.Frag) (hK : X.K = K := by rfl) : CallR X (.type "list") (rListOf K) := hK ▸ call_listR
theorem all_K (K : PySem.W.Frag) (hc : X.calm = true) (hK : X.K = K := by rfl) : CallR X (.builtin "all") (rAll K) := hK ▸ cr_all hc
theorem any_K (K : PySem.W.Frag) (hc : X.calm = true) (hK : X.K = K := by rfl) : CallR X (.builtin "any") (rAny K) := hK ▸ cr_any hc
theorem sum_K (K : PySem.W.Frag) (hc : X.calm = true) (hK : X.K = K := by rfl) : CallR X (.builtin "sum") (rSum K) := hK ▸ cr_sum hc
theorem pi_listK (K : PySem.W.Frag) {tg l : Expr} {tl : TE} (h : PE X l tl) (hK : X.K = K := by rfl) : PI X tg l (iList K tl) := hK ▸ pi_list h
theorem pi_tupK (K : PySem.W.Frag) {tg l : Expr} {tl : TE} (h : PE X l tl) (hK : X.K = K := by rfl) : PI X tg l (iTup K tl) := hK ▸ pi_tup h
theorem tupleOf_K (K : PySem.W.Frag) {a : Expr} {ta : TE} {p pos : Pos} (hg : Gl X "tuple") (hm : X.mg "tuple" = none) (ha : PE X a ta) (hK : X.K = K := by rfl) (na : starEach [a] X.env = (false, eval a X.env) :: starEach [] X.env := by rfl) :
    PE X (.Call (.Name "tuple" p) [a] [] pos) (tThen ta (kTup K)) := by
  subst hK
  exact pe_tupleOf hg hm ha na
theorem joinK (K : PySem.W.Frag) {o e : Expr} {to te : TE} {apos pos : Pos} (ho : PE X o to) (he : PE X e te) (hK : X.K = K := by rfl) (h1 : starEach [e] X.env = [(false, eval e X.env)] := by rfl)
    (h2 : attributeBase o (Str.ofString "join") X.env (eval o X.env) = eval o X.env := by rfl) (h3 : (apos.endLine == pos.line) = true := by rfl) : PE X (.Call (.Attribute o (Str.ofString "join") apos) [e] [] pos) (tM1 (rJoin K) to te) := by
  subst hK
  exact pe_joinR ho he h1 h2 h3
end
theorem bt_len : bootBuiltins "len" = some (.builtin "len") := PySem.boot_len
theorem bt_isinstance : bootBuiltins "isinstance" = some (.builtin "isinstance") := by decide +kernel
theorem bt_all : bootBuiltins "all" = some (.builtin "all") := by decide +kernel
theorem bt_any : bootBuiltins "any" = some (.builtin "any") := by decide +kernel
theorem bt_sum : bootBuiltins "sum" = some (.builtin "sum") := by decide +kernel
theorem bt_sorted : bootBuiltins "sorted" = some (.builtin "sorted") := by decide +kernel
theorem bt_max : bootBuiltins "max" = some (.builtin "max") := by decide +kernel
theorem bt_min : bootBuiltins "min" = some (.builtin "min") := by decide +kernel
theorem bt_str : bootBuiltins "str" = some (.type "str") := by decide +kernel
theorem bt_int : bootBuiltins "int" = some (.type "int") := by decide +kernel
theorem bt_bool : bootBuiltins "bool" = some (.type "bool") := by decide +kernel
theorem bt_tuple : bootBuiltins "tuple" = some (.type "tuple") := by decide +kernel
theorem bt_list : bootBuiltins "list" = some (.type "list") := by decide +kernel
theorem bt_dict : bootBuiltins "dict" = some (.type "dict") := by decide +kernel
theorem isi_1 {K : PySem.W.Frag} {H : Hp} {Q : VK} {x : V} {d : PyData} {T : String} (r : R K H x d) (e : isaD T d = true) (hT : T ∈ ["str", "int", "bool", "tuple", "list", "dict"]) (h : Q (.bl true) H) : rIsi K [x, .ty T] H Q := isi_R r hT (by rw [e]; exact h)
theorem isi_0 {K : PySem.W.Frag} {H : Hp} {Q : VK} {x : V} {d : PyData} {T : String} (r : R K H x d) (e : isaD T d = false) (hT : T ∈ ["str", "int", "bool", "tuple", "list", "dict"]) (h : Q (.bl false) H) : rIsi K [x, .ty T] H Q := isi_R r hT (by rw [e]; exact h)
theorem ite_nt {A B : Prop} (h : B) : if (!true) = true then A else B := h
theorem ite_nf {A B : Prop} (h : A) : if (!false) = true then A else B := h
theorem st_strAnd {z : Str} {A : Prop} (h : A) : (∃ a, V.str z = .str a) ∧ A := ⟨⟨z, rfl⟩, h⟩
theorem cmul_r {x j : Int} (h : -(2 ^ 64) < j ∧ j < 2 ^ 64) : CMul x j := .inr h
theorem cmul_l {x j : Int} (h : -(2 ^ 64) < x ∧ x < 2 ^ 64) : CMul x j := .inl h
theorem cdiv_r {x j : Int} (h : 0 < j ∧ j < 1073741824) : CDiv x j := h
theorem le_up {a b : Nat} (h : decide (a ≤ b) = true) : a ≤ b := of_decide_eq_true h
theorem sm_tr {H H1 H2 : Hp} (b : Same H1 H2) (a : Same H H1) : Same H H2 := a.trans b
theorem r_mono {K : PySem.W.Frag} {H H' : Hp} {v : V} {d : PyData} (r : R K H v d) (e : Same H H') : R K H' v d := r.mono e
theorem Cal.lift {P : Program} {w : World} {K : PySem.W.Frag} {mg : Str → Option Value} {base : Heap} {k k' : Nat} {x : Str} {sp : Sp} (c : Cal P w K mg base k x sp) (h : k ≤ k') : Cal P w K mg base k' x sp := by
  obtain ⟨f, fd, ps, F, hm, kp, b⟩ := c.ex
  exact ⟨f, fd, ps, ⟨F.1, fun A outer s H args us vs Q E a1 a2 a3 a4 q => F.2 A outer s H args us vs Q E (a1.mono h) a2 a3 a4 q⟩, hm, kp, b⟩
end G

namespace G
open PySem PySem.Spec PyProof.Rows L2
theorem upd_eta {H : Hp} {p : Addr} {o : HO} (h : H p = some o) : upd H p o = H := by
  funext b
  by_cases e : b = p
  · rw [e, upd_same, h]
  · rw [upd_ne e]
/-! cuts -/
theorem cutD_from (xs : List PyData) (k : Nat) : cutD xs (some (k : Int)) none = xs.drop k := by
  unfold cutD
  rw [HT.sIx_nat, HT.sIx_none]
  by_cases h : k ≤ xs.length
  · rw [Nat.min_eq_left h]
    exact List.take_of_length_le (by simp)
  · rw [Nat.min_eq_right (by omega), List.drop_length, List.take_nil, List.drop_eq_nil_of_le (by omega)]
theorem cutD_to (xs : List PyData) (k : Nat) : cutD xs none (some (k : Int)) = xs.take k := by
  unfold cutD
  rw [HT.sIx_nat, HT.sIx_none, List.drop_zero, Nat.sub_zero]
  by_cases h : k ≤ xs.length
  · rw [Nat.min_eq_left h]
  · rw [Nat.min_eq_right (by omega), List.take_length, List.take_of_length_le (by omega)]
theorem cutD_len (xs : List PyData) (lo hi : Option Int) : (cutD xs lo hi).length ≤ xs.length := by
  unfold cutD
  rw [List.length_take, List.length_drop]
  omega
theorem cutS_from (z : Str) (k : Nat) : cutS z (some (k : Int)) none = ⟨(z.cps.toList.drop k).toArray⟩ := by
  have e : z.length = z.cps.toList.length := by simp [Str.length]
  unfold cutS
  rw [HT.sIx_nat, HT.sIx_none, e]
  congr 2
  by_cases h : k ≤ z.cps.toList.length
  · rw [Nat.min_eq_left h]
    exact List.take_of_length_le (by simp)
  · rw [Nat.min_eq_right (by omega), List.drop_length, List.take_nil, List.drop_eq_nil_of_le (by omega)]
theorem cutS_to (z : Str) (k : Nat) : cutS z none (some (k : Int)) = ⟨(z.cps.toList.take k).toArray⟩ := by
  have e : z.length = z.cps.toList.length := by simp [Str.length]
  unfold cutS
  rw [HT.sIx_nat, HT.sIx_none, e, List.drop_zero, Nat.sub_zero]
  congr 2
  by_cases h : k ≤ z.cps.toList.length
  · rw [Nat.min_eq_left h]
  · rw [Nat.min_eq_right (by omega), List.take_length, List.take_of_length_le (by omega)]
theorem cutS_1 (z : Str) : (cutS z (some 1) none).cps.toList = z.cps.toList.drop 1 := by
  rw [show (1 : Int) = ((1 : Nat) : Int) from rfl, cutS_from]
theorem cutS_t1 (z : Str) : (cutS z none (some 1)).cps.toList = z.cps.toList.take 1 := by
  rw [show (1 : Int) = ((1 : Nat) : Int) from rfl, cutS_to]
theorem cutD_1 (xs : List PyData) : cutD xs (some 1) none = xs.drop 1 := cutD_from xs 1
theorem cutD_2 (xs : List PyData) : cutD xs (some 2) none = xs.drop 2 := cutD_from xs 2
theorem len_cps (z : Str) : z.length = z.cps.toList.length := by simp [Str.length]
section
variable {K : PySem.W.Frag} {σ : L2.St} {H : Hp} {Q : VK} {te ta : TE} {vs : List Nat} {j : Nat} {x : V}
/-! comprehensions: each the value of a function | each with a property -/
theorem lcS_f (f : Nat → PyData) {z : Str} (hl : z.cps.toList.length ≤ 1000000) (hw : ∀ x, wipe ((wipe σ vs).set j (some x)) vs = wipe σ vs)
    (he : ∀ c H1, c ∈ z.cps.toList → Same H H1 → ∀ Qt : VK, (∀ y H2, Same H1 H2 → R K H2 y (f c) → Qt y H2) → te ((wipe σ vs).set j (some (.str ⟨#[c]⟩))) H1 Qt)
    (hq : ∀ v H1, Same H H1 → R K H1 v (.list (z.cps.toList.map f)) → Q v H1) : LcS j te vs σ (.str z) H Q :=
  lc_S (K := K) (fun i e => ∃ c, z.cps.toList[i]? = some c ∧ e = f c) hl hw (fun k c H1 hc s1 Qt hQ => he c H1 (List.mem_of_getElem? hc) s1 Qt fun y H2 s2 r2 => hQ y H2 _ s2 r2 ⟨c, hc, rfl⟩)
    (fun v H1 es s1 r1 hl hP => hq v H1 s1 (by rw [← list_of_at hl hP]; exact r1))
theorem lcL_f (f : PyData → PyData) {ds : List PyData} (r : R K H x (.list ds)) (hl : ds.length ≤ 1000000) (hw : ∀ x, wipe ((wipe σ vs).set j (some x)) vs = wipe σ vs)
    (he : ∀ v d H1, d ∈ ds → R K H1 v d → Same H H1 → ∀ Qt : VK, (∀ y H2, Same H1 H2 → R K H2 y (f d) → Qt y H2) → te ((wipe σ vs).set j (some v)) H1 Qt)
    (hq : ∀ v H1, Same H H1 → R K H1 v (.list (ds.map f)) → Q v H1) : LcL K j te vs σ x H Q :=
  lc_L (fun i e => ∃ d, ds[i]? = some d ∧ e = f d) r hl hw (fun k v d H1 hd rv s1 Qt hQ => he v d H1 (List.mem_of_getElem? hd) rv s1 Qt fun y H2 s2 r2 => hQ y H2 _ s2 r2 ⟨d, hd, rfl⟩)
    (fun v H1 es s1 r1 hl hP => hq v H1 s1 (by rw [← list_of_at hl hP]; exact r1))
theorem lcT_f (f : PyData → PyData) {ds : List PyData} (r : R K H x (.tuple ds)) (hl : ds.length ≤ 1000000) (hw : ∀ x, wipe ((wipe σ vs).set j (some x)) vs = wipe σ vs)
    (he : ∀ v d H1, d ∈ ds → R K H1 v d → Same H H1 → ∀ Qt : VK, (∀ y H2, Same H1 H2 → R K H2 y (f d) → Qt y H2) → te ((wipe σ vs).set j (some v)) H1 Qt)
    (hq : ∀ v H1, Same H H1 → R K H1 v (.list (ds.map f)) → Q v H1) : LcT K j te vs σ x H Q :=
  lc_T (fun i e => ∃ d, ds[i]? = some d ∧ e = f d) r hl hw (fun k v d H1 hd rv s1 Qt hQ => he v d H1 (List.mem_of_getElem? hd) rv s1 Qt fun y H2 s2 r2 => hQ y H2 _ s2 r2 ⟨d, hd, rfl⟩)
    (fun v H1 es s1 r1 hl hP => hq v H1 s1 (by rw [← list_of_at hl hP]; exact r1))
theorem lcR_p (P : PyData → Prop) {i : Int} (h0 : 0 ≤ i) (h1 : i ≤ 1000000) (hw : ∀ x, wipe ((wipe σ vs).set j (some x)) vs = wipe σ vs)
    (he : ∀ (k : Nat) H1, (k : Int) < i → Same H H1 → ∀ Qt : VK, (∀ y H2 e, Same H1 H2 → R K H2 y e → P e → Qt y H2) → te ((wipe σ vs).set j (some (.int (k : Int)))) H1 Qt)
    (hq : ∀ v H1 es, Same H H1 → R K H1 v (.list es) → es.length = i.toNat → (∀ e ∈ es, P e) → Q v H1) : LcR j te vs σ [.int i] H Q :=
  lc_R (K := K) (fun _ e => P e) h0 h1 hw he fun v H1 es s1 r1 hl hP => hq v H1 es s1 r1 hl fun e he => by
    obtain ⟨i, hi⟩ := List.getElem?_of_mem he
    exact hP i e hi
/-! for over range -/
def ForR (j : Nat) (tb : TS) (nx : L2.St → Hp → Prop) (rt : VK) (σ : L2.St) (xs : List V) (H : Hp) : Prop := ∃ i : Int, xs = [.int i] ∧ -(2 ^ 62) ≤ i ∧ i < 2 ^ 62 ∧
  ∃ W : Nat → Nat → L2.St → Hp → Prop, (∃ m, W 0 m σ H) ∧ ∀ i' m σ H, W i' m σ H → ((Itr 0 i.toNat).stop i' H ∧ nx σ H) ∨ ((Itr 0 i.toNat).go i' H ∧ ∃ N : L2.St → Hp → Prop, (∀ σ' H', N σ' H' → ∃ m', m' < m ∧ W (i' + 1) m' σ' H') ∧ ∀ x H', (Itr 0 i.toNat).yld i' H x H' → gName j x σ H' fun σ2 H2 => tb ⟨N, rt, nx, N⟩ σ2 H2)
theorem st_forR {a : TA} {tb : TS} {nx bk ct : L2.St → Hp → Prop} {rt : VK} (h : a σ H fun xs H1 => ForR j tb nx rt σ xs H1) : tFor (iRng1 a) (gName j) tb ⟨nx, rt, bk, ct⟩ σ H := h
theorem for_R (Pv : Nat → L2.St → Hp → Prop) {i : Int} {tb : TS} {nx : L2.St → Hp → Prop} {rt : VK} (h0 : 0 ≤ i) (h1 : i ≤ 1000000) (start : Pv 0 σ H)
    (turn : ∀ (k : Nat) σ' H', (k : Int) < i → Pv k σ' H' → tb ⟨Pv (k + 1), rt, nx, Pv (k + 1)⟩ (σ'.set j (some (.int (k : Int)))) H') (fin : ∀ σ' H', Pv i.toNat σ' H' → nx σ' H') : ForR j tb nx rt σ [.int i] H := by
  refine ⟨i, rfl, by omega, by omega, for_range (lo := 0) (n := i.toNat) (g := gName j) (tb := tb) (D := ⟨nx, rt, nx, nx⟩) Pv start (fun k σ' H' hk p => ?_) fin⟩
  have q := turn k σ' H' (by omega) p
  show tb _ (σ'.set j (some (.int (0 + (k : Int))))) H'
  rw [Int.zero_add]
  exact q
/-! stores -/
theorem st_sub {to ti : TE} {t : TSet} {nx bk ct : L2.St → Hp → Prop} {rt : VK} (h : te σ H fun v H1 => to σ H1 fun o H2 => ti σ H2 fun i H3 => t o i v H3 fun H4 => nx σ H4) : tAsg te (gSub to ti t) ⟨nx, rt, bk, ct⟩ σ H := h
theorem set_at {p : Addr} {xs : List V} {k : Int} {i : Nat} {v : V} {QH : Hp → Prop} (hp : H p = some (.lst xs)) (hi : ixN xs.length k = some i) (h : QH (upd H p (.lst (xs.set i v)))) : rSetL (.ref p) (.int k) v H QH := ⟨p, xs, k, i, rfl, rfl, hp, hi, h⟩
theorem set_20 {p : Addr} {x y v : V} {QH : Hp → Prop} (hp : H p = some (.lst [x, y])) (h : QH (upd H p (.lst [v, y]))) : rSetL (.ref p) (.int 0) v H QH := set_at hp rfl h
theorem set_21 {p : Addr} {x y v : V} {QH : Hp → Prop} (hp : H p = some (.lst [x, y])) (h : QH (upd H p (.lst [x, v]))) : rSetL (.ref p) (.int 1) v H QH := set_at hp rfl h
/-! the script -/
theorem RA_ints {K : PySem.W.Frag} {H : Hp} : ∀ ns : List Int, RA K H (ns.map V.int) (ns.map PyData.int)
  | [] => .nil
  | n :: ns => .cons (.int n) (RA_ints ns)
theorem sl_scr {a : Addr} {ns : List Int} {lo hi : Option Int} (hs : SqL K H a (ns.map V.int)) (h : ∀ v H', Same H H' → R K H' v (.list (cutD (ns.map PyData.int) lo hi)) → Q v H') : rSlU K (.ref a) lo hi H Q := by
  refine .inr (.inl ⟨a, _, rfl, hs, fun p hp => h _ _ (same_new hp _) (.lst upd_same (RA.mono (same_new hp _) ?_))⟩)
  exact cut_RA (RA_ints ns) lo hi
theorem len_scr {a : Addr} {ns : List Int} (hs : SqL K H a (ns.map V.int)) (h : Q (.int (ns.length : Nat)) H) : rLen K [.ref a] H Q := ⟨_, _, rfl, .inl ⟨_, hs, rfl⟩, by rw [List.length_map]; exact h⟩
theorem seq_keep {a : Addr} {xs : List V} {H' : Hp} (h : SqL K H a xs) (s : Same H H') : SqL K H' a xs := s.seq h
def Lst2 (xs : List V) (H : Hp) (Q : VK) : Prop := xs.length ≤ sizeLine ∧ ∀ p, H p = none → Q (.ref p) (upd H p (.lst xs))
def tLst2 (t : TA) : TE := fun σ H Q => t σ H fun xs H1 => Lst2 xs H1 Q
theorem pe_lst2 {X : Cx} {es : List Expr} {t : TA} {pos : Pos} (h : PA X es t) : PE X (.List es pos) (tLst2 t) := pe_lst h
theorem st_lst2 {a : TA} (h : a σ H fun xs H1 => Lst2 xs H1 Q) : tLst2 a σ H Q := h
theorem st_shut {t : TS} {nx bk ct : L2.St → Hp → Prop} {rt : VK} (h : t ⟨nx, fun v H' => ∃ (p : Addr) (a b : Int), v = .ref p ∧ H' p = some (.lst [.int a, .int b]) ∧ rt v (upd H' p (Stt p)), bk, ct⟩ σ H) : tShut t ⟨nx, rt, bk, ct⟩ σ H := h
theorem cpow_c {i j : Int} (h : 0 ≤ j ∧ j ≤ 1000000 ∧ i.natAbs < 2 ^ 64) : CPow i j := h
theorem ix_scr {a : Addr} {ns : List Int} {i : Int} (hs : SqL K H a (ns.map V.int)) (h0 : 0 ≤ i) (h1 : i < (ns.length : Int)) (h : ∀ n : Int, Q (.int n) H) : rIx K (.ref a) (.int i) H Q := by
  have hi : i.toNat < ns.length := by omega
  exact .inl ⟨a, _, i, .int ns[i.toNat], rfl, rfl, hs, atI_pos h0 (by simp [hi]), h _⟩
/-! a dict of one pair, told as a dict -/
def tDispK (_K : PySem.W.Frag) (trs : List (TE × TE)) : TE := tDisp trs
theorem pe_dispK (K : PySem.W.Frag) {X : Cx} {pos : Pos} {keys : List (Option Expr)} {values : List Expr} {trs : List (TE × TE)} (h : PPs X pos keys values trs) (hall : keys.all (·.isSome) = true) (hl : keys.length = values.length) (h0 : keys ≠ []) (h15 : keys.length ≤ 15) : PE X (.Dict keys values pos) (tDispK K trs) := pe_disp h hall hl h0 h15
theorem st_disp1 {a : Str} {u : V} (h : ∀ v H', Same H H' → R K H' v (.dict []) → Q v H') : tDispK K [(tC (.str a), tC u)] σ H Q := by
  intro p hp
  refine ⟨upd_same, [(.inr a, u)], rfl, by simp, ?_⟩
  rw [upd_upd]
  exact h _ _ (same_new hp _) (.dct upd_same)
end
/-! texts -/
theorem cps_append (x y : Str) : (x ++ y).cps.toList = x.cps.toList ++ y.cps.toList := by
  show (x.cps ++ y.cps).toList = _
  simp
theorem str_ext {x y : Str} (h : x.cps.toList = y.cps.toList) : x = y := by
  cases x; cases y
  congr
  exact Array.toList_inj.mp h
theorem join_eq (sep : Str) (ys : List Str) : Txt.join sep ys = Str.join sep ys := StrLaws.glued_eq_join sep ys
theorem join_e : ∀ ys : List Str, (Txt.join "" ys).cps.toList = (ys.map fun y => y.cps.toList).flatten
  | [] => by rw [join_eq]; rfl
  | [x] => by
    rw [join_eq]
    show x.cps.toList = _
    simp
  | x :: y :: r => by
    have h := join_e (y :: r)
    rw [join_eq] at h ⊢
    show (x ++ "" ++ Str.join "" (y :: r)).cps.toList = _
    rw [cps_append, cps_append, h]
    have e : ("" : Str).cps.toList = [] := rfl
    rw [e]
    simp
/-- a list of texts, told one by one -/
theorem strs_of {P : Str → Prop} : ∀ {es : List PyData}, (∀ e ∈ es, ∃ z : Str, e = .str z ∧ P z) → ∃ ys : List Str, es = ys.map PyData.str ∧ ∀ y ∈ ys, P y
  | [], _ => ⟨[], rfl, by simp⟩
  | e :: es, h => by
    obtain ⟨z, rfl, hz⟩ := h e (by simp)
    obtain ⟨ys, rfl, hy⟩ := strs_of (es := es) (P := P) fun e he => h e (by simp [he])
    exact ⟨z :: ys, rfl, fun y hy' => by rcases List.mem_cons.mp hy' with rfl | q; exact hz; exact hy y q⟩
theorem one_len (c : Nat) : (⟨#[c]⟩ : Str).length = 1 := rfl
theorem sum_ones : ∀ ys : List Str, (∀ y ∈ ys, y.length = 1) → (ys.map (·.length)).sum = ys.length
  | [], _ => rfl
  | y :: ys, h => by
    simp only [List.map_cons, List.sum_cons, List.length_cons]
    rw [h y (by simp), sum_ones ys fun z hz => h z (by simp [hz])]
    omega
theorem join_len (ys : List Str) : (Txt.join "" ys).length = (ys.map (·.length)).sum := by
  rw [len_cps, join_e]
  induction ys with
  | nil => rfl
  | cons y ys ih => simp only [List.map_cons, List.flatten_cons, List.length_append, List.sum_cons, ih, len_cps]
theorem pos_of_ne {z : Str} (h : ¬ z = "") : 0 < z.length := by
  rcases Nat.eq_zero_or_pos z.length with e | e
  · rw [len_cps] at e
    exact absurd (str_ext (y := "") (by rw [List.length_eq_zero_iff.mp e]; rfl)) h
  · exact e
theorem keep_at {H H' : Hp} {a : Addr} {o : HO} (h : H a = some o) (s : Same H H') : H' a = some o := s _ _ h
/-! the state's defs: what they promise -/
def spDraw : Sp := fun vs H Q _ => ∃ (p : Addr) (n : Int), vs = [.ref p, .int n] ∧ H p = some (Stt p) ∧ 0 < n ∧ n < 1000000000 ∧ ∀ r : Int, 0 ≤ r → r < n → Q (.int r) H
def spState (K : PySem.W.Frag) : Sp := fun vs H Q _ => ∃ (a : Addr) (ns : List Int) (k : Int), vs = [.ref a, .int k] ∧ SqL K H a (ns.map V.int) ∧ 0 ≤ k ∧ k ≤ 1000 ∧ ∀ p H', Same H H' → H' p = some (Stt p) → Q (.ref p) H'
def spLaw (K : PySem.W.Frag) : Sp := fun vs H Q _ => ∃ (a : Addr) (ns : List Int), vs = [.ref a] ∧ SqL K H a (ns.map V.int) ∧ ns.length ≤ 63 ∧ ∀ H', Q (.bl true) H'
theorem upper_one {H : Hp} {Q : VK} {c : Nat} (h : (Txt.upper ⟨#[c]⟩).length ≤ 3 → Q (.str (Txt.upper ⟨#[c]⟩)) H) : rUpper (.str ⟨#[c]⟩) [] H Q :=
  upper_R (by show 1 ≤ 1000000; decide) (h (PyProof.Rows.len_upper ⟨#[c]⟩))
theorem imod2 {H : Hp} {Q : VK} {C : Int → Int → Prop} {i : Int} (hc : C i 2) (h0 : i % 2 = 0 → Q (.int 0) H) (h1 : i % 2 = 1 → Q (.int 1) H) : rI C (fun i j => .int (i % j)) (.int i) (.int 2) H Q := by
  refine ⟨i, 2, rfl, rfl, hc, ?_⟩
  show Q (.int (i % 2)) H
  rcases (by omega : i % 2 = 0 ∨ i % 2 = 1) with e | e
  · rw [e]; exact h0 e
  · rw [e]; exact h1 e
theorem imod3 {H : Hp} {Q : VK} {C : Int → Int → Prop} {i : Int} (hc : C i 3) (h0 : i % 3 = 0 → Q (.int 0) H) (h1 : i % 3 = 1 → Q (.int 1) H) (h2 : i % 3 = 2 → Q (.int 2) H) : rI C (fun i j => .int (i % j)) (.int i) (.int 3) H Q := by
  refine ⟨i, 3, rfl, rfl, hc, ?_⟩
  show Q (.int (i % 3)) H
  rcases (by omega : i % 3 = 0 ∨ i % 3 = 1 ∨ i % 3 = 2) with e | e | e
  · rw [e]; exact h0 e
  · rw [e]; exact h1 e
  · rw [e]; exact h2 e
theorem ix_lstS {K : PySem.W.Frag} {H : Hp} {Q : VK} {x : V} {zs : List Str} {i : Int} (r : R K H x (.list (zs.map PyData.str))) (h0 : 0 ≤ i) (h1 : i < (zs.length : Int)) (h : ∀ z, z ∈ zs → Q (.str z) H) : rIx K x (.int i) H Q := by
  refine ix_lstM r h0 (by rw [List.length_map]; exact h1) fun v d hd rv => ?_
  obtain ⟨z, hz, rfl⟩ := List.mem_map.mp hd
  rw [rv.inv_str]
  exact h z hz
theorem Df.none {P : Program} {w : World} {K : PySem.W.Frag} {mg : Str → Option Value} {base : Heap} {x : Str} {st : Stmt} {ps : List Str} {k : Nat} {sp : Sp} (D : Df K mg x st ps) (h : ∀ vs H Q E, ¬ sp vs H Q E) : Cal P w K mg base k x sp := by
  obtain ⟨f, fd, F, hm, b⟩ := D.ex
  exact ⟨f, fd, ps, ⟨fun vs H Q E q => absurd q (h vs H Q E), fun A outer s H args us vs Q E _ _ _ _ q => absurd q (h vs H Q E)⟩, hm, F.kp, b⟩
section
variable {K : PySem.W.Frag} {H : Hp} {Q : VK} {y : V}
theorem eq_str1 {i j : Str} (e : i = j) (h : Q (.bl true) H) : rEqU K (.str i) (.str j) H Q := eq_str (by rw [decide_eq_true e]; exact h)
theorem eq_str0 {i j : Str} (e : decide (i = j) = false) (h : Q (.bl false) H) : rEqU K (.str i) (.str j) H Q := eq_str (by rw [e]; exact h)
theorem in_strsT1 {w : Str} {ds : List PyData} (r : R K H y (.tuple ds)) (c : allS ds = true) (e : inS w ds = true) (h : Q (.bl true) H) : rInU K (.str w) y H Q := in_strsT r c (by rw [e]; exact h)
theorem in_strsT0 {w : Str} {ds : List PyData} (r : R K H y (.tuple ds)) (c : allS ds = true) (e : inS w ds = false) (h : Q (.bl false) H) : rInU K (.str w) y H Q := in_strsT r c (by rw [e]; exact h)
theorem eq_int1 {i j : Int} (e : decide (i = j) = true) (h : Q (.bl true) H) : rEqU K (.int i) (.int j) H Q := eq_int (by rw [e]; exact h)
theorem eq_int0 {i j : Int} (e : decide (i = j) = false) (h : Q (.bl false) H) : rEqU K (.int i) (.int j) H Q := eq_int (by rw [e]; exact h)
end
theorem use_state {K : PySem.W.Frag} {H : Hp} {Q : VK} {E : XK} {a : Addr} {ns : List Int} {k : Int} (hs : SqL K H a (ns.map V.int)) (h0 : 0 ≤ k) (h1 : k ≤ 1000) (h : ∀ p H', Same H H' → H' p = some (Stt p) → Q (.ref p) H') : spState K [.ref a, .int k] H Q E := ⟨a, ns, k, rfl, hs, h0, h1, h⟩
theorem use_draw {H : Hp} {Q : VK} {E : XK} {p : Addr} {n : Int} (hp : H p = some (Stt p)) (h0 : 0 < n) (h1 : n < 1000000000) (h : ∀ r : Int, 0 ≤ r → r < n → Q (.int r) H) : spDraw [.ref p, .int n] H Q E := ⟨p, n, rfl, hp, h0, h1, h⟩
end G

namespace G
open PySem PySem.Spec PyProof.Rows L2
/-! names -/
def abc : Str := "abcdefghijklmnopqrstuvwxyz"
def ABC : Str := "ABCDEFGHIJKLMNOPQRSTUVWXYZ"
def kept : List PyData := [.str "false", .str "all", .str "some", .str "and", .str "or"]
def low (c : Nat) : Bool := decide (c ∈ abc.cps.toList)
def great (c : Nat) : Bool := decide (c ∈ ABC.cps.toList)
def isNameS (z : Str) : Bool := decide (1 ≤ z.length) && decide (z.length ≤ 8) && !inS z kept && z.cps.toList.all low
def isName : PyData → Bool
  | .str z => isNameS z
  | _ => false
def isFormS (z : Str) : Bool := decide (1 ≤ z.length) && decide (z.length ≤ 8) && (match z.cps.toList with | [] => false | c :: cs => great c && cs.all low)
def isForm : PyData → Bool
  | .str z => isFormS z
  | _ => false
theorem all_low (xs : List Nat) : (xs.map low).all id = xs.all low := by simp [List.all_map]
theorem upper_abc : Txt.upper abc = ABC := by decide +kernel
theorem low_great {c : Nat} (h : low c = true) : great c = false := by
  have a : ∀ c ∈ abc.cps.toList, great c = false := by decide +kernel
  exact a c (of_decide_eq_true h)
theorem isNameS_len {z : Str} (h : isNameS z = true) : 1 ≤ z.length ∧ z.length ≤ 8 := by
  unfold isNameS at h
  simp only [Bool.and_eq_true, decide_eq_true_eq] at h
  exact h.1.1
theorem isFormS_len {z : Str} (h : isFormS z = true) : 1 ≤ z.length ∧ z.length ≤ 8 := by
  unfold isFormS at h
  simp only [Bool.and_eq_true, decide_eq_true_eq] at h
  exact h.1
def sign (c : Nat) : Str := ⟨#[c]⟩
theorem signs_of {P : Nat → Prop} : ∀ {es : List PyData}, (∀ e ∈ es, ∃ c : Nat, e = .str ⟨#[c]⟩ ∧ P c) → ∃ cs : List Nat, es = (cs.map sign).map PyData.str ∧ ∀ c ∈ cs, P c
  | [], _ => ⟨[], rfl, by simp⟩
  | e :: es, h => by
    obtain ⟨c, rfl, hc⟩ := h e (by simp)
    obtain ⟨cs, rfl, hs⟩ := signs_of (es := es) (P := P) fun e he => h e (by simp [he])
    exact ⟨c :: cs, rfl, fun y hy' => by rcases List.mem_cons.mp hy' with rfl | q; exact hc; exact hs y q⟩
theorem join_signs (cs : List Nat) : (Txt.join "" (cs.map sign)).cps.toList = cs := by
  rw [join_e]
  induction cs with
  | nil => rfl
  | cons c cs ih =>
    simp only [List.map_cons, List.flatten_cons] at ih ⊢
    rw [ih]
    rfl
theorem sum_signs (cs : List Nat) : ((cs.map sign).map (·.length)).sum = cs.length := by
  rw [sum_ones]
  · simp
  · intro y hy
    obtain ⟨c, _, rfl⟩ := List.mem_map.mp hy
    rfl
/-- a text of one to eight small letters that is not kept *)-/
theorem name_of {z : Str} (h1 : 1 ≤ z.length) (h2 : z.length ≤ 8) (h3 : inS z kept = false) (h4 : ∀ c ∈ z.cps.toList, low c = true) : isNameS z = true := by
  unfold isNameS
  rw [decide_eq_true h1, decide_eq_true h2, h3, List.all_eq_true.mpr h4]
  rfl
theorem one_name {z : Str} {c : Nat} (h : z.cps.toList = [c]) (hc : low c = true) : isNameS z = true := by
  have e : z = sign c := str_ext h
  have hz : z.length = 1 := by rw [len_cps, h]; rfl
  refine name_of (by omega) (by omega) ?_ (by rw [h]; simpa using hc)
  have a : ∀ w ∈ (["false", "all", "some", "and", "or"] : List Str), w.length ≠ 1 := by decide +kernel
  have n : ∀ w : Str, w.length ≠ 1 → decide (w = z) = false := fun w hw => decide_eq_false fun q => hw (by rw [q, hz])
  unfold kept inS
  simp only [inS, n _ (a "false" (by simp)), n _ (a "all" (by simp)), n _ (a "some" (by simp)), n _ (a "and" (by simp)), n _ (a "or" (by simp)), Bool.or_self]
theorem upper_low {c : Nat} (h : low c = true) : Txt.upper ⟨#[c]⟩ = ⟨#[c - 32]⟩ ∧ great (c - 32) = true := by
  have a : ∀ c ∈ abc.cps.toList, Txt.upper ⟨#[c]⟩ = ⟨#[c - 32]⟩ ∧ great (c - 32) = true := by decide +kernel
  exact a c (of_decide_eq_true h)
theorem isNameS_low {z : Str} (h : isNameS z = true) : ∀ c ∈ z.cps.toList, low c = true := by
  unfold isNameS at h
  simp only [Bool.and_eq_true] at h
  exact List.all_eq_true.mp h.2
theorem form_of {z : Str} (h : isNameS z = true) : isFormS (Txt.upper (cutS z none (some 1)) ++ cutS z (some 1) none) = true := by
  have hl := isNameS_len h
  have hc := len_cps z
  have lw := isNameS_low h
  rcases hcs : z.cps.toList with _ | ⟨c, cs⟩
  · rw [hcs, List.length_nil] at hc; omega
  · have e1 : cutS z none (some 1) = ⟨#[c]⟩ := str_ext (by rw [cutS_t1, hcs]; rfl)
    have e2 : (cutS z (some 1) none).cps.toList = cs := by rw [cutS_1, hcs]; rfl
    rw [hcs] at lw hc
    obtain ⟨u1, u2⟩ := upper_low (lw c (by simp))
    have e3 : (Txt.upper (cutS z none (some 1)) ++ cutS z (some 1) none).cps.toList = (c - 32) :: cs := by
      rw [cps_append, e1, u1, e2]; rfl
    have e4 : (Txt.upper (cutS z none (some 1)) ++ cutS z (some 1) none).length = cs.length + 1 := by rw [len_cps, e3]; rfl
    unfold isFormS
    rw [e3, e4]
    rw [List.length_cons] at hc
    rw [decide_eq_true (by omega), decide_eq_true (by omega)]
    simp only [u2, Bool.true_and]
    exact List.all_eq_true.mpr fun x hx => lw x (by simp [hx])
theorem nm_a {z : Str} (h : isNameS z = true) : z.length ≤ 1000000 := by have := isNameS_len h; omega
theorem fm_a {z : Str} (h : isFormS z = true) : z.length ≤ 1000000 := by have := isFormS_len h; omega
theorem nm_b {z : Str} {lo hi : Option Int} (h : isNameS z = true) : (cutS z lo hi).length ≤ 1000000 := by have := isNameS_len h; have := cutS_length z lo hi; omega
theorem nm_c {z : Str} {lo hi lo' hi' : Option Int} (h : isNameS z = true) : (Txt.upper (cutS z lo hi)).length + (cutS z lo' hi').length ≤ 1000000 := by
  have := isNameS_len h; have := cutS_length z lo hi; have := cutS_length z lo' hi'; have := PyProof.Rows.len_upper (cutS z lo hi); omega
/-! terms and statements, one kind of tree -/
inductive AW | form | call | atom deriving DecidableEq
inductive QW | all | some deriving DecidableEq
inductive BW | same | and | or | iff deriving DecidableEq
def AW.s : AW → Str
  | .form => "form"
  | .call => "call"
  | .atom => "atom"
def QW.s : QW → Str
  | .all => "all"
  | .some => "some"
def BW.s : BW → Str
  | .same => "same"
  | .and => "and"
  | .or => "or"
  | .iff => "if"
inductive Th where
  | free (x : Str)
  | bnd (k : Nat)
  | fls
  | app (w : AW) (c : Str) (args : List Th)
  | qua (w : QW) (k : Str) (a : Th)
  | two (w : BW) (a b : Th)
mutual
def Th.d : Th → PyData
  | .free x => .tuple [.str "free", .str x]
  | .bnd k => .tuple [.str "bound", .int k]
  | .fls => .tuple [.str "false"]
  | .app w c args => .tuple [.str w.s, .str c, .tuple (Th.ds args)]
  | .qua w k a => .tuple [.str w.s, .str k, a.d]
  | .two w a b => .tuple [.str w.s, a.d, b.d]
def Th.ds : List Th → List PyData
  | [] => []
  | t :: ts => t.d :: Th.ds ts
end
theorem Th.ds_map : ∀ ts : List Th, Th.ds ts = ts.map Th.d
  | [] => rfl
  | t :: ts => by rw [Th.ds, Th.ds_map ts]; rfl
mutual
def Th.dep : Th → Nat
  | .app _ _ args => Th.deps args + 1
  | .qua _ _ a => a.dep + 1
  | .two _ a b => max a.dep b.dep + 1
  | _ => 1
def Th.deps : List Th → Nat
  | [] => 0
  | t :: ts => max t.dep (Th.deps ts)
end
mutual
def Th.sz : Th → Nat
  | .app _ _ args => Th.szs args + 1
  | .qua _ _ a => a.sz + 1
  | .two _ a b => a.sz + b.sz + 1
  | _ => 1
def Th.szs : List Th → Nat
  | [] => 0
  | t :: ts => t.sz + Th.szs ts
end
mutual
/-- a term all of whose bounds are below n -/
def Th.isT (F : List Str) (n : Nat) : Th → Prop
  | .free x => isNameS x = true ∧ x ∈ F
  | .bnd k => k < n
  | .app .form c args => isFormS c = true ∧ args.length ≤ 4 ∧ Th.areT F n args
  | .app .call c args => isNameS c = true ∧ args.length ≤ 4 ∧ Th.areT F n args
  | _ => False
def Th.areT (F : List Str) (n : Nat) : List Th → Prop
  | [] => True
  | t :: ts => t.isT F n ∧ Th.areT F n ts
end
def Th.isS (F : List Str) (n : Nat) : Th → Prop
  | .fls => True
  | .two .same a b => a.isT F n ∧ b.isT F n
  | .app .atom c args => isNameS c = true ∧ args.length ≤ 4 ∧ Th.areT F n args
  | .two _ a b => a.isS F n ∧ b.isS F n
  | .qua _ k a => isNameS k = true ∧ a.isS F (n + 1)
  | _ => False
theorem Th.areT_all {F : List Str} {n : Nat} : ∀ {ts : List Th}, Th.areT F n ts ↔ ∀ t ∈ ts, t.isT F n
  | [] => by simp [Th.areT]
  | t :: ts => by simp [Th.areT, Th.areT_all (ts := ts)]
mutual
theorem Th.isT_mono {F : List Str} {n m : Nat} (h : n ≤ m) : ∀ {t : Th}, t.isT F n → t.isT F m
  | .free x, q => q
  | .bnd k, q => Nat.lt_of_lt_of_le q h
  | .app .form c args, q => ⟨q.1, q.2.1, Th.areT_mono h q.2.2⟩
  | .app .call c args, q => ⟨q.1, q.2.1, Th.areT_mono h q.2.2⟩
theorem Th.areT_mono {F : List Str} {n m : Nat} (h : n ≤ m) : ∀ {ts : List Th}, Th.areT F n ts → Th.areT F m ts
  | [], _ => True.intro
  | t :: ts, q => ⟨Th.isT_mono h q.1, Th.areT_mono h q.2⟩
end
theorem Th.deps_le {m : Nat} : ∀ {ts : List Th}, Th.deps ts ≤ m ↔ ∀ t ∈ ts, t.dep ≤ m
  | [] => by simp [Th.deps]
  | t :: ts => by simp [Th.deps, Th.deps_le (ts := ts), Nat.max_le]
theorem Th.szs_le {m : Nat} : ∀ {ts : List Th}, (∀ t ∈ ts, t.sz ≤ m) → Th.szs ts ≤ ts.length * m
  | [], _ => Nat.zero_le _
  | t :: ts, h => by
    have h1 := h t (by simp)
    have h2 := Th.szs_le (ts := ts) (m := m) fun x hx => h x (by simp [hx])
    simp only [Th.szs, List.length_cons, Nat.succ_mul]
    omega
/-- data each of which is a tree of a kind -/
theorem ths_of {P : Th → Prop} : ∀ {es : List PyData}, (∀ e ∈ es, ∃ t : Th, e = t.d ∧ P t) → ∃ ts : List Th, es = Th.ds ts ∧ ∀ t ∈ ts, P t
  | [], _ => ⟨[], rfl, by simp⟩
  | e :: es, h => by
    obtain ⟨t, rfl, ht⟩ := h e (by simp)
    obtain ⟨ts, rfl, hs⟩ := ths_of (es := es) (P := P) fun e he => h e (by simp [he])
    exact ⟨t :: ts, rfl, fun y hy' => by rcases List.mem_cons.mp hy' with rfl | q; exact ht; exact hs y q⟩
theorem low_small {c : Nat} (h : low c = true) : c < 0x110000 := by
  have a : ∀ c ∈ abc.cps.toList, c < 0x110000 := by decide +kernel
  exact a c (of_decide_eq_true h)
theorem great_small {c : Nat} (h : great c = true) : c < 0x110000 := by
  have a : ∀ c ∈ ABC.cps.toList, c < 0x110000 := by decide +kernel
  exact a c (of_decide_eq_true h)
theorem strOk_of {z : Str} (h : ∀ c ∈ z.cps.toList, c < 0x110000) : PyData.strOk z = true := by
  unfold PyData.strOk
  rw [Array.all_eq_true']
  intro c hc
  exact decide_eq_true (h c (by simpa using hc))
theorem name_ok {z : Str} (h : isNameS z = true) : PyData.strOk z = true := strOk_of fun c hc => low_small (isNameS_low h c hc)
theorem form_ok {z : Str} (h : isFormS z = true) : PyData.strOk z = true := by
  refine strOk_of fun c hc => ?_
  unfold isFormS at h
  simp only [Bool.and_eq_true] at h
  obtain ⟨_, h⟩ := h
  split at h
  · rename_i e; rw [e] at hc; simp at hc
  · rename_i c0 cs e
    simp only [Bool.and_eq_true] at h
    rw [e] at hc
    rcases List.mem_cons.mp hc with rfl | hc
    · exact great_small h.1
    · exact low_small (List.all_eq_true.mp h.2 c hc)
theorem AW.ok (w : AW) : PyData.strOk w.s = true := by cases w <;> decide +kernel
theorem QW.ok (w : QW) : PyData.strOk w.s = true := by cases w <;> decide +kernel
theorem BW.ok (w : BW) : PyData.strOk w.s = true := by cases w <;> decide +kernel
theorem free_ok : PyData.strOk "free" = true := by decide +kernel
theorem bound_ok : PyData.strOk "bound" = true := by decide +kernel
theorem false_ok : PyData.strOk "false" = true := by decide +kernel
mutual
theorem Th.layT {F : List Str} {n : Nat} : ∀ t : Th, t.isT F n → t.d.canLay0 = true
  | .free x, h => by simp [Th.d, PyData.canLay0, PyData.canLayAll0, free_ok, name_ok (show isNameS x = true ∧ x ∈ F from h).1]
  | .bnd k, h => by simp [Th.d, PyData.canLay0, PyData.canLayAll0, bound_ok]
  | .app .form c args, h => by simp [Th.d, PyData.canLay0, PyData.canLayAll0, Th.layTs args h.2.2, AW.ok, form_ok h.1]
  | .app .call c args, h => by simp [Th.d, PyData.canLay0, PyData.canLayAll0, Th.layTs args h.2.2, AW.ok, name_ok h.1]
theorem Th.layTs {F : List Str} {n : Nat} : ∀ ts : List Th, Th.areT F n ts → PyData.canLayAll0 (Th.ds ts) = true
  | [], _ => rfl
  | t :: ts, h => by simp [Th.ds, PyData.canLayAll0, Th.layT t h.1, Th.layTs ts h.2]
end
theorem Th.layS {F : List Str} : ∀ (t : Th) {n : Nat}, t.isS F n → t.d.canLay0 = true
  | .fls, _, _ => by simp [Th.d, PyData.canLay0, PyData.canLayAll0, false_ok]
  | .two .same a b, _, h => by simp [Th.d, PyData.canLay0, PyData.canLayAll0, BW.ok, Th.layT a h.1, Th.layT b h.2]
  | .app .atom c args, _, h => by simp [Th.d, PyData.canLay0, PyData.canLayAll0, Th.layTs args h.2.2, AW.ok, name_ok h.1]
  | .two .and a b, _, h => by simp [Th.d, PyData.canLay0, PyData.canLayAll0, BW.ok, Th.layS a h.1, Th.layS b h.2]
  | .two .or a b, _, h => by simp [Th.d, PyData.canLay0, PyData.canLayAll0, BW.ok, Th.layS a h.1, Th.layS b h.2]
  | .two .iff a b, _, h => by simp [Th.d, PyData.canLay0, PyData.canLayAll0, BW.ok, Th.layS a h.1, Th.layS b h.2]
  | .qua w k a, _, h => by simp [Th.d, PyData.canLay0, PyData.canLayAll0, QW.ok, name_ok h.1, Th.layS a h.2]
mutual
theorem Th.depth_le : ∀ t : Th, t.d.depth ≤ 2 * t.dep
  | .free x => by simp [Th.d, PyData.depth, PyData.depthAll, Th.dep]
  | .bnd k => by simp [Th.d, PyData.depth, PyData.depthAll, Th.dep]
  | .fls => by simp [Th.d, PyData.depth, PyData.depthAll, Th.dep]
  | .app w c args => by
    have := Th.depths_le args
    simp only [Th.d, PyData.depth, PyData.depthAll, Th.dep]
    omega
  | .qua w k a => by
    have := Th.depth_le a
    simp only [Th.d, PyData.depth, PyData.depthAll, Th.dep]
    omega
  | .two w a b => by
    have := Th.depth_le a
    have := Th.depth_le b
    simp only [Th.d, PyData.depth, PyData.depthAll, Th.dep]
    omega
theorem Th.depths_le : ∀ ts : List Th, PyData.depthAll (Th.ds ts) ≤ 2 * Th.deps ts
  | [] => by simp [Th.ds, PyData.depthAll]
  | t :: ts => by
    have := Th.depth_le t
    have := Th.depths_le ts
    simp only [Th.ds, PyData.depthAll, Th.deps]
    omega
end
theorem Th.dep_pos : ∀ t : Th, 1 ≤ t.dep := by intro t; cases t <;> simp [Th.dep]
theorem Th.sz_pos : ∀ t : Th, 1 ≤ t.sz := by intro t; cases t <;> simp [Th.sz]

theorem Th.ds_append (xs : List Th) (t : Th) : Th.ds (xs ++ [t]) = Th.ds xs ++ [t.d] := by rw [Th.ds_map, Th.ds_map, List.map_append]; rfl
theorem Th.deps_append (xs : List Th) (t : Th) : Th.deps (xs ++ [t]) = max (Th.deps xs) t.dep := by
  induction xs with
  | nil => simp [Th.deps]
  | cons x xs ih => simp only [List.cons_append, Th.deps, ih]; omega
theorem Th.szs_append (xs : List Th) (t : Th) : Th.szs (xs ++ [t]) = Th.szs xs + t.sz := by
  induction xs with
  | nil => simp [Th.szs]
  | cons x xs ih => simp only [List.cons_append, Th.szs, ih]; omega
theorem tall_ok {F : List Str} {b : Nat} {ts : List Th} {t : Th} (hl : ts.length ≤ 2) (hts : ∀ t ∈ ts, t.isT F b ∧ t.dep = 1 ∧ t.sz = 1) (ht : t.isT F b) :
    (ts ++ [t]).length ≤ 4 ∧ Th.areT F b (ts ++ [t]) ∧ Th.deps (ts ++ [t]) + 1 ≤ t.dep + 1 ∧ Th.szs (ts ++ [t]) + 1 ≤ t.sz + 3 := by
  refine ⟨by simp; omega, Th.areT_all.mpr fun x hx => ?_, ?_, ?_⟩
  · rcases List.mem_append.mp hx with h | h
    · exact (hts x h).1
    · rw [List.mem_singleton.mp h]; exact ht
  · have h1 : Th.deps ts ≤ 1 := Th.deps_le.mpr fun x hx => Nat.le_of_eq (hts x hx).2.1
    have h2 := t.dep_pos
    rw [Th.deps_append]
    omega
  · have h1 := Th.szs_le (ts := ts) (m := 1) fun x hx => Nat.le_of_eq (hts x hx).2.2
    rw [Th.szs_append]
    omega
/-! what the makers of trees promise -/
def szT : Nat → Nat
  | 0 => 1
  | n + 1 => 1 + 4 * szT n
theorem szT_pos (n : Nat) : 1 ≤ szT n := by cases n <;> simp [szT]
abbrev poolD (fs gs ns : List Str) : PyData := .tuple [.list (fs.map PyData.str), .list (gs.map PyData.str), .list (ns.map PyData.str)]
structure PoolOk (fs gs ns : List Str) : Prop where
  lf : fs.length = 9
  lg : gs.length = 3
  ln : ns.length = 3
  hf : ∀ z ∈ fs, isNameS z = true
  hg : ∀ z ∈ gs, isFormS z = true
  hn : ∀ z ∈ ns, isNameS z = true
def spName : Sp := fun vs H Q _ => ∃ (p : Addr), vs = [.ref p] ∧ H p = some (Stt p) ∧ ∀ z H', Same H H' → isNameS z = true → Q (.str z) H'
def spForm : Sp := fun vs H Q _ => ∃ (p : Addr), vs = [.ref p] ∧ H p = some (Stt p) ∧ ∀ z H', Same H H' → isFormS z = true → Q (.str z) H'
def spPool (K : PySem.W.Frag) : Sp := fun vs H Q _ => ∃ (p : Addr), vs = [.ref p] ∧ H p = some (Stt p) ∧ ∀ v fs gs ns H', Same H H' → PoolOk fs gs ns → R K H' v (poolD fs gs ns) → Q v H'
def spLeaf (K : PySem.W.Frag) : Sp := fun vs H Q _ => ∃ (p : Addr) (v : V) (fs gs ns : List Str) (b : Int), vs = [.ref p, v, .int b] ∧ H p = some (Stt p) ∧ R K H v (poolD fs gs ns) ∧ PoolOk fs gs ns ∧ 0 ≤ b ∧ b ≤ 1000 ∧
  ∀ u t H', Same H H' → R K H' u (Th.d t) → t.isT fs b.toNat → t.dep = 1 → t.sz = 1 → Q u H'
def spTerm (K : PySem.W.Frag) (n : Nat) : Sp := fun vs H Q _ => ∃ (p : Addr) (v : V) (fs gs ns : List Str) (e b : Int), vs = [.ref p, v, .int e, .int b] ∧ H p = some (Stt p) ∧ R K H v (poolD fs gs ns) ∧ PoolOk fs gs ns ∧ 0 ≤ b ∧ b ≤ 1000 ∧ 0 ≤ e ∧ e < n ∧
  ∀ u t H', Same H H' → R K H' u (Th.d t) → t.isT fs b.toNat → t.dep ≤ e.toNat + 1 → t.sz ≤ szT e.toNat → Q u H'
def spTall (K : PySem.W.Frag) : Sp := fun vs H Q _ => ∃ (p : Addr) (v : V) (fs gs ns : List Str) (u : V) (t : Th) (b : Nat) (m : Int), vs = [.ref p, v, u, .int m] ∧ H p = some (Stt p) ∧ R K H v (poolD fs gs ns) ∧ PoolOk fs gs ns ∧ R K H u t.d ∧ t.isT fs b ∧ 0 ≤ m ∧ m ≤ 60 ∧
  ∀ u' t' H', Same H H' → R K H' u' (Th.d t') → t'.isT fs b → t'.dep ≤ t.dep + m.toNat → t'.sz ≤ t.sz + 3 * m.toNat → Q u' H'
def spAnyT (K : PySem.W.Frag) : Sp := fun vs H Q _ => ∃ (p : Addr) (v : V) (fs gs ns : List Str) (b : Int), vs = [.ref p, v, .int b] ∧ H p = some (Stt p) ∧ R K H v (poolD fs gs ns) ∧ PoolOk fs gs ns ∧ 0 ≤ b ∧ b ≤ 1000 ∧
  ∀ u t H', Same H H' → R K H' u (Th.d t) → t.isT fs b.toNat → t.dep ≤ 57 → t.sz ≤ 200 → Q u H'
section
variable {K : PySem.W.Frag} {H : Hp} {Q : VK} {E : XK} {p : Addr} {v u : V} {fs gs ns : List Str} {t : Th} {b e m : Int} {n nb : Nat}
theorem use_name (hp : H p = some (Stt p)) (h : ∀ z H', Same H H' → isNameS z = true → Q (.str z) H') : spName [.ref p] H Q E := ⟨p, rfl, hp, h⟩
theorem use_form (hp : H p = some (Stt p)) (h : ∀ z H', Same H H' → isFormS z = true → Q (.str z) H') : spForm [.ref p] H Q E := ⟨p, rfl, hp, h⟩
theorem use_pool (hp : H p = some (Stt p)) (h : ∀ v fs gs ns H', Same H H' → PoolOk fs gs ns → R K H' v (poolD fs gs ns) → Q v H') : spPool K [.ref p] H Q E := ⟨p, rfl, hp, h⟩
theorem use_leaf (hp : H p = some (Stt p)) (r : R K H v (poolD fs gs ns)) (ok : PoolOk fs gs ns) (h0 : 0 ≤ b) (h1 : b ≤ 1000) (h : ∀ u t H', Same H H' → R K H' u (Th.d t) → t.isT fs b.toNat → t.dep = 1 → t.sz = 1 → Q u H') : spLeaf K [.ref p, v, .int b] H Q E :=
  ⟨p, v, fs, gs, ns, b, rfl, hp, r, ok, h0, h1, h⟩
theorem use_term (hp : H p = some (Stt p)) (r : R K H v (poolD fs gs ns)) (ok : PoolOk fs gs ns) (h0 : 0 ≤ b) (h1 : b ≤ 1000) (e0 : 0 ≤ e) (e1 : e < n) (h : ∀ u t H', Same H H' → R K H' u (Th.d t) → t.isT fs b.toNat → t.dep ≤ e.toNat + 1 → t.sz ≤ szT e.toNat → Q u H') : spTerm K n [.ref p, v, .int e, .int b] H Q E :=
  ⟨p, v, fs, gs, ns, e, b, rfl, hp, r, ok, h0, h1, e0, e1, h⟩
theorem use_tall (hp : H p = some (Stt p)) (r : R K H v (poolD fs gs ns)) (ok : PoolOk fs gs ns) (rt : R K H u t.d) (ht : t.isT fs nb) (h0 : 0 ≤ m) (h1 : m ≤ 60) (h : ∀ u' t' H', Same H H' → R K H' u' (Th.d t') → t'.isT fs nb → t'.dep ≤ t.dep + m.toNat → t'.sz ≤ t.sz + 3 * m.toNat → Q u' H') : spTall K [.ref p, v, u, .int m] H Q E :=
  ⟨p, v, fs, gs, ns, u, t, nb, m, rfl, hp, r, ok, rt, ht, h0, h1, h⟩
theorem use_anyT (hp : H p = some (Stt p)) (r : R K H v (poolD fs gs ns)) (ok : PoolOk fs gs ns) (h0 : 0 ≤ b) (h1 : b ≤ 1000) (h : ∀ u t H', Same H H' → R K H' u (Th.d t) → t.isT fs b.toNat → t.dep ≤ 57 → t.sz ≤ 200 → Q u H') : spAnyT K [.ref p, v, .int b] H Q E :=
  ⟨p, v, fs, gs, ns, b, rfl, hp, r, ok, h0, h1, h⟩
end

/-! comprehensions over a row of trees -/
section
variable {K : PySem.W.Frag} {σ : L2.St} {H : Hp} {Q : VK} {te : TE} {vs : List Nat} {j : Nat} {x : V}
theorem ds_len (ts : List Th) : (Th.ds ts).length = ts.length := by rw [Th.ds_map, List.length_map]
theorem ds_get {ts : List Th} {i : Nat} {t : Th} (h : ts[i]? = some t) : (Th.ds ts)[i]? = some t.d := by rw [Th.ds_map, List.getElem?_map, h]; rfl
theorem lcT_th (f : Th → PyData) {ts : List Th} (r : R K H x (.tuple (Th.ds ts))) (hl : ts.length ≤ 1000000) (hw : ∀ x, wipe ((wipe σ vs).set j (some x)) vs = wipe σ vs)
    (he : ∀ v t H1, t ∈ ts → R K H1 v (Th.d t) → Same H H1 → ∀ Qt : VK, (∀ y H2, Same H1 H2 → R K H2 y (f t) → Qt y H2) → te ((wipe σ vs).set j (some v)) H1 Qt)
    (hq : ∀ v H1, Same H H1 → R K H1 v (.list (ts.map f)) → Q v H1) : LcT K j te vs σ x H Q := by
  refine lc_T (fun i e => ∃ t, ts[i]? = some t ∧ e = f t) r (by rw [ds_len]; exact hl) hw (fun k v d H1 hd rv s1 Qt hQ => ?_) (fun v H1 es s1 r1 hl hP => hq v H1 s1 (by rw [← list_of_at (by rw [hl, ds_len]) hP]; exact r1))
  rw [Th.ds_map, List.getElem?_map] at hd
  cases ht : ts[k]? with
  | none => rw [ht] at hd; cases hd
  | some t =>
    rw [ht] at hd
    cases hd
    exact he v t H1 (List.mem_of_getElem? ht) rv s1 Qt fun y H2 s2 r2 => hQ y H2 _ s2 r2 ⟨t, ht, rfl⟩
theorem lcL_th (f : Th → PyData) {ts : List Th} (r : R K H x (.list (Th.ds ts))) (hl : ts.length ≤ 1000000) (hw : ∀ x, wipe ((wipe σ vs).set j (some x)) vs = wipe σ vs)
    (he : ∀ v t H1, t ∈ ts → R K H1 v (Th.d t) → Same H H1 → ∀ Qt : VK, (∀ y H2, Same H1 H2 → R K H2 y (f t) → Qt y H2) → te ((wipe σ vs).set j (some v)) H1 Qt)
    (hq : ∀ v H1, Same H H1 → R K H1 v (.list (ts.map f)) → Q v H1) : LcL K j te vs σ x H Q := by
  refine lc_L (fun i e => ∃ t, ts[i]? = some t ∧ e = f t) r (by rw [ds_len]; exact hl) hw (fun k v d H1 hd rv s1 Qt hQ => ?_) (fun v H1 es s1 r1 hl hP => hq v H1 s1 (by rw [← list_of_at (by rw [hl, ds_len]) hP]; exact r1))
  rw [Th.ds_map, List.getElem?_map] at hd
  cases ht : ts[k]? with
  | none => rw [ht] at hd; cases hd
  | some t =>
    rw [ht] at hd
    cases hd
    exact he v t H1 (List.mem_of_getElem? ht) rv s1 Qt fun y H2 s2 r2 => hQ y H2 _ s2 r2 ⟨t, ht, rfl⟩
end
end G

namespace G
open PySem PySem.Spec PyProof.Rows L2
/-! statements: what their makers promise -/
def szS : Nat → Nat
  | 0 => 85
  | n + 1 => 1 + 2 * szS n
theorem szS_ge : ∀ n : Nat, 85 ≤ szS n
  | 0 => Nat.le_refl _
  | n + 1 => by have := szS_ge n; simp only [szS]; omega
def spTold (K : PySem.W.Frag) (n : Nat) : Sp := fun vs H Q _ => ∃ (p : Addr) (v : V) (fs gs ns : List Str) (e b : Int), vs = [.ref p, v, .int e, .int b] ∧ H p = some (Stt p) ∧ R K H v (poolD fs gs ns) ∧ PoolOk fs gs ns ∧ 0 ≤ b ∧ b + e ≤ 1000 ∧ 0 ≤ e ∧ e < n ∧
  ∀ u t H', Same H H' → R K H' u (Th.d t) → t.isS fs b.toNat → t.dep ≤ e.toNat + 4 → t.sz ≤ szS e.toNat → Q u H'
def spAnyS (K : PySem.W.Frag) : Sp := fun vs H Q _ => ∃ (p : Addr) (v : V) (fs gs ns : List Str) (e b : Int), vs = [.ref p, v, .int e, .int b] ∧ H p = some (Stt p) ∧ R K H v (poolD fs gs ns) ∧ PoolOk fs gs ns ∧ 0 ≤ b ∧ b ≤ 900 ∧ 0 ≤ e ∧ e < 5 ∧
  ∀ u t H', Same H H' → R K H' u (Th.d t) → t.isS fs b.toNat → t.dep ≤ 28 → t.sz ≤ 1500 → Q u H'
section
variable {K : PySem.W.Frag} {H : Hp} {Q : VK} {E : XK} {p : Addr} {v u : V} {fs gs ns : List Str} {t : Th} {b e m : Int} {n nb : Nat}
theorem use_told (hp : H p = some (Stt p)) (r : R K H v (poolD fs gs ns)) (ok : PoolOk fs gs ns) (h0 : 0 ≤ b) (h1 : b + e ≤ 1000) (e0 : 0 ≤ e) (e1 : e < n) (h : ∀ u t H', Same H H' → R K H' u (Th.d t) → t.isS fs b.toNat → t.dep ≤ e.toNat + 4 → t.sz ≤ szS e.toNat → Q u H') : spTold K n [.ref p, v, .int e, .int b] H Q E :=
  ⟨p, v, fs, gs, ns, e, b, rfl, hp, r, ok, h0, h1, e0, e1, h⟩
theorem use_anyS (hp : H p = some (Stt p)) (r : R K H v (poolD fs gs ns)) (ok : PoolOk fs gs ns) (h0 : 0 ≤ b) (h1 : b ≤ 900) (e0 : 0 ≤ e) (e1 : e < 5) (h : ∀ u t H', Same H H' → R K H' u (Th.d t) → t.isS fs b.toNat → t.dep ≤ 28 → t.sz ≤ 1500 → Q u H') : spAnyS K [.ref p, v, .int e, .int b] H Q E :=
  ⟨p, v, fs, gs, ns, e, b, rfl, hp, r, ok, h0, h1, e0, e1, h⟩
end
end G

namespace G
open PySem PySem.Spec PyProof.Rows L2
/-! lists of one's own that change: what else stands, and data without lists and dicts in it -/
def SameX (l : Addr) (H H' : Hp) : Prop := ∀ a o, a ≠ l → H a = some o → H' a = some o
mutual
def noL : PyData → Bool
  | .list _ => false
  | .dict _ => false
  | .tuple ds => noLs ds
  | _ => true
def noLs : List PyData → Bool
  | [] => true
  | d :: ds => noL d && noLs ds
end
theorem SameX.refl {l : Addr} (H : Hp) : SameX l H H := fun _ _ _ h => h
theorem SameX.of {l : Addr} {H H' : Hp} (s : Same H H') : SameX l H H' := fun a o _ h => s a o h
theorem SameX.trans {l : Addr} {H H1 H2 : Hp} (a : SameX l H H1) (b : SameX l H1 H2) : SameX l H H2 := fun c o n h => b c o n (a c o n h)
theorem SameX.upd {l : Addr} {H : Hp} {o : HO} : SameX l H (upd H l o) := fun a u n h => by rw [upd_ne n]; exact h
theorem SameX.same {l : Addr} {H0 H H' : Hp} (s : Same H0 H) (x : SameX l H H') (h : H0 l = none) : Same H0 H' := fun a o q => x a o (ne_of_none q h) (s a o q)
section
variable {K : PySem.W.Frag} {H H' : Hp} {l : Addr} {xs : List V}
theorem SameX.tupX (x : SameX l H H') (hl : H l = some (.lst xs)) {a : Addr} {ys : List V} (h : SqT K H a ys) : SqT K H' a ys := by
  rcases h with (h | ⟨o, h⟩) | h
  · exact .inl (.inl (x a _ (fun e => by rw [e, hl] at h; cases h) h))
  · exact .inl (.inr ⟨o, x a _ (fun e => by rw [e, hl] at h; cases h) h⟩)
  · exact .inr h
mutual
theorem R.monoX (x : SameX l H H') (hl : H l = some (.lst xs)) : ∀ {v : V} {d : PyData}, noL d = true → R K H v d → R K H' v d
  | _, _, _, .non => .non
  | _, _, _, .bl b => .bl b
  | _, _, _, .int i => .int i
  | _, _, _, .str z => .str z
  | _, _, n, .lst _ _ => by simp [noL] at n
  | _, _, n, .tup h r => .tup (x.tupX hl h) (RA.monoX x hl (by simpa [noL] using n) r)
  | _, _, n, .dct _ => by simp [noL] at n
theorem RA.monoX (x : SameX l H H') (hl : H l = some (.lst xs)) : ∀ {vs : List V} {ds : List PyData}, noLs ds = true → RA K H vs ds → RA K H' vs ds
  | _, _, _, .nil => .nil
  | _, _, n, .cons h r => by
    simp only [noLs, Bool.and_eq_true] at n
    exact .cons (R.monoX x hl n.1 h) (RA.monoX x hl n.2 r)
end
end
theorem noLs_append : ∀ {xs ys : List PyData}, noLs (xs ++ ys) = (noLs xs && noLs ys)
  | [], ys => by simp [noLs]
  | x :: xs, ys => by simp [noLs, noLs_append (xs := xs), Bool.and_assoc]
mutual
theorem Th.noL : ∀ t : Th, noL t.d = true
  | .free x => rfl
  | .bnd k => rfl
  | .fls => rfl
  | .app w c args => by simp [Th.d, G.noL, G.noLs, Th.noLs args]
  | .qua w k a => by simp [Th.d, G.noL, G.noLs, Th.noL a]
  | .two w a b => by simp [Th.d, G.noL, G.noLs, Th.noL a, Th.noL b]
theorem Th.noLs : ∀ ts : List Th, noLs (Th.ds ts) = true
  | [] => rfl
  | t :: ts => by simp [Th.ds, G.noLs, Th.noL t, Th.noLs ts]
end
/-! while -/
def WhN (W : Nat → L2.St → Hp → Prop) (m : Nat) : L2.St → Hp → Prop := fun σ' H' => ∃ m', m' < m ∧ W m' σ' H'
def WhB (W : Nat → L2.St → Hp → Prop) (m : Nat) (tb : TS) (nx : L2.St → Hp → Prop) (rt : VK) (σ : L2.St) (H : Hp) : Prop :=
  ∃ N : L2.St → Hp → Prop, (∀ σ' H', N σ' H' → ∃ m', m' < m ∧ W m' σ' H') ∧ tb ⟨N, rt, nx, N⟩ σ H
theorem st_while {c : TT} {tb : TS} {nx bk ct : L2.St → Hp → Prop} {rt : VK} {σ : L2.St} {H : Hp} (W : Nat → L2.St → Hp → Prop) (m : Nat) (h0 : W m σ H)
    (hs : ∀ m σ H, W m σ H → c σ H fun b H1 => if b = true then WhB W m tb nx rt σ H1 else nx σ H1) : tWhile c tb ⟨nx, rt, bk, ct⟩ σ H := ⟨W, ⟨m, h0⟩, hs⟩
theorem whB {W : Nat → L2.St → Hp → Prop} {m : Nat} {tb : TS} {nx : L2.St → Hp → Prop} {rt : VK} {σ : L2.St} {H : Hp} (h : tb ⟨WhN W m, rt, nx, WhN W m⟩ σ H) : WhB W m tb nx rt σ H := ⟨_, fun _ _ q => q, h⟩
theorem eqv_nilL (ds : List PyData) : PyData.eqv (.list ds) (.list []) = ds.isEmpty := by
  cases ds <;> simp [PyData.eqv, PyData.eqvAll]
/-! methods of such lists -/
section
variable {X : Cx} {o : Expr} {to : TE} {apos cpos : Pos}
theorem bm0K (K : PySem.W.Frag) {e : Expr} {T : String} {r : V → List V → Hp → VK → Prop} (h : PE X e (tBM0 X.K T r to)) (hK : X.K = K := by rfl) : PE X e (tBM0 K T r to) := hK ▸ h
theorem bmK (K : PySem.W.Frag) {e : Expr} {T : String} {t : TA} {r : V → List V → Hp → VK → Prop} (h : PE X e (tBM X.K T r to t)) (hK : X.K = K := by rfl) : PE X e (tBM K T r to t) := hK ▸ h
theorem gtK (K : PySem.W.Frag) {tg : Expr} {n : Nat} {t : TGs} (h : PG X tg (gTup X.K n t)) (hK : X.K = K := by rfl) : PG X tg (gTup K n t) := hK ▸ h
end
section
variable {K : PySem.W.Frag} {σ : L2.St} {H : Hp} {Q : VK} {to : TE} {t : TA} {r : V → List V → Hp → VK → Prop} {l : Addr} {xs : List V} {ds es : List PyData} {d : PyData} {y : V}
theorem st_BM0 (h : to σ H fun x H1 => tyV K "list" x H1 ∧ r x [] H1 Q) : tBM0 K "list" r to σ H Q := h
theorem st_BM (h : to σ H fun x H1 => tyV K "list" x H1 ∧ t σ H1 fun xs H2 => r x xs H2 Q) : tBM K "list" r to t σ H Q := h
theorem st_tyl {A : Prop} (hl : H l = some (.lst xs)) (h : A) : tyV K "list" (.ref l) H ∧ A := ⟨Or.inl ⟨rfl, _, Or.inl (Or.inl hl)⟩, h⟩
theorem RA.split {vs : List V} {ds : List PyData} {d : PyData} (r : RA K H vs (ds ++ [d])) : ∃ ws v, vs = ws ++ [v] ∧ RA K H ws ds ∧ R K H v d := by
  have h1 := r.length
  rw [List.length_append, List.length_singleton] at h1
  have h2 := RA.take ds.length r
  have h3 := RA.drop ds.length r
  rw [List.take_left'] at h2
  rw [List.drop_left'] at h3
  · obtain ⟨v, ws, e, rv, rw0⟩ := h3.inv_cons
    have := rw0.inv_nil
    subst this
    exact ⟨vs.take ds.length, v, by rw [← e, List.take_append_drop], h2, rv⟩
  · rfl
  · rfl
theorem popR (hl : H l = some (.lst xs)) (ra : RA K H xs (ds ++ [d])) (hn : noLs (ds ++ [d]) = true) (h : ∀ v ws H', SameX l H H' → H' l = some (.lst ws) → RA K H' ws ds → R K H' v d → Q v H') : rPop (.ref l) [] H Q := by
  obtain ⟨ws, v, rfl, rw1, rv⟩ := ra.split
  rw [noLs_append] at hn
  simp only [Bool.and_eq_true, noLs, Bool.and_true] at hn
  refine ⟨l, ws ++ [v], v, rfl, rfl, hl, by simp, ?_⟩
  rw [List.dropLast_concat]
  exact h v ws _ .upd upd_same (rw1.monoX .upd hl hn.1) (rv.monoX .upd hl hn.2)
theorem extR (hl : H l = some (.lst xs)) (ra : RA K H xs ds) (r : R K H y (.list es)) (hz : ds.length + es.length ≤ 1000000) (hn : noLs ds = true) (hn' : noLs es = true) (h : ∀ ws H', SameX l H H' → H' l = some (.lst ws) → RA K H' ws (ds ++ es) → Q .non H') : rExtend (.ref l) [y] H Q := by
  obtain ⟨b, zs, rfl, hb, rz⟩ := r.inv_lst
  refine ⟨l, b, xs, zs, rfl, rfl, hl, hb, big_le (by rw [ra.length, rz.length]; exact hz), ?_⟩
  exact h _ _ .upd upd_same ((ra.monoX .upd hl hn).append (rz.monoX .upd hl hn'))
theorem appR (hl : H l = some (.lst xs)) (ra : RA K H xs ds) (r : R K H y d) (hz : ds.length + 1 ≤ 1000000) (hn : noLs ds = true) (hn' : noL d = true) (h : ∀ ws H', SameX l H H' → H' l = some (.lst ws) → RA K H' ws (ds ++ [d]) → Q .non H') : rAppend (.ref l) [y] H Q := by
  refine ⟨l, xs, y, rfl, rfl, hl, Nat.lt_of_lt_of_le (by rw [ra.length]; omega : xs.length < 1000000) (by decide), ?_⟩
  exact h _ _ .upd upd_same ((ra.monoX .upd hl hn).append (.cons (r.monoX .upd hl hn') .nil))
/-! a tuple of two taken apart -/
theorem st_asgT {te : TE} {g : TG} {nx bk ct : L2.St → Hp → Prop} {rt : VK} (h : te σ H fun x H1 => g x σ H1 nx) : tAsg te g ⟨nx, rt, bk, ct⟩ σ H := h
theorem gtup2 {i j : Nat} {v : V} {d1 d2 : PyData} {QS : L2.St → Hp → Prop} (r : R K H v (.tuple [d1, d2])) (h : ∀ v1 v2, R K H v1 d1 → R K H v2 d2 → QS ((σ.set i (some v1)).set j (some v2)) H) : gTup K 2 (gCons (gName i) (gCons (gName j) gNil)) v σ H QS := by
  obtain ⟨a, xs, rfl, ha, ra⟩ := r.inv_tup
  obtain ⟨v1, ws, rfl, r1, ra⟩ := ra.inv_cons
  obtain ⟨v2, ws, rfl, r2, ra⟩ := ra.inv_cons
  have := ra.inv_nil
  subst this
  exact ⟨a, _, rfl, ha, rfl, v1, _, rfl, v2, _, rfl, rfl, h v1 v2 r1 r2⟩
/-! int(a truth), max of two, x += n -/
def rInt1 : List V → Hp → VK → Prop := fun xs H Q => (∃ i, xs = [.int i] ∧ Q (.int i) H) ∨ ∃ k, xs = [.bl k] ∧ Q (.int (if k then 1 else 0)) H
theorem call_int1R {X : Cx} : CallR X (.type "int") rInt1 := call_int1
theorem int_bl {b : Bool} (h : Q (.int (if b = true then 1 else 0)) H) : rInt1 [.bl b] H Q := .inr ⟨b, rfl, h⟩
theorem int_int {i : Int} (h : Q (.int i) H) : rInt1 [.int i] H Q := .inl ⟨i, rfl, h⟩
def rMax2 : List V → Hp → VK → Prop := fun xs H Q => ∃ i j, xs = [.int i, .int j] ∧ Q (.int (if j > i then j else i)) H
theorem call_max2R {X : Cx} (hc : X.calm = true) : CallR X (.builtin "max") rMax2 := call_max2 hc
theorem max_2 {i j : Int} (h : Q (.int (if j > i then j else i)) H) : rMax2 [.int i, .int j] H Q := ⟨i, j, rfl, h⟩
theorem st_aug {i : Nat} {te : TE} {f : Int → Int → Int} {a : Int} {nx bk ct : L2.St → Hp → Prop} {rt : VK} (hx : σ[i]? = some (some (.int a))) (h : te σ H fun y H1 => ipI f (.int a) y H1 fun z H2 => nx (σ.set i (some z)) H2) : tAug i te (ipI f) ⟨nx, rt, bk, ct⟩ σ H := ⟨.int a, hx, h⟩
theorem ipI_int {f : Int → Int → Int} {a b : Int} (h : Q (.int (f a b)) H) : ipI f (.int a) (.int b) H Q := ⟨a, b, rfl, rfl, h⟩
end
/-! a new list, told as new -/
def NewLF (_K : PySem.W.Frag) (xs : List V) (H : Hp) (Q : VK) : Prop := xs.length ≤ sizeLine ∧ ∀ p, H p = none → Q (.ref p) (upd H p (.lst xs))
def tLstF (_K : PySem.W.Frag) (t : TA) : TE := tLst t
theorem pe_lstF (K : PySem.W.Frag) {X : Cx} {es : List Expr} {t : TA} {pos : Pos} (h : PA X es t) : PE X (.List es pos) (tLstF K t) := pe_lst h
theorem st_lstF {K : PySem.W.Frag} {σ : L2.St} {H : Hp} {Q : VK} {a : TA} (h : a σ H fun xs H1 => NewLF K xs H1 Q) : tLstF K a σ H Q := h
theorem st_newLF {K : PySem.W.Frag} {H : Hp} {Q : VK} {xs : List V} {ds : List PyData} (r : RA K H xs ds) (hl : xs.length ≤ 1000000) (h : ∀ p H', H p = none → Same H H' → H' p = some (.lst xs) → RA K H' xs ds → Q (.ref p) H') : NewLF K xs H Q :=
  ⟨big_le hl, fun p hp => h p _ hp (same_new hp _) upd_same (r.mono (same_new hp _))⟩
theorem ra_mono {K : PySem.W.Frag} {H H' : Hp} {xs : List V} {ds : List PyData} (r : RA K H xs ds) (e : Same H H') : RA K H' xs ds := r.mono e
end G

namespace G
open PySem PySem.Spec PyProof.Rows L2
/-! parts -/
def Th.parts : Th → List Th
  | .app _ _ args => args
  | .qua _ _ a => [a]
  | .two _ a b => [a, b]
  | _ => []
def spParts (K : PySem.W.Frag) : Sp := fun vs H Q _ => ∃ (v : V) (t : Th), vs = [v] ∧ R K H v t.d ∧ ∀ u H', Same H H' → R K H' u (.list (Th.ds t.parts)) → Q u H'
theorem use_parts {K : PySem.W.Frag} {H : Hp} {Q : VK} {E : XK} {v : V} {t : Th} (r : R K H v t.d) (h : ∀ u H', Same H H' → R K H' u (.list (Th.ds t.parts)) → Q u H') : spParts K [v] H Q E := ⟨v, t, rfl, r, h⟩
theorem Th.szs_parts (t : Th) : Th.szs t.parts + 1 = t.sz := by cases t <;> simp [Th.parts, Th.szs, Th.sz]
theorem lays_mem : ∀ {ts : List Th}, PyData.canLayAll0 (Th.ds ts) = true ↔ ∀ t ∈ ts, t.d.canLay0 = true
  | [] => by simp [Th.ds, PyData.canLayAll0]
  | t :: ts => by simp [Th.ds, PyData.canLayAll0, lays_mem (ts := ts)]
theorem Th.lay_parts {t : Th} (h : t.d.canLay0 = true) : ∀ a ∈ t.parts, a.d.canLay0 = true := by
  cases t with
  | app w c args =>
    simp only [Th.d, PyData.canLay0, PyData.canLayAll0, Bool.and_eq_true] at h
    exact lays_mem.mp h.2.2.1
  | qua w k a =>
    simp only [Th.d, PyData.canLay0, PyData.canLayAll0, Bool.and_eq_true] at h
    intro x hx
    rw [List.mem_singleton.mp hx]
    exact h.2.2.1
  | two w a b =>
    simp only [Th.d, PyData.canLay0, PyData.canLayAll0, Bool.and_eq_true] at h
    intro x hx
    rcases List.mem_cons.mp hx with rfl | hx
    · exact h.2.1
    · rw [List.mem_singleton.mp hx]; exact h.2.2.1
  | _ => intro x hx; simp [Th.parts] at hx
/-! the word ahead, and what is behind -/
def Th.word : Th → Str
  | .free _ => "free"
  | .bnd _ => "bound"
  | .fls => "false"
  | .app w _ _ => w.s
  | .qua w _ _ => w.s
  | .two w _ _ => w.s
def Th.rest : Th → List PyData
  | .free x => [.str x]
  | .bnd k => [.int k]
  | .fls => []
  | .app _ c args => [.str c, .tuple (Th.ds args)]
  | .qua _ k a => [.str k, a.d]
  | .two _ a b => [a.d, b.d]
theorem Th.d_eq (t : Th) : t.d = .tuple (.str t.word :: t.rest) := by cases t <;> rfl
theorem Th.word_bound {t : Th} (h : t.word = "bound") : ∃ k, t = .bnd k := by
  cases t with
  | free k => exact absurd (show ("free" : Str) = "bound" from h) (by decide +kernel)
  | bnd k => exact ⟨k, rfl⟩
  | fls => exact absurd (show ("false" : Str) = "bound" from h) (by decide +kernel)
  | app w a b => exact absurd (show w.s = "bound" from h) (by cases w <;> decide +kernel)
  | qua w a b => exact absurd (show w.s = "bound" from h) (by cases w <;> decide +kernel)
  | two w a b => exact absurd (show w.s = "bound" from h) (by cases w <;> decide +kernel)
theorem Th.word_free {t : Th} (h : t.word = "free") : ∃ x, t = .free x := by
  cases t with
  | free k => exact ⟨k, rfl⟩
  | bnd k => exact absurd (show ("bound" : Str) = "free" from h) (by decide +kernel)
  | fls => exact absurd (show ("false" : Str) = "free" from h) (by decide +kernel)
  | app w a b => exact absurd (show w.s = "free" from h) (by cases w <;> decide +kernel)
  | qua w a b => exact absurd (show w.s = "free" from h) (by cases w <;> decide +kernel)
  | two w a b => exact absurd (show w.s = "free" from h) (by cases w <;> decide +kernel)
def Th.inner : Th → Nat
  | .qua _ _ _ => 1
  | _ => 0
theorem Th.inner_eq (t : Th) : (if inS t.word [.str "all", .str "some"] = true then (1 : Int) else 0) = (t.inner : Nat) := by
  cases t with
  | app w c args => show (if inS w.s [.str "all", .str "some"] = true then (1 : Int) else 0) = 0; cases w <;> decide +kernel
  | qua w c args => show (if inS w.s [.str "all", .str "some"] = true then (1 : Int) else 0) = 1; cases w <;> decide +kernel
  | two w c args => show (if inS w.s [.str "all", .str "some"] = true then (1 : Int) else 0) = 0; cases w <;> decide +kernel
  | free x => show (if inS "free" [.str "all", .str "some"] = true then (1 : Int) else 0) = 0; decide +kernel
  | bnd x => show (if inS "bound" [.str "all", .str "some"] = true then (1 : Int) else 0) = 0; decide +kernel
  | fls => show (if inS "false" [.str "all", .str "some"] = true then (1 : Int) else 0) = 0; decide +kernel
mutual
def Th.whole (n : Nat) : Th → Bool
  | .bnd k => decide (k < n)
  | .app _ _ args => Th.wholes n args
  | .qua _ _ a => a.whole (n + 1)
  | .two _ a b => a.whole n && b.whole n
  | _ => true
def Th.wholes (n : Nat) : List Th → Bool
  | [] => true
  | t :: ts => t.whole n && Th.wholes n ts
end
theorem Th.wholes_all (n : Nat) : ∀ ts : List Th, Th.wholes n ts = ts.all fun t => t.whole n
  | [] => rfl
  | t :: ts => by rw [Th.wholes, Th.wholes_all n ts]; rfl
theorem Th.whole_step {t : Th} (n : Nat) (h : ¬ t.word = "bound") : t.whole n = t.parts.all fun a => a.whole (n + t.inner) := by
  cases t with
  | bnd k => exact absurd rfl h
  | app w c args => simp [Th.whole, Th.parts, Th.inner, Th.wholes_all]
  | qua w c a => simp [Th.whole, Th.parts, Th.inner]
  | two w a b => simp [Th.whole, Th.parts, Th.inner]
  | _ => rfl
/-- pairs of a tree and a number *)-/
abbrev pairD (p : Th × Nat) : PyData := .tuple [p.1.d, .int (p.2 : Nat)]
def psz (ps : List (Th × Nat)) : Nat := (ps.map fun p => p.1.sz).sum
theorem psz_append (ps qs : List (Th × Nat)) : psz (ps ++ qs) = psz ps + psz qs := by simp [psz]
theorem psz_map (n : Nat) : ∀ ts : List Th, psz (ts.map fun a => (a, n)) = Th.szs ts
  | [] => rfl
  | t :: ts => by
    have := psz_map n ts
    simp only [psz, List.map_cons, List.sum_cons, Th.szs] at this ⊢
    omega
theorem noL_pairs : ∀ ps : List (Th × Nat), noLs (ps.map pairD) = true
  | [] => rfl
  | p :: ps => by simp [noLs, pairD, G.noL, Th.noL, noL_pairs ps]
theorem len_psz : ∀ ps : List (Th × Nat), ps.length ≤ psz ps
  | [] => Nat.zero_le _
  | p :: ps => by
    have := len_psz ps
    have := p.1.sz_pos
    simp only [psz, List.map_cons, List.sum_cons, List.length_cons] at this ⊢
    simp only [psz] at *
    omega
theorem len_szs : ∀ ts : List Th, ts.length ≤ Th.szs ts
  | [] => Nat.zero_le _
  | t :: ts => by
    have := len_szs ts
    have := t.sz_pos
    simp only [Th.szs, List.length_cons]
    omega
theorem lay_pairs : ∀ {ps : List (Th × Nat)}, (∀ p ∈ ps, p.1.d.canLay0 = true) → (PyData.list (ps.map pairD)).canLay0 = true
  | [], _ => rfl
  | p :: ps, h => by
    have h1 := h p (by simp)
    have h2 := lay_pairs (ps := ps) fun q hq => h q (by simp [hq])
    simp only [PyData.canLay0] at h2
    simp [PyData.canLay0, PyData.canLayAll0, pairD, h1, h2]
def spWhole (K : PySem.W.Frag) : Sp := fun vs H Q _ => ∃ (v : V) (t : Th), vs = [v] ∧ R K H v t.d ∧ t.d.canLay0 = true ∧ t.sz ≤ 100000 ∧ ∀ H', Same H H' → Q (.bl (t.whole 0)) H'
theorem use_whole {K : PySem.W.Frag} {H : Hp} {Q : VK} {E : XK} {v : V} {t : Th} (r : R K H v t.d) (l : t.d.canLay0 = true) (z : t.sz ≤ 100000) (h : ∀ H', Same H H' → Q (.bl (t.whole 0)) H') : spWhole K [v] H Q E := ⟨v, t, rfl, r, l, z, h⟩
theorem ends_of {α : Type} {xs : List α} (h : xs.isEmpty = false) : ∃ ys y, xs = ys ++ [y] := by
  rcases List.eq_nil_or_concat xs with rfl | ⟨ys, y, rfl⟩
  · simp at h
  · exact ⟨ys, y, by simp⟩
theorem whole_push {ps : List (Th × Nat)} {p : Th × Nat} {W : Bool} (hn : ¬ p.1.word = "bound" ∨ (∃ k, p.1 = .bnd k ∧ k < p.2)) (h : ((ps ++ [p]).all fun p => p.1.whole p.2) = W) :
    ((ps ++ p.1.parts.map fun a => (a, p.2 + p.1.inner)).all fun p => p.1.whole p.2) = W := by
  rw [List.all_append] at h ⊢
  rw [← h]
  congr 1
  rw [List.all_map]
  rcases hn with hn | ⟨k, hk, hlt⟩
  · have e := Th.whole_step p.2 hn
    simp only [List.all_cons, List.all_nil, Bool.and_true]
    rw [e]
    rfl
  · obtain ⟨t, n⟩ := p
    simp only at hk hlt
    subst hk
    simp [Th.parts, Th.whole, hlt]
theorem psz_push {ps : List (Th × Nat)} {p : Th × Nat} (n : Nat) : psz (ps ++ p.1.parts.map fun a => (a, n)) + 1 = psz (ps ++ [p]) := by
  have h := Th.szs_parts p.1
  rw [psz_append, psz_append, psz_map]
  simp only [psz, List.map_cons, List.map_nil, List.sum_cons, List.sum_nil]
  omega
theorem lay_push {ps : List (Th × Nat)} {p : Th × Nat} (n : Nat) (h : ∀ q ∈ ps ++ [p], q.1.d.canLay0 = true) : ∀ q ∈ (ps ++ p.1.parts.map fun a => (a, n)), q.1.d.canLay0 = true := by
  intro q hq
  rcases List.mem_append.mp hq with hq | hq
  · exact h q (List.mem_append_left _ hq)
  · obtain ⟨a, ha, rfl⟩ := List.mem_map.mp hq
    exact Th.lay_parts (h p (List.mem_append_right _ (List.mem_singleton.mpr rfl))) a ha
theorem sz_mem {t : Th} : ∀ {ts : List Th}, t ∈ ts → t.sz ≤ Th.szs ts
  | x :: xs, h => by
    rcases List.mem_cons.mp h with rfl | h
    · exact Nat.le_add_right _ _
    · exact Nat.le_trans (sz_mem h) (Nat.le_add_left _ _)
end G

namespace G
open PySem PySem.Spec PyProof.Rows L2
def optD : Option Th → PyData
  | none => .none
  | some t => t.d
def leafP (old new : Option Th) (u : Nat) (t : Th) : Th := if PyData.eqv t.d (old.getD (.bnd u)).d = true then new.getD (.bnd u) else t
mutual
def Th.lput (old new : Option Th) (u : Nat) : Th → Th
  | .free x => leafP old new u (.free x)
  | .bnd k => leafP old new u (.bnd k)
  | .fls => .fls
  | .app w c args => .app w c (Th.lputs old new u args)
  | .qua w k a => .qua w k (a.lput old new (u + 1))
  | .two w a b => .two w (a.lput old new u) (b.lput old new u)
def Th.lputs (old new : Option Th) (u : Nat) : List Th → List Th
  | [] => []
  | t :: ts => t.lput old new u :: Th.lputs old new u ts
end
theorem Th.ds_lputs (old new : Option Th) (u : Nat) : ∀ ts : List Th, Th.ds (Th.lputs old new u ts) = ts.map fun t => (t.lput old new u).d
  | [] => rfl
  | t :: ts => by rw [Th.lputs, Th.ds, Th.ds_lputs old new u ts]; rfl
theorem Th.lputs_len (old new : Option Th) (u : Nat) : ∀ ts : List Th, (Th.lputs old new u ts).length = ts.length
  | [] => rfl
  | t :: ts => by rw [Th.lputs, List.length_cons, List.length_cons, Th.lputs_len old new u ts]
def orB (u : Nat) (d : PyData) : PyData := if isNone d = true then .tuple [.str "bound", .int (u : Nat)] else d
theorem isNone_d (t : Th) : isNone t.d = false := by cases t <;> rfl
theorem orB_opt (u : Nat) (o : Option Th) : orB u (optD o) = (o.getD (.bnd u)).d := by
  cases o with
  | none => rfl
  | some t => show (if isNone t.d = true then _ else t.d) = t.d; rw [isNone_d]; rfl
def LayO (o : Option Th) : Prop := ∀ t, o = some t → t.d.canLay0 = true
theorem LayO.get {o : Option Th} (h : LayO o) (u : Nat) : (o.getD (.bnd u)).d.canLay0 = true := by
  cases o with
  | none => exact Th.layT (F := []) (n := u + 1) (.bnd u) (Nat.lt_succ_self u)
  | some t => exact h t rfl
/-- rebuilt of other parts -/
def Th.rb (ts : List Th) : Th → Th
  | .app w c _ => .app w c ts
  | .qua w k a => .qua w k (ts.getD 0 a)
  | .two w a b => .two w (ts.getD 0 a) (ts.getD 1 b)
  | t => t
def spLput (K : PySem.W.Frag) (m : Nat) : Sp := fun vs H Q _ => ∃ (v vo vn : V) (t : Th) (old new : Option Th) (u : Nat), vs = [v, .int (u : Nat), vo, vn] ∧ R K H v t.d ∧ R K H vo (optD old) ∧ R K H vn (optD new) ∧ t.d.canLay0 = true ∧ LayO old ∧ t.dep ≤ m ∧ t.sz ≤ 100000 ∧
  ∀ x H', Same H H' → R K H' x (t.lput old new u).d → Q x H'
def spRb (K : PySem.W.Frag) : Sp := fun vs H Q _ => ∃ (v l : V) (t : Th) (ts : List Th), vs = [v, l] ∧ R K H v t.d ∧ R K H l (.list (Th.ds ts)) ∧ ts.length = t.parts.length ∧ ts.length ≤ 100000 ∧ 0 < t.rest.length - 1 ∧ ∀ x H', Same H H' → R K H' x (t.rb ts).d → Q x H'
theorem use_rb {K : PySem.W.Frag} {H : Hp} {Q : VK} {E : XK} {v l : V} {t : Th} {ts : List Th} (r : R K H v t.d) (rl : R K H l (.list (Th.ds ts))) (h1 : ts.length = t.parts.length) (h2 : ts.length ≤ 100000) (h3 : 0 < t.rest.length - 1) (h : ∀ x H', Same H H' → R K H' x (t.rb ts).d → Q x H') : spRb K [v, l] H Q E := ⟨v, l, t, ts, rfl, r, rl, h1, h2, h3, h⟩
theorem use_lput {K : PySem.W.Frag} {m : Nat} {H : Hp} {Q : VK} {E : XK} {v vo vn : V} {t : Th} {old new : Option Th} {u : Nat} (r : R K H v t.d) (ro : R K H vo (optD old)) (rn : R K H vn (optD new)) (l : t.d.canLay0 = true) (lo : LayO old) (hd : t.dep ≤ m) (hz : t.sz ≤ 100000)
    (h : ∀ x H', Same H H' → R K H' x (t.lput old new u).d → Q x H') : spLput K m [v, .int (u : Nat), vo, vn] H Q E := ⟨v, vo, vn, t, old, new, u, rfl, r, ro, rn, l, lo, hd, hz, h⟩
theorem int_bl1 {H : Hp} {Q : VK} (h : Q (.int 1) H) : rInt1 [.bl true] H Q := int_bl h
theorem int_bl0 {H : Hp} {Q : VK} (h : Q (.int 0) H) : rInt1 [.bl false] H Q := int_bl h
theorem int_bl2 {H : Hp} {Q : VK} {b : Bool} (h1 : b = true → Q (.int 1) H) (h0 : b = false → Q (.int 0) H) : rInt1 [.bl b] H Q := by
  cases b
  · exact int_bl (h0 rfl)
  · exact int_bl (h1 rfl)
theorem no_none {t : Th} (h : isNone t.d = true) : False := by rw [isNone_d] at h; cases h
/-- opened | closed | free_put: what they promise, of one kind: old and new given -/
def spOpen (K : PySem.W.Frag) : Sp := fun vs H Q _ => ∃ (v w : V) (b t : Th), vs = [v, w] ∧ R K H v b.d ∧ R K H w t.d ∧ b.d.canLay0 = true ∧ b.dep ≤ 90 ∧ b.sz ≤ 100000 ∧ ∀ x H', Same H H' → R K H' x (b.lput none (some t) 0).d → Q x H'
def spClose (K : PySem.W.Frag) : Sp := fun vs H Q _ => ∃ (v : V) (b : Th) (x : Str), vs = [v, .str x] ∧ R K H v b.d ∧ isNameS x = true ∧ b.d.canLay0 = true ∧ b.dep ≤ 90 ∧ b.sz ≤ 100000 ∧ ∀ u H', Same H H' → R K H' u (b.lput (some (.free x)) none 0).d → Q u H'
def spFPut (K : PySem.W.Frag) : Sp := fun vs H Q _ => ∃ (v w : V) (b t : Th) (x : Str), vs = [v, .str x, w] ∧ R K H v b.d ∧ R K H w t.d ∧ isNameS x = true ∧ b.d.canLay0 = true ∧ b.dep ≤ 90 ∧ b.sz ≤ 100000 ∧ ∀ u H', Same H H' → R K H' u (b.lput (some (.free x)) (some t) 0).d → Q u H'
theorem layO_none : LayO none := fun t h => by cases h
theorem layO_free {x : Str} (h : isNameS x = true) : LayO (some (.free x)) := fun t e => by
  cases e
  exact Th.layT (F := [x]) (n := 0) (.free x) ⟨h, by simp⟩
theorem layO_some {t : Th} (h : t.d.canLay0 = true) : LayO (some t) := fun t' e => by cases e; exact h
end G

namespace G
open PySem PySem.Spec PyProof.Rows L2
/-! enumerate over a tuple -/
theorem meets_enumT (l : Addr) (items : Array Value) (n : Nat) (dct : Option Addr) (sl : Array (Option Value)) :
    Meets (Builtin.«enumerate.__new__» ⟨[.type "enumerate", .ref l], []⟩) (fun _ R s => s.heap.get? l = some { cls := .type "tuple", dict := dct, data := .seq items n, slots := sl } ∧
      R (.ok (.ret (.ref (s.heap.push { cls := .type "tuple_iterator", data := .fields #[.ref l, .int 0 0] }).objs.size)))
        { s with heap := (s.heap.push { cls := .type "tuple_iterator", data := .fields #[.ref l, .int 0 0] }).push { cls := .type "enumerate", data := .fields #[.none, .bool false, .ref s.heap.objs.size, rawInt 0, .none, .none] } }) :=
  .of_wp fun prog w A R s h => by
    obtain ⟨hp, g, d, tk, os⟩ := s; obtain ⟨hl, h⟩ := h
    have hsub := sub_enumerate
    have hL : Heap.IsTuple (Shared.heap ⟨hp, g, d, tk, os⟩) l items := ⟨_, hl, rfl, n, rfl⟩
    wp_walk using PySem.AutoSeq1.wpAny_loadPart' hl
    refine wpAny_stack_any fun st => wpAny_pure ?_
    split
    · rename_i c _ _ _ _ _
      cases (c == Value.type "enumerate") <;>
      · wp_walk using PySem.AutoSeq1.wpAny_loadPart' hl, wpAny_pyIter_tuple hL
        exact ⟨_, rfl, h⟩
    · wp_walk using PySem.AutoSeq1.wpAny_loadPart' hl, wpAny_pyIter_tuple hL
      exact ⟨_, rfl, h⟩
section
variable {prog : Program} {w : World} {A : Around} {E : Value → Shared → Prop} {s : Shared}
theorem call_enumT {l : Addr} {items : Array Value} {Q : Value → Shared → Prop} (hL : s.heap.IsTuple l items)
    (h : ∀ h', IsEnum h' (s.heap.objs.size + 1) s.heap.objs.size 0 .none → h'.IsTupleIter s.heap.objs.size l 0 → h'.objs.size = s.heap.objs.size + 2 →
      (∀ b o, s.heap.get? b = some o → h'.get? b = some o) → Q (.ref (s.heap.objs.size + 1)) { s with heap := h' }) :
    wpAny (model prog w) A (call (.type "enumerate") [.ref l]) Q E s := by
  obtain ⟨⟨c, dct, dt, sl⟩, hl, hc, n, hd⟩ := hL
  replace hc : c = .type "tuple" := hc
  replace hd : dt = .seq items n := hd
  subst hc hd
  refine callType_new F.called_enumerate (by decide) (F.typeCall_enumerate_1 _) (F.newCall_enumerate_1 _) (fun obj => F.args_object_init_2 obj _) F.entry_enumerate_new
    (meets_enumT l items n dct sl) ⟨hl, ?_⟩
  have hz : (s.heap.push { cls := .type "tuple_iterator", data := .fields #[.ref l, .int 0 0] }).objs.size = s.heap.objs.size + 1 := Heap.size_push ..
  show _ ∧ _
  rw [hz]
  have he : IsEnum ((s.heap.push { cls := .type "tuple_iterator", data := .fields #[.ref l, .int 0 0] }).push
      { cls := .type "enumerate", data := .fields #[.none, .bool false, .ref s.heap.objs.size, rawInt 0, .none, .none] }) (s.heap.objs.size + 1) s.heap.objs.size 0 .none := by
    have := Heap.get?_push_size (s.heap.push { cls := .type "tuple_iterator", data := .fields #[.ref l, .int 0 0] })
      (o := { cls := .type "enumerate", data := .fields #[.none, .bool false, .ref s.heap.objs.size, rawInt 0, .none, .none] }) rfl
    rw [hz] at this; exact this
  exact ⟨⟨_, he, rfl⟩, h _ he ⟨_, Heap.get?_push_of_some _ (Heap.get?_push_size _ rfl), rfl, rfl⟩ (by rw [Heap.size_push, hz]) fun b o x => Heap.get?_push_of_some _ (Heap.get?_push_of_some _ x)⟩
end
/-- the tuple at a, each item in a new pair -/
def IteT (K : PySem.W.Frag) (a : Addr) : It :=
  ⟨fun i H => ∃ (xs : List V) (x : V), SqT K H a xs ∧ xs[i]? = some x, fun i H v H' => ∃ T x, v = .ref T ∧ H T = none ∧ H' = upd H T (.tup [.int (i : Nat), x]) ∧ ∀ xs, SqT K H a xs → xs[i]? = some x, fun i H => ∃ xs : List V, SqT K H a xs ∧ xs.length ≤ i⟩
theorem turn_enumT {P : Program} {w : World} {K : PySem.W.Frag} {elts : List Expr} {kk : Nat} {tpos : Pos} (a e it : Addr) :
    Turn P w K (.Tuple elts kk tpos) (IteT K a) [e, it] e (fun i h => (∃ old, IsEnum h e it ((i : Nat) : Int) old) ∧ h.IsTupleIter it a i ∧ e ≠ it) where
  mem := by simp
  obj := fun i h st b hb => by
    obtain ⟨⟨old, he⟩, ⟨o, ho, hc, hd⟩, _⟩ := st
    have e' : b = e ∨ b = it := by simpa using hb
    rcases e' with z | z
    · rw [z]; exact ⟨_, he, fun v q => nomatch q⟩
    · rw [z]; exact ⟨o, ho, fun v q => by rw [hd] at q; cases q⟩
  keep := fun i h h' st k => let ⟨⟨old, he⟩, hi, hne⟩ := st; ⟨⟨old, k e (by simp) _ he⟩, hi.at fun o q => k it (by simp) o q, hne⟩
  item := by
    intro X hP hw hK hc i pins s σ H E I hf st hg
    subst hP hw hK
    obtain ⟨⟨old, he⟩, hit, hne⟩ := st
    obtain ⟨xs, x, hq, hx⟩ := hg
    obtain ⟨its, rv, p, hz⟩ := I.tuple hq
    obtain ⟨u, hu, ru⟩ := rv.get hx
    have p' : s.heap.IsTuple a its.toArray := p
    have hel : e < s.heap.objs.size := Heap.lt_size he
    have hil : it < s.heap.objs.size := by obtain ⟨_, q, _⟩ := hit; exact Heap.lt_size q
    have hai : a ≠ it := by
      rintro rfl
      obtain ⟨o1, q1, c1, _⟩ := hit
      obtain ⟨o2, q2, c2, _⟩ := p'
      rw [q1] at q2
      cases q2
      rw [c1] at c2
      exact absurd c2 (by decide)
    have hea : e ∉ [it, a] := by
      intro hm
      rcases List.mem_cons.mp hm with z | hm
      · exact hne z
      · obtain rfl := List.mem_singleton.mp hm
        obtain ⟨o2, q2, c2, _⟩ := p'
        have he' : s.heap.get? e = _ := he
        rw [he'] at q2
        cases q2
        have c3 : (Value.type "enumerate" : Value) = .type "tuple" := c2
        exact absurd c3 (by decide)
    have hlt : i < its.toArray.size := by
      have := (List.getElem?_eq_some_iff.mp hu).1
      simpa using this
    refine wpAny_pyNext_enum_itemD (Draws.tuple (by exact (I.ok.hd hc)) it a hai its.toArray) he ⟨hit, p'⟩ hlt hne hea fun x' h' tk hP ho hst' hT hsz hk => ?_
    have hxu : x' = u := by
      have h1 : its.toArray[i]? = some x' := hP
      have h2 : its.toArray[i]? = some u := by simpa using hu
      rw [h1] at h2
      exact Option.some.inj h2
    subst hxu
    refine ⟨_, rfl, wpAny_letOwnedTupleGo_enum (s := { s with heap := h', toks := tk + 1 }) ho fun h'' he' sb => ?_⟩
    have hT2 : h''.get? s.heap.objs.size = some { cls := .type "tuple", data := .seq #[.int i tk, x'] } := (sb.2 _ (Nat.ne_of_gt hel)).trans hT
    have new : ObjOk X.prog X.w (upd H s.heap.objs.size (.tup [.int (i : Nat), x])) h'' s.heap.objs.size (.tup [.int (i : Nat), x]) :=
      ⟨by show 2 ≤ sizeLine; decide, [.int i tk, x'], .cons ⟨_, rfl⟩ (.cons ru .nil), ⟨_, hT2, rfl, _, rfl⟩⟩
    have I1 : Inv X pins σ (upd H s.heap.objs.size (.tup [.int (i : Nat), x])) { s with heap := h'', toks := tk + 1 } :=
      I.turnedNew (ch := [e, it]) (fun b ob hb q => (sb.2 b (fun z => hb (by simp [z]))).trans (hk b ob (fun z => hb (by simp [z])) (fun z => hb (by simp [z])) q)) hf (Nat.le_refl _) new
    refine ⟨.ref s.heap.objs.size, _, I1, rfl, ⟨_, x, rfl, I.hok.fresh (Nat.le_refl _), rfl, fun ys hy => by rw [I.tuple_inj hy hq]; exact hx⟩, ⟨⟨x', ?_⟩, hst'.1.at fun o q => (sb.2 it (Ne.symm hne)).trans q, hne⟩, fun b hb => ?_⟩
    · have e1 : ((i + 1 : Nat) : Int) = (i : Int) + 1 := by omega
      rw [e1]; exact he'
    · have hb' : b < s.heap.objs.size := by
        have e' : b = e ∨ b = it := by simpa using hb
        rcases e' with z | z
        · rw [z]; exact hel
        · rw [z]; exact hil
      rw [upd_ne (Nat.ne_of_lt hb')]
      exact (hf b hb).1
  done := by
    intro X hP hw hK hc i pins s σ H E I hf st hg
    subst hP hw hK
    obtain ⟨⟨old, he⟩, hit, hne⟩ := st
    obtain ⟨xs, hq, hx⟩ := hg
    obtain ⟨its, rv, p, hz⟩ := I.tuple hq
    obtain ⟨f0, f1, f2, f3, f4, f5⟩ := hf it (by simp)
    have hl := rv.length
    have p' : s.heap.IsTuple a its.toArray := p
    have hea : e ≠ a := by
      rintro rfl
      obtain ⟨o2, q2, c2, _⟩ := p'
      have he' : s.heap.get? e = _ := he
      rw [he'] at q2
      cases q2
      have c3 : (Value.type "enumerate" : Value) = .type "tuple" := c2
      exact absurd c3 (by decide)
    have D : Draws X.prog X.w X.A.in1 it [it, a] i (fun _ _ => True) (fun j h => j = i ∧ h.IsTupleIter it a i ∧ h.IsTuple a its.toArray) :=
      { live := fun _ _ st => let ⟨o, ho, _⟩ := st.2.1; ⟨o, ho⟩
        frame := fun _ _ _ st hk => ⟨st.1, st.2.1.at fun o q => hk it (by simp) o q, st.2.2.at fun o q => hk a (by simp) o q⟩
        item := fun j s' Q E' hj st _ => absurd st.1 (Nat.ne_of_lt hj)
        done := fun s' Q E' st hE => wpAny_nextOf_tuple_end (by exact (I.ok.hd hc)) st.2.1 st.2.2 (by simp; omega) hE }
    exact wpAny_pyNext_enum_endD D he ⟨rfl, hit, p'⟩ fun h' eb => ⟨rfl, I.turned (t' := s.toks) (fun b o hb q => eb b o hb q) f0 f1 f3 f4 f5⟩
  self := fun A i s Q E st h => let ⟨⟨_, he⟩, _⟩ := st; wpAny_pyIter_enum he h
def iEnumT (K : PySem.W.Frag) (ta : TA) : TI := fun σ H R => ta σ H fun vs H1 => ∃ a xs, vs = [.ref a] ∧ SqT K H1 a xs ∧ R (IteT K a) H1
theorem pi_enumT {X : Cx} {e : Expr} {ta : TA} {p pos tpos : Pos} {elts : List Expr} {kk : Nat} (hg : Gl X "enumerate") (hm : X.mg "enumerate" = none) (ha : PA X [e] ta) (hs : starEach [e] X.env = [(false, eval e X.env)] := by rfl) :
    PI X (.Tuple elts kk tpos) (.Call (.Name "enumerate" p) [e] [] pos) (iEnumT X.K ta) := by
  refine ⟨fun pins s σ H R I h => ?_⟩
  refine Call_ (ld_blt I hg hm boot_enumerate (PyProof.Rows.callWith_type1 (thn (ha.run pos pins s σ H _ I h) fun us s1 ⟨vs, H1, I1, r1, q1⟩ => ?_) hs rfl))
  obtain ⟨a, xs, ex, hq, q⟩ := q1
  subst ex
  cases r1 with
  | cons r rr =>
    cases rr
    cases r
    obtain ⟨its, rv, p', hz⟩ := I1.tuple hq
    refine call_enumT (show s1.heap.IsTuple a its.toArray from p') fun h' he hit hsz hk => wpAny_pyIter_enum he ?_
    have I2 : Inv X pins σ H1 { s1 with heap := h' } := I1.kept (t' := s1.toks) hk
    refine ⟨s1.heap.objs.size + 1, [s1.heap.objs.size + 1, s1.heap.objs.size], _, _, H1, rfl, I2, turn_enumT a (s1.heap.objs.size + 1) s1.heap.objs.size, ⟨⟨.none, he⟩, hit, Nat.succ_ne_self _⟩, fun b hb => ?_, q⟩
    have e' : b = s1.heap.objs.size + 1 ∨ b = s1.heap.objs.size := by simpa using hb
    have hle : s1.heap.objs.size ≤ b := by
      rcases e' with z | z
      · rw [z]; exact Nat.le_add_right _ _
      · rw [z]; exact Nat.le_refl _
    exact I1.fpOk hle (I1.hok.fresh hle)
section
variable {K : PySem.W.Frag} {a : Addr} {xs : List V}
theorem walk_enumT : Walk (IteT K a) xs.length (fun H => SqT K H a xs) (YPair (fun i => some (.int (i : Nat))) (fun i => xs[i]?)) := by
  refine ⟨fun i _ hi q => ⟨xs, xs[i], q, by simp [hi]⟩, fun _ q => ⟨xs, q, Nat.le_refl _⟩, fun i H v H' _ q y => ?_⟩
  obtain ⟨T, x, h1, h2, h3, h4⟩ := y
  exact ⟨T, .int (i : Nat), x, h1, h2, h3, rfl, h4 xs q⟩
end
end G

namespace G
open PySem PySem.Spec PyProof.Rows L2
theorem pi_enumTK (K : PySem.W.Frag) {X : Cx} {e : Expr} {ta : TA} {p pos tpos : Pos} {elts : List Expr} {kk : Nat} (hg : Gl X "enumerate") (hm : X.mg "enumerate" = none) (ha : PA X [e] ta) (hs : starEach [e] X.env = [(false, eval e X.env)] := by rfl) (hK : X.K = K := by rfl) :
    PI X (.Tuple elts kk tpos) (.Call (.Name "enumerate" p) [e] [] pos) (iEnumT K ta) := hK ▸ pi_enumT hg hm ha hs
abbrev g2 (K : PySem.W.Frag) (i j : Nat) : TG := gTup K 2 (gCons (gName i) (gCons (gName j) gNil))
/-! for -/
def ForG (J : It) (g : TG) (tb : TS) (D : Ends) (σ : L2.St) (H : Hp) : Prop := ∃ W : Nat → Nat → L2.St → Hp → Prop, (∃ m, W 0 m σ H) ∧ ∀ i m σ H, W i m σ H →
  (J.stop i H ∧ D.nx σ H) ∨ (J.go i H ∧ ∃ N : L2.St → Hp → Prop, (∀ σ' H', N σ' H' → ∃ m', m' < m ∧ W (i + 1) m' σ' H') ∧ ∀ x H', J.yld i H x H' → g x σ H' fun σ2 H2 => tb { D with nx := N, ct := N, bk := D.nx } σ2 H2)
def ForT (K : PySem.W.Frag) (g : TG) (tb : TS) (D : Ends) (σ : L2.St) (x : V) (H : Hp) : Prop := ∃ a, x = .ref a ∧ (∃ xs, SqT K H a xs) ∧ ForG (Itt K a) g tb D σ H
def ForL (K : PySem.W.Frag) (g : TG) (tb : TS) (D : Ends) (σ : L2.St) (x : V) (H : Hp) : Prop := ∃ a, x = .ref a ∧ (∃ xs, SqL K H a xs) ∧ ForG (Itl K a) g tb D σ H
def ForE (K : PySem.W.Frag) (g : TG) (tb : TS) (D : Ends) (σ : L2.St) (vs : List V) (H : Hp) : Prop := ∃ a xs, vs = [.ref a] ∧ SqT K H a xs ∧ ForG (IteT K a) g tb D σ H
section
variable {K : PySem.W.Frag} {te : TE} {ta : TA} {g : TG} {tb : TS} {D : Ends} {σ : L2.St} {H : Hp} {x : V} {ds : List PyData} {i j : Nat} {nx bk ct : L2.St → Hp → Prop} {rt : VK}
theorem st_forT (h : te σ H fun x H1 => ForT K g tb D σ x H1) : tFor (iTup K te) g tb D σ H := h
theorem st_forL (h : te σ H fun x H1 => ForL K g tb D σ x H1) : tFor (iList K te) g tb D σ H := h
theorem st_forE (h : ta σ H fun vs H1 => ForE K g tb D σ vs H1) : tFor (iEnumT K ta) g tb D σ H := by
  exact h
theorem for_T (Pv : Nat → L2.St → Hp → Prop) (r : R K H x (.tuple ds)) (start : Pv 0 σ H) (keep : ∀ k σ' H', Pv k σ' H' → Same H H')
    (turn : ∀ k d v σ' H', ds[k]? = some d → R K H' v d → Pv k σ' H' → tb ⟨Pv (k + 1), rt, nx, Pv (k + 1)⟩ (σ'.set j (some v)) H') (fin : ∀ σ' H', Pv ds.length σ' H' → nx σ' H') : ForT K (gName j) tb ⟨nx, rt, bk, ct⟩ σ x H := by
  obtain ⟨a, xs, rfl, ha, ra⟩ := r.inv_tup
  refine ⟨a, rfl, ⟨xs, ha⟩, ?_⟩
  rw [← ra.length] at fin
  refine for_it (walk_tup (K := K) (a := a) (xs := xs)) (g := gName j) (tb := tb) (D := ⟨nx, rt, bk, ct⟩) Pv start (fun k σ' H' _ p => (keep _ _ _ p).tup ha) (fun k y σ' H' H'' hk p q => ?_) fin
  obtain ⟨rfl, hy⟩ := q
  obtain ⟨d, e1, e2⟩ := ra.getV hy
  exact turn k d y σ' _ e1 (e2.mono (keep _ _ _ p)) p
theorem for_L2 (Pv : Nat → L2.St → Hp → Prop) (r : R K H x (.list ds)) (start : Pv 0 σ H) (keep : ∀ k σ' H', Pv k σ' H' → Same H H') (hp : ∀ d ∈ ds, ∃ d1 d2, d = .tuple [d1, d2])
    (turn : ∀ k d1 d2 v1 v2 σ' H', ds[k]? = some (.tuple [d1, d2]) → R K H' v1 d1 → R K H' v2 d2 → Pv k σ' H' → tb ⟨Pv (k + 1), rt, nx, Pv (k + 1)⟩ ((σ'.set i (some v1)).set j (some v2)) H') (fin : ∀ σ' H', Pv ds.length σ' H' → nx σ' H') : ForL K (g2 K i j) tb ⟨nx, rt, bk, ct⟩ σ x H := by
  obtain ⟨a, xs, rfl, ha, ra⟩ := r.inv_lst
  refine ⟨a, rfl, ⟨xs, .inl (.inl ha)⟩, ?_⟩
  rw [← ra.length] at fin
  refine for_it (walk_list (K := K) (a := a) (xs := xs)) (g := g2 K i j) (tb := tb) (D := ⟨nx, rt, bk, ct⟩) Pv start (fun k σ' H' _ p => (keep _ _ _ p).seq (.inl (.inl ha))) (fun k y σ' H' H'' hk p q => ?_) fin
  obtain ⟨rfl, hy⟩ := q
  obtain ⟨d, e1, e2⟩ := ra.getV hy
  obtain ⟨d1, d2, rfl⟩ := hp d (List.mem_of_getElem? e1)
  exact gtup2 (e2.mono (keep _ _ _ p)) fun v1 v2 r1 r2 => turn k d1 d2 v1 v2 σ' _ e1 r1 r2 p
theorem for_E (Pv : Nat → L2.St → Hp → Prop) (r : R K H x (.tuple ds)) (start : Pv 0 σ H) (keep : ∀ k σ' H', Pv k σ' H' → Same H H') (mono : ∀ k σ' H' H'', Pv k σ' H' → Same H' H'' → Pv k σ' H'')
    (turn : ∀ (k : Nat) d v σ' H', ds[k]? = some d → R K H' v d → Pv k σ' H' → tb ⟨Pv (k + 1), rt, nx, Pv (k + 1)⟩ ((σ'.set i (some (.int (k : Int)))).set j (some v)) H') (fin : ∀ σ' H', Pv ds.length σ' H' → nx σ' H') : ForE K (g2 K i j) tb ⟨nx, rt, bk, ct⟩ σ [x] H := by
  obtain ⟨a, xs, rfl, ha, ra⟩ := r.inv_tup
  refine ⟨a, xs, rfl, ha, ?_⟩
  rw [← ra.length] at fin
  refine for_it (walk_enumT (K := K) (a := a) (xs := xs)) (g := g2 K i j) (tb := tb) (D := ⟨nx, rt, bk, ct⟩) Pv start (fun k σ' H' _ p => (keep _ _ _ p).tup ha) (fun k y σ' H' H'' hk p q => ?_) fin
  obtain ⟨T, y1, y2, rfl, hT, rfl, h1, h2⟩ := q
  cases h1
  obtain ⟨d, e1, e2⟩ := ra.getV h2
  have s0 : Same H' (upd H' T (.tup [.int (k : Int), y2])) := same_new hT _
  have r2 : R K (upd H' T (.tup [.int (k : Int), y2])) y2 d := (e2.mono (keep _ _ _ p)).mono s0
  exact ⟨T, _, rfl, .inl (.inl upd_same), rfl, _, _, rfl, _, _, rfl, rfl, turn k d y2 σ' _ e1 r2 (mono _ _ _ _ p s0)⟩
end
/-! a comprehension over a list of pairs taken apart -/
def LcL2 (K : PySem.W.Frag) (i j : Nat) (te : TE) (vs : List Nat) (σ : L2.St) (x : V) (H : Hp) (Q : VK) : Prop := ∃ a, x = .ref a ∧ (∃ xs, SqL K H a xs) ∧
    ∀ D, H D = none → ∃ W : Nat → Nat → Hp → Prop, (∃ m, W 0 m (upd H D (.lst []))) ∧ ∀ k m H, W k m H →
      ((Itl K a).stop k H ∧ Q (.ref D) H) ∨ ((Itl K a).go k H ∧ ∃ Nx : Hp → Prop, (∀ H', Nx H' → ∃ m', m' < m ∧ W (k + 1) m' H') ∧ ∀ x H', (Itl K a).yld k H x H' → g2 K i j x (wipe σ vs) H' fun σ2 H2 => wipe σ2 vs = wipe σ vs ∧ tYes σ2 H2 fun b H3 =>
        if b = true then (tHide te) σ2 H3 fun y H4 => ∃ acc, H4 D = some (.lst acc) ∧ acc.length < sizeLine ∧ Nx (upd H4 D (.lst (acc ++ [y]))) else Nx H3)
section
variable {K : PySem.W.Frag} {te : TE} {vs : List Nat} {σ : L2.St} {H : Hp} {Q : VK} {i j : Nat}
theorem st_lcL2 {tl : TE} (h : tl σ H fun x H1 => LcL2 K i j te vs σ x H1 Q) : tLc (iList K tl) (g2 K i j) tYes (tHide te) vs σ H Q := h
theorem lcL2_f (f : PyData → PyData) {x : V} {ds : List PyData} (r : R K H x (.list ds)) (hn : ds.length ≤ 1000000) (hw : ∀ x y, wipe (((wipe σ vs).set i (some x)).set j (some y)) vs = wipe σ vs) (hp : ∀ d ∈ ds, ∃ d1 d2, d = .tuple [d1, d2])
    (he : ∀ v1 v2 d1 d2 H1, .tuple [d1, d2] ∈ ds → R K H1 v1 d1 → R K H1 v2 d2 → Same H H1 → ∀ Qt : VK, (∀ y H2, Same H1 H2 → R K H2 y (f (.tuple [d1, d2])) → Qt y H2) → te (((wipe σ vs).set i (some v1)).set j (some v2)) H1 Qt)
    (hq : ∀ v H1, Same H H1 → R K H1 v (.list (ds.map f)) → Q v H1) : LcL2 K i j te vs σ x H Q := by
  obtain ⟨a, ws, rfl, ha, rds⟩ := r.inv_lst
  refine ⟨a, rfl, ⟨ws, .inl (.inl ha)⟩, ?_⟩
  have hlen := rds.length
  intro D hD
  let Pv : Nat → Hp → Prop := fun k H' => ∃ Hb xs, H' = upd Hb D (.lst xs) ∧ Hb D = none ∧ Same H Hb ∧ k ≤ ds.length ∧ RA K Hb xs ((ds.take k).map f)
  refine L2.lc_it (walk_list (K := K) (a := a) (xs := ws)) Pv ?_ ?_ ?_ ?_
  · exact ⟨H, [], rfl, hD, Same.refl _, Nat.zero_le _, .nil⟩
  · rintro k H' hi ⟨Hb, xs, rfl, hb, sm, _⟩
    exact (sm.trans (same_new hb _)).seq (.inl (.inl ha))
  · rintro k x H' H'' hi ⟨Hb, xs, rfl, hb, sm, hk, ra⟩ y
    obtain ⟨rfl, hx⟩ := y
    obtain ⟨d, e1, e2⟩ := rds.getV hx
    obtain ⟨d1, d2, rfl⟩ := hp d (List.mem_of_getElem? e1)
    obtain ⟨b, zs, rfl, hb2, rb⟩ := (e2.mono sm).inv_tup
    obtain ⟨v1, zs, rfl, r1, rb⟩ := rb.inv_cons
    obtain ⟨v2, zs, rfl, r2, rb⟩ := rb.inv_cons
    have := rb.inv_nil
    subst this
    refine ⟨b, _, rfl, (same_new hb _).tup hb2, rfl, v1, _, rfl, v2, _, rfl, rfl, hw _ _, ?_⟩
    unfold tYes
    dsimp only
    rw [if_pos rfl]
    refine ⟨D, xs, upd_same, ?_⟩
    rw [hide_upd hb]
    have hxl : xs.length = k := by rw [ra.length, List.length_map, List.length_take]; omega
    refine he v1 v2 d1 d2 Hb (List.mem_of_getElem? e1) r1 r2 sm _ fun y H2 s2 re n2 => ⟨xs, upd_same, ?_, ?_⟩
    · exact Nat.lt_of_le_of_lt (by omega : xs.length ≤ 1000000) (by decide)
    · rw [upd_upd]
      have hkl : k < ds.length := (List.getElem?_eq_some_iff.mp e1).1
      refine ⟨H2, xs ++ [y], rfl, n2, sm.trans s2, hkl, ?_⟩
      have e3 : (ds.take (k + 1)).map f = (ds.take k).map f ++ [f (.tuple [d1, d2])] := by
        rw [List.take_add_one, e1, List.map_append]; rfl
      rw [e3]
      exact (ra.mono s2).append (.cons re .nil)
  · rintro H' ⟨Hb, xs, rfl, hb, sm, hk, ra⟩
    rw [hlen, List.take_length] at ra
    exact hq _ _ (sm.trans (same_new hb _)) (.lst upd_same (ra.mono (same_new hb _)))
end
theorem ix_lstN {K : PySem.W.Frag} {H : Hp} {Q : VK} {x : V} {ds : List PyData} {i : Int} (r : R K H x (.list ds)) (h0 : 0 ≤ i) (h1 : i < (ds.length : Int)) (h : ∀ v d, ds[i.toNat]? = some d → R K H v d → Q v H) : rIx K x (.int i) H Q :=
  ix_lstR r h0 (List.getElem?_eq_getElem (by omega)) fun v rv => h v _ (List.getElem?_eq_getElem (by omega)) rv
theorem ix_tupN {K : PySem.W.Frag} {H : Hp} {Q : VK} {x : V} {ds : List PyData} {i : Int} (r : R K H x (.tuple ds)) (h0 : 0 ≤ i) (h1 : i < (ds.length : Int)) (h : ∀ v d, ds[i.toNat]? = some d → R K H v d → Q v H) : rIx K x (.int i) H Q :=
  ix_tupR r h0 (List.getElem?_eq_getElem (by omega)) fun v rv => h v _ (List.getElem?_eq_getElem (by omega)) rv
/-! a list of one's own, stored into -/
def rListF (K : PySem.W.Frag) : List V → Hp → VK → Prop := rListOf K
theorem list_KF (K : PySem.W.Frag) {X : Cx} (hK : X.K = K := by rfl) : CallR X (.type "list") (rListF K) := list_K K hK
theorem listF {K : PySem.W.Frag} {H : Hp} {Q : VK} {x : V} {ds : List PyData} (r : R K H x (.tuple ds)) (h : ∀ p xs H', H p = none → Same H H' → H' p = some (.lst xs) → RA K H' xs ds → Q (.ref p) H') : rListF K [x] H Q := by
  obtain ⟨a, ys, rfl, ha, ra⟩ := r.inv_tup
  exact ⟨a, ys, rfl, .inr ha, fun l hl => h l ys _ hl (same_new hl _) upd_same (ra.mono (same_new hl _))⟩
theorem RA.set {K : PySem.W.Frag} {H : Hp} {v : V} {d : PyData} (r : R K H v d) : ∀ {vs : List V} {ds : List PyData} (i : Nat), RA K H vs ds → RA K H (vs.set i v) (ds.set i d)
  | _, _, _, .nil => .nil
  | _, _, 0, .cons _ t => .cons r t
  | _, _, i + 1, .cons a t => .cons a (RA.set r i t)
theorem setR {K : PySem.W.Frag} {H : Hp} {QH : Hp → Prop} {l : Addr} {xs : List V} {ds : List PyData} {v : V} {d : PyData} {i : Nat} (hl : H l = some (.lst xs)) (ra : RA K H xs ds) (r : R K H v d) (hi : i < ds.length) (hz : ds.length ≤ 1000000) (hn : noLs ds = true) (hn' : noL d = true)
    (h : ∀ ws H', SameX l H H' → H' l = some (.lst ws) → RA K H' ws (ds.set i d) → QH H') : rSetL (.ref l) (.int (i : Nat)) v H QH := by
  refine set_at (i := i) hl ?_ ?_
  · have := ra.length
    unfold ixN
    simp
    omega
  · exact h _ _ .upd upd_same (RA.set (r.monoX .upd hl hn') i (ra.monoX .upd hl hn))
end G

namespace G
open PySem PySem.Spec PyProof.Rows L2
/-! enumerate over a text: each sign in a new pair -/
def IteS (z : Str) : It :=
  ⟨fun i _ => i < z.cps.size, fun i H v H' => ∃ T c, v = .ref T ∧ H T = none ∧ H' = upd H T (.tup [.int (i : Nat), .str ⟨#[c]⟩]) ∧ z.cps[i]? = some c, fun i _ => z.cps.size ≤ i⟩
theorem turn_enumS {P : Program} {w : World} {K : PySem.W.Frag} {elts : List Expr} {kk : Nat} {tpos : Pos} (z : Str) (t : Tok) (e it : Addr) :
    Turn P w K (.Tuple elts kk tpos) (IteS z) [e, it] e (fun i h => (∃ old, IsEnum h e it ((i : Nat) : Int) old) ∧ h.IsStrIter it (strIterType z) z t i ∧ e ≠ it) where
  mem := by simp
  obj := fun i h st b hb => by
    obtain ⟨⟨old, he⟩, ⟨o, ho, hc, hd⟩, _⟩ := st
    have e' : b = e ∨ b = it := by simpa using hb
    rcases e' with z | z
    · rw [z]; exact ⟨_, he, fun v q => nomatch q⟩
    · rw [z]; exact ⟨o, ho, fun v q => by rw [hd] at q; cases q⟩
  keep := fun i h h' st k => let ⟨⟨old, he⟩, hi, hne⟩ := st; ⟨⟨old, k e (by simp) _ he⟩, (let ⟨o, ho, r⟩ := hi; ⟨o, k it (by simp) o ho, r⟩), hne⟩
  item := by
    intro X hP hw hK hc i pins s σ H E I hf st hg
    subst hP hw hK
    obtain ⟨⟨old, he⟩, hit, hne⟩ := st
    have hlt : i < z.cps.size := hg
    have hel : e < s.heap.objs.size := Heap.lt_size he
    have hil : it < s.heap.objs.size := by obtain ⟨_, q, _⟩ := hit; exact Heap.lt_size q
    have hea : e ∉ [it] := by
      intro hm
      exact hne (List.mem_singleton.mp hm)
    refine wpAny_pyNext_enum_itemD (Draws.text (by exact (I.ok.hd hc)) it z t) he hit hlt hne hea fun x' h' tk hP ho hst' hT hsz hk => ?_
    obtain ⟨c, u, hcx, rfl⟩ := hP
    refine ⟨_, rfl, wpAny_letOwnedTupleGo_enum (s := { s with heap := h', toks := tk + 1 }) ho fun h'' he' sb => ?_⟩
    have hT2 : h''.get? s.heap.objs.size = some { cls := .type "tuple", data := .seq #[.int i tk, .str ⟨#[c]⟩ u] } := (sb.2 _ (Nat.ne_of_gt hel)).trans hT
    have new : ObjOk X.prog X.w (upd H s.heap.objs.size (.tup [.int (i : Nat), .str ⟨#[c]⟩])) h'' s.heap.objs.size (.tup [.int (i : Nat), .str ⟨#[c]⟩]) :=
      ⟨by show 2 ≤ sizeLine; decide, [.int i tk, .str ⟨#[c]⟩ u], .cons ⟨_, rfl⟩ (.cons ⟨_, rfl⟩ .nil), ⟨_, hT2, rfl, _, rfl⟩⟩
    have I1 : Inv X pins σ (upd H s.heap.objs.size (.tup [.int (i : Nat), .str ⟨#[c]⟩])) { s with heap := h'', toks := tk + 1 } :=
      I.turnedNew (ch := [e, it]) (fun b ob hb q => (sb.2 b (fun z => hb (by simp [z]))).trans (hk b ob (fun z => hb (by simp [z])) (fun z => hb (by simp [z])) q)) hf (Nat.le_refl _) new
    refine ⟨.ref s.heap.objs.size, _, I1, rfl, ⟨_, c, rfl, I.hok.fresh (Nat.le_refl _), rfl, hcx⟩, ⟨⟨.str ⟨#[c]⟩ u, ?_⟩, (let ⟨o, ho2, r⟩ := hst'; ⟨o, (sb.2 it (Ne.symm hne)).trans ho2, r⟩), hne⟩, fun b hb => ?_⟩
    · have e1 : ((i + 1 : Nat) : Int) = (i : Int) + 1 := by omega
      rw [e1]; exact he'
    · have hb' : b < s.heap.objs.size := by
        have e' : b = e ∨ b = it := by simpa using hb
        rcases e' with z | z
        · rw [z]; exact hel
        · rw [z]; exact hil
      rw [upd_ne (Nat.ne_of_lt hb')]
      exact (hf b hb).1
  done := by
    intro X hP hw hK hc i pins s σ H E I hf st hg
    subst hP hw hK
    obtain ⟨⟨old, he⟩, hit, hne⟩ := st
    obtain ⟨f0, f1, f2, f3, f4, f5⟩ := hf it (by simp)
    have hx : z.cps[i]? = none := Array.getElem?_eq_none hg
    have D : Draws X.prog X.w X.A.in1 it [it] i (fun _ _ => True) (fun j h => j = i ∧ h.IsStrIter it (strIterType z) z t i) := by
      refine
      { live := fun _ _ st => let ⟨o, ho, _⟩ := st.2; ⟨o, ho⟩
        frame := fun _ _ _ st hk => ⟨st.1, (let ⟨o, ho, r⟩ := st.2; ⟨o, hk it (by simp) o ho, r⟩)⟩
        item := fun j s' Q E' hj st _ => absurd st.1 (Nat.ne_of_lt hj)
        done := fun s' Q E' st hE => ?_ }
      have h2 := st.2
      cases ha : z.cps.all (· < 128)
      · simp only [strIterType, ha, Bool.false_eq_true, if_false] at h2
        exact wpAny_nextOf_wide_end (by exact (I.ok.hd hc)) h2 hx hE
      · simp only [strIterType, ha, if_true] at h2
        exact wpAny_nextOf_ascii_end (by exact (I.ok.hd hc)) h2 hx hE
    exact wpAny_pyNext_enum_endD D he ⟨rfl, hit⟩ fun h' eb => ⟨rfl, I.turned (t' := s.toks) (fun b o hb q => eb b o hb q) f0 f1 f3 f4 f5⟩
  self := fun A i s Q E st h => let ⟨⟨_, he⟩, _⟩ := st; wpAny_pyIter_enum he h
def iEnumS (ta : TA) : TI := fun σ H R => ta σ H fun vs H1 => ∃ z, vs = [.str z] ∧ R (IteS z) H1
theorem pi_enumS {X : Cx} {e : Expr} {ta : TA} {p pos tpos : Pos} {elts : List Expr} {kk : Nat} (hg : Gl X "enumerate") (hm : X.mg "enumerate" = none) (ha : PA X [e] ta) (hs : starEach [e] X.env = [(false, eval e X.env)] := by rfl) :
    PI X (.Tuple elts kk tpos) (.Call (.Name "enumerate" p) [e] [] pos) (iEnumS ta) := by
  refine ⟨fun pins s σ H R I h => ?_⟩
  refine Call_ (ld_blt I hg hm boot_enumerate (PyProof.Rows.callWith_type1 (thn (ha.run pos pins s σ H _ I h) fun us s1 ⟨vs, H1, I1, r1, q1⟩ => ?_) hs rfl))
  obtain ⟨z, ex, q⟩ := q1
  subst ex
  cases r1 with
  | cons r rr =>
    cases rr
    obtain ⟨t, rfl⟩ := r
    refine call_enumerate_str fun h' he hit hsz hk => wpAny_pyIter_enum he ?_
    have I2 : Inv X pins σ H1 { s1 with heap := h' } := I1.kept (t' := s1.toks) hk
    refine ⟨s1.heap.objs.size + 1, [s1.heap.objs.size + 1, s1.heap.objs.size], _, _, H1, rfl, I2, turn_enumS z t (s1.heap.objs.size + 1) s1.heap.objs.size, ⟨⟨.none, he⟩, hit, Nat.succ_ne_self _⟩, fun b hb => ?_, q⟩
    have e' : b = s1.heap.objs.size + 1 ∨ b = s1.heap.objs.size := by simpa using hb
    have hle : s1.heap.objs.size ≤ b := by
      rcases e' with z | z
      · rw [z]; exact Nat.le_add_right _ _
      · rw [z]; exact Nat.le_refl _
    exact I1.fpOk hle (I1.hok.fresh hle)
theorem walk_enumS {z : Str} : Walk (IteS z) z.cps.size (fun _ => True) (YPair (fun i => some (.int (i : Nat))) (fun i => (z.cps[i]?).map fun c => .str ⟨#[c]⟩)) := by
  refine ⟨fun i _ hi _ => hi, fun _ _ => Nat.le_refl _, fun i H v H' _ _ y => ?_⟩
  obtain ⟨T, c, h1, h2, h3, h4⟩ := y
  exact ⟨T, .int (i : Nat), .str ⟨#[c]⟩, h1, h2, h3, rfl, by show (z.cps[i]?).map _ = _; rw [h4]; rfl⟩
def ForS (g : TG) (tb : TS) (D : Ends) (σ : L2.St) (vs : List V) (H : Hp) : Prop := ∃ z, vs = [.str z] ∧ ForG (IteS z) g tb D σ H
section
variable {K : PySem.W.Frag} {ta : TA} {g : TG} {tb : TS} {D : Ends} {σ : L2.St} {H : Hp} {z : Str} {i j : Nat} {nx bk ct : L2.St → Hp → Prop} {rt : VK}
theorem st_forS (h : ta σ H fun vs H1 => ForS g tb D σ vs H1) : tFor (iEnumS ta) g tb D σ H := by
  exact h
theorem for_S (Pv : Nat → L2.St → Hp → Prop) (start : Pv 0 σ H) (mono : ∀ k σ' H' H'', Pv k σ' H' → Same H' H'' → Pv k σ' H'')
    (turn : ∀ (k : Nat) c σ' H', z.cps.toList[k]? = some c → Pv k σ' H' → tb ⟨Pv (k + 1), rt, nx, Pv (k + 1)⟩ ((σ'.set i (some (.int (k : Int)))).set j (some (.str ⟨#[c]⟩))) H') (fin : ∀ σ' H', Pv z.length σ' H' → nx σ' H') : ForS (g2 K i j) tb ⟨nx, rt, bk, ct⟩ σ [.str z] H := by
  refine ⟨z, rfl, ?_⟩
  refine for_it (walk_enumS (z := z)) (g := g2 K i j) (tb := tb) (D := ⟨nx, rt, bk, ct⟩) Pv start (fun k σ' H' _ p => True.intro) (fun k y σ' H' H'' hk p q => ?_) fin
  obtain ⟨T, y1, y2, rfl, hT, rfl, h1, h2⟩ := q
  cases h1
  obtain ⟨c, hc, rfl⟩ := Option.map_eq_some_iff.mp h2
  have s0 : Same H' (upd H' T (.tup [.int (k : Int), .str ⟨#[c]⟩])) := same_new hT _
  exact ⟨T, _, rfl, .inl (.inl upd_same), rfl, _, _, rfl, _, _, rfl, rfl, turn k c σ' _ (by simpa using hc) (mono _ _ _ _ p s0)⟩
end
end G
namespace G
open PySem PySem.Spec PyProof.Rows L2
theorem neg_i {i : Int} {H : Hp} {Q : VK} (h : Q (.int (-i)) H) : rU (fun i => V.int (-i)) (.int i) H Q := ⟨i, rfl, h⟩
end G

namespace G
open PySem PySem.Spec PyProof.Rows L2
/-! data of any kind: how long, and which of them are terms -/
def shortB : PyData → Bool
  | .str z => decide (z.length ≤ 100000)
  | _ => true
def short (d : PyData) : Prop := shortB d = true
theorem short_all {ds : List PyData} (h : ds.all shortB = true) {d : PyData} (hd : d ∈ ds) : short d := List.all_eq_true.mp h d hd
def spIsName (K : PySem.W.Frag) : Sp := fun vs H Q _ => ∃ v d, vs = [v] ∧ R K H v d ∧ short d ∧ ∀ b H', Same H H' → b = isName d → Q (.bl b) H'
def spIsForm (K : PySem.W.Frag) : Sp := fun vs H Q _ => ∃ v d, vs = [v] ∧ R K H v d ∧ short d ∧ ∀ b H', Same H H' → b = isForm d → Q (.bl b) H'
mutual
/-- texts and tuples within it of at most n -/
def fine (n : Nat) : PyData → Bool
  | .str z => decide (z.length ≤ n)
  | .tuple ds => decide (ds.length ≤ n) && fines n ds
  | .list ds => decide (ds.length ≤ n) && fines n ds
  | _ => true
def fines (n : Nat) : List PyData → Bool
  | [] => true
  | d :: ds => fine n d && fines n ds
end
theorem fines_all {n : Nat} : ∀ {ds : List PyData}, fines n ds = true ↔ ∀ d ∈ ds, fine n d = true
  | [] => by simp [fines]
  | d :: ds => by simp [fines, fines_all (ds := ds)]
theorem fine_short {d : PyData} (h : fine 1000 d = true) : short d := by
  cases d <;> simp only [fine, short, shortB, decide_eq_true_eq] at * 
  omega
def isIntD : PyData → Bool
  | .int _ => true
  | _ => false
def isNum : PyData → Bool
  | .int i => decide (0 ≤ i)
  | _ => false
/-- a tuple of at most four that p says yes of -/
def argsP (p : PyData → Bool) : PyData → Bool
  | .tuple xs => decide (xs.length ≤ 4) && xs.all p
  | _ => false
def tmP (p : PyData → Bool) : PyData → Bool
  | .tuple [.str w, x] => bif decide (w = "free") then isName x else (decide (w = "bound") && isNum x)
  | .tuple [.str w, x, y] => ((decide (w = "form") && isForm x) || (decide (w = "call") && isName x)) && argsP p y
  | _ => false
/-- what a term is, to n deep -/
def isTm : Nat → PyData → Bool
  | 0, _ => false
  | n + 1, d => tmP (isTm n) d
def isTms (n : Nat) : PyData → Bool := argsP (isTm n)
theorem depthAll_mem : ∀ {ds : List PyData} {d : PyData}, d ∈ ds → d.depth ≤ PyData.depthAll ds
  | d :: ds, e, h => by
    simp only [PyData.depthAll]
    rcases List.mem_cons.mp h with rfl | h
    · exact Nat.le_max_left _ _
    · exact Nat.le_trans (depthAll_mem h) (Nat.le_max_right _ _)
theorem depthAll_le {n : Nat} : ∀ {ds : List PyData}, PyData.depthAll ds ≤ n ↔ ∀ d ∈ ds, d.depth ≤ n
  | [] => by simp [PyData.depthAll]
  | d :: ds => by simp [PyData.depthAll, depthAll_le (ds := ds), Nat.max_le]
mutual
theorem Th.isTm_T {F : List Str} {n : Nat} : ∀ (t : Th) (m : Nat), t.isT F n → t.dep ≤ m → isTm m t.d = true
  | .free x, m + 1, h, _ => by simpa [Th.d, isTm, tmP, isName] using (show isNameS x = true ∧ x ∈ F from h).1
  | .bnd k, m + 1, h, _ => by
    have e : ((Str.ofString "bound") = (Str.ofString "free")) = False := by simp; decide +kernel
    simp [Th.d, isTm, tmP, isNum, e]
  | .app .form c args, m + 1, h, hd => by
    have := Th.isTm_Ts args m h.2.2 (by simp only [Th.dep] at hd; omega)
    have hl : (Th.ds args).length ≤ 4 := by rw [Th.ds_map, List.length_map]; exact h.2.1
    simp [Th.d, isTm, tmP, AW.s, isForm, h.1, argsP, hl, this]
  | .app .call c args, m + 1, h, hd => by
    have := Th.isTm_Ts args m h.2.2 (by simp only [Th.dep] at hd; omega)
    have hl : (Th.ds args).length ≤ 4 := by rw [Th.ds_map, List.length_map]; exact h.2.1
    simp [Th.d, isTm, tmP, AW.s, isName, h.1, argsP, hl, this]
  | .free _, 0, _, hd | .bnd _, 0, _, hd | .app .form _ _, 0, _, hd | .app .call _ _, 0, _, hd => by simp [Th.dep] at hd
theorem Th.isTm_Ts {F : List Str} {n : Nat} : ∀ (ts : List Th) (m : Nat), Th.areT F n ts → Th.deps ts ≤ m → (Th.ds ts).all (isTm m) = true
  | [], _, _, _ => rfl
  | t :: ts, m, h, hd => by
    simp only [Th.deps] at hd
    simp [Th.ds, Th.isTm_T t m h.1 (by omega), Th.isTm_Ts ts m h.2 (by omega)]
end
mutual
theorem Th.fineT {F : List Str} {n : Nat} : ∀ (t : Th), t.isT F n → fine 8 t.d = true
  | .free x, h => by
    have := isNameS_len (show isNameS x = true ∧ x ∈ F from h).1
    simp [Th.d, fine, fines, this.2]; decide +kernel
  | .bnd k, h => by simp [Th.d, fine, fines]; decide +kernel
  | .app .form c args, h => by
    have := Th.fineTs args h.2.2
    have h8 := isFormS_len h.1
    have hl : (Th.ds args).length ≤ 8 := by rw [Th.ds_map, List.length_map]; exact Nat.le_trans h.2.1 (by decide)
    simp [Th.d, fine, fines, AW.s, h8.2, this, hl]; decide +kernel
  | .app .call c args, h => by
    have := Th.fineTs args h.2.2
    have h8 := isNameS_len h.1
    have hl : (Th.ds args).length ≤ 8 := by rw [Th.ds_map, List.length_map]; exact Nat.le_trans h.2.1 (by decide)
    simp [Th.d, fine, fines, AW.s, h8.2, this, hl]; decide +kernel
theorem Th.fineTs {F : List Str} {n : Nat} : ∀ (ts : List Th), Th.areT F n ts → fines 8 (Th.ds ts) = true
  | [], _ => rfl
  | t :: ts, h => by simp [Th.ds, fines, Th.fineT t h.1, Th.fineTs ts h.2]
end
mutual
theorem fine_mono {m n : Nat} (h : m ≤ n) : ∀ d : PyData, fine m d = true → fine n d = true
  | .str z, q => by simp only [fine, decide_eq_true_eq] at q ⊢; omega
  | .tuple ds, q => by simp only [fine, Bool.and_eq_true, decide_eq_true_eq] at q ⊢; exact ⟨by omega, fines_mono h ds q.2⟩
  | .list ds, q => by simp only [fine, Bool.and_eq_true, decide_eq_true_eq] at q ⊢; exact ⟨by omega, fines_mono h ds q.2⟩
  | .none, _ | .bool _, _ | .int _, _ | .dict _, _ => rfl
theorem fines_mono {m n : Nat} (h : m ≤ n) : ∀ ds : List PyData, fines m ds = true → fines n ds = true
  | [], _ => rfl
  | d :: ds, q => by simp only [fines, Bool.and_eq_true] at q ⊢; exact ⟨fine_mono h d q.1, fines_mono h ds q.2⟩
end
theorem mem_cutD {xs : List PyData} {lo hi : Option Int} {d : PyData} (h : d ∈ cutD xs lo hi) : d ∈ xs := List.mem_of_mem_drop (List.mem_of_mem_take h)
/-! the look at a name, sign by sign -/
def okSign (g : Bool) (k : Nat) (c : Nat) : Bool := low c || (g && decide (k = 0) && great c)
theorem named_bad {g : Bool} {z : Str} {k c : Nat} (hk : z.cps.toList[k]? = some c) (h : okSign g k c = false) : (bif g then isFormS z else isNameS z) = false := by
  have hl : low c = false := by unfold okSign at h; simp at h; exact h.1
  have hm : c ∈ z.cps.toList := List.mem_of_getElem? hk
  cases g
  · show isNameS z = false
    unfold isNameS
    have : z.cps.toList.all low = false := by
      rw [← Bool.not_eq_true]
      intro q
      rw [List.all_eq_true.mp q c hm] at hl
      cases hl
    rw [this, Bool.and_false]
  · show isFormS z = false
    unfold isFormS
    rcases hz : z.cps.toList with _ | ⟨c0, cs⟩
    · rw [hz] at hm; cases hm
    · rw [hz] at hk
      have : (great c0 && cs.all low) = false := by
        rcases k with _ | k
        · simp only [List.getElem?_cons_zero, Option.some.injEq] at hk
          subst hk
          have : great c0 = false := by unfold okSign at h; simpa [hl] using h
          rw [this, Bool.false_and]
        · have hc : c ∈ cs := List.mem_of_getElem? (by simpa using hk)
          have : cs.all low = false := by
            rw [← Bool.not_eq_true]
            intro q
            rw [List.all_eq_true.mp q c hc] at hl
            cases hl
          rw [this, Bool.and_false]
      simp only [this, Bool.and_false]
theorem inS_of_mem {w : Str} : ∀ {ds : List PyData}, allS ds = true → inS w ds = true → PyData.str w ∈ ds
  | [], _, h => by simp [inS] at h
  | d :: ds, a, h => by
    cases d
    case str z =>
      have a' : allS ds = true := a
      simp only [inS, Bool.or_eq_true, decide_eq_true_eq] at h
      rcases h with h | h
      · rw [h]; simp
      · exact List.mem_cons_of_mem _ (inS_of_mem a' h)
    all_goals simp [allS] at a
theorem named_good {g : Bool} {z : Str} {c0 : Nat} (h1 : 1 ≤ z.length) (h8 : z.length ≤ 8) (h0 : z.cps.toList[0]? = some c0) (h : ∀ (k : Nat) c, z.cps.toList[k]? = some c → okSign g k c = true) :
    (bif g then isFormS z else isNameS z) = (decide (g = !low c0) && !inS z kept) := by
  have d1 := decide_eq_true h1
  have d8 := decide_eq_true h8
  rcases hz : z.cps.toList with _ | ⟨c, cs⟩
  · rw [hz] at h0; cases h0
  rw [hz] at h0 h
  simp only [List.getElem?_cons_zero, Option.some.injEq] at h0
  subst h0
  have hcs : cs.all low = true := by
    rw [List.all_eq_true]
    intro x hx
    obtain ⟨k, hk⟩ := List.getElem?_of_mem hx
    have := h (k + 1) x (by simpa using hk)
    simpa [okSign] using this
  have hc := h 0 c rfl
  cases g
  · have hl : low c = true := by simpa [okSign] using hc
    show isNameS z = _
    unfold isNameS
    rw [d1, d8, hz, List.all_cons, hl, hcs]
    simp
  · show isFormS z = _
    unfold isFormS
    rw [d1, d8, hz]
    simp only [hcs]
    cases hl : low c
    · have hg : great c = true := by simpa [okSign, hl] using hc
      have hk : inS z kept = false := by
        rw [← Bool.not_eq_true]
        intro q
        have hm := inS_of_mem (by rfl) q
        have all : ∀ d ∈ kept, ∀ w, d = .str w → ∀ c ∈ w.cps.toList, low c = true := by
          intro d hd w e
          simp only [kept, List.mem_cons, List.not_mem_nil, or_false] at hd
          rcases hd with rfl | rfl | rfl | rfl | rfl <;> (cases e; decide +kernel)
        have := all _ hm z rfl c (by rw [hz]; simp)
        rw [hl] at this
        cases this
      simp [hg, hk]
    · simp [low_great hl]
end G

namespace G
open PySem PySem.Spec PyProof.Rows L2
/-! (text, ..) == (text,), whatever stands behind the first text -/
def rEqT (K : PySem.W.Frag) : R2 := fun x y H Q => ∃ a b w z xs, x = .ref a ∧ y = .ref b ∧ SqT K H a (.str w :: xs) ∧ SqT K H b [.str z] ∧ Q (.bl (decide (w = z) && xs.isEmpty)) H
theorem eqT_len (b : Bool) (n : Nat) : (((List.range (min (n + 1) 1)).all fun _ => b) && (n + 1 == 1)) = (b && decide (n = 0)) := by
  have hm : min (n + 1) 1 = 1 := Nat.min_eq_right (Nat.le_add_left 1 _)
  have hr : List.range 1 = [0] := rfl
  rw [hm, hr, List.all_cons, List.all_nil, Bool.and_true]
  congr 1
  rw [Bool.eq_iff_iff]; simp
theorem op_eqT {X : Cx} {k : Nat} (hr : Room k X.A) : OpR X (compareOp .Eq) (rEqT X.K) := by
  intro pins s σ H x y v u Q I rx ry h
  obtain ⟨a, b, w, z, xs, rfl, rfl, ha, hb, q⟩ := h
  cases rx
  cases ry
  obtain ⟨i1, r1, p1, _⟩ := I.tuple ha
  obtain ⟨i2, r2, p2, _⟩ := I.tuple hb
  have p1' : s.heap.IsTuple a i1.toArray := p1
  have p2' : s.heap.IsTuple b i2.toArray := p2
  cases r1 with
  | cons h1 t1 =>
    cases r2 with
    | cons h2 t2 =>
      cases t2
      obtain ⟨k1, rfl⟩ := h1
      obtain ⟨k2, rfl⟩ := h2
      have hl := t1.length
      refine SeqAt.eq_tupleAt p1' p2' (e := fun _ => w == z) (by have := hr.un; omega) (fun j h1 h2 => ?_) ⟨.bl _, H, I, rfl, ?_⟩
      · have hj : j = 0 := by simpa using h2
        subst hj
        exact SeqAt.EqAt.str_str _ _ _ _
      · have e1 : (w == z) = decide (w = z) := by rw [Bool.eq_iff_iff]; simp
        have e2 : xs.isEmpty = decide (xs.length = 0) := by cases xs <;> simp
        rw [e2, ← e1] at q
        rw [hl, ← eqT_len] at q
        exact q
theorem op_eqTK (K : PySem.W.Frag) {X : Cx} {k : Nat} (hr : Room k X.A) (hK : X.K = K := by rfl) : OpR X (compareOp .Eq) (rEqT K) := hK ▸ op_eqT hr
theorem eqT_R {K : PySem.W.Frag} {H : Hp} {Q : VK} {x y : V} {w z : Str} {ds : List PyData} (r : R K H x (.tuple (.str w :: ds))) (s : R K H y (.tuple [.str z])) (h : Q (.bl (decide (w = z) && ds.isEmpty)) H) : rEqT K x y H Q := by
  obtain ⟨a, xs, rfl, ha, ra⟩ := r.inv_tup
  obtain ⟨b, ys, rfl, hb, rb⟩ := s.inv_tup
  cases ra with
  | cons h1 t1 =>
    cases rb with
    | cons h2 t2 =>
      cases t2
      cases h1
      cases h2
      rename_i xs
      refine ⟨a, b, w, z, xs, rfl, rfl, ha, hb, ?_⟩
      have e : xs.isEmpty = ds.isEmpty := by cases t1 <;> rfl
      rw [e]; exact h
/-! which data are statements -/
def isSP (tm st : PyData → Bool) : PyData → Bool
  | .tuple [.str w] => decide (w = "false")
  | .tuple [.str w, x, y] =>
    bif decide (w = "same") then tm x && tm y else
    bif decide (w = "atom") then isName x && argsP tm y else
    bif inS w [.str "all", .str "some"] then isName x && st y else
    inS w [.str "and", .str "or", .str "if"] && (st x && st y)
  | _ => false
def isSt : Nat → PyData → Bool
  | 0, _ => false
  | n + 1, d => isSP (isTm 36) (isSt n) d
theorem Th.isSt_S {F : List Str} : ∀ (t : Th) {n : Nat} (m : Nat), t.isS F n → t.dep ≤ m → t.dep ≤ 36 → isSt m t.d = true
  | t, n, 0, h, hd, _ => by have := t.dep_pos; omega
  | .fls, n, m + 1, h, hd, h36 => by simp [Th.d, isSt, isSP]
  | .two .same a b, n, m + 1, h, hd, h36 => by
    simp only [Th.dep] at hd h36
    simp [Th.d, isSt, isSP, BW.s, Th.isTm_T a 36 h.1 (by omega), Th.isTm_T b 36 h.2 (by omega)]
  | .app .atom c args, n, m + 1, h, hd, h36 => by
    simp only [Th.dep] at hd h36
    have := Th.isTm_Ts args 36 h.2.2 (by omega)
    have hl : (Th.ds args).length ≤ 4 := by rw [Th.ds_map, List.length_map]; exact h.2.1
    have e : (Str.ofString "atom" = Str.ofString "same") = False := by simp; decide +kernel
    simp [Th.d, isSt, isSP, AW.s, isName, h.1, argsP, hl, this, e]
  | .two .and a b, n, m + 1, h, hd, h36 => by
    simp only [Th.dep] at hd h36
    have e1 : (Str.ofString "and" = Str.ofString "same") = False := by simp; decide +kernel
    have e2 : (Str.ofString "and" = Str.ofString "atom") = False := by simp; decide +kernel
    have e3 : inS "and" [.str "all", .str "some"] = false := by decide +kernel
    have e4 : inS "and" [.str "and", .str "or", .str "if"] = true := by decide +kernel
    simp [Th.d, isSt, isSP, BW.s, Th.isSt_S a m h.1 (by omega) (by omega), Th.isSt_S b m h.2 (by omega) (by omega), e1, e2, e3, e4]
  | .two .or a b, n, m + 1, h, hd, h36 => by
    simp only [Th.dep] at hd h36
    have e1 : (Str.ofString "or" = Str.ofString "same") = False := by simp; decide +kernel
    have e2 : (Str.ofString "or" = Str.ofString "atom") = False := by simp; decide +kernel
    have e3 : inS "or" [.str "all", .str "some"] = false := by decide +kernel
    have e4 : inS "or" [.str "and", .str "or", .str "if"] = true := by decide +kernel
    simp [Th.d, isSt, isSP, BW.s, Th.isSt_S a m h.1 (by omega) (by omega), Th.isSt_S b m h.2 (by omega) (by omega), e1, e2, e3, e4]
  | .two .iff a b, n, m + 1, h, hd, h36 => by
    simp only [Th.dep] at hd h36
    have e1 : (Str.ofString "if" = Str.ofString "same") = False := by simp; decide +kernel
    have e2 : (Str.ofString "if" = Str.ofString "atom") = False := by simp; decide +kernel
    have e3 : inS "if" [.str "all", .str "some"] = false := by decide +kernel
    have e4 : inS "if" [.str "and", .str "or", .str "if"] = true := by decide +kernel
    simp [Th.d, isSt, isSP, BW.s, Th.isSt_S a m h.1 (by omega) (by omega), Th.isSt_S b m h.2 (by omega) (by omega), e1, e2, e3, e4]
  | .qua .all k a, n, m + 1, h, hd, h36 => by
    simp only [Th.dep] at hd h36
    have e1 : (Str.ofString "all" = Str.ofString "same") = False := by simp; decide +kernel
    have e2 : (Str.ofString "all" = Str.ofString "atom") = False := by simp; decide +kernel
    have e3 : inS "all" [.str "all", .str "some"] = true := by decide +kernel
    simp [Th.d, isSt, isSP, QW.s, isName, h.1, Th.isSt_S a m h.2 (by omega) (by omega), e1, e2, e3]
  | .qua .some k a, n, m + 1, h, hd, h36 => by
    simp only [Th.dep] at hd h36
    have e1 : (Str.ofString "some" = Str.ofString "same") = False := by simp; decide +kernel
    have e2 : (Str.ofString "some" = Str.ofString "atom") = False := by simp; decide +kernel
    have e3 : inS "some" [.str "all", .str "some"] = true := by decide +kernel
    simp [Th.d, isSt, isSP, QW.s, isName, h.1, Th.isSt_S a m h.2 (by omega) (by omega), e1, e2, e3]
theorem Th.fineS {F : List Str} : ∀ (t : Th) {n : Nat}, t.isS F n → fine 8 t.d = true
  | .fls, _, _ => by decide +kernel
  | .two .same a b, _, h => by simp [Th.d, fine, fines, BW.s, Th.fineT a h.1, Th.fineT b h.2]; decide +kernel
  | .app .atom c args, _, h => by
    have := Th.fineTs args h.2.2
    have h8 := isNameS_len h.1
    have hl : (Th.ds args).length ≤ 8 := by rw [Th.ds_map, List.length_map]; exact Nat.le_trans h.2.1 (by decide)
    simp [Th.d, fine, fines, AW.s, h8.2, this, hl]; decide +kernel
  | .two .and a b, _, h => by simp [Th.d, fine, fines, BW.s, Th.fineS a h.1, Th.fineS b h.2]; decide +kernel
  | .two .or a b, _, h => by simp [Th.d, fine, fines, BW.s, Th.fineS a h.1, Th.fineS b h.2]; decide +kernel
  | .two .iff a b, _, h => by simp [Th.d, fine, fines, BW.s, Th.fineS a h.1, Th.fineS b h.2]; decide +kernel
  | .qua .all k a, _, h => by have h8 := isNameS_len h.1; simp [Th.d, fine, fines, QW.s, h8.2, Th.fineS a h.2]; decide +kernel
  | .qua .some k a, _, h => by have h8 := isNameS_len h.1; simp [Th.d, fine, fines, QW.s, h8.2, Th.fineS a h.2]; decide +kernel
end G

/-! the words of the walk: S (a heap keeps), R (a value stands for data), A (a row of them), no (a way that cannot be), s (one step), r (all steps) -/
local macro_rules | `(tactic| walk_at "S") => `(tactic| first | exact L2.Same.refl _ | assumption | exact G.sm_tr (by assumption) (by walk_at "S"))
local macro_rules | `(tactic| walk_at "R") => `(tactic| first
  | with_reducible exact G.R.int _ | with_reducible exact G.R.str _ | with_reducible exact G.R.bl _ | with_reducible exact G.R.non
  | with_reducible assumption
  | exact G.r_mono (by with_reducible assumption) (by walk_at "S")
  | ((with_reducible refine' G.R.lst L2.upd_same ?rl); (case rl => walk_at "A")))
local macro_rules | `(tactic| walk_at "A") => `(tactic| first | with_reducible exact G.RA.nil | ((with_reducible refine' G.RA.cons ?ra ?rb); (case ra => walk_at "R"); (case rb => walk_at "A")))
local macro_rules | `(tactic| walk_at "no") => `(tactic| first | contradiction | omega)
local macro_rules | `(tactic| walk_at "side") => `(tactic| first | with_reducible rfl | with_reducible assumption | omega | exact Int.lt_of_lt_of_le (by with_reducible assumption) (by decide +kernel) | ((with_reducible refine G.le_up ?_); decide +kernel) | (simp only [List.length_cons, List.length_nil, List.getElem?_cons_zero, List.getElem?_cons_succ, List.length_map]; done) | (simp only [List.length_cons, List.length_nil, List.length_map, List.length_append] at *; omega))
local macro_rules | `(tactic| walk_at "sideC") => `(tactic| first | with_reducible assumption | (with_reducible refine G.cmul_r ⟨?_, ?_⟩ <;> decide) | (with_reducible refine G.cdiv_r ⟨?_, ?_⟩ <;> decide) | (with_reducible refine G.cmul_l ⟨?_, ?_⟩ <;> decide) | (with_reducible refine G.cpow_c ⟨?_, ?_, ?_⟩ <;> decide) | (with_reducible refine G.cmul_r ⟨?_, ?_⟩ <;> omega) | (with_reducible refine G.cdiv_r ⟨?_, ?_⟩ <;> omega) | omega)
local macro_rules | `(tactic| walk_at "got") => `(tactic| (intro v0 r0; first
  | (have e0 := G.R.inv_str r0; subst e0) | (have e0 := G.R.inv_int r0; subst e0) | (have e0 := G.R.inv_bl r0; subst e0) | (have e0 := G.R.inv_non r0; subst e0) | skip))
local macro_rules | `(tactic| walk_at "P") => `(tactic| first | with_reducible assumption | exact G.keep_at (by with_reducible assumption) (by walk_at "S"))
local macro_rules | `(tactic| walk_at "c") => `(tactic| fail)
local macro_rules | `(tactic| walk_at "Q") => `(tactic| first | with_reducible assumption | exact G.seq_keep (by with_reducible assumption) (by walk_at "S"))
local macro_rules | `(tactic| walk_at "c") => `(tactic| ((with_reducible refine' G.use_state ?hp ?h0 ?h1 ?_); (case hp => walk_at "Q"); (case h0 => walk_at "side"); (case h1 => walk_at "side"); intro p0 H0 s0 hp0))
local macro_rules | `(tactic| walk_at "c") => `(tactic| ((with_reducible refine' G.use_draw ?hp ?h0 ?h1 ?_); (case hp => walk_at "P"); (case h0 => walk_at "side"); (case h1 => walk_at "side"); intro r0 hr0 hr1))
local macro_rules | `(tactic| walk_at "s") => `(tactic| first
  | with_reducible refine G.st_seq ?_
  | ((with_reducible refine' G.st_var ?hv ?_); (case hv => exact rfl))
  | with_reducible refine G.st_c ?_
  | with_reducible refine G.st_op ?_
  | with_reducible refine G.st_bl ?_
  | with_reducible refine L2.iteT ?_
  | with_reducible refine L2.iteF ?_
  | with_reducible refine G.ite_nt ?_
  | with_reducible refine G.ite_nf ?_
  | ((with_reducible refine G.st_ite ?_ ?_) <;> (intro hb; (try simp only [decide_eq_true_eq, decide_eq_false_iff_not, Bool.not_eq_true', Bool.not_eq_false', beq_iff_eq, Bool.and_eq_true, Bool.or_eq_true, Bool.and_eq_false_iff, Bool.or_eq_false_iff, beq_eq_false_iff_ne, ne_eq, Int.not_lt, Int.not_le, Nat.not_lt, Nat.not_le] at hb); first | (exfalso; walk_at "no"; done) | skip))
  | with_reducible refine G.st_if ?_
  | with_reducible refine G.st_ret ?_
  | with_reducible refine G.st_set ?_
  | with_reducible refine G.st_call ?_
  | with_reducible refine G.st_cons ?_
  | with_reducible refine G.st_nil ?_
  | with_reducible refine G.st_CB ?_
  | with_reducible refine G.st_tTest ?_
  | with_reducible refine G.st_tB ?_
  | with_reducible refine G.st_or ?_
  | with_reducible refine G.st_and ?_
  | with_reducible refine G.st_not ?_
  | with_reducible refine G.st_orV ?_
  | with_reducible refine G.st_andV ?_
  | with_reducible refine G.st_notV ?_
  | with_reducible refine G.st_tIf ?_
  | with_reducible refine G.st_chain ?_
  | with_reducible refine G.st_un ?_
  | with_reducible refine G.st_then ?_
  | with_reducible refine G.st_slice ?_
  | with_reducible refine G.st_noPart ?_
  | with_reducible refine G.st_part ?_
  | with_reducible refine G.st_exInt ?_
  | with_reducible refine G.st_drop ?_
  | with_reducible refine G.st_next ?_
  | with_reducible refine G.st_retN ?_
  | with_reducible refine G.add_int ?_
  | with_reducible refine G.i0 ?_
  | ((with_reducible refine G.imod2 (by decide) ?_ ?_) <;> (intro hm; first | (exfalso; walk_at "no"; done) | skip))
  | ((with_reducible refine G.imod3 (by decide) ?_ ?_ ?_) <;> (intro hm; first | (exfalso; walk_at "no"; done) | skip))
  | ((with_reducible refine' G.iC ?hc ?_); (case hc => walk_at "sideC"))
  | ((with_reducible refine' G.eq_str1 ?e ?_); (case e => with_reducible rfl))
  | ((with_reducible refine' G.eq_str0 ?e ?_); (case e => decide +kernel))
  | with_reducible refine G.eq_str ?_
  | with_reducible refine G.eq_int ?_
  | with_reducible refine G.eq_bl ?_
  | with_reducible refine G.ne_str ?_
  | with_reducible refine G.ne_int ?_
  | ((with_reducible refine' G.is_none ?r ?_); (case r => walk_at "R"))
  | ((with_reducible refine' G.isnt_none ?r ?_); (case r => walk_at "R"))
  | with_reducible refine G.is_bl ?_
  | with_reducible refine G.isnt_bl ?_
  | with_reducible refine G.in_sign ?_
  | with_reducible refine G.nin_sign ?_
  | ((with_reducible refine' G.in_strsT1 ?r ?c ?e ?_); (case r => walk_at "R"); (case c => rfl); (case e => decide +kernel))
  | ((with_reducible refine' G.in_strsT0 ?r ?c ?e ?_); (case r => walk_at "R"); (case c => rfl); (case e => decide +kernel))
  | ((with_reducible refine' G.in_strsT ?r ?c ?_); (case r => walk_at "R"); (case c => rfl))
  | ((with_reducible refine' G.nin_strsT ?r ?c ?_); (case r => walk_at "R"); (case c => rfl))
  | ((with_reducible refine' G.in_intsT ?r ?c ?_); (case r => walk_at "R"); (case c => rfl))
  | ((with_reducible refine' G.nin_intsT ?r ?c ?_); (case r => walk_at "R"); (case c => rfl))
  | ((with_reducible refine' G.add_str ?l ?_); (case l => walk_at "side"))
  | ((with_reducible refine' G.add_tup ?r ?s ?l ?_); (case r => walk_at "R"); (case s => walk_at "R"); (case l => walk_at "side"); intro v0 H0 s0 r0)
  | ((with_reducible refine' G.add_lst ?r ?s ?l ?_); (case r => walk_at "R"); (case s => walk_at "R"); (case l => walk_at "side"); intro v0 H0 s0 r0)
  | ((with_reducible refine' G.isi_1 ?r ?e ?t ?_); (case r => walk_at "R"); (case e => rfl); (case t => simp only [List.mem_cons, true_or, or_true]))
  | ((with_reducible refine' G.isi_0 ?r ?e ?t ?_); (case r => walk_at "R"); (case e => rfl); (case t => simp only [List.mem_cons, true_or, or_true]))
  | ((with_reducible refine' G.isi_R ?r ?t ?_); (case r => walk_at "R"); (case t => simp only [List.mem_cons, true_or, or_true]))
  | ((with_reducible refine' G.len_str ?l ?_); (case l => walk_at "side"))
  | ((with_reducible refine' G.len_tup ?r ?_); (case r => walk_at "R"))
  | ((with_reducible refine' G.len_lst ?r ?_); (case r => walk_at "R"))
  | (with_reducible refine G.st_tup ?_)
  | (with_reducible refine G.st_lst ?_)
  | ((with_reducible refine' G.st_newT ?r ?l ?_); (case r => walk_at "A"); (case l => first | exact Nat.le_of_ble_eq_true rfl | walk_at "side"); intro v0 H0 s0 r0)
  | ((with_reducible refine' G.st_newL ?r ?l ?_); (case r => walk_at "A"); (case l => first | exact Nat.le_of_ble_eq_true rfl | walk_at "side"); intro v0 H0 s0 r0)
  | ((with_reducible refine' G.ix_tupR ?r ?h0 ?hd ?_); (case r => walk_at "R"); (case h0 => walk_at "side"); (case hd => first | rfl | assumption); walk_at "got")
  | ((with_reducible refine' G.ix_lstR ?r ?h0 ?hd ?_); (case r => walk_at "R"); (case h0 => walk_at "side"); (case hd => first | rfl | assumption); walk_at "got")
  | ((with_reducible refine' G.ix_strR ?l ?h0 ?hd ?_); (case l => walk_at "side"); (case h0 => walk_at "side"); (case hd => first | rfl | assumption))
  | ((with_reducible refine' G.ix_strM ?l ?h0 ?h1 ?_); (case l => walk_at "side"); (case h0 => walk_at "side"); (case h1 => walk_at "side"); intro c0 hc0)
  | ((with_reducible refine' G.ix_tupM ?r ?h0 ?h1 ?_); (case r => walk_at "R"); (case h0 => walk_at "side"); (case h1 => walk_at "side"); intro v0 d0 hd0 r0)
  | ((with_reducible refine' G.ix_lstS ?r ?h0 ?h1 ?_); (case r => walk_at "R"); (case h0 => walk_at "side"); (case h1 => walk_at "side"); intro z0 hz0)
  | ((with_reducible refine' G.ix_lstM ?r ?h0 ?h1 ?_); (case r => walk_at "R"); (case h0 => walk_at "side"); (case h1 => walk_at "side"); intro v0 d0 hd0 r0)
  | ((with_reducible refine' G.sl_strR ?l ?_); (case l => walk_at "side"))
  | ((with_reducible refine' G.sl_tupR ?r ?_); (case r => walk_at "R"); intro v0 H0 s0 r0)
  | ((with_reducible refine' G.sl_lstR ?r ?_); (case r => walk_at "R"); intro v0 H0 s0 r0)
  | ((with_reducible refine' G.tupOf_L ?r ?_); (case r => walk_at "R"); intro v0 H0 s0 r0)
  | ((with_reducible refine' G.tupOf_T ?r ?_); (case r => walk_at "R"))
  | ((with_reducible refine' G.lstOf_T ?r ?_); (case r => walk_at "R"); intro v0 H0 s0 r0)
  | ((with_reducible refine' G.lstOf_L ?r ?_); (case r => walk_at "R"); intro v0 H0 s0 r0)
  | with_reducible refine G.st_lcL ?_
  | with_reducible refine G.st_lcT ?_
  | with_reducible refine G.st_lcS ?_
  | with_reducible refine G.st_lcR ?_
  | with_reducible refine G.st_M0 ?_
  | with_reducible refine G.st_M1 ?_
  | (with_reducible refine G.upper_one ?_; intro hu0)
  | ((with_reducible refine' G.upper_R ?l ?_); (case l => walk_at "side"))
  | (with_reducible refine G.st_strAnd ?_)
  | (with_reducible refine G.st_sub ?_)
  | ((with_reducible refine' G.set_20 ?hp ?_); (case hp => first | exact L2.upd_same | walk_at "P"))
  | ((with_reducible refine' G.set_21 ?hp ?_); (case hp => first | exact L2.upd_same | walk_at "P"))
  | ((with_reducible refine' G.set_at ?hp ?hi ?_); (case hp => first | exact L2.upd_same | walk_at "P"); (case hi => rfl))
  | with_reducible refine G.st_lst2 ?_
  | with_reducible refine G.st_shut ?_
  | with_reducible refine G.st_forR ?_
  | ((with_reducible refine' G.len_scr ?s ?_); (case s => walk_at "Q"))
  | ((with_reducible refine' G.ix_scr ?s ?h0 ?h1 ?_); (case s => walk_at "Q"); (case h0 => walk_at "side"); (case h1 => walk_at "side"); intro n0)
  | ((with_reducible refine' G.sl_scr ?s ?_); (case s => walk_at "Q"); intro v0 H0 s0 r0)
  | (with_reducible refine' G.st_disp1 ?_; intro v0 H0 s0 r0)
  | walk_at "c"
  | fail "no step")
local macro_rules | `(tactic| walk_at "r") => `(tactic| repeat' (walk_at "s"))

local macro_rules | `(tactic| walk_at "side") => `(tactic| first | exact G.nm_a (by with_reducible assumption) | exact G.fm_a (by with_reducible assumption) | exact G.nm_b (by with_reducible assumption) | exact G.nm_c (by with_reducible assumption) | fail)
local macro_rules | `(tactic| walk_at "c") => `(tactic| ((with_reducible refine' G.use_name ?hp ?_); (case hp => walk_at "P"); intro z0 H0 s0 hz0))
local macro_rules | `(tactic| walk_at "c") => `(tactic| ((with_reducible refine' G.use_form ?hp ?_); (case hp => walk_at "P"); intro z0 H0 s0 hz0))
local macro_rules | `(tactic| walk_at "c") => `(tactic| ((with_reducible refine' G.use_pool ?hp ?_); (case hp => walk_at "P"); intro v0 fs0 gs0 ns0 H0 s0 ok0 r0))
local macro_rules | `(tactic| walk_at "c") => `(tactic| ((with_reducible refine' G.use_leaf ?hp ?r ?ok ?h0 ?h1 ?_); (case hp => walk_at "P"); (case r => walk_at "R"); (case ok => with_reducible assumption); (case h0 => walk_at "side"); (case h1 => walk_at "side"); intro v0 t0 H0 s0 r0 ht0 hd0 hs0))
local macro_rules | `(tactic| walk_at "c") => `(tactic| ((with_reducible refine' G.use_term ?hp ?r ?ok ?h0 ?h1 ?e0 ?e1 ?_); (case hp => walk_at "P"); (case r => walk_at "R"); (case ok => with_reducible assumption); (case h0 => walk_at "side"); (case h1 => walk_at "side"); (case e0 => walk_at "side"); (case e1 => walk_at "side"); intro v0 t0 H0 s0 r0 ht0 hd0 hs0))
local macro_rules | `(tactic| walk_at "c") => `(tactic| ((with_reducible refine' G.use_tall ?hp ?r ?ok ?rt ?ht ?h0 ?h1 ?_); (case hp => walk_at "P"); (case r => walk_at "R"); (case ok => with_reducible assumption); (case rt => walk_at "R"); (case ht => with_reducible assumption); (case h0 => walk_at "side"); (case h1 => walk_at "side"); intro v0 t0 H0 s0 r0 ht0 hd0 hs0))
local macro_rules | `(tactic| walk_at "c") => `(tactic| ((with_reducible refine' G.use_anyT ?hp ?r ?ok ?h0 ?h1 ?_); (case hp => walk_at "P"); (case r => walk_at "R"); (case ok => with_reducible assumption); (case h0 => walk_at "side"); (case h1 => walk_at "side"); intro v0 t0 H0 s0 r0 ht0 hd0 hs0))

namespace G
open PySem PySem.Spec PyProof.Rows L2
def top (i : Nat) : Stmt := PySem.Challenge.pw_tacticwright_k03_statements_known.main.body.getD i (.Pass ⟨0, 0, 0, 0⟩)
abbrev s_is_number : Stmt := top 5
abbrev n_is_number : List Str := ["thing"]
abbrev p_is_number : List Str := ["thing"]
theorem sc_is_number : FnScope n_is_number p_is_number (defScope s_is_number) := ⟨rfl, rfl, rfl, by decide +kernel, rfl, by decide +kernel, by decide +kernel⟩
abbrev s_is_name : Stmt := top 6
abbrev n_is_name : List Str := ["thing", "sign"]
abbrev p_is_name : List Str := ["thing"]
theorem sc_is_name : FnScope n_is_name p_is_name (defScope s_is_name) := ⟨rfl, rfl, rfl, by decide +kernel, rfl, by decide +kernel, by decide +kernel⟩
abbrev s_is_form_name : Stmt := top 7
abbrev n_is_form_name : List Str := ["thing", "sign"]
abbrev p_is_form_name : List Str := ["thing"]
theorem sc_is_form_name : FnScope n_is_form_name p_is_form_name (defScope s_is_form_name) := ⟨rfl, rfl, rfl, by decide +kernel, rfl, by decide +kernel, by decide +kernel⟩
abbrev s_are_args : Stmt := top 8
abbrev n_are_args : List Str := ["thing", "arg"]
abbrev p_are_args : List Str := ["thing"]
theorem sc_are_args : FnScope n_are_args p_are_args (defScope s_are_args) := ⟨rfl, rfl, rfl, by decide +kernel, rfl, by decide +kernel, by decide +kernel⟩
abbrev s_is_term : Stmt := top 9
abbrev n_is_term : List Str := ["thing", "named"]
abbrev p_is_term : List Str := ["thing"]
theorem sc_is_term : FnScope n_is_term p_is_term (defScope s_is_term) := ⟨rfl, rfl, rfl, by decide +kernel, rfl, by decide +kernel, by decide +kernel⟩
abbrev s_is_statement : Stmt := top 12
abbrev n_is_statement : List Str := ["thing"]
abbrev p_is_statement : List Str := ["thing"]
theorem sc_is_statement : FnScope n_is_statement p_is_statement (defScope s_is_statement) := ⟨rfl, rfl, rfl, by decide +kernel, rfl, by decide +kernel, by decide +kernel⟩
abbrev s_l_draw : Stmt := top 14
abbrev n_l_draw : List Str := ["_law_state_here", "_law_many", "_law_found"]
abbrev p_l_draw : List Str := ["_law_state_here", "_law_many"]
theorem sc_l_draw : FnScope n_l_draw p_l_draw (defScope s_l_draw) := ⟨rfl, rfl, rfl, by decide +kernel, rfl, by decide +kernel, by decide +kernel⟩
abbrev s_l_state : Stmt := top 15
abbrev n_l_state : List Str := ["_law_script", "_law_k", "_law_cell", "_law_seed"]
abbrev p_l_state : List Str := ["_law_script", "_law_k"]
theorem sc_l_state : FnScope n_l_state p_l_state (defScope s_l_state) := ⟨rfl, rfl, rfl, by decide +kernel, rfl, by decide +kernel, by decide +kernel⟩
abbrev s_l_name : Stmt := top 16
abbrev n_l_name : List Str := ["_law_state_here", "_law_letters", "_law_built", "_law_k"]
abbrev p_l_name : List Str := ["_law_state_here"]
theorem sc_l_name : FnScope n_l_name p_l_name (defScope s_l_name) := ⟨rfl, rfl, rfl, by decide +kernel, rfl, by decide +kernel, by decide +kernel⟩
abbrev s_l_form_name : Stmt := top 17
abbrev n_l_form_name : List Str := ["_law_state_here", "_law_built"]
abbrev p_l_form_name : List Str := ["_law_state_here"]
theorem sc_l_form_name : FnScope n_l_form_name p_l_form_name (defScope s_l_form_name) := ⟨rfl, rfl, rfl, by decide +kernel, rfl, by decide +kernel, by decide +kernel⟩
abbrev s_l_pool : Stmt := top 18
abbrev n_l_pool : List Str := ["_law_state_here", "_law_free", "_law_k"]
abbrev p_l_pool : List Str := ["_law_state_here"]
theorem sc_l_pool : FnScope n_l_pool p_l_pool (defScope s_l_pool) := ⟨rfl, rfl, rfl, by decide +kernel, rfl, by decide +kernel, by decide +kernel⟩
abbrev s_l_leaf : Stmt := top 19
abbrev n_l_leaf : List Str := ["_law_state_here", "_law_pool_here", "_law_bounds"]
abbrev p_l_leaf : List Str := ["_law_state_here", "_law_pool_here", "_law_bounds"]
theorem sc_l_leaf : FnScope n_l_leaf p_l_leaf (defScope s_l_leaf) := ⟨rfl, rfl, rfl, by decide +kernel, rfl, by decide +kernel, by decide +kernel⟩
abbrev s_l_term : Stmt := top 20
abbrev n_l_term : List Str := ["_law_state_here", "_law_pool_here", "_law_deep", "_law_bounds", "_law_sort", "_law_args", "_law_k"]
abbrev p_l_term : List Str := ["_law_state_here", "_law_pool_here", "_law_deep", "_law_bounds"]
theorem sc_l_term : FnScope n_l_term p_l_term (defScope s_l_term) := ⟨rfl, rfl, rfl, by decide +kernel, rfl, by decide +kernel, by decide +kernel⟩
abbrev s_l_told : Stmt := top 21
abbrev n_l_told : List Str := ["_law_state_here", "_law_pool_here", "_law_deep", "_law_bounds", "_law_sort", "_law_args", "_law_one", "_law_word", "_law_k"]
abbrev p_l_told : List Str := ["_law_state_here", "_law_pool_here", "_law_deep", "_law_bounds"]
theorem sc_l_told : FnScope n_l_told p_l_told (defScope s_l_told) := ⟨rfl, rfl, rfl, by decide +kernel, rfl, by decide +kernel, by decide +kernel⟩
abbrev s_l_any_told : Stmt := top 22
abbrev n_l_any_told : List Str := ["_law_state_here", "_law_pool_here", "_law_deep", "_law_bounds", "_law_many", "_law_told_here", "_law_k"]
abbrev p_l_any_told : List Str := ["_law_state_here", "_law_pool_here", "_law_deep", "_law_bounds"]
theorem sc_l_any_told : FnScope n_l_any_told p_l_any_told (defScope s_l_any_told) := ⟨rfl, rfl, rfl, by decide +kernel, rfl, by decide +kernel, by decide +kernel⟩
abbrev s_l_odd : Stmt := top 23
abbrev n_l_odd : List Str := ["_law_state_here", "_law_some"]
abbrev p_l_odd : List Str := ["_law_state_here"]
theorem sc_l_odd : FnScope n_l_odd p_l_odd (defScope s_l_odd) := ⟨rfl, rfl, rfl, by decide +kernel, rfl, by decide +kernel, by decide +kernel⟩
abbrev s_l_spoilt : Stmt := top 24
abbrev n_l_spoilt : List Str := ["_law_state_here", "_law_thing", "_law_at", "_law_way"]
abbrev p_l_spoilt : List Str := ["_law_state_here", "_law_thing"]
theorem sc_l_spoilt : FnScope n_l_spoilt p_l_spoilt (defScope s_l_spoilt) := ⟨rfl, rfl, rfl, by decide +kernel, rfl, by decide +kernel, by decide +kernel⟩
abbrev s_l_is_named : Stmt := top 25
abbrev n_l_is_named : List Str := ["_law_thing", "_law_great", "_law_letters", "_law_k", "_law_sign"]
abbrev p_l_is_named : List Str := ["_law_thing", "_law_great"]
theorem sc_l_is_named : FnScope n_l_is_named p_l_is_named (defScope s_l_is_named) := ⟨rfl, rfl, rfl, by decide +kernel, rfl, by decide +kernel, by decide +kernel⟩
abbrev s_l_are_args : Stmt := top 26
abbrev n_l_are_args : List Str := ["_law_thing", "_law_arg"]
abbrev p_l_are_args : List Str := ["_law_thing"]
theorem sc_l_are_args : FnScope n_l_are_args p_l_are_args (defScope s_l_are_args) := ⟨rfl, rfl, rfl, by decide +kernel, rfl, by decide +kernel, by decide +kernel⟩
abbrev s_l_is_term : Stmt := top 27
abbrev n_l_is_term : List Str := ["_law_thing"]
abbrev p_l_is_term : List Str := ["_law_thing"]
theorem sc_l_is_term : FnScope n_l_is_term p_l_is_term (defScope s_l_is_term) := ⟨rfl, rfl, rfl, by decide +kernel, rfl, by decide +kernel, by decide +kernel⟩
abbrev s_l_is_told : Stmt := top 28
abbrev n_l_is_told : List Str := ["_law_thing"]
abbrev p_l_is_told : List Str := ["_law_thing"]
theorem sc_l_is_told : FnScope n_l_is_told p_l_is_told (defScope s_l_is_told) := ⟨rfl, rfl, rfl, by decide +kernel, rfl, by decide +kernel, by decide +kernel⟩
abbrev s_l_right : Stmt := top 29
abbrev n_l_right : List Str := ["_law_thing", "_law_found"]
abbrev p_l_right : List Str := ["_law_thing"]
theorem sc_l_right : FnScope n_l_right p_l_right (defScope s_l_right) := ⟨rfl, rfl, rfl, by decide +kernel, rfl, by decide +kernel, by decide +kernel⟩
abbrev s_law : Stmt := top 30
abbrev n_law : List Str := ["_law_script", "_law_k", "_law_state_here", "_law_pool_here", "_law_told_here", "_law_turn"]
abbrev p_law : List Str := ["_law_script"]
theorem sc_law : FnScope n_law p_law (defScope s_law) := ⟨rfl, rfl, rfl, by decide +kernel, rfl, by decide +kernel, by decide +kernel⟩
structure Tp (K : PySem.W.Frag) (mg : Str → Option Value) : Prop where
  d_is_number : Df K mg "is_number" s_is_number p_is_number
  d_is_name : Df K mg "is_name" s_is_name p_is_name
  d_is_form_name : Df K mg "is_form_name" s_is_form_name p_is_form_name
  d_are_args : Df K mg "are_args" s_are_args p_are_args
  d_is_term : Df K mg "is_term" s_is_term p_is_term
  d_is_statement : Df K mg "is_statement" s_is_statement p_is_statement
  d_l_draw : Df K mg "_law_draw" s_l_draw p_l_draw
  d_l_state : Df K mg "_law_state" s_l_state p_l_state
  d_l_name : Df K mg "_law_name" s_l_name p_l_name
  d_l_form_name : Df K mg "_law_form_name" s_l_form_name p_l_form_name
  d_l_pool : Df K mg "_law_pool" s_l_pool p_l_pool
  d_l_leaf : Df K mg "_law_leaf" s_l_leaf p_l_leaf
  d_l_term : Df K mg "_law_term" s_l_term p_l_term
  d_l_told : Df K mg "_law_told" s_l_told p_l_told
  d_l_any_told : Df K mg "_law_any_told" s_l_any_told p_l_any_told
  d_l_odd : Df K mg "_law_odd" s_l_odd p_l_odd
  d_l_spoilt : Df K mg "_law_spoilt" s_l_spoilt p_l_spoilt
  d_l_is_named : Df K mg "_law_is_named" s_l_is_named p_l_is_named
  d_l_are_args : Df K mg "_law_are_args" s_l_are_args p_l_are_args
  d_l_is_term : Df K mg "_law_is_term" s_l_is_term p_l_is_term
  d_l_is_told : Df K mg "_law_is_told" s_l_is_told p_l_is_told
  d_l_right : Df K mg "_law_right" s_l_right p_l_right
  n_all : mg "all" = none
  n_bool : mg "bool" = none
  n_enumerate : mg "enumerate" = none
  n_int : mg "int" = none
  n_isinstance : mg "isinstance" = none
  n_len : mg "len" = none
  n_list : mg "list" = none
  n_range : mg "range" = none
  n_str : mg "str" = none
  n_tuple : mg "tuple" = none
  g_LETTERS : ∃ u, mg "LETTERS" = some u ∧ RelV (.str "abcdefghijklmnopqrstuvwxyz") u
  g_MOST_LETTERS : ∃ u, mg "MOST_LETTERS" = some u ∧ RelV (.int 8) u
  g_MOST_ARGS : ∃ u, mg "MOST_ARGS" = some u ∧ RelV (.int 4) u
  g_KEPT : ∃ a, (∃ u, mg "KEPT" = some u ∧ RelV (.ref a) u) ∧ ∀ H, R K H (.ref a) (.tuple kept)
  g_BINDERS : ∃ a, (∃ u, mg "BINDERS" = some u ∧ RelV (.ref a) u) ∧ ∀ H, R K H (.ref a) (.tuple [.str "all", .str "some"])

section
variable {P : Program} {w : World} {K : PySem.W.Frag} {mg : Str → Option Value} {base : Heap} {k n : Nat}
theorem ok_l_draw (T : Tp K mg) : Cal P w K mg base (k + 1) "_law_draw" spDraw := by
  refine T.d_l_draw.cal sc_l_draw (fun vs H Q E h => ?_) (fun f cdv A outer s H vs Q E hr h => ?_)
  · obtain ⟨p, n, rfl, _⟩ := h; rfl
  obtain ⟨p, n, rfl, hp, h0, h1, q⟩ := h
  have sc := @sc_l_draw
  refine ⟨_, pss_open (pss_cons (ps_if (pt_cmpR op_gt (pe_ix (ix_K K) (pv 0) pe_int (fun _ _ => rfl)) pe_int (nomark _)) (pss_cons (ps_set (i := 2) sc.nd rfl (Or.inl rfl) (pe_op op_mod (pe_ix (ix_K K) (pv 0) pe_int (fun _ _ => rfl)) (pv 1)))
      (pss_cons (ps_asg (pe_op op_fdiv (pe_ix (ix_K K) (pv 0) pe_int (fun _ _ => rfl)) (pv 1)) (pg_sub (pv 0) pe_int set_list))
      (pss_one (ps_ret (pv 2))))) pss_nil)
      (pss_cons (ps_asg (pe_op op_mod (pe_op (op_addK K) (pe_op op_mul (pe_ix (ix_K K) (pv 0) pe_int (fun _ _ => rfl)) pe_int) pe_int) pe_int) (pg_sub (pv 0) pe_int set_list))
      (pss_one (ps_ret (pe_op op_mod (pe_op op_mod (pe_op op_mul (pe_op op_fdiv (pe_op op_mod (pe_op op_mul (pe_ix (ix_K K) (pv 0) pe_int (fun _ _ => rfl)) pe_int) pe_int) pe_int) pe_int) pe_int) (pv 1)))))), ?_⟩
  refine ⟨p, hp, fun a b => ?_⟩
  have r0 : R K (upd H p (.lst [.int a, .int b])) (.ref p) (.list [.int a, .int b]) := .lst upd_same (.cons (.int a) (.cons (.int b) .nil))
  have hn : CDiv a n := ⟨h0, by omega⟩
  walk_at "r"
  all_goals
    refine ⟨_, _, upd_same, ?_⟩
    rw [upd_upd, upd_upd, upd_eta hp]
    exact q _ (Int.emod_nonneg _ (by omega)) (Int.emod_lt_of_pos _ h0)

theorem ok_l_state (T : Tp K mg) : Cal P w K mg base (k + 1) "_law_state" (spState K) := by
  refine T.d_l_state.cal sc_l_state (fun vs H Q E h => ?_) (fun f cdv A outer s H vs Q E hr h => ?_)
  · obtain ⟨a, ns, k, rfl, _⟩ := h; rfl
  obtain ⟨a, ns, kk, rfl, hS, h0, h1, q⟩ := h
  have sc := @sc_l_state
  refine ⟨_, pss_shut (pss_cons (ps_set (i := 2) sc.nd rfl (Or.inl rfl) pe_int)
      (pss_cons (ps_if (pt_cmpR op_lt (pv 1) (pe_callB (len_K K) rfl T.n_len bt_len (pa_cons (pv 0) pa_nil)) (nomark _)) (pss_one (ps_set (i := 2) sc.nd rfl (Or.inl rfl) (pe_ix (ix_K K) (pv 0) (pv 1) (fun _ _ => rfl)))) pss_nil)
      (pss_cons (ps_set (i := 3) sc.nd rfl (Or.inl rfl) (pe_op op_mod (pe_op op_mul (pe_op (op_addK K) (pe_op (op_addK K) (pe_op op_mod (pv 2) pe_int) (pe_op op_mul (pe_op op_mul pe_int (pv 1)) (pv 1))) pe_int) pe_int) pe_int))
      (pss_cons (ps_if (pt_cmpR op_lt (pv 2) (pe_op op_pow pe_int pe_int) (nomark _)) (pss_one (ps_ret (pe_lst2 (pa_cons pe_int (pa_cons (pv 3) pa_nil))))) pss_nil)
      (pss_one (ps_ret (pe_lst2 (pa_cons (pv 2) (pa_cons (pv 3) pa_nil))))))))), ?_⟩
  walk_at "r"
  all_goals
    refine ⟨by show 2 ≤ sizeLine; decide, fun p hp => ⟨p, _, _, rfl, upd_same, ?_⟩⟩
    rw [upd_upd]
    exact q p _ (same_new hp _) upd_same

theorem ok_l_name (T : Tp K mg) (c_l_draw : Cal P w K mg base k "_law_draw" spDraw) : Cal P w K mg base (k + 1) "_law_name" spName := by
  refine T.d_l_name.cal sc_l_name (fun vs H Q E h => ?_) (fun f cdv A outer s H vs Q E hr h => ?_)
  · obtain ⟨p, rfl, _⟩ := h; rfl
  obtain ⟨p, rfl, hp, q⟩ := h
  have sc := @sc_l_name
  refine ⟨_, (pss_cons (ps_set (i := 1) sc.nd rfl (Or.inr rfl) pe_str)
      (pss_cons (ps_set (i := 2) sc.nd rfl (Or.inl rfl) (joinK K pe_str (pe_lc (own := [("_law_k", 3)]) (g := gName 3) (tt := tYes) rfl sc.nd (pi_range1 rfl T.n_range (pa_cons (pe_op (op_addK K) pe_int (pe_c c_l_draw hr (Nat.le_refl _) rfl (pa_cons (pv 0) (pa_cons pe_int pa_nil)))) pa_nil)) (blkOk_by (N := n_l_name) (sc := defScope s_l_name) (by decide +kernel)) (fun _ _ _ _ _ => pg_name (i := 3) sc.nd rfl (Or.inl rfl)) (fun _ _ _ _ _ => pts_nil) (fun _ _ _ _ _ => pe_hide (pe_ix (ix_K K) (pv 1) (pe_c c_l_draw hr (Nat.le_refl _) rfl (pa_cons (pv 0) (pa_cons pe_int pa_nil))) (fun _ _ => rfl))))))
      (pss_cons (ps_if (pt_cmpR (op_inK K) (pv 2) (pe_tupK K (pa_cons pe_str (pa_cons pe_str (pa_cons pe_str (pa_cons pe_str (pa_cons pe_str pa_nil)))))) rfl) (pss_one (ps_ret (pe_slice (sl_K K) (pv 2) po_none (po_some pe_int)))) pss_nil)
      (pss_one (ps_ret (pv 2)))))), ?_⟩
  walk_at "r"
  rename_i r0 h0 h1
  refine lcR_p (K := K) (fun e => ∃ c : Nat, e = .str ⟨#[c]⟩ ∧ low c = true) (by omega) (by omega) (fun _ => rfl) (fun i H1 hi s1 Qt hQ => ?_) (fun v H1 es s1 r1 hl hP => ?_)
  · walk_at "r"
    rename_i c hc
    exact hQ _ _ _ (by walk_at "S") (R.str _) ⟨c, rfl, decide_eq_true hc⟩
  obtain ⟨cs, rfl, hy⟩ := signs_of hP
  rw [List.length_map, List.length_map] at hl
  refine join_R r1 (by rw [sum_signs, List.length_map]; simp only [Nat.mul_zero, show ("" : Str).length = 0 from rfl]; omega) ?_
  have hj := join_signs cs
  generalize Txt.join "" (cs.map sign) = built at hj ⊢
  have hlen : built.length = cs.length := by rw [len_cps, hj]
  walk_at "r"
  · rcases cs with _ | ⟨c, cs⟩
    · simp at hl; omega
    · refine q _ _ (by walk_at "S") (one_name (c := c) ?_ (hy c (by simp)))
      rw [cutS_t1, hj]; rfl
  · rename_i hb
    exact q _ _ (by walk_at "S") (name_of (by omega) (by omega) hb (by rw [hj]; exact hy))
theorem ok_l_form_name (T : Tp K mg) (c_l_name : Cal P w K mg base k "_law_name" spName) : Cal P w K mg base (k + 1) "_law_form_name" spForm := by
  refine T.d_l_form_name.cal sc_l_form_name (fun vs H Q E h => ?_) (fun f cdv A outer s H vs Q E hr h => ?_)
  · obtain ⟨p, rfl, _⟩ := h; rfl
  obtain ⟨p, rfl, hp, q⟩ := h
  have sc := @sc_l_form_name
  refine ⟨_, (pss_cons (ps_set (i := 1) sc.nd rfl (Or.inl rfl) (pe_c c_l_name hr (Nat.le_refl _) rfl (pa_cons (pv 0) pa_nil)))
      (pss_one (ps_ret (pe_op (op_addK K) (pe_upperR (pe_slice (sl_K K) (pv 1) po_none (po_some pe_int))) (pe_slice (sl_K K) (pv 1) (po_some pe_int) po_none))))), ?_⟩
  walk_at "r"
  rename_i hz
  exact q _ _ (by walk_at "S") (form_of hz)
theorem ok_l_pool (T : Tp K mg) (c_l_name : Cal P w K mg base k "_law_name" spName) (c_l_form_name : Cal P w K mg base k "_law_form_name" spForm) : Cal P w K mg base (k + 1) "_law_pool" (spPool K) := by
  refine T.d_l_pool.cal sc_l_pool (fun vs H Q E h => ?_) (fun f cdv A outer s H vs Q E hr h => ?_)
  · obtain ⟨p, rfl, _⟩ := h; rfl
  obtain ⟨p, rfl, hp, q⟩ := h
  have sc := @sc_l_pool
  refine ⟨_, (pss_cons (ps_setLc (i := 1) (own := [("_law_k", 2)]) (g := gName 2) (tt := tYes) rfl sc.nd rfl rfl (sw_true rfl rfl rfl (by decide +kernel)) (pi_range1 rfl T.n_range (pa_cons pe_int pa_nil)) (blkOk_by (N := n_l_pool) (sc := defScope s_l_pool) (by decide +kernel)) (fun _ _ _ _ _ => pg_name (i := 2) sc.nd rfl (Or.inl rfl)) (fun _ _ _ _ _ => pts_nil) (fun _ _ _ _ _ => pe_hide (pe_c c_l_name hr (Nat.le_refl _) rfl (pa_cons (pv 0) pa_nil))))
      (pss_one (ps_ret (pe_tupK K (pa_cons (pv 1) (pa_cons (pe_lc (own := [("_law_k", 2)]) (g := gName 2) (tt := tYes) rfl sc.nd (pi_range1 rfl T.n_range (pa_cons pe_int pa_nil)) (blkOk_by (N := n_l_pool) (sc := defScope s_l_pool) (by decide +kernel)) (fun _ _ _ _ _ => pg_name (i := 2) sc.nd rfl (Or.inl rfl)) (fun _ _ _ _ _ => pts_nil) (fun _ _ _ _ _ => pe_hide (pe_c c_l_form_name hr (Nat.le_refl _) rfl (pa_cons (pv 0) pa_nil)))) (pa_cons (pe_lstK K (pa_cons (pe_c c_l_name hr (Nat.le_refl _) rfl (pa_cons (pv 0) pa_nil)) (pa_cons (pe_c c_l_name hr (Nat.le_refl _) rfl (pa_cons (pv 0) pa_nil)) (pa_cons (pe_ix (ix_K K) (pv 1) pe_int (fun _ _ => rfl)) pa_nil)))) pa_nil))))))), ?_⟩
  walk_at "r"
  refine lcR_p (K := K) (fun e => ∃ z : Str, e = .str z ∧ isNameS z = true) (by omega) (by omega) (fun _ => rfl) (fun i H1 hi s1 Qt hQ => ?_) (fun v H1 es s1 r1 hl hP => ?_)
  · walk_at "r"
    rename_i z H2 s2 hz
    exact hQ _ _ _ (by walk_at "S") (R.str _) ⟨z, rfl, hz⟩
  obtain ⟨fs, rfl, hf⟩ := strs_of hP
  rw [List.length_map] at hl
  have hl' : fs.length = 9 := hl
  walk_at "r"
  refine lcR_p (K := K) (fun e => ∃ z : Str, e = .str z ∧ isFormS z = true) (by omega) (by omega) (fun _ => rfl) (fun i H2 hi s2 Qt hQ => ?_) (fun v2 H2 es s2 r2 hl2 hP2 => ?_)
  · walk_at "r"
    rename_i z H3 s3 hz
    exact hQ _ _ _ (by walk_at "S") (R.str _) ⟨z, rfl, hz⟩
  obtain ⟨gs, rfl, hg⟩ := strs_of hP2
  rw [List.length_map] at hl2
  walk_at "r"
  rename_i z1 H3 s3 hz1 z2 H4 s4 hz2 z3 hz3 v5 H5 s5 r5 v6 H6 s6 r6
  exact q _ fs gs [z1, z2, z3] _ (by walk_at "S") ⟨hl', hl2, rfl, hf, hg, by
    intro z hz
    simp only [List.mem_cons, List.not_mem_nil, or_false] at hz
    rcases hz with rfl | rfl | rfl
    · exact hz1
    · exact hz2
    · exact hf _ hz3⟩ r6
theorem ok_l_leaf (T : Tp K mg) (c_l_draw : Cal P w K mg base k "_law_draw" spDraw) : Cal P w K mg base (k + 1) "_law_leaf" (spLeaf K) := by
  refine T.d_l_leaf.cal sc_l_leaf (fun vs H Q E h => ?_) (fun f cdv A outer s H vs Q E hr h => ?_)
  · obtain ⟨p, v, fs, gs, ns, b, rfl, _⟩ := h; rfl
  obtain ⟨p, v, fs, gs, ns, b, rfl, hp, r, ok, b0, b1, q⟩ := h
  have sc := @sc_l_leaf
  have lf := ok.lf
  refine ⟨_, (pss_cons (ps_if (PW.pt (pw_and (pt_cmpR op_gt (pv 2) pe_int (nomark _)) (pw_and1 (pt_cmpR op_gt (pe_c c_l_draw hr (Nat.le_refl _) rfl (pa_cons (pv 0) (pa_cons pe_int pa_nil))) pe_int (nomark _))))) (pss_one (ps_ret (pe_tupK K (pa_cons pe_str (pa_cons (pe_c c_l_draw hr (Nat.le_refl _) rfl (pa_cons (pv 0) (pa_cons (pv 2) pa_nil))) pa_nil))))) pss_nil)
      (pss_one (ps_ret (pe_tupK K (pa_cons pe_str (pa_cons (pe_ix (ix_K K) (pe_ix (ix_K K) (pv 1) pe_int (fun _ _ => rfl)) (pe_c c_l_draw hr (Nat.le_refl _) rfl (pa_cons (pv 0) (pa_cons pe_int pa_nil))) (fun _ _ => rfl)) pa_nil)))))), ?_⟩
  walk_at "r"
  · rename_i hb0 r0 _ _ hb1 r1 h0 h1 v0 H0 s0 rr
    refine q _ (.bnd r1.toNat) _ (by walk_at "S") ?_ (by show r1.toNat < b.toNat; omega) rfl rfl
    show R K _ _ (.tuple [.str "bound", .int (r1.toNat : Nat)])
    rw [Int.toNat_of_nonneg h0]
    exact rr
  all_goals
    rename_i z0 hz0 v0 H0 s0 rr
    exact q _ (.free z0) _ (by walk_at "S") rr ⟨ok.hf _ hz0, hz0⟩ rfl rfl

end
end G



local macro_rules | `(tactic| walk_at "side") => `(tactic| first | exact G.nm_a (by with_reducible assumption) | exact G.fm_a (by with_reducible assumption) | exact G.nm_b (by with_reducible assumption) | exact G.nm_c (by with_reducible assumption) | fail)
local macro_rules | `(tactic| walk_at "c") => `(tactic| ((with_reducible refine' G.use_name ?hp ?_); (case hp => walk_at "P"); intro z0 H0 s0 hz0))
local macro_rules | `(tactic| walk_at "c") => `(tactic| ((with_reducible refine' G.use_form ?hp ?_); (case hp => walk_at "P"); intro z0 H0 s0 hz0))
local macro_rules | `(tactic| walk_at "c") => `(tactic| ((with_reducible refine' G.use_pool ?hp ?_); (case hp => walk_at "P"); intro v0 fs0 gs0 ns0 H0 s0 ok0 r0))
local macro_rules | `(tactic| walk_at "c") => `(tactic| ((with_reducible refine' G.use_leaf ?hp ?r ?ok ?h0 ?h1 ?_); (case hp => walk_at "P"); (case r => walk_at "R"); (case ok => with_reducible assumption); (case h0 => walk_at "side"); (case h1 => walk_at "side"); intro v0 t0 H0 s0 r0 ht0 hd0 hs0))
local macro_rules | `(tactic| walk_at "c") => `(tactic| ((with_reducible refine' G.use_term ?hp ?r ?ok ?h0 ?h1 ?e0 ?e1 ?_); (case hp => walk_at "P"); (case r => walk_at "R"); (case ok => with_reducible assumption); (case h0 => walk_at "side"); (case h1 => walk_at "side"); (case e0 => walk_at "side"); (case e1 => walk_at "side"); intro v0 t0 H0 s0 r0 ht0 hd0 hs0))
local macro_rules | `(tactic| walk_at "c") => `(tactic| ((with_reducible refine' G.use_tall ?hp ?r ?ok ?rt ?ht ?h0 ?h1 ?_); (case hp => walk_at "P"); (case r => walk_at "R"); (case ok => with_reducible assumption); (case rt => walk_at "R"); (case ht => with_reducible assumption); (case h0 => walk_at "side"); (case h1 => walk_at "side"); intro v0 t0 H0 s0 r0 ht0 hd0 hs0))
local macro_rules | `(tactic| walk_at "c") => `(tactic| ((with_reducible refine' G.use_anyT ?hp ?r ?ok ?h0 ?h1 ?_); (case hp => walk_at "P"); (case r => walk_at "R"); (case ok => with_reducible assumption); (case h0 => walk_at "side"); (case h1 => walk_at "side"); intro v0 t0 H0 s0 r0 ht0 hd0 hs0))

namespace G
open PySem PySem.Spec PyProof.Rows L2
section
variable {P : Program} {w : World} {K : PySem.W.Frag} {mg : Str → Option Value} {base : Heap} {k n : Nat}
theorem ok_l_term (T : Tp K mg) (c_l_draw : Cal P w K mg base k "_law_draw" spDraw) (c_l_leaf : Cal P w K mg base k "_law_leaf" (spLeaf K)) (c_l_term : Cal P w K mg base k "_law_term" (spTerm K n)) : Cal P w K mg base (k + 1) "_law_term" (spTerm K (n + 1)) := by
  refine T.d_l_term.cal sc_l_term (fun vs H Q E h => ?_) (fun f cdv A outer s H vs Q E hr h => ?_)
  · obtain ⟨p, v, fs, gs, ns, e, b, rfl, _⟩ := h; rfl
  obtain ⟨p, v, fs, gs, ns, e, b, rfl, hp, r, ok, b0, b1, e0, e1, q⟩ := h
  have sc := @sc_l_term
  have lg := ok.lg
  have ln := ok.ln
  refine ⟨_, (pss_cons (ps_set (i := 4) sc.nd rfl (Or.inl rfl) (pe_c c_l_draw hr (Nat.le_refl _) rfl (pa_cons (pv 0) (pa_cons pe_int pa_nil))))
      (pss_cons (ps_if (PW.pt (pw_or (pt_cmpR (op_eqK K hr) (pv 2) pe_int (nomark _)) (pw_or1 (pt_cmpR op_lt (pv 4) pe_int (nomark _))))) (pss_one (ps_ret (pe_c c_l_leaf hr (Nat.le_refl _) rfl (pa_cons (pv 0) (pa_cons (pv 1) (pa_cons (pv 3) pa_nil)))))) pss_nil)
      (pss_cons (ps_set (i := 5) sc.nd rfl (Or.inl rfl) (tupleOf_K K rfl T.n_tuple (pe_lc (own := [("_law_k", 6)]) (g := gName 6) (tt := tYes) rfl sc.nd (pi_range1 rfl T.n_range (pa_cons (pe_c c_l_draw hr (Nat.le_refl _) rfl (pa_cons (pv 0) (pa_cons pe_int pa_nil))) pa_nil)) (blkOk_by (N := n_l_term) (sc := defScope s_l_term) (by decide +kernel)) (fun _ _ _ _ _ => pg_name (i := 6) sc.nd rfl (Or.inl rfl)) (fun _ _ _ _ _ => pts_nil) (fun _ _ _ _ _ => pe_hide (pe_c c_l_term hr (Nat.le_refl _) rfl (pa_cons (pv 0) (pa_cons (pv 1) (pa_cons (pe_op op_sub (pv 2) pe_int) (pa_cons (pv 3) pa_nil)))))))))
      (pss_cons (ps_if (pt_cmpR op_lt (pv 4) pe_int (nomark _)) (pss_one (ps_ret (pe_tupK K (pa_cons pe_str (pa_cons (pe_ix (ix_K K) (pe_ix (ix_K K) (pv 1) pe_int (fun _ _ => rfl)) (pe_c c_l_draw hr (Nat.le_refl _) rfl (pa_cons (pv 0) (pa_cons pe_int pa_nil))) (fun _ _ => rfl)) (pa_cons (pv 5) pa_nil)))))) pss_nil)
      (pss_one (ps_ret (pe_tupK K (pa_cons pe_str (pa_cons (pe_ix (ix_K K) (pe_ix (ix_K K) (pv 1) pe_int (fun _ _ => rfl)) (pe_c c_l_draw hr (Nat.le_refl _) rfl (pa_cons (pv 0) (pa_cons pe_int pa_nil))) (fun _ _ => rfl)) (pa_cons (pv 5) pa_nil)))))))))), ?_⟩
  walk_at "r"
  · rename_i v0 t0 H0 s0 r0 ht hd hs
    exact q _ t0 _ s0 r0 ht (by omega) (by have := szT_pos e.toNat; omega)
  · rename_i v0 t0 H0 s0 r0 ht hd hs
    exact q _ t0 _ s0 r0 ht (by omega) (by have := szT_pos e.toNat; omega)
  rename_i r0 _ _ he hr0 r1 h0 h1
  refine lcR_p (K := K) (fun d => ∃ t : Th, d = t.d ∧ (t.isT fs b.toNat ∧ t.dep ≤ e.toNat ∧ t.sz ≤ szT (e - 1).toNat)) (by omega) (by omega) (fun _ => rfl) (fun i H1 hi s1 Qt hQ => ?_) (fun v H1 es s1 r1 hl hP => ?_)
  · walk_at "r"
    rename_i v2 t2 H2 s2 r2 ht hd hs
    exact hQ _ _ _ (by walk_at "S") r2 ⟨t2, rfl, ht, by omega, hs⟩
  obtain ⟨ts, rfl, hts⟩ := ths_of hP
  have hlen : ts.length ≤ 4 := by rw [Th.ds_map, List.length_map] at hl; omega
  have hdep : Th.deps ts + 1 ≤ e.toNat + 1 := Nat.succ_le_succ (Th.deps_le.mpr fun t ht => (hts t ht).2.1)
  have hsz : Th.szs ts + 1 ≤ szT e.toNat := by
    have h1 := Th.szs_le (ts := ts) (m := szT (e - 1).toNat) fun t ht => (hts t ht).2.2
    have h2 : ts.length * szT (e - 1).toNat ≤ 4 * szT (e - 1).toNat := Nat.mul_le_mul_right _ hlen
    have h3 : e.toNat = (e - 1).toNat + 1 := by omega
    rw [h3, szT]
    omega
  have har : Th.areT fs b.toNat ts := Th.areT_all.mpr fun t ht => (hts t ht).1
  walk_at "r"
  · rename_i z0 hz0 v0 H0 s0 rr
    exact q _ (.app .form z0 ts) _ (by walk_at "S") rr ⟨ok.hg _ hz0, hlen, har⟩ hdep hsz
  · rename_i z0 hz0 v0 H0 s0 rr
    exact q _ (.app .call z0 ts) _ (by walk_at "S") rr ⟨ok.hn _ hz0, hlen, har⟩ hdep hsz
theorem term_n (T : Tp K mg) : ∀ n : Nat, Cal P w K mg base (n + 3) "_law_term" (spTerm K n)
  | 0 => T.d_l_term.none fun vs H Q E h => by obtain ⟨_, _, _, _, _, _, _, _, _, _, _, _, _, h0, h1, _⟩ := h; omega
  | n + 1 => ok_l_term T ((ok_l_draw (k := 0) T).lift (by omega)) ((ok_l_leaf (k := 1) T (ok_l_draw T)).lift (by omega)) (term_n T n)

end
end G



local macro_rules | `(tactic| walk_at "side") => `(tactic| first | exact G.nm_a (by with_reducible assumption) | exact G.fm_a (by with_reducible assumption) | exact G.nm_b (by with_reducible assumption) | exact G.nm_c (by with_reducible assumption) | fail)
local macro_rules | `(tactic| walk_at "c") => `(tactic| ((with_reducible refine' G.use_name ?hp ?_); (case hp => walk_at "P"); intro z0 H0 s0 hz0))
local macro_rules | `(tactic| walk_at "c") => `(tactic| ((with_reducible refine' G.use_form ?hp ?_); (case hp => walk_at "P"); intro z0 H0 s0 hz0))
local macro_rules | `(tactic| walk_at "c") => `(tactic| ((with_reducible refine' G.use_pool ?hp ?_); (case hp => walk_at "P"); intro v0 fs0 gs0 ns0 H0 s0 ok0 r0))
local macro_rules | `(tactic| walk_at "c") => `(tactic| ((with_reducible refine' G.use_leaf ?hp ?r ?ok ?h0 ?h1 ?_); (case hp => walk_at "P"); (case r => walk_at "R"); (case ok => with_reducible assumption); (case h0 => walk_at "side"); (case h1 => walk_at "side"); intro v0 t0 H0 s0 r0 ht0 hd0 hs0))
local macro_rules | `(tactic| walk_at "c") => `(tactic| ((with_reducible refine' G.use_term ?hp ?r ?ok ?h0 ?h1 ?e0 ?e1 ?_); (case hp => walk_at "P"); (case r => walk_at "R"); (case ok => with_reducible assumption); (case h0 => walk_at "side"); (case h1 => walk_at "side"); (case e0 => walk_at "side"); (case e1 => walk_at "side"); intro v0 t0 H0 s0 r0 ht0 hd0 hs0))
local macro_rules | `(tactic| walk_at "c") => `(tactic| ((with_reducible refine' G.use_tall ?hp ?r ?ok ?rt ?ht ?h0 ?h1 ?_); (case hp => walk_at "P"); (case r => walk_at "R"); (case ok => with_reducible assumption); (case rt => walk_at "R"); (case ht => with_reducible assumption); (case h0 => walk_at "side"); (case h1 => walk_at "side"); intro v0 t0 H0 s0 r0 ht0 hd0 hs0))
local macro_rules | `(tactic| walk_at "c") => `(tactic| ((with_reducible refine' G.use_anyT ?hp ?r ?ok ?h0 ?h1 ?_); (case hp => walk_at "P"); (case r => walk_at "R"); (case ok => with_reducible assumption); (case h0 => walk_at "side"); (case h1 => walk_at "side"); intro v0 t0 H0 s0 r0 ht0 hd0 hs0))

local macro_rules | `(tactic| walk_at "c") => `(tactic| ((with_reducible refine' G.use_told ?hp ?r ?ok ?h0 ?h1 ?e0 ?e1 ?_); (case hp => walk_at "P"); (case r => walk_at "R"); (case ok => with_reducible assumption); (case h0 => walk_at "side"); (case h1 => walk_at "side"); (case e0 => walk_at "side"); (case e1 => walk_at "side"); intro v0 t0 H0 s0 r0 ht0 hd0 hs0))
local macro_rules | `(tactic| walk_at "c") => `(tactic| ((with_reducible refine' G.use_anyS ?hp ?r ?ok ?h0 ?h1 ?e0 ?e1 ?_); (case hp => walk_at "P"); (case r => walk_at "R"); (case ok => with_reducible assumption); (case h0 => walk_at "side"); (case h1 => walk_at "side"); (case e0 => walk_at "side"); (case e1 => walk_at "side"); intro v0 t0 H0 s0 r0 ht0 hd0 hs0))

namespace G
open PySem PySem.Spec PyProof.Rows L2
section
variable {P : Program} {w : World} {K : PySem.W.Frag} {mg : Str → Option Value} {base : Heap} {k n : Nat}
theorem ok_l_told (T : Tp K mg) (c_l_draw : Cal P w K mg base k "_law_draw" spDraw) (c_l_term : Cal P w K mg base k "_law_term" (spTerm K 4)) (c_l_told : Cal P w K mg base k "_law_told" (spTold K n)) : Cal P w K mg base (k + 1) "_law_told" (spTold K (n + 1)) := by
  refine T.d_l_told.cal sc_l_told (fun vs H Q E h => ?_) (fun f cdv A outer s H vs Q E hr h => ?_)
  · obtain ⟨p, v, fs, gs, ns, e, b, rfl, _⟩ := h; rfl
  obtain ⟨p, v, fs, gs, ns, e, b, rfl, hp, r, ok, b0, b1, e0, e1, q⟩ := h
  have sc := @sc_l_told
  have lg := ok.lg
  have ln := ok.ln
  refine ⟨_, (pss_cons (ps_set (i := 4) sc.nd rfl (Or.inl rfl) (pe_c c_l_draw hr (Nat.le_refl _) rfl (pa_cons (pv 0) (pa_cons pe_int pa_nil))))
      (pss_cons (ps_if (PW.pt (pw_or (pt_cmpR (op_eqK K hr) (pv 2) pe_int (nomark _)) (pw_or1 (pt_cmpR op_lt (pv 4) pe_int (nomark _))))) (pss_cons (ps_if (pt_cmpR (op_eqK K hr) (pe_op op_mod (pv 4) pe_int) pe_int (nomark _)) (pss_one (ps_ret (pe_tupK K (pa_cons pe_str pa_nil)))) pss_nil)
      (pss_cons (ps_if (pt_cmpR (op_eqK K hr) (pe_op op_mod (pv 4) pe_int) pe_int (nomark _)) (pss_one (ps_ret (pe_tupK K (pa_cons pe_str (pa_cons (pe_c c_l_term hr (Nat.le_refl _) rfl (pa_cons (pv 0) (pa_cons (pv 1) (pa_cons pe_int (pa_cons (pv 3) pa_nil))))) (pa_cons (pe_c c_l_term hr (Nat.le_refl _) rfl (pa_cons (pv 0) (pa_cons (pv 1) (pa_cons pe_int (pa_cons (pv 3) pa_nil))))) pa_nil)))))) pss_nil)
      (pss_cons (ps_set (i := 5) sc.nd rfl (Or.inl rfl) (tupleOf_K K rfl T.n_tuple (pe_lc (own := [("_law_k", 8)]) (g := gName 8) (tt := tYes) rfl sc.nd (pi_range1 rfl T.n_range (pa_cons (pe_c c_l_draw hr (Nat.le_refl _) rfl (pa_cons (pv 0) (pa_cons pe_int pa_nil))) pa_nil)) (blkOk_by (N := n_l_told) (sc := defScope s_l_told) (by decide +kernel)) (fun _ _ _ _ _ => pg_name (i := 8) sc.nd rfl (Or.inl rfl)) (fun _ _ _ _ _ => pts_nil) (fun _ _ _ _ _ => pe_hide (pe_c c_l_term hr (Nat.le_refl _) rfl (pa_cons (pv 0) (pa_cons (pv 1) (pa_cons pe_int (pa_cons (pv 3) pa_nil)))))))))
      (pss_one (ps_ret (pe_tupK K (pa_cons pe_str (pa_cons (pe_ix (ix_K K) (pe_ix (ix_K K) (pv 1) pe_int (fun _ _ => rfl)) (pe_c c_l_draw hr (Nat.le_refl _) rfl (pa_cons (pv 0) (pa_cons pe_int pa_nil))) (fun _ _ => rfl)) (pa_cons (pv 5) pa_nil))))))))) pss_nil)
      (pss_cons (ps_if (pt_cmpR op_lt (pv 4) pe_int (nomark _)) (pss_cons (ps_set (i := 6) sc.nd rfl (Or.inl rfl) (pe_c c_l_told hr (Nat.le_refl _) rfl (pa_cons (pv 0) (pa_cons (pv 1) (pa_cons (pe_op op_sub (pv 2) pe_int) (pa_cons (pv 3) pa_nil))))))
      (pss_one (ps_ret (pe_tupK K (pa_cons (pe_ix (ix_K K) (pe_lstK K (pa_cons pe_str (pa_cons pe_str (pa_cons pe_str pa_nil)))) (pe_op op_sub (pv 4) pe_int) (fun _ _ => rfl)) (pa_cons (pv 6) (pa_cons (pe_c c_l_told hr (Nat.le_refl _) rfl (pa_cons (pv 0) (pa_cons (pv 1) (pa_cons (pe_op op_sub (pv 2) pe_int) (pa_cons (pv 3) pa_nil))))) pa_nil))))))) pss_nil)
      (pss_cons (ps_set (i := 7) sc.nd rfl (Or.inl rfl) (pe_ix (ix_K K) (pe_lstK K (pa_cons pe_str (pa_cons pe_str pa_nil))) (pe_op op_mod (pv 4) pe_int) (fun _ _ => rfl)))
      (pss_one (ps_ret (pe_tupK K (pa_cons (pv 7) (pa_cons (pe_ix (ix_K K) (pe_ix (ix_K K) (pv 1) pe_int (fun _ _ => rfl)) (pe_c c_l_draw hr (Nat.le_refl _) rfl (pa_cons (pv 0) (pa_cons pe_int pa_nil))) (fun _ _ => rfl)) (pa_cons (pe_c c_l_told hr (Nat.le_refl _) rfl (pa_cons (pv 0) (pa_cons (pv 1) (pa_cons (pe_op op_sub (pv 2) pe_int) (pa_cons (pe_op (op_addK K) (pv 3) pe_int) pa_nil))))) pa_nil)))))))))), ?_⟩
  have zS := szS_ge e.toNat
  walk_at "r"
  · rename_i v0 H0 s0 r0
    exact q _ .fls _ (by walk_at "S") r0 True.intro (by show 1 ≤ _; omega) (by show 1 ≤ _; omega)
  · rename_i va ta Ha sa ra hta hda hsa vb tb Hb sb rb htb hdb hsb v0 H0 s0 r0
    have hda : ta.dep ≤ 3 := hda
    have hdb : tb.dep ≤ 3 := hdb
    have hsa : ta.sz ≤ 21 := hsa
    have hsb : tb.sz ≤ 21 := hsb
    exact q _ (.two .same ta tb) _ (by walk_at "S") r0 ⟨hta, htb⟩ (by show max ta.dep tb.dep + 1 ≤ _; omega) (by show ta.sz + tb.sz + 1 ≤ _; omega)
  · rename_i m h0 h1
    refine lcR_p (K := K) (fun d => ∃ t : Th, d = t.d ∧ (t.isT fs b.toNat ∧ t.dep ≤ 3 ∧ t.sz ≤ 21)) (by omega) (by omega) (fun _ => rfl) (fun i H1 hi s1 Qt hQ => ?_) (fun v H1 es s1 r1 hl hP => ?_)
    · walk_at "r"
      rename_i v2 t2 H2 s2 r2 ht hd hs
      exact hQ _ _ _ (by walk_at "S") r2 ⟨t2, rfl, ht, hd, hs⟩
    obtain ⟨ts, rfl, hts⟩ := ths_of hP
    have hlen : ts.length ≤ 4 := by rw [ds_len] at hl; omega
    have hdep : Th.deps ts ≤ 3 := Th.deps_le.mpr fun t ht => (hts t ht).2.1
    have hsz : Th.szs ts ≤ ts.length * 21 := Th.szs_le fun t ht => (hts t ht).2.2
    have har : Th.areT fs b.toNat ts := Th.areT_all.mpr fun t ht => (hts t ht).1
    walk_at "r"
    rename_i z0 hz0 v0 H0 s0 rr
    exact q _ (.app .atom z0 ts) _ (by walk_at "S") rr ⟨ok.hn _ hz0, hlen, har⟩ (by show Th.deps ts + 1 ≤ _; omega) (by show Th.szs ts + 1 ≤ _; omega)
  · rename_i v0 H0 s0 r0
    exact q _ .fls _ (by walk_at "S") r0 True.intro (by show 1 ≤ _; omega) (by show 1 ≤ _; omega)
  · rename_i va ta Ha sa ra hta hda hsa vb tb Hb sb rb htb hdb hsb v0 H0 s0 r0
    have hda : ta.dep ≤ 3 := hda
    have hdb : tb.dep ≤ 3 := hdb
    have hsa : ta.sz ≤ 21 := hsa
    have hsb : tb.sz ≤ 21 := hsb
    exact q _ (.two .same ta tb) _ (by walk_at "S") r0 ⟨hta, htb⟩ (by show max ta.dep tb.dep + 1 ≤ _; omega) (by show ta.sz + tb.sz + 1 ≤ _; omega)
  · rename_i m h0 h1
    refine lcR_p (K := K) (fun d => ∃ t : Th, d = t.d ∧ (t.isT fs b.toNat ∧ t.dep ≤ 3 ∧ t.sz ≤ 21)) (by omega) (by omega) (fun _ => rfl) (fun i H1 hi s1 Qt hQ => ?_) (fun v H1 es s1 r1 hl hP => ?_)
    · walk_at "r"
      rename_i v2 t2 H2 s2 r2 ht hd hs
      exact hQ _ _ _ (by walk_at "S") r2 ⟨t2, rfl, ht, hd, hs⟩
    obtain ⟨ts, rfl, hts⟩ := ths_of hP
    have hlen : ts.length ≤ 4 := by rw [ds_len] at hl; omega
    have hdep : Th.deps ts ≤ 3 := Th.deps_le.mpr fun t ht => (hts t ht).2.1
    have hsz : Th.szs ts ≤ ts.length * 21 := Th.szs_le fun t ht => (hts t ht).2.2
    have har : Th.areT fs b.toNat ts := Th.areT_all.mpr fun t ht => (hts t ht).1
    walk_at "r"
    rename_i z0 hz0 v0 H0 s0 rr
    exact q _ (.app .atom z0 ts) _ (by walk_at "S") rr ⟨ok.hn _ hz0, hlen, har⟩ (by show Th.deps ts + 1 ≤ _; omega) (by show Th.szs ts + 1 ≤ _; omega)
  · rename_i va ta Ha sa ra hta hda hsa vl Hl sl rl vw dw hdw rw0 vb tb Hb sb rb htb hdb hsb v0 H0 s0 r0
    have he : e.toNat = (e - 1).toNat + 1 := by omega
    have hz : ta.sz + tb.sz + 1 ≤ szS e.toNat := by rw [he, szS]; omega
    have hd : max ta.dep tb.dep + 1 ≤ e.toNat + 4 := by omega
    have hw : dw = .str "and" ∨ dw = .str "or" ∨ dw = .str "if" := by simpa using hdw
    rcases hw with rfl | rfl | rfl
    · exact q _ (.two .and ta tb) _ (by walk_at "S") r0 ⟨hta, htb⟩ hd hz
    · exact q _ (.two .or ta tb) _ (by walk_at "S") r0 ⟨hta, htb⟩ hd hz
    · exact q _ (.two .iff ta tb) _ (by walk_at "S") r0 ⟨hta, htb⟩ hd hz
  · rename_i z0 hz0 va ta Ha sa ra hta hda hsa v0 H0 s0 r0
    have he : e.toNat = (e - 1).toNat + 1 := by omega
    have hz : ta.sz + 1 ≤ szS e.toNat := by rw [he, szS]; omega
    have hd : ta.dep + 1 ≤ e.toNat + 4 := by omega
    rw [show (b + 1).toNat = b.toNat + 1 by omega] at hta
    exact q _ (.qua .all z0 ta) _ (by walk_at "S") r0 ⟨ok.hn _ hz0, hta⟩ hd hz
  · rename_i z0 hz0 va ta Ha sa ra hta hda hsa v0 H0 s0 r0
    have he : e.toNat = (e - 1).toNat + 1 := by omega
    have hz : ta.sz + 1 ≤ szS e.toNat := by rw [he, szS]; omega
    have hd : ta.dep + 1 ≤ e.toNat + 4 := by omega
    rw [show (b + 1).toNat = b.toNat + 1 by omega] at hta
    exact q _ (.qua .some z0 ta) _ (by walk_at "S") r0 ⟨ok.hn _ hz0, hta⟩ hd hz
theorem told_n (T : Tp K mg) : ∀ n : Nat, Cal P w K mg base (n + 7) "_law_told" (spTold K n)
  | 0 => T.d_l_told.none fun vs H Q E h => by obtain ⟨_, _, _, _, _, _, _, _, _, _, _, _, _, h0, h1, _⟩ := h; omega
  | n + 1 => ok_l_told T ((ok_l_draw (k := 0) T).lift (by omega)) ((term_n T 4).lift (by omega)) (told_n T n)
theorem ok_l_any_told (T : Tp K mg) (c_l_draw : Cal P w K mg base k "_law_draw" spDraw) (c_l_told : Cal P w K mg base k "_law_told" (spTold K 5)) : Cal P w K mg base (k + 1) "_law_any_told" (spAnyS K) := by
  refine T.d_l_any_told.cal sc_l_any_told (fun vs H Q E h => ?_) (fun f cdv A outer s H vs Q E hr h => ?_)
  · obtain ⟨p, v, fs, gs, ns, e, b, rfl, _⟩ := h; rfl
  obtain ⟨p, v, fs, gs, ns, e, b, rfl, hp, r, ok, b0, b1, e0, e1, q⟩ := h
  have sc := @sc_l_any_told
  have ln := ok.ln
  refine ⟨_, (pss_cons (ps_set (i := 4) sc.nd rfl (Or.inl rfl) pe_int)
      (pss_cons (ps_if (pt_cmpR (op_eqK K hr) (pe_c c_l_draw hr (Nat.le_refl _) rfl (pa_cons (pv 0) (pa_cons pe_int pa_nil))) pe_int (nomark _)) (pss_one (ps_set (i := 4) sc.nd rfl (Or.inl rfl) (pe_c c_l_draw hr (Nat.le_refl _) rfl (pa_cons (pv 0) (pa_cons pe_int pa_nil))))) pss_nil)
      (pss_cons (ps_set (i := 5) sc.nd rfl (Or.inl rfl) (pe_c c_l_told hr (Nat.le_refl _) rfl (pa_cons (pv 0) (pa_cons (pv 1) (pa_cons (pv 2) (pa_cons (pe_op (op_addK K) (pv 3) (pv 4)) pa_nil))))))
      (pss_cons (ps_for PassesOwn.never rfl (pi_range1 rfl T.n_range (pa_cons (pv 4) pa_nil)) (pg_name (i := 6) sc.nd rfl (Or.inl rfl)) (pss_one (ps_set (i := 5) sc.nd rfl (Or.inl rfl) (pe_tupK K (pa_cons (pe_ix (ix_K K) (pe_lstK K (pa_cons pe_str (pa_cons pe_str pa_nil))) (pe_c c_l_draw hr (Nat.le_refl _) rfl (pa_cons (pv 0) (pa_cons pe_int pa_nil))) (fun _ _ => rfl)) (pa_cons (pe_ix (ix_K K) (pe_ix (ix_K K) (pv 1) pe_int (fun _ _ => rfl)) (pe_op op_mod (pv 6) pe_int) (fun _ _ => rfl)) (pa_cons (pv 5) pa_nil)))))))
      (pss_one (ps_ret (pv 5))))))), ?_⟩
  walk_at "r"
  · rename_i m h0 h1 ua ta Ha sa ra hta hda hsa
    have he : szS e.toNat ≤ 1375 := by
      rcases (by omega : e.toNat = 0 ∨ e.toNat = 1 ∨ e.toNat = 2 ∨ e.toNat = 3 ∨ e.toNat = 4) with h | h | h | h | h <;> rw [h] <;> decide
    refine for_R (fun i σ' H' => Same H H' ∧ ∃ u' t' x, σ' = [some (.ref p), some v, some (.int e), some (.int b), some (.int m), some u', x] ∧ R K H' u' (Th.d t') ∧ t'.isS fs ((b + m).toNat - i) ∧ t'.dep ≤ e.toNat + 4 + i ∧ t'.sz ≤ szS e.toNat + i) (by omega) (by omega) ⟨sa, ua, ta, _, rfl, ra, hta, by omega, by omega⟩ ?_ ?_
    · rintro i σ' H1 hi ⟨s1, u', t', x1, rfl, ru', ht', hd', hs'⟩
      walk_at "r"
      all_goals
        rename_i dw hdw rw0 _ _ _ z0 hz0 v0 H0 s0 r0
        have hz : t'.sz + 1 ≤ szS e.toNat + (i + 1) := by omega
        have hd : t'.dep + 1 ≤ e.toNat + 4 + (i + 1) := by omega
        rw [show (b + m).toNat - i = (b + m).toNat - (i + 1) + 1 by omega] at ht'
        have hw : dw = .str "all" ∨ dw = .str "some" := by simpa using hdw
        rcases hw with rfl | rfl
        · exact ⟨by walk_at "S", v0, .qua .all z0 t', _, rfl, r0, ⟨ok.hn _ hz0, ht'⟩, hd, hz⟩
        · exact ⟨by walk_at "S", v0, .qua .some z0 t', _, rfl, r0, ⟨ok.hn _ hz0, ht'⟩, hd, hz⟩
    · rintro σ' H1 ⟨s1, u', t', x1, rfl, ru', ht', hd', hs'⟩
      walk_at "r"
      rw [show (b + m).toNat - (m : Int).toNat = b.toNat by omega] at ht'
      exact q _ t' _ s1 ru' ht' (by omega) (by omega)
  · rename_i ua ta Ha sa ra hta hda hsa
    have he : szS e.toNat ≤ 1375 := by
      rcases (by omega : e.toNat = 0 ∨ e.toNat = 1 ∨ e.toNat = 2 ∨ e.toNat = 3 ∨ e.toNat = 4) with h | h | h | h | h <;> rw [h] <;> decide
    refine for_R (fun i σ' H' => Same H H' ∧ ∃ u' t' x, σ' = [some (.ref p), some v, some (.int e), some (.int b), some (.int 0), some u', x] ∧ R K H' u' (Th.d t') ∧ t'.isS fs ((b + 0).toNat - i) ∧ t'.dep ≤ e.toNat + 4 + i ∧ t'.sz ≤ szS e.toNat + i) (by omega) (by omega) ⟨sa, ua, ta, _, rfl, ra, hta, by omega, by omega⟩ ?_ ?_
    · rintro i σ' H1 hi ⟨s1, u', t', x1, rfl, ru', ht', hd', hs'⟩
      walk_at "r"
      all_goals
        rename_i dw hdw rw0 _ _ _ z0 hz0 v0 H0 s0 r0
        have hz : t'.sz + 1 ≤ szS e.toNat + (i + 1) := by omega
        have hd : t'.dep + 1 ≤ e.toNat + 4 + (i + 1) := by omega
        rw [show (b + 0).toNat - i = (b + 0).toNat - (i + 1) + 1 by omega] at ht'
        have hw : dw = .str "all" ∨ dw = .str "some" := by simpa using hdw
        rcases hw with rfl | rfl
        · exact ⟨by walk_at "S", v0, .qua .all z0 t', _, rfl, r0, ⟨ok.hn _ hz0, ht'⟩, hd, hz⟩
        · exact ⟨by walk_at "S", v0, .qua .some z0 t', _, rfl, r0, ⟨ok.hn _ hz0, ht'⟩, hd, hz⟩
    · rintro σ' H1 ⟨s1, u', t', x1, rfl, ru', ht', hd', hs'⟩
      walk_at "r"
      rw [show (b + 0).toNat - (0 : Int).toNat = b.toNat by omega] at ht'
      exact q _ t' _ s1 ru' ht' (by omega) (by omega)

end
end G

/-! the words of the walk: S (a heap keeps), R (a value stands for data), A (a row of them), no (a way that cannot be), s (one step), r (all steps) -/
local macro_rules | `(tactic| walk_at "S") => `(tactic| first | exact L2.Same.refl _ | assumption | exact G.sm_tr (by assumption) (by walk_at "S"))
local macro_rules | `(tactic| walk_at "R") => `(tactic| first
  | with_reducible exact G.R.int _ | with_reducible exact G.R.str _ | with_reducible exact G.R.bl _ | with_reducible exact G.R.non
  | with_reducible assumption
  | exact G.r_mono (by with_reducible assumption) (by walk_at "S")
  | ((with_reducible refine' G.R.lst L2.upd_same ?rl); (case rl => walk_at "A")))
local macro_rules | `(tactic| walk_at "A") => `(tactic| first | with_reducible exact G.RA.nil | ((with_reducible refine' G.RA.cons ?ra ?rb); (case ra => walk_at "R"); (case rb => walk_at "A")))
local macro_rules | `(tactic| walk_at "no") => `(tactic| first | contradiction | omega)
local macro_rules | `(tactic| walk_at "side") => `(tactic| first | with_reducible rfl | with_reducible assumption | omega | exact Int.lt_of_lt_of_le (by with_reducible assumption) (by decide +kernel) | ((with_reducible refine G.le_up ?_); decide +kernel) | (simp only [List.length_cons, List.length_nil, List.getElem?_cons_zero, List.getElem?_cons_succ, List.length_map]; done) | (simp only [List.length_cons, List.length_nil, List.length_map, List.length_append] at *; omega))
local macro_rules | `(tactic| walk_at "sideC") => `(tactic| first | with_reducible assumption | (with_reducible refine G.cmul_r ⟨?_, ?_⟩ <;> decide) | (with_reducible refine G.cdiv_r ⟨?_, ?_⟩ <;> decide) | (with_reducible refine G.cmul_l ⟨?_, ?_⟩ <;> decide) | (with_reducible refine G.cpow_c ⟨?_, ?_, ?_⟩ <;> decide) | (with_reducible refine G.cmul_r ⟨?_, ?_⟩ <;> omega) | (with_reducible refine G.cdiv_r ⟨?_, ?_⟩ <;> omega) | omega)
local macro_rules | `(tactic| walk_at "got") => `(tactic| (intro v0 r0; first
  | (have e0 := G.R.inv_str r0; subst e0) | (have e0 := G.R.inv_int r0; subst e0) | (have e0 := G.R.inv_bl r0; subst e0) | (have e0 := G.R.inv_non r0; subst e0) | skip))
local macro_rules | `(tactic| walk_at "P") => `(tactic| first | with_reducible assumption | exact G.keep_at (by with_reducible assumption) (by walk_at "S"))
local macro_rules | `(tactic| walk_at "c") => `(tactic| fail)
local macro_rules | `(tactic| walk_at "Q") => `(tactic| first | with_reducible assumption | exact G.seq_keep (by with_reducible assumption) (by walk_at "S"))
local macro_rules | `(tactic| walk_at "c") => `(tactic| ((with_reducible refine' G.use_state ?hp ?h0 ?h1 ?_); (case hp => walk_at "Q"); (case h0 => walk_at "side"); (case h1 => walk_at "side"); intro p0 H0 s0 hp0))
local macro_rules | `(tactic| walk_at "c") => `(tactic| ((with_reducible refine' G.use_draw ?hp ?h0 ?h1 ?_); (case hp => walk_at "P"); (case h0 => walk_at "side"); (case h1 => walk_at "side"); intro r0 hr0 hr1))
local macro_rules | `(tactic| walk_at "s") => `(tactic| first
  | with_reducible refine G.st_seq ?_
  | ((with_reducible refine' G.st_var ?hv ?_); (case hv => exact rfl))
  | with_reducible refine G.st_c ?_
  | with_reducible refine G.st_op ?_
  | with_reducible refine G.st_bl ?_
  | with_reducible refine L2.iteT ?_
  | with_reducible refine L2.iteF ?_
  | with_reducible refine G.ite_nt ?_
  | with_reducible refine G.ite_nf ?_
  | ((with_reducible refine G.st_ite ?_ ?_) <;> (intro hb; (try simp only [decide_eq_true_eq, decide_eq_false_iff_not, Bool.not_eq_true', Bool.not_eq_false', beq_iff_eq, Bool.and_eq_true, Bool.or_eq_true, Bool.and_eq_false_iff, Bool.or_eq_false_iff, beq_eq_false_iff_ne, ne_eq, Int.not_lt, Int.not_le, Nat.not_lt, Nat.not_le] at hb); first | (exfalso; walk_at "no"; done) | skip))
  | with_reducible refine G.st_if ?_
  | with_reducible refine G.st_ret ?_
  | with_reducible refine G.st_set ?_
  | with_reducible refine G.st_call ?_
  | with_reducible refine G.st_cons ?_
  | with_reducible refine G.st_nil ?_
  | with_reducible refine G.st_CB ?_
  | with_reducible refine G.st_tTest ?_
  | with_reducible refine G.st_tB ?_
  | with_reducible refine G.st_or ?_
  | with_reducible refine G.st_and ?_
  | with_reducible refine G.st_not ?_
  | with_reducible refine G.st_orV ?_
  | with_reducible refine G.st_andV ?_
  | with_reducible refine G.st_notV ?_
  | with_reducible refine G.st_tIf ?_
  | with_reducible refine G.st_chain ?_
  | with_reducible refine G.st_un ?_
  | with_reducible refine G.st_then ?_
  | with_reducible refine G.st_slice ?_
  | with_reducible refine G.st_noPart ?_
  | with_reducible refine G.st_part ?_
  | with_reducible refine G.st_exInt ?_
  | with_reducible refine G.st_drop ?_
  | with_reducible refine G.st_next ?_
  | with_reducible refine G.st_retN ?_
  | with_reducible refine G.add_int ?_
  | with_reducible refine G.i0 ?_
  | ((with_reducible refine G.imod2 (by decide) ?_ ?_) <;> (intro hm; first | (exfalso; walk_at "no"; done) | skip))
  | ((with_reducible refine G.imod3 (by decide) ?_ ?_ ?_) <;> (intro hm; first | (exfalso; walk_at "no"; done) | skip))
  | ((with_reducible refine' G.iC ?hc ?_); (case hc => walk_at "sideC"))
  | ((with_reducible refine' G.eq_str1 ?e ?_); (case e => with_reducible rfl))
  | ((with_reducible refine' G.eq_str0 ?e ?_); (case e => decide +kernel))
  | with_reducible refine G.eq_str ?_
  | with_reducible refine G.eq_int ?_
  | with_reducible refine G.eq_bl ?_
  | with_reducible refine G.ne_str ?_
  | with_reducible refine G.ne_int ?_
  | ((with_reducible refine' G.is_none ?r ?_); (case r => walk_at "R"))
  | ((with_reducible refine' G.isnt_none ?r ?_); (case r => walk_at "R"))
  | with_reducible refine G.is_bl ?_
  | with_reducible refine G.isnt_bl ?_
  | with_reducible refine G.in_sign ?_
  | with_reducible refine G.nin_sign ?_
  | ((with_reducible refine' G.in_strsT1 ?r ?c ?e ?_); (case r => walk_at "R"); (case c => rfl); (case e => decide +kernel))
  | ((with_reducible refine' G.in_strsT0 ?r ?c ?e ?_); (case r => walk_at "R"); (case c => rfl); (case e => decide +kernel))
  | ((with_reducible refine' G.in_strsT ?r ?c ?_); (case r => walk_at "R"); (case c => rfl))
  | ((with_reducible refine' G.nin_strsT ?r ?c ?_); (case r => walk_at "R"); (case c => rfl))
  | ((with_reducible refine' G.in_intsT ?r ?c ?_); (case r => walk_at "R"); (case c => rfl))
  | ((with_reducible refine' G.nin_intsT ?r ?c ?_); (case r => walk_at "R"); (case c => rfl))
  | ((with_reducible refine' G.add_str ?l ?_); (case l => walk_at "side"))
  | ((with_reducible refine' G.add_tup ?r ?s ?l ?_); (case r => walk_at "R"); (case s => walk_at "R"); (case l => walk_at "side"); intro v0 H0 s0 r0)
  | ((with_reducible refine' G.add_lst ?r ?s ?l ?_); (case r => walk_at "R"); (case s => walk_at "R"); (case l => walk_at "side"); intro v0 H0 s0 r0)
  | ((with_reducible refine' G.isi_1 ?r ?e ?t ?_); (case r => walk_at "R"); (case e => rfl); (case t => simp only [List.mem_cons, true_or, or_true]))
  | ((with_reducible refine' G.isi_0 ?r ?e ?t ?_); (case r => walk_at "R"); (case e => rfl); (case t => simp only [List.mem_cons, true_or, or_true]))
  | ((with_reducible refine' G.isi_R ?r ?t ?_); (case r => walk_at "R"); (case t => simp only [List.mem_cons, true_or, or_true]))
  | ((with_reducible refine' G.len_str ?l ?_); (case l => walk_at "side"))
  | ((with_reducible refine' G.len_tup ?r ?_); (case r => walk_at "R"))
  | ((with_reducible refine' G.len_lst ?r ?_); (case r => walk_at "R"))
  | (with_reducible refine G.st_tup ?_)
  | (with_reducible refine G.st_lst ?_)
  | ((with_reducible refine' G.st_newT ?r ?l ?_); (case r => walk_at "A"); (case l => first | exact Nat.le_of_ble_eq_true rfl | walk_at "side"); intro v0 H0 s0 r0)
  | ((with_reducible refine' G.st_newL ?r ?l ?_); (case r => walk_at "A"); (case l => first | exact Nat.le_of_ble_eq_true rfl | walk_at "side"); intro v0 H0 s0 r0)
  | ((with_reducible refine' G.ix_tupR ?r ?h0 ?hd ?_); (case r => walk_at "R"); (case h0 => walk_at "side"); (case hd => first | rfl | assumption); walk_at "got")
  | ((with_reducible refine' G.ix_lstR ?r ?h0 ?hd ?_); (case r => walk_at "R"); (case h0 => walk_at "side"); (case hd => first | rfl | assumption); walk_at "got")
  | ((with_reducible refine' G.ix_strR ?l ?h0 ?hd ?_); (case l => walk_at "side"); (case h0 => walk_at "side"); (case hd => first | rfl | assumption))
  | ((with_reducible refine' G.ix_strM ?l ?h0 ?h1 ?_); (case l => walk_at "side"); (case h0 => walk_at "side"); (case h1 => walk_at "side"); intro c0 hc0)
  | ((with_reducible refine' G.ix_tupN ?r ?h0 ?h1 ?_); (case r => walk_at "R"); (case h0 => walk_at "side"); (case h1 => walk_at "side"); intro v0 d0 hd0 r0)
  | ((with_reducible refine' G.ix_lstS ?r ?h0 ?h1 ?_); (case r => walk_at "R"); (case h0 => walk_at "side"); (case h1 => walk_at "side"); intro z0 hz0)
  | ((with_reducible refine' G.ix_lstN ?r ?h0 ?h1 ?_); (case r => walk_at "R"); (case h0 => walk_at "side"); (case h1 => walk_at "side"); intro v0 d0 hd0 r0)
  | ((with_reducible refine' G.sl_strR ?l ?_); (case l => walk_at "side"))
  | ((with_reducible refine' G.sl_tupR ?r ?_); (case r => walk_at "R"); intro v0 H0 s0 r0)
  | ((with_reducible refine' G.sl_lstR ?r ?_); (case r => walk_at "R"); intro v0 H0 s0 r0)
  | ((with_reducible refine' G.tupOf_L ?r ?_); (case r => walk_at "R"); intro v0 H0 s0 r0)
  | ((with_reducible refine' G.tupOf_T ?r ?_); (case r => walk_at "R"))
  | ((with_reducible refine' G.lstOf_T ?r ?_); (case r => walk_at "R"); intro v0 H0 s0 r0)
  | ((with_reducible refine' G.lstOf_L ?r ?_); (case r => walk_at "R"); intro v0 H0 s0 r0)
  | with_reducible refine G.st_lcL ?_
  | with_reducible refine G.st_lcT ?_
  | with_reducible refine G.st_lcS ?_
  | with_reducible refine G.st_lcR ?_
  | with_reducible refine G.st_M0 ?_
  | with_reducible refine G.st_M1 ?_
  | (with_reducible refine G.upper_one ?_; intro hu0)
  | ((with_reducible refine' G.upper_R ?l ?_); (case l => walk_at "side"))
  | (with_reducible refine G.st_strAnd ?_)
  | (with_reducible refine G.st_sub ?_)
  | ((with_reducible refine' G.set_20 ?hp ?_); (case hp => first | exact L2.upd_same | walk_at "P"))
  | ((with_reducible refine' G.set_21 ?hp ?_); (case hp => first | exact L2.upd_same | walk_at "P"))
  | ((with_reducible refine' G.set_at ?hp ?hi ?_); (case hp => first | exact L2.upd_same | walk_at "P"); (case hi => rfl))
  | with_reducible refine G.st_lst2 ?_
  | with_reducible refine G.st_shut ?_
  | with_reducible refine G.st_forR ?_
  | ((with_reducible refine' G.len_scr ?s ?_); (case s => walk_at "Q"))
  | ((with_reducible refine' G.ix_scr ?s ?h0 ?h1 ?_); (case s => walk_at "Q"); (case h0 => walk_at "side"); (case h1 => walk_at "side"); intro n0)
  | ((with_reducible refine' G.sl_scr ?s ?_); (case s => walk_at "Q"); intro v0 H0 s0 r0)
  | (with_reducible refine' G.st_disp1 ?_; intro v0 H0 s0 r0)
  | walk_at "c"
  | fail "no step")
local macro_rules | `(tactic| walk_at "r") => `(tactic| repeat' (walk_at "s"))

local macro_rules | `(tactic| walk_at "side") => `(tactic| first | exact G.nm_a (by with_reducible assumption) | exact G.fm_a (by with_reducible assumption) | exact G.nm_b (by with_reducible assumption) | exact G.nm_c (by with_reducible assumption) | fail)
local macro_rules | `(tactic| walk_at "c") => `(tactic| ((with_reducible refine' G.use_name ?hp ?_); (case hp => walk_at "P"); intro z0 H0 s0 hz0))
local macro_rules | `(tactic| walk_at "c") => `(tactic| ((with_reducible refine' G.use_form ?hp ?_); (case hp => walk_at "P"); intro z0 H0 s0 hz0))
local macro_rules | `(tactic| walk_at "c") => `(tactic| ((with_reducible refine' G.use_pool ?hp ?_); (case hp => walk_at "P"); intro v0 fs0 gs0 ns0 H0 s0 ok0 r0))
local macro_rules | `(tactic| walk_at "c") => `(tactic| ((with_reducible refine' G.use_leaf ?hp ?r ?ok ?h0 ?h1 ?_); (case hp => walk_at "P"); (case r => walk_at "R"); (case ok => with_reducible assumption); (case h0 => walk_at "side"); (case h1 => walk_at "side"); intro v0 t0 H0 s0 r0 ht0 hd0 hs0))
local macro_rules | `(tactic| walk_at "c") => `(tactic| ((with_reducible refine' G.use_term ?hp ?r ?ok ?h0 ?h1 ?e0 ?e1 ?_); (case hp => walk_at "P"); (case r => walk_at "R"); (case ok => with_reducible assumption); (case h0 => walk_at "side"); (case h1 => walk_at "side"); (case e0 => walk_at "side"); (case e1 => walk_at "side"); intro v0 t0 H0 s0 r0 ht0 hd0 hs0))
local macro_rules | `(tactic| walk_at "c") => `(tactic| ((with_reducible refine' G.use_tall ?hp ?r ?ok ?rt ?ht ?h0 ?h1 ?_); (case hp => walk_at "P"); (case r => walk_at "R"); (case ok => with_reducible assumption); (case rt => walk_at "R"); (case ht => with_reducible assumption); (case h0 => walk_at "side"); (case h1 => walk_at "side"); intro v0 t0 H0 s0 r0 ht0 hd0 hs0))
local macro_rules | `(tactic| walk_at "c") => `(tactic| ((with_reducible refine' G.use_anyT ?hp ?r ?ok ?h0 ?h1 ?_); (case hp => walk_at "P"); (case r => walk_at "R"); (case ok => with_reducible assumption); (case h0 => walk_at "side"); (case h1 => walk_at "side"); intro v0 t0 H0 s0 r0 ht0 hd0 hs0))

namespace G
open PySem PySem.Spec PyProof.Rows L2
section
variable {P : Program} {w : World} {K : PySem.W.Frag} {mg : Str → Option Value} {base : Heap} {k n : Nat}
theorem ok_is_name (T : Tp K mg) : Cal P w K mg base (k + 1) "is_name" (spIsName K) := by
  refine T.d_is_name.cal sc_is_name (fun vs H Q E h => ?_) (fun f cdv A outer s H vs Q E hr h => ?_)
  · obtain ⟨v, d, rfl, _⟩ := h; rfl
  obtain ⟨v, d, rfl, r, hs, q⟩ := h
  have sc := @sc_is_name
  obtain ⟨a_KEPT, g_KEPT, r_KEPT⟩ := T.g_KEPT
  have g_MOST_LETTERS := T.g_MOST_LETTERS
  have g_LETTERS := T.g_LETTERS
  have r_KEPT := r_KEPT H
  refine ⟨_, (pss_cons (ps_if (PW.pt (pw_or (pt_not (pt_val (pe_callB (isi_K K) rfl T.n_isinstance bt_isinstance (pa_cons (pv 0) (pa_cons (pe_bltn (v := .ty "str") rfl T.n_str bt_str rfl) pa_nil))))) (pw_or (pt_not (pt_chain op_le op_le pe_int (pe_callB (len_K K) rfl T.n_len bt_len (pa_cons (pv 0) pa_nil)) (pe_gv rfl g_MOST_LETTERS))) (pw_or1 (pt_cmpR (op_inK K) (pv 0) (pe_gv rfl g_KEPT) rfl))))) (pss_one (ps_ret pe_bl)) pss_nil)
      (pss_one (ps_ret (pe_callB (all_K K rfl) rfl T.n_all bt_all (pa_cons (pe_lc (own := [("sign", 1)]) (g := gName 1) (tt := tYes) rfl sc.nd (pi_str (pv 0)) (blkOk_by (N := n_is_name) (sc := defScope s_is_name) (by decide +kernel)) (fun _ _ _ _ _ => pg_name (i := 1) sc.nd rfl (Or.inl rfl)) (fun _ _ _ _ _ => pts_nil) (fun _ _ _ _ _ => pe_hide (pe_cmpR (op_inK K) (pv 1) (pe_gv rfl g_LETTERS) rfl))) pa_nil))))), ?_⟩
  cases d
  case str z =>
    obtain rfl := r.inv_str
    have hz : z.length ≤ 100000 := of_decide_eq_true hs
    have hc := len_cps z
    walk_at "r"
    · rename_i h1 h2
      exact q _ _ (by walk_at "S") (by show false = isNameS z; unfold isNameS; rw [decide_eq_false (p := z.length ≤ 8) (by omega)]; simp)
    · rename_i h1 h2 h3
      exact q _ _ (by walk_at "S") (by show false = isNameS z; unfold isNameS; rw [h3]; simp)
    · rename_i h1 h2 h3
      refine lcS_f (K := K) (fun c => .bool (low c)) (by omega) (fun _ => rfl) (fun c H1 hc s1 Qt hQ => ?_) (fun v H1 s1 r1 => ?_)
      · walk_at "r"
        exact hQ _ _ (by walk_at "S") (R.bl _)
      · walk_at "r"
        refine all_R (bs := z.cps.toList.map low) (by rw [List.map_map]; exact r1) ?_
        refine q _ _ (by walk_at "S") ?_
        show _ = isNameS z
        unfold isNameS
        rw [h3, all_low, decide_eq_true (p := 1 ≤ z.length) (by omega), decide_eq_true (p := z.length ≤ 8) (by omega)]
        simp
    · rename_i h1
      exact q _ _ (by walk_at "S") (by show false = isNameS z; unfold isNameS; rw [decide_eq_false (p := 1 ≤ z.length) (by omega)]; simp)
  all_goals
    walk_at "r"
    exact q _ _ (Same.refl _) rfl
theorem ok_is_form_name (T : Tp K mg) : Cal P w K mg base (k + 1) "is_form_name" (spIsForm K) := by
  refine T.d_is_form_name.cal sc_is_form_name (fun vs H Q E h => ?_) (fun f cdv A outer s H vs Q E hr h => ?_)
  · obtain ⟨v, d, rfl, _⟩ := h; rfl
  obtain ⟨v, d, rfl, r, hs, q⟩ := h
  have sc := @sc_is_form_name
  have g_MOST_LETTERS := T.g_MOST_LETTERS
  have g_LETTERS := T.g_LETTERS
  refine ⟨_, (pss_cons (ps_if (PW.pt (pw_or (pt_not (pt_val (pe_callB (isi_K K) rfl T.n_isinstance bt_isinstance (pa_cons (pv 0) (pa_cons (pe_bltn (v := .ty "str") rfl T.n_str bt_str rfl) pa_nil))))) (pw_or1 (pt_not (pt_chain op_le op_le pe_int (pe_callB (len_K K) rfl T.n_len bt_len (pa_cons (pv 0) pa_nil)) (pe_gv rfl g_MOST_LETTERS)))))) (pss_one (ps_ret pe_bl)) pss_nil)
      (pss_one (ps_ret (pe_and (pe_cmpR (op_inK K) (pe_ix (ix_K K) (pv 0) pe_int (fun _ _ => rfl)) (pe_upperR (pe_gv rfl g_LETTERS)) rfl) (pe_one (pe_callB (all_K K rfl) rfl T.n_all bt_all (pa_cons (pe_lc (own := [("sign", 1)]) (g := gName 1) (tt := tYes) rfl sc.nd (pi_str (pe_slice (sl_K K) (pv 0) (po_some pe_int) po_none)) (blkOk_by (N := n_is_form_name) (sc := defScope s_is_form_name) (by decide +kernel)) (fun _ _ _ _ _ => pg_name (i := 1) sc.nd rfl (Or.inl rfl)) (fun _ _ _ _ _ => pts_nil) (fun _ _ _ _ _ => pe_hide (pe_cmpR (op_inK K) (pv 1) (pe_gv rfl g_LETTERS) rfl))) pa_nil))))))), ?_⟩
  cases d
  case str z =>
    obtain rfl := r.inv_str
    have hz : z.length ≤ 100000 := of_decide_eq_true hs
    have hc := len_cps z
    rcases hcs : z.cps.toList with _ | ⟨c0, cs⟩
    · rw [hcs, List.length_nil] at hc
      walk_at "r"
      · exact q _ _ (by walk_at "S") (by show false = isFormS z; unfold isFormS; rw [hcs]; simp)
    · have hd : z.cps.toList[0]? = some c0 := by rw [hcs]; rfl
      walk_at "r"
      · exact q _ _ (by walk_at "S") (by show false = isFormS z; unfold isFormS; rw [decide_eq_false (p := z.length ≤ 8) (by omega)]; simp)
      · rename_i h1 h2 h3
        have h3' : great c0 = true := decide_eq_true (by rw [← upper_abc]; exact h3)
        have e1 : (cutS z (some 1) none).cps.toList = cs := by
          rw [cutS_1, hcs]; rfl
        have hl : cs.length ≤ 100000 := by rw [hcs] at hc; simp at hc; omega
        refine lcS_f (K := K) (fun c => .bool (low c)) (by rw [e1]; omega) (fun _ => rfl) (fun c H1 hc s1 Qt hQ => ?_) (fun v H1 s1 r1 => ?_)
        · walk_at "r"
          exact hQ _ _ (by walk_at "S") (R.bl _)
        · rw [e1] at r1
          walk_at "r"
          refine all_R (bs := cs.map low) (by rw [List.map_map]; exact r1) ?_
          refine q _ _ (by walk_at "S") ?_
          show _ = isFormS z
          unfold isFormS
          rw [hcs, all_low, decide_eq_true (p := 1 ≤ z.length) (by omega), decide_eq_true (p := z.length ≤ 8) (by omega)]
          simp [h3']
      · rename_i h1 h2 h3
        have h3' : great c0 = false := decide_eq_false (by rw [← upper_abc]; exact h3)
        exact q _ _ (by walk_at "S") (by show false = isFormS z; unfold isFormS; rw [hcs]; simp [h3'])
      · exact q _ _ (by walk_at "S") (by show false = isFormS z; unfold isFormS; rw [decide_eq_false (p := 1 ≤ z.length) (by omega)]; simp)
  all_goals
    walk_at "r"
    exact q _ _ (Same.refl _) rfl

def spIsNum (K : PySem.W.Frag) : Sp := fun vs H Q _ => ∃ v d, vs = [v] ∧ R K H v d ∧ ∀ H', Same H H' → Q (.bl (isIntD d)) H'
def spIsTm (K : PySem.W.Frag) (m : Nat) : Sp := fun vs H Q _ => ∃ v d, vs = [v] ∧ R K H v d ∧ fine 1000 d = true ∧ d.depth < 2 * m ∧ ∀ H', Same H H' → Q (.bl (isTm m d)) H'
def spIsTms (K : PySem.W.Frag) (m : Nat) : Sp := fun vs H Q _ => ∃ v d, vs = [v] ∧ R K H v d ∧ fine 1000 d = true ∧ d.depth < 2 * m + 1 ∧ ∀ H', Same H H' → Q (.bl (isTms m d)) H'
theorem use_isName {H : Hp} {Q : VK} {E : XK} {v : V} {d : PyData} (r : R K H v d) (hs : short d) (h : ∀ H', Same H H' → Q (.bl (isName d)) H') : spIsName K [v] H Q E := ⟨v, d, rfl, r, hs, fun b H' s e => by rw [e]; exact h H' s⟩
theorem use_isForm {H : Hp} {Q : VK} {E : XK} {v : V} {d : PyData} (r : R K H v d) (hs : short d) (h : ∀ H', Same H H' → Q (.bl (isForm d)) H') : spIsForm K [v] H Q E := ⟨v, d, rfl, r, hs, fun b H' s e => by rw [e]; exact h H' s⟩
theorem use_isNum {H : Hp} {Q : VK} {E : XK} {v : V} {d : PyData} (r : R K H v d) (h : ∀ H', Same H H' → Q (.bl (isIntD d)) H') : spIsNum K [v] H Q E := ⟨v, d, rfl, r, h⟩
theorem use_isTm {H : Hp} {Q : VK} {E : XK} {m : Nat} {v : V} {d : PyData} (r : R K H v d) (hs : fine 1000 d = true) (hd : d.depth < 2 * m) (h : ∀ H', Same H H' → Q (.bl (isTm m d)) H') : spIsTm K m [v] H Q E := ⟨v, d, rfl, r, hs, hd, h⟩
theorem use_isTms {H : Hp} {Q : VK} {E : XK} {m : Nat} {v : V} {d : PyData} (r : R K H v d) (hs : fine 1000 d = true) (hd : d.depth < 2 * m + 1) (h : ∀ H', Same H H' → Q (.bl (isTms m d)) H') : spIsTms K m [v] H Q E := ⟨v, d, rfl, r, hs, hd, h⟩
local macro_rules | `(tactic| walk_at "c") => `(tactic| ((with_reducible refine' G.use_isName ?r ?hs ?_); (case r => walk_at "R"); (case hs => with_reducible assumption); intro H0 s0))
local macro_rules | `(tactic| walk_at "c") => `(tactic| ((with_reducible refine' G.use_isForm ?r ?hs ?_); (case r => walk_at "R"); (case hs => with_reducible assumption); intro H0 s0))
local macro_rules | `(tactic| walk_at "c") => `(tactic| ((with_reducible refine' G.use_isNum ?r ?_); (case r => walk_at "R"); intro H0 s0))
local macro_rules | `(tactic| walk_at "c") => `(tactic| ((with_reducible refine' G.use_isTms ?r ?hs ?hd ?_); (case r => walk_at "R"); (case hs => with_reducible assumption); (case hd => with_reducible assumption); intro H0 s0))
theorem ok_is_number (T : Tp K mg) : Cal P w K mg base (k + 1) "is_number" (spIsNum K) := by
  refine T.d_is_number.cal sc_is_number (fun vs H Q E h => ?_) (fun f cdv A outer s H vs Q E hr h => ?_)
  · obtain ⟨v, d, rfl, _⟩ := h; rfl
  obtain ⟨v, d, rfl, r, q⟩ := h
  have sc := @sc_is_number
  refine ⟨_, (pss_one (ps_ret (pe_and (pe_callB (isi_K K) rfl T.n_isinstance bt_isinstance (pa_cons (pv 0) (pa_cons (pe_bltn (v := .ty "int") rfl T.n_int bt_int rfl) pa_nil))) (pe_one (pe_not (pe_callB (isi_K K) rfl T.n_isinstance bt_isinstance (pa_cons (pv 0) (pa_cons (pe_bltn (v := .ty "bool") rfl T.n_bool bt_bool rfl) pa_nil)))))))), ?_⟩
  cases d
  all_goals
    walk_at "r"
    exact q _ (by walk_at "S")
theorem ok_are_args (T : Tp K mg) {m : Nat} (c_is_term : Cal P w K mg base k "is_term" (spIsTm K m)) : Cal P w K mg base (k + 1) "are_args" (spIsTms K m) := by
  refine T.d_are_args.cal sc_are_args (fun vs H Q E h => ?_) (fun f cdv A outer s H vs Q E hr h => ?_)
  · obtain ⟨v, d, rfl, _⟩ := h; rfl
  obtain ⟨v, d, rfl, r, hf, hd, q⟩ := h
  have sc := @sc_are_args
  have g_MOST_ARGS := T.g_MOST_ARGS
  refine ⟨_, (pss_one (ps_ret (pe_and (pe_callB (isi_K K) rfl T.n_isinstance bt_isinstance (pa_cons (pv 0) (pa_cons (pe_bltn (v := .ty "tuple") rfl T.n_tuple bt_tuple rfl) pa_nil))) (pe_and (pe_cmpR op_le (pe_callB (len_K K) rfl T.n_len bt_len (pa_cons (pv 0) pa_nil)) (pe_gv rfl g_MOST_ARGS) (nomark _)) (pe_one (pe_callB (all_K K rfl) rfl T.n_all bt_all (pa_cons (pe_lc (own := [("arg", 1)]) (g := gName 1) (tt := tYes) rfl sc.nd (pi_tupK K (pv 0)) (blkOk_by (N := n_are_args) (sc := defScope s_are_args) (by decide +kernel)) (fun _ _ _ _ _ => pg_name (i := 1) sc.nd rfl (Or.inl rfl)) (fun _ _ _ _ _ => pts_nil) (fun _ _ _ _ _ => pe_hide (pe_c c_is_term hr (Nat.le_refl _) rfl (pa_cons (pv 1) pa_nil)))) pa_nil))))))), ?_⟩
  cases d
  case tuple ds =>
    have hf' : ds.length ≤ 1000 ∧ fines 1000 ds = true := by simpa [fine] using hf
    have hd' : PyData.depthAll ds + 1 ≤ 2 * m := by simp only [PyData.depth] at hd; omega
    walk_at "r"
    · rename_i h4
      refine lcT_f (K := K) (fun d => .bool (isTm m d)) r (by omega) (fun _ => rfl) (fun v d H1 hm rv s1 Qt hQ => ?_) (fun v H1 s1 r1 => ?_)
      · walk_at "r"
        refine use_isTm rv (fines_all.mp hf'.2 d hm) (by have := depthAll_mem hm; omega) fun H2 s2 => ?_
        walk_at "r"
        exact hQ _ _ (by walk_at "S") (R.bl _)
      walk_at "r"
      refine all_R (bs := ds.map (isTm m)) (by rw [List.map_map]; exact r1) ?_
      have e : isTms m (.tuple ds) = (ds.map (isTm m)).all id := by
        have : decide (ds.length ≤ 4) = true := decide_eq_true (by omega)
        simp [isTms, argsP, this, List.all_map]
      walk_at "r"
      exact e ▸ q _ (by walk_at "S")
    · rename_i h4
      have e : isTms m (.tuple ds) = false := by
        have : decide (ds.length ≤ 4) = false := decide_eq_false (by omega)
        simp [isTms, argsP, this]
      exact e ▸ q _ (by walk_at "S")
  all_goals
    walk_at "r"
    exact q _ (by walk_at "S")

end
end G

/-! the words of the walk: S (a heap keeps), R (a value stands for data), A (a row of them), no (a way that cannot be), s (one step), r (all steps) -/
local macro_rules | `(tactic| walk_at "S") => `(tactic| first | exact L2.Same.refl _ | assumption | exact G.sm_tr (by assumption) (by walk_at "S"))
local macro_rules | `(tactic| walk_at "R") => `(tactic| first
  | with_reducible exact G.R.int _ | with_reducible exact G.R.str _ | with_reducible exact G.R.bl _ | with_reducible exact G.R.non
  | with_reducible assumption
  | exact G.r_mono (by with_reducible assumption) (by walk_at "S")
  | ((with_reducible refine' G.R.lst L2.upd_same ?rl); (case rl => walk_at "A")))
local macro_rules | `(tactic| walk_at "A") => `(tactic| first | with_reducible exact G.RA.nil | ((with_reducible refine' G.RA.cons ?ra ?rb); (case ra => walk_at "R"); (case rb => walk_at "A")))
local macro_rules | `(tactic| walk_at "no") => `(tactic| first | contradiction | omega)
local macro_rules | `(tactic| walk_at "side") => `(tactic| first | with_reducible rfl | with_reducible assumption | omega | exact Int.lt_of_lt_of_le (by with_reducible assumption) (by decide +kernel) | ((with_reducible refine G.le_up ?_); decide +kernel) | (simp only [List.length_cons, List.length_nil, List.getElem?_cons_zero, List.getElem?_cons_succ, List.length_map]; done) | (simp only [List.length_cons, List.length_nil, List.length_map, List.length_append] at *; omega))
local macro_rules | `(tactic| walk_at "sideC") => `(tactic| first | with_reducible assumption | (with_reducible refine G.cmul_r ⟨?_, ?_⟩ <;> decide) | (with_reducible refine G.cdiv_r ⟨?_, ?_⟩ <;> decide) | (with_reducible refine G.cmul_l ⟨?_, ?_⟩ <;> decide) | (with_reducible refine G.cpow_c ⟨?_, ?_, ?_⟩ <;> decide) | (with_reducible refine G.cmul_r ⟨?_, ?_⟩ <;> omega) | (with_reducible refine G.cdiv_r ⟨?_, ?_⟩ <;> omega) | omega)
local macro_rules | `(tactic| walk_at "got") => `(tactic| (intro v0 r0; first
  | (have e0 := G.R.inv_str r0; subst e0) | (have e0 := G.R.inv_int r0; subst e0) | (have e0 := G.R.inv_bl r0; subst e0) | (have e0 := G.R.inv_non r0; subst e0) | skip))
local macro_rules | `(tactic| walk_at "P") => `(tactic| first | with_reducible assumption | exact G.keep_at (by with_reducible assumption) (by walk_at "S"))
local macro_rules | `(tactic| walk_at "c") => `(tactic| fail)
local macro_rules | `(tactic| walk_at "Q") => `(tactic| first | with_reducible assumption | exact G.seq_keep (by with_reducible assumption) (by walk_at "S"))
local macro_rules | `(tactic| walk_at "c") => `(tactic| ((with_reducible refine' G.use_state ?hp ?h0 ?h1 ?_); (case hp => walk_at "Q"); (case h0 => walk_at "side"); (case h1 => walk_at "side"); intro p0 H0 s0 hp0))
local macro_rules | `(tactic| walk_at "c") => `(tactic| ((with_reducible refine' G.use_draw ?hp ?h0 ?h1 ?_); (case hp => walk_at "P"); (case h0 => walk_at "side"); (case h1 => walk_at "side"); intro r0 hr0 hr1))
local macro_rules | `(tactic| walk_at "s") => `(tactic| first
  | with_reducible refine G.st_seq ?_
  | ((with_reducible refine' G.st_var ?hv ?_); (case hv => exact rfl))
  | with_reducible refine G.st_c ?_
  | with_reducible refine G.st_op ?_
  | with_reducible refine G.st_bl ?_
  | with_reducible refine L2.iteT ?_
  | with_reducible refine L2.iteF ?_
  | with_reducible refine G.ite_nt ?_
  | with_reducible refine G.ite_nf ?_
  | ((with_reducible refine G.st_ite ?_ ?_) <;> (intro hb; (try simp only [decide_eq_true_eq, decide_eq_false_iff_not, Bool.not_eq_true', Bool.not_eq_false', beq_iff_eq, Bool.and_eq_true, Bool.or_eq_true, Bool.and_eq_false_iff, Bool.or_eq_false_iff, beq_eq_false_iff_ne, ne_eq, Int.not_lt, Int.not_le, Nat.not_lt, Nat.not_le] at hb); first | (exfalso; walk_at "no"; done) | skip))
  | with_reducible refine G.st_if ?_
  | with_reducible refine G.st_ret ?_
  | with_reducible refine G.st_set ?_
  | with_reducible refine G.st_call ?_
  | with_reducible refine G.st_cons ?_
  | with_reducible refine G.st_nil ?_
  | with_reducible refine G.st_CB ?_
  | with_reducible refine G.st_tTest ?_
  | with_reducible refine G.st_tB ?_
  | with_reducible refine G.st_or ?_
  | with_reducible refine G.st_and ?_
  | with_reducible refine G.st_not ?_
  | with_reducible refine G.st_orV ?_
  | with_reducible refine G.st_andV ?_
  | with_reducible refine G.st_notV ?_
  | with_reducible refine G.st_tIf ?_
  | with_reducible refine G.st_chain ?_
  | with_reducible refine G.st_un ?_
  | with_reducible refine G.st_then ?_
  | with_reducible refine G.st_slice ?_
  | with_reducible refine G.st_noPart ?_
  | with_reducible refine G.st_part ?_
  | with_reducible refine G.st_exInt ?_
  | with_reducible refine G.st_drop ?_
  | with_reducible refine G.st_next ?_
  | with_reducible refine G.st_retN ?_
  | with_reducible refine G.add_int ?_
  | with_reducible refine G.i0 ?_
  | ((with_reducible refine G.imod2 (by decide) ?_ ?_) <;> (intro hm; first | (exfalso; walk_at "no"; done) | skip))
  | ((with_reducible refine G.imod3 (by decide) ?_ ?_ ?_) <;> (intro hm; first | (exfalso; walk_at "no"; done) | skip))
  | ((with_reducible refine' G.iC ?hc ?_); (case hc => walk_at "sideC"))
  | ((with_reducible refine' G.eq_str1 ?e ?_); (case e => with_reducible rfl))
  | ((with_reducible refine' G.eq_str0 ?e ?_); (case e => decide +kernel))
  | with_reducible refine G.eq_str ?_
  | with_reducible refine G.eq_int ?_
  | with_reducible refine G.eq_bl ?_
  | with_reducible refine G.ne_str ?_
  | with_reducible refine G.ne_int ?_
  | ((with_reducible refine' G.is_none ?r ?_); (case r => walk_at "R"))
  | ((with_reducible refine' G.isnt_none ?r ?_); (case r => walk_at "R"))
  | with_reducible refine G.is_bl ?_
  | with_reducible refine G.isnt_bl ?_
  | with_reducible refine G.in_sign ?_
  | with_reducible refine G.nin_sign ?_
  | ((with_reducible refine' G.in_strsT1 ?r ?c ?e ?_); (case r => walk_at "R"); (case c => rfl); (case e => decide +kernel))
  | ((with_reducible refine' G.in_strsT0 ?r ?c ?e ?_); (case r => walk_at "R"); (case c => rfl); (case e => decide +kernel))
  | ((with_reducible refine' G.in_strsT ?r ?c ?_); (case r => walk_at "R"); (case c => rfl))
  | ((with_reducible refine' G.nin_strsT ?r ?c ?_); (case r => walk_at "R"); (case c => rfl))
  | ((with_reducible refine' G.in_intsT ?r ?c ?_); (case r => walk_at "R"); (case c => rfl))
  | ((with_reducible refine' G.nin_intsT ?r ?c ?_); (case r => walk_at "R"); (case c => rfl))
  | ((with_reducible refine' G.add_str ?l ?_); (case l => walk_at "side"))
  | ((with_reducible refine' G.add_tup ?r ?s ?l ?_); (case r => walk_at "R"); (case s => walk_at "R"); (case l => walk_at "side"); intro v0 H0 s0 r0)
  | ((with_reducible refine' G.add_lst ?r ?s ?l ?_); (case r => walk_at "R"); (case s => walk_at "R"); (case l => walk_at "side"); intro v0 H0 s0 r0)
  | ((with_reducible refine' G.isi_1 ?r ?e ?t ?_); (case r => walk_at "R"); (case e => rfl); (case t => simp only [List.mem_cons, true_or, or_true]))
  | ((with_reducible refine' G.isi_0 ?r ?e ?t ?_); (case r => walk_at "R"); (case e => rfl); (case t => simp only [List.mem_cons, true_or, or_true]))
  | ((with_reducible refine' G.isi_R ?r ?t ?_); (case r => walk_at "R"); (case t => simp only [List.mem_cons, true_or, or_true]))
  | ((with_reducible refine' G.len_str ?l ?_); (case l => walk_at "side"))
  | ((with_reducible refine' G.len_tup ?r ?_); (case r => walk_at "R"))
  | ((with_reducible refine' G.len_lst ?r ?_); (case r => walk_at "R"))
  | (with_reducible refine G.st_tup ?_)
  | (with_reducible refine G.st_lst ?_)
  | ((with_reducible refine' G.st_newT ?r ?l ?_); (case r => walk_at "A"); (case l => first | exact Nat.le_of_ble_eq_true rfl | walk_at "side"); intro v0 H0 s0 r0)
  | ((with_reducible refine' G.st_newL ?r ?l ?_); (case r => walk_at "A"); (case l => first | exact Nat.le_of_ble_eq_true rfl | walk_at "side"); intro v0 H0 s0 r0)
  | ((with_reducible refine' G.ix_tupR ?r ?h0 ?hd ?_); (case r => walk_at "R"); (case h0 => walk_at "side"); (case hd => first | rfl | assumption); walk_at "got")
  | ((with_reducible refine' G.ix_lstR ?r ?h0 ?hd ?_); (case r => walk_at "R"); (case h0 => walk_at "side"); (case hd => first | rfl | assumption); walk_at "got")
  | ((with_reducible refine' G.ix_strR ?l ?h0 ?hd ?_); (case l => walk_at "side"); (case h0 => walk_at "side"); (case hd => first | rfl | assumption))
  | ((with_reducible refine' G.ix_strM ?l ?h0 ?h1 ?_); (case l => walk_at "side"); (case h0 => walk_at "side"); (case h1 => walk_at "side"); intro c0 hc0)
  | ((with_reducible refine' G.ix_tupN ?r ?h0 ?h1 ?_); (case r => walk_at "R"); (case h0 => walk_at "side"); (case h1 => walk_at "side"); intro v0 d0 hd0 r0)
  | ((with_reducible refine' G.ix_lstS ?r ?h0 ?h1 ?_); (case r => walk_at "R"); (case h0 => walk_at "side"); (case h1 => walk_at "side"); intro z0 hz0)
  | ((with_reducible refine' G.ix_lstN ?r ?h0 ?h1 ?_); (case r => walk_at "R"); (case h0 => walk_at "side"); (case h1 => walk_at "side"); intro v0 d0 hd0 r0)
  | ((with_reducible refine' G.sl_strR ?l ?_); (case l => walk_at "side"))
  | ((with_reducible refine' G.sl_tupR ?r ?_); (case r => walk_at "R"); intro v0 H0 s0 r0)
  | ((with_reducible refine' G.sl_lstR ?r ?_); (case r => walk_at "R"); intro v0 H0 s0 r0)
  | ((with_reducible refine' G.tupOf_L ?r ?_); (case r => walk_at "R"); intro v0 H0 s0 r0)
  | ((with_reducible refine' G.tupOf_T ?r ?_); (case r => walk_at "R"))
  | ((with_reducible refine' G.lstOf_T ?r ?_); (case r => walk_at "R"); intro v0 H0 s0 r0)
  | ((with_reducible refine' G.lstOf_L ?r ?_); (case r => walk_at "R"); intro v0 H0 s0 r0)
  | with_reducible refine G.st_lcL ?_
  | with_reducible refine G.st_lcT ?_
  | with_reducible refine G.st_lcS ?_
  | with_reducible refine G.st_lcR ?_
  | with_reducible refine G.st_M0 ?_
  | with_reducible refine G.st_M1 ?_
  | (with_reducible refine G.upper_one ?_; intro hu0)
  | ((with_reducible refine' G.upper_R ?l ?_); (case l => walk_at "side"))
  | (with_reducible refine G.st_strAnd ?_)
  | (with_reducible refine G.st_sub ?_)
  | ((with_reducible refine' G.set_20 ?hp ?_); (case hp => first | exact L2.upd_same | walk_at "P"))
  | ((with_reducible refine' G.set_21 ?hp ?_); (case hp => first | exact L2.upd_same | walk_at "P"))
  | ((with_reducible refine' G.set_at ?hp ?hi ?_); (case hp => first | exact L2.upd_same | walk_at "P"); (case hi => rfl))
  | with_reducible refine G.st_lst2 ?_
  | with_reducible refine G.st_shut ?_
  | with_reducible refine G.st_forR ?_
  | ((with_reducible refine' G.len_scr ?s ?_); (case s => walk_at "Q"))
  | ((with_reducible refine' G.ix_scr ?s ?h0 ?h1 ?_); (case s => walk_at "Q"); (case h0 => walk_at "side"); (case h1 => walk_at "side"); intro n0)
  | ((with_reducible refine' G.sl_scr ?s ?_); (case s => walk_at "Q"); intro v0 H0 s0 r0)
  | (with_reducible refine' G.st_disp1 ?_; intro v0 H0 s0 r0)
  | walk_at "c"
  | fail "no step")
local macro_rules | `(tactic| walk_at "r") => `(tactic| repeat' (walk_at "s"))

local macro_rules | `(tactic| walk_at "side") => `(tactic| first | exact G.nm_a (by with_reducible assumption) | exact G.fm_a (by with_reducible assumption) | exact G.nm_b (by with_reducible assumption) | exact G.nm_c (by with_reducible assumption) | fail)
local macro_rules | `(tactic| walk_at "c") => `(tactic| ((with_reducible refine' G.use_name ?hp ?_); (case hp => walk_at "P"); intro z0 H0 s0 hz0))
local macro_rules | `(tactic| walk_at "c") => `(tactic| ((with_reducible refine' G.use_form ?hp ?_); (case hp => walk_at "P"); intro z0 H0 s0 hz0))
local macro_rules | `(tactic| walk_at "c") => `(tactic| ((with_reducible refine' G.use_pool ?hp ?_); (case hp => walk_at "P"); intro v0 fs0 gs0 ns0 H0 s0 ok0 r0))
local macro_rules | `(tactic| walk_at "c") => `(tactic| ((with_reducible refine' G.use_leaf ?hp ?r ?ok ?h0 ?h1 ?_); (case hp => walk_at "P"); (case r => walk_at "R"); (case ok => with_reducible assumption); (case h0 => walk_at "side"); (case h1 => walk_at "side"); intro v0 t0 H0 s0 r0 ht0 hd0 hs0))
local macro_rules | `(tactic| walk_at "c") => `(tactic| ((with_reducible refine' G.use_term ?hp ?r ?ok ?h0 ?h1 ?e0 ?e1 ?_); (case hp => walk_at "P"); (case r => walk_at "R"); (case ok => with_reducible assumption); (case h0 => walk_at "side"); (case h1 => walk_at "side"); (case e0 => walk_at "side"); (case e1 => walk_at "side"); intro v0 t0 H0 s0 r0 ht0 hd0 hs0))
local macro_rules | `(tactic| walk_at "c") => `(tactic| ((with_reducible refine' G.use_tall ?hp ?r ?ok ?rt ?ht ?h0 ?h1 ?_); (case hp => walk_at "P"); (case r => walk_at "R"); (case ok => with_reducible assumption); (case rt => walk_at "R"); (case ht => with_reducible assumption); (case h0 => walk_at "side"); (case h1 => walk_at "side"); intro v0 t0 H0 s0 r0 ht0 hd0 hs0))
local macro_rules | `(tactic| walk_at "c") => `(tactic| ((with_reducible refine' G.use_anyT ?hp ?r ?ok ?h0 ?h1 ?_); (case hp => walk_at "P"); (case r => walk_at "R"); (case ok => with_reducible assumption); (case h0 => walk_at "side"); (case h1 => walk_at "side"); intro v0 t0 H0 s0 r0 ht0 hd0 hs0))

namespace G
open PySem PySem.Spec PyProof.Rows L2
section
variable {P : Program} {w : World} {K : PySem.W.Frag} {mg : Str → Option Value} {base : Heap} {k n : Nat}
local macro_rules | `(tactic| walk_at "c") => `(tactic| ((with_reducible refine' G.use_isName ?r ?hs ?_); (case r => walk_at "R"); (case hs => with_reducible assumption); intro H0 s0))
local macro_rules | `(tactic| walk_at "c") => `(tactic| ((with_reducible refine' G.use_isForm ?r ?hs ?_); (case r => walk_at "R"); (case hs => with_reducible assumption); intro H0 s0))
local macro_rules | `(tactic| walk_at "c") => `(tactic| ((with_reducible refine' G.use_isNum ?r ?_); (case r => walk_at "R"); intro H0 s0))
local macro_rules | `(tactic| walk_at "c") => `(tactic| ((with_reducible refine' G.use_isTms ?r ?hs ?hd ?_); (case r => walk_at "R"); (case hs => with_reducible assumption); (case hd => with_reducible assumption); intro H0 s0))

theorem ok_is_term (T : Tp K mg) {m : Nat} (c_is_number : Cal P w K mg base k "is_number" (spIsNum K)) (c_is_name : Cal P w K mg base k "is_name" (spIsName K)) (c_is_form_name : Cal P w K mg base k "is_form_name" (spIsForm K))
    (c_are_args : Cal P w K mg base k "are_args" (spIsTms K m)) : Cal P w K mg base (k + 1) "is_term" (spIsTm K (m + 1)) := by
  refine T.d_is_term.cal sc_is_term (fun vs H Q E h => ?_) (fun f cdv A outer s H vs Q E hr h => ?_)
  · obtain ⟨v, d, rfl, _⟩ := h; rfl
  obtain ⟨v, d, rfl, r, hf, hd, q⟩ := h
  have sc := @sc_is_term
  refine ⟨_, (pss_cons (ps_if (PW.pt (pw_or (pt_not (pt_val (pe_callB (isi_K K) rfl T.n_isinstance bt_isinstance (pa_cons (pv 0) (pa_cons (pe_bltn (v := .ty "tuple") rfl T.n_tuple bt_tuple rfl) pa_nil))))) (pw_or (pt_not (pt_chain op_le op_le pe_int (pe_callB (len_K K) rfl T.n_len bt_len (pa_cons (pv 0) pa_nil)) pe_int)) (pw_or1 (pt_not (pt_val (pe_callB (isi_K K) rfl T.n_isinstance bt_isinstance (pa_cons (pe_ix (ix_K K) (pv 0) pe_int (fun _ _ => rfl)) (pa_cons (pe_bltn (v := .ty "str") rfl T.n_str bt_str rfl) pa_nil))))))))) (pss_one (ps_ret pe_bl)) pss_nil)
      (pss_cons (ps_if (pt_cmpR (op_eqK K hr) (pe_callB (len_K K) rfl T.n_len bt_len (pa_cons (pv 0) pa_nil)) pe_int (nomark _)) (pss_cons (ps_if (pt_cmpR (op_eqK K hr) (pe_ix (ix_K K) (pv 0) pe_int (fun _ _ => rfl)) pe_str (nomark _)) (pss_one (ps_ret (pe_c c_is_name hr (Nat.le_refl _) rfl (pa_cons (pe_ix (ix_K K) (pv 0) pe_int (fun _ _ => rfl)) pa_nil)))) pss_nil)
      (pss_one (ps_ret (pe_and (pe_cmpR (op_eqK K hr) (pe_ix (ix_K K) (pv 0) pe_int (fun _ _ => rfl)) pe_str (nomark _)) (pe_and (pe_c c_is_number hr (Nat.le_refl _) rfl (pa_cons (pe_ix (ix_K K) (pv 0) pe_int (fun _ _ => rfl)) pa_nil)) (pe_one (pe_cmpR op_ge (pe_ix (ix_K K) (pv 0) pe_int (fun _ _ => rfl)) pe_int (nomark _)))))))) pss_nil)
      (pss_cons (ps_set (i := 1) sc.nd rfl (Or.inl rfl) (pe_or (pe_and (pe_cmpR (op_eqK K hr) (pe_ix (ix_K K) (pv 0) pe_int (fun _ _ => rfl)) pe_str (nomark _)) (pe_one (pe_c c_is_form_name hr (Nat.le_refl _) rfl (pa_cons (pe_ix (ix_K K) (pv 0) pe_int (fun _ _ => rfl)) pa_nil)))) (pe_one (pe_and (pe_cmpR (op_eqK K hr) (pe_ix (ix_K K) (pv 0) pe_int (fun _ _ => rfl)) pe_str (nomark _)) (pe_one (pe_c c_is_name hr (Nat.le_refl _) rfl (pa_cons (pe_ix (ix_K K) (pv 0) pe_int (fun _ _ => rfl)) pa_nil)))))))
      (pss_one (ps_ret (pe_and (pv 1) (pe_one (pe_c c_are_args hr (Nat.le_refl _) rfl (pa_cons (pe_ix (ix_K K) (pv 0) pe_int (fun _ _ => rfl)) pa_nil))))))))), ?_⟩
  cases d
  case tuple ds =>
    have hf' : ds.length ≤ 1000 ∧ fines 1000 ds = true := by simpa [fine] using hf
    have hd' : PyData.depthAll ds + 1 ≤ 2 * m + 1 := by simp only [PyData.depth] at hd; omega
    rcases ds with _ | ⟨a, _ | ⟨b, _ | ⟨c, _ | ⟨e, ds⟩⟩⟩⟩
    · walk_at "r"
      exact q _ (by walk_at "S")
    · have e : isTm (m + 1) (.tuple [a]) = false := by cases a <;> rfl
      walk_at "r"
      exact e ▸ q _ (by walk_at "S")
    · have fb : short b := fine_short (fines_all.mp hf'.2 b (by simp))
      have h2 : (([a, b] : List PyData).length : Int) = 2 := rfl
      cases a
      case str x =>
        have e : isTm (m + 1) (.tuple [.str x, b]) = bif decide (x = "free") then isName b else (decide (x = "bound") && isNum b) := rfl
        rw [e] at q
        by_cases h4 : x = "free"
        · rw [decide_eq_true h4] at q
          walk_at "r"
          exact q _ (by walk_at "S")
        · rw [decide_eq_false h4] at q
          by_cases h5 : x = "bound"
          · rw [decide_eq_true h5] at q
            cases b
            case int i =>
              walk_at "r"
              exact q _ (by walk_at "S")
            all_goals
              walk_at "r"
              exact q _ (by walk_at "S")
          · rw [decide_eq_false h5] at q
            walk_at "r"
            exact q _ (by walk_at "S")
      all_goals
        walk_at "r"
        exact q _ (by walk_at "S")
    · have fb : short b := fine_short (fines_all.mp hf'.2 b (by simp))
      have fc : fine 1000 c = true := fines_all.mp hf'.2 c (by simp)
      have dc : c.depth < 2 * m + 1 := by have := depthAll_mem (ds := [a, b, c]) (d := c) (by simp); omega
      have h3 : (([a, b, c] : List PyData).length : Int) = 3 := rfl
      cases a
      case str x =>
        have e : isTm (m + 1) (.tuple [.str x, b, c]) = (((decide (x = "form") && isForm b) || (decide (x = "call") && isName b)) && isTms m c) := rfl
        rw [e] at q
        by_cases hx : x = "form"
        · have hy : ¬ x = "call" := fun e => absurd (hx.symm.trans e) (by decide +kernel)
          rw [decide_eq_true hx, decide_eq_false hy] at q
          walk_at "r"
          all_goals
            refine Eq.subst (motive := fun b => Q (.bl b) _) (?_ : (_ : Bool) = _) (q _ (by walk_at "S"))
            clear q e
            simp only [*, Bool.true_and, Bool.false_and, Bool.and_true, Bool.and_false, Bool.or_false, Bool.false_or, Bool.true_or]
        · rw [decide_eq_false hx] at q
          by_cases hy : x = "call"
          · rw [decide_eq_true hy] at q
            walk_at "r"
            all_goals
              refine Eq.subst (motive := fun b => Q (.bl b) _) (?_ : (_ : Bool) = _) (q _ (by walk_at "S"))
              clear q e
              simp only [*, Bool.true_and, Bool.false_and, Bool.and_true, Bool.and_false, Bool.or_false, Bool.false_or, Bool.true_or]
          · rw [decide_eq_false hy] at q
            walk_at "r"
            exact q _ (by walk_at "S")
      all_goals
        walk_at "r"
        exact q _ (by walk_at "S")
    · walk_at "r"
      have e : isTm (m + 1) (.tuple (a :: b :: c :: e :: ds)) = false := by cases a <;> rfl
      exact e ▸ q _ (by walk_at "S")
  all_goals
    walk_at "r"
    exact q _ (by walk_at "S")

end
end G

/-! the words of the walk: S (a heap keeps), R (a value stands for data), A (a row of them), no (a way that cannot be), s (one step), r (all steps) -/
local macro_rules | `(tactic| walk_at "S") => `(tactic| first | exact L2.Same.refl _ | assumption | exact G.sm_tr (by assumption) (by walk_at "S"))
local macro_rules | `(tactic| walk_at "R") => `(tactic| first
  | with_reducible exact G.R.int _ | with_reducible exact G.R.str _ | with_reducible exact G.R.bl _ | with_reducible exact G.R.non
  | with_reducible assumption
  | exact G.r_mono (by with_reducible assumption) (by walk_at "S")
  | ((with_reducible refine' G.R.lst L2.upd_same ?rl); (case rl => walk_at "A")))
local macro_rules | `(tactic| walk_at "A") => `(tactic| first | with_reducible exact G.RA.nil | ((with_reducible refine' G.RA.cons ?ra ?rb); (case ra => walk_at "R"); (case rb => walk_at "A")))
local macro_rules | `(tactic| walk_at "no") => `(tactic| first | contradiction | omega)
local macro_rules | `(tactic| walk_at "side") => `(tactic| first | with_reducible rfl | with_reducible assumption | omega | exact Int.lt_of_lt_of_le (by with_reducible assumption) (by decide +kernel) | ((with_reducible refine G.le_up ?_); decide +kernel) | (simp only [List.length_cons, List.length_nil, List.getElem?_cons_zero, List.getElem?_cons_succ, List.length_map]; done) | (simp only [List.length_cons, List.length_nil, List.length_map, List.length_append] at *; omega))
local macro_rules | `(tactic| walk_at "sideC") => `(tactic| first | with_reducible assumption | (with_reducible refine G.cmul_r ⟨?_, ?_⟩ <;> decide) | (with_reducible refine G.cdiv_r ⟨?_, ?_⟩ <;> decide) | (with_reducible refine G.cmul_l ⟨?_, ?_⟩ <;> decide) | (with_reducible refine G.cpow_c ⟨?_, ?_, ?_⟩ <;> decide) | (with_reducible refine G.cmul_r ⟨?_, ?_⟩ <;> omega) | (with_reducible refine G.cdiv_r ⟨?_, ?_⟩ <;> omega) | omega)
local macro_rules | `(tactic| walk_at "got") => `(tactic| (intro v0 r0; first
  | (have e0 := G.R.inv_str r0; subst e0) | (have e0 := G.R.inv_int r0; subst e0) | (have e0 := G.R.inv_bl r0; subst e0) | (have e0 := G.R.inv_non r0; subst e0) | skip))
local macro_rules | `(tactic| walk_at "P") => `(tactic| first | with_reducible assumption | exact G.keep_at (by with_reducible assumption) (by walk_at "S"))
local macro_rules | `(tactic| walk_at "c") => `(tactic| fail)
local macro_rules | `(tactic| walk_at "Q") => `(tactic| first | with_reducible assumption | exact G.seq_keep (by with_reducible assumption) (by walk_at "S"))
local macro_rules | `(tactic| walk_at "c") => `(tactic| ((with_reducible refine' G.use_state ?hp ?h0 ?h1 ?_); (case hp => walk_at "Q"); (case h0 => walk_at "side"); (case h1 => walk_at "side"); intro p0 H0 s0 hp0))
local macro_rules | `(tactic| walk_at "c") => `(tactic| ((with_reducible refine' G.use_draw ?hp ?h0 ?h1 ?_); (case hp => walk_at "P"); (case h0 => walk_at "side"); (case h1 => walk_at "side"); intro r0 hr0 hr1))
local macro_rules | `(tactic| walk_at "s") => `(tactic| first
  | with_reducible refine G.st_seq ?_
  | ((with_reducible refine' G.st_var ?hv ?_); (case hv => exact rfl))
  | with_reducible refine G.st_c ?_
  | with_reducible refine G.st_op ?_
  | with_reducible refine G.st_bl ?_
  | with_reducible refine L2.iteT ?_
  | with_reducible refine L2.iteF ?_
  | with_reducible refine G.ite_nt ?_
  | with_reducible refine G.ite_nf ?_
  | ((with_reducible refine G.st_ite ?_ ?_) <;> (intro hb; (try simp only [decide_eq_true_eq, decide_eq_false_iff_not, Bool.not_eq_true', Bool.not_eq_false', beq_iff_eq, Bool.and_eq_true, Bool.or_eq_true, Bool.and_eq_false_iff, Bool.or_eq_false_iff, beq_eq_false_iff_ne, ne_eq, Int.not_lt, Int.not_le, Nat.not_lt, Nat.not_le] at hb); first | (exfalso; walk_at "no"; done) | skip))
  | with_reducible refine G.st_if ?_
  | with_reducible refine G.st_ret ?_
  | with_reducible refine G.st_set ?_
  | with_reducible refine G.st_call ?_
  | with_reducible refine G.st_cons ?_
  | with_reducible refine G.st_nil ?_
  | with_reducible refine G.st_CB ?_
  | with_reducible refine G.st_tTest ?_
  | with_reducible refine G.st_tB ?_
  | with_reducible refine G.st_or ?_
  | with_reducible refine G.st_and ?_
  | with_reducible refine G.st_not ?_
  | with_reducible refine G.st_orV ?_
  | with_reducible refine G.st_andV ?_
  | with_reducible refine G.st_notV ?_
  | with_reducible refine G.st_tIf ?_
  | with_reducible refine G.st_chain ?_
  | with_reducible refine G.st_un ?_
  | with_reducible refine G.st_then ?_
  | with_reducible refine G.st_slice ?_
  | with_reducible refine G.st_noPart ?_
  | with_reducible refine G.st_part ?_
  | with_reducible refine G.st_exInt ?_
  | with_reducible refine G.st_drop ?_
  | with_reducible refine G.st_next ?_
  | with_reducible refine G.st_retN ?_
  | with_reducible refine G.add_int ?_
  | with_reducible refine G.i0 ?_
  | ((with_reducible refine G.imod2 (by decide) ?_ ?_) <;> (intro hm; first | (exfalso; walk_at "no"; done) | skip))
  | ((with_reducible refine G.imod3 (by decide) ?_ ?_ ?_) <;> (intro hm; first | (exfalso; walk_at "no"; done) | skip))
  | ((with_reducible refine' G.iC ?hc ?_); (case hc => walk_at "sideC"))
  | ((with_reducible refine' G.eq_str1 ?e ?_); (case e => with_reducible rfl))
  | ((with_reducible refine' G.eq_str0 ?e ?_); (case e => decide +kernel))
  | with_reducible refine G.eq_str ?_
  | with_reducible refine G.eq_int ?_
  | with_reducible refine G.eq_bl ?_
  | with_reducible refine G.ne_str ?_
  | with_reducible refine G.ne_int ?_
  | ((with_reducible refine' G.is_none ?r ?_); (case r => walk_at "R"))
  | ((with_reducible refine' G.isnt_none ?r ?_); (case r => walk_at "R"))
  | with_reducible refine G.is_bl ?_
  | with_reducible refine G.isnt_bl ?_
  | with_reducible refine G.in_sign ?_
  | with_reducible refine G.nin_sign ?_
  | ((with_reducible refine' G.in_strsT1 ?r ?c ?e ?_); (case r => walk_at "R"); (case c => rfl); (case e => decide +kernel))
  | ((with_reducible refine' G.in_strsT0 ?r ?c ?e ?_); (case r => walk_at "R"); (case c => rfl); (case e => decide +kernel))
  | ((with_reducible refine' G.in_strsT ?r ?c ?_); (case r => walk_at "R"); (case c => rfl))
  | ((with_reducible refine' G.nin_strsT ?r ?c ?_); (case r => walk_at "R"); (case c => rfl))
  | ((with_reducible refine' G.in_intsT ?r ?c ?_); (case r => walk_at "R"); (case c => rfl))
  | ((with_reducible refine' G.nin_intsT ?r ?c ?_); (case r => walk_at "R"); (case c => rfl))
  | ((with_reducible refine' G.add_str ?l ?_); (case l => walk_at "side"))
  | ((with_reducible refine' G.add_tup ?r ?s ?l ?_); (case r => walk_at "R"); (case s => walk_at "R"); (case l => walk_at "side"); intro v0 H0 s0 r0)
  | ((with_reducible refine' G.add_lst ?r ?s ?l ?_); (case r => walk_at "R"); (case s => walk_at "R"); (case l => walk_at "side"); intro v0 H0 s0 r0)
  | ((with_reducible refine' G.isi_1 ?r ?e ?t ?_); (case r => walk_at "R"); (case e => rfl); (case t => simp only [List.mem_cons, true_or, or_true]))
  | ((with_reducible refine' G.isi_0 ?r ?e ?t ?_); (case r => walk_at "R"); (case e => rfl); (case t => simp only [List.mem_cons, true_or, or_true]))
  | ((with_reducible refine' G.isi_R ?r ?t ?_); (case r => walk_at "R"); (case t => simp only [List.mem_cons, true_or, or_true]))
  | ((with_reducible refine' G.len_str ?l ?_); (case l => walk_at "side"))
  | ((with_reducible refine' G.len_tup ?r ?_); (case r => walk_at "R"))
  | ((with_reducible refine' G.len_lst ?r ?_); (case r => walk_at "R"))
  | (with_reducible refine G.st_tup ?_)
  | (with_reducible refine G.st_lst ?_)
  | ((with_reducible refine' G.st_newT ?r ?l ?_); (case r => walk_at "A"); (case l => first | exact Nat.le_of_ble_eq_true rfl | walk_at "side"); intro v0 H0 s0 r0)
  | ((with_reducible refine' G.st_newL ?r ?l ?_); (case r => walk_at "A"); (case l => first | exact Nat.le_of_ble_eq_true rfl | walk_at "side"); intro v0 H0 s0 r0)
  | ((with_reducible refine' G.ix_tupR ?r ?h0 ?hd ?_); (case r => walk_at "R"); (case h0 => walk_at "side"); (case hd => first | rfl | assumption); walk_at "got")
  | ((with_reducible refine' G.ix_lstR ?r ?h0 ?hd ?_); (case r => walk_at "R"); (case h0 => walk_at "side"); (case hd => first | rfl | assumption); walk_at "got")
  | ((with_reducible refine' G.ix_strR ?l ?h0 ?hd ?_); (case l => walk_at "side"); (case h0 => walk_at "side"); (case hd => first | rfl | assumption))
  | ((with_reducible refine' G.ix_strM ?l ?h0 ?h1 ?_); (case l => walk_at "side"); (case h0 => walk_at "side"); (case h1 => walk_at "side"); intro c0 hc0)
  | ((with_reducible refine' G.ix_tupN ?r ?h0 ?h1 ?_); (case r => walk_at "R"); (case h0 => walk_at "side"); (case h1 => walk_at "side"); intro v0 d0 hd0 r0)
  | ((with_reducible refine' G.ix_lstS ?r ?h0 ?h1 ?_); (case r => walk_at "R"); (case h0 => walk_at "side"); (case h1 => walk_at "side"); intro z0 hz0)
  | ((with_reducible refine' G.ix_lstN ?r ?h0 ?h1 ?_); (case r => walk_at "R"); (case h0 => walk_at "side"); (case h1 => walk_at "side"); intro v0 d0 hd0 r0)
  | ((with_reducible refine' G.sl_strR ?l ?_); (case l => walk_at "side"))
  | ((with_reducible refine' G.sl_tupR ?r ?_); (case r => walk_at "R"); intro v0 H0 s0 r0)
  | ((with_reducible refine' G.sl_lstR ?r ?_); (case r => walk_at "R"); intro v0 H0 s0 r0)
  | ((with_reducible refine' G.tupOf_L ?r ?_); (case r => walk_at "R"); intro v0 H0 s0 r0)
  | ((with_reducible refine' G.tupOf_T ?r ?_); (case r => walk_at "R"))
  | ((with_reducible refine' G.lstOf_T ?r ?_); (case r => walk_at "R"); intro v0 H0 s0 r0)
  | ((with_reducible refine' G.lstOf_L ?r ?_); (case r => walk_at "R"); intro v0 H0 s0 r0)
  | with_reducible refine G.st_lcL ?_
  | with_reducible refine G.st_lcT ?_
  | with_reducible refine G.st_lcS ?_
  | with_reducible refine G.st_lcR ?_
  | with_reducible refine G.st_M0 ?_
  | with_reducible refine G.st_M1 ?_
  | (with_reducible refine G.upper_one ?_; intro hu0)
  | ((with_reducible refine' G.upper_R ?l ?_); (case l => walk_at "side"))
  | (with_reducible refine G.st_strAnd ?_)
  | (with_reducible refine G.st_sub ?_)
  | ((with_reducible refine' G.set_20 ?hp ?_); (case hp => first | exact L2.upd_same | walk_at "P"))
  | ((with_reducible refine' G.set_21 ?hp ?_); (case hp => first | exact L2.upd_same | walk_at "P"))
  | ((with_reducible refine' G.set_at ?hp ?hi ?_); (case hp => first | exact L2.upd_same | walk_at "P"); (case hi => rfl))
  | with_reducible refine G.st_lst2 ?_
  | with_reducible refine G.st_shut ?_
  | with_reducible refine G.st_forR ?_
  | ((with_reducible refine' G.len_scr ?s ?_); (case s => walk_at "Q"))
  | ((with_reducible refine' G.ix_scr ?s ?h0 ?h1 ?_); (case s => walk_at "Q"); (case h0 => walk_at "side"); (case h1 => walk_at "side"); intro n0)
  | ((with_reducible refine' G.sl_scr ?s ?_); (case s => walk_at "Q"); intro v0 H0 s0 r0)
  | (with_reducible refine' G.st_disp1 ?_; intro v0 H0 s0 r0)
  | walk_at "c"
  | fail "no step")
local macro_rules | `(tactic| walk_at "r") => `(tactic| repeat' (walk_at "s"))

local macro_rules | `(tactic| walk_at "side") => `(tactic| first | exact G.nm_a (by with_reducible assumption) | exact G.fm_a (by with_reducible assumption) | exact G.nm_b (by with_reducible assumption) | exact G.nm_c (by with_reducible assumption) | fail)
local macro_rules | `(tactic| walk_at "c") => `(tactic| ((with_reducible refine' G.use_name ?hp ?_); (case hp => walk_at "P"); intro z0 H0 s0 hz0))
local macro_rules | `(tactic| walk_at "c") => `(tactic| ((with_reducible refine' G.use_form ?hp ?_); (case hp => walk_at "P"); intro z0 H0 s0 hz0))
local macro_rules | `(tactic| walk_at "c") => `(tactic| ((with_reducible refine' G.use_pool ?hp ?_); (case hp => walk_at "P"); intro v0 fs0 gs0 ns0 H0 s0 ok0 r0))
local macro_rules | `(tactic| walk_at "c") => `(tactic| ((with_reducible refine' G.use_leaf ?hp ?r ?ok ?h0 ?h1 ?_); (case hp => walk_at "P"); (case r => walk_at "R"); (case ok => with_reducible assumption); (case h0 => walk_at "side"); (case h1 => walk_at "side"); intro v0 t0 H0 s0 r0 ht0 hd0 hs0))
local macro_rules | `(tactic| walk_at "c") => `(tactic| ((with_reducible refine' G.use_term ?hp ?r ?ok ?h0 ?h1 ?e0 ?e1 ?_); (case hp => walk_at "P"); (case r => walk_at "R"); (case ok => with_reducible assumption); (case h0 => walk_at "side"); (case h1 => walk_at "side"); (case e0 => walk_at "side"); (case e1 => walk_at "side"); intro v0 t0 H0 s0 r0 ht0 hd0 hs0))
local macro_rules | `(tactic| walk_at "c") => `(tactic| ((with_reducible refine' G.use_tall ?hp ?r ?ok ?rt ?ht ?h0 ?h1 ?_); (case hp => walk_at "P"); (case r => walk_at "R"); (case ok => with_reducible assumption); (case rt => walk_at "R"); (case ht => with_reducible assumption); (case h0 => walk_at "side"); (case h1 => walk_at "side"); intro v0 t0 H0 s0 r0 ht0 hd0 hs0))
local macro_rules | `(tactic| walk_at "c") => `(tactic| ((with_reducible refine' G.use_anyT ?hp ?r ?ok ?h0 ?h1 ?_); (case hp => walk_at "P"); (case r => walk_at "R"); (case ok => with_reducible assumption); (case h0 => walk_at "side"); (case h1 => walk_at "side"); intro v0 t0 H0 s0 r0 ht0 hd0 hs0))

namespace G
open PySem PySem.Spec PyProof.Rows L2
section
variable {P : Program} {w : World} {K : PySem.W.Frag} {mg : Str → Option Value} {base : Heap} {k n : Nat}
local macro_rules | `(tactic| walk_at "c") => `(tactic| ((with_reducible refine' G.use_isName ?r ?hs ?_); (case r => walk_at "R"); (case hs => with_reducible assumption); intro H0 s0))
local macro_rules | `(tactic| walk_at "c") => `(tactic| ((with_reducible refine' G.use_isForm ?r ?hs ?_); (case r => walk_at "R"); (case hs => with_reducible assumption); intro H0 s0))
local macro_rules | `(tactic| walk_at "c") => `(tactic| ((with_reducible refine' G.use_isNum ?r ?_); (case r => walk_at "R"); intro H0 s0))
local macro_rules | `(tactic| walk_at "c") => `(tactic| ((with_reducible refine' G.use_isTms ?r ?hs ?hd ?_); (case r => walk_at "R"); (case hs => with_reducible assumption); (case hd => with_reducible assumption); intro H0 s0))

def spIsSt (K : PySem.W.Frag) (n : Nat) : Sp := fun vs H Q _ => ∃ v d, vs = [v] ∧ R K H v d ∧ fine 1000 d = true ∧ d.depth < 72 ∧ d.depth < n ∧ ∀ H', Same H H' → Q (.bl (isSt n d)) H'
theorem use_isSt {H : Hp} {Q : VK} {E : XK} {n : Nat} {v : V} {d : PyData} (r : R K H v d) (hs : fine 1000 d = true) (h7 : d.depth < 72) (hd : d.depth < n) (h : ∀ H', Same H H' → Q (.bl (isSt n d)) H') : spIsSt K n [v] H Q E := ⟨v, d, rfl, r, hs, h7, hd, h⟩
theorem use_isTm36 {H : Hp} {Q : VK} {E : XK} {v : V} {d : PyData} (r : R K H v d) (hs : fine 1000 d = true) (hd : d.depth < 72) (h : ∀ H', Same H H' → Q (.bl (isTm 36 d)) H') : spIsTm K 36 [v] H Q E := ⟨v, d, rfl, r, hs, hd, h⟩
theorem use_isTms36 {H : Hp} {Q : VK} {E : XK} {v : V} {d : PyData} (r : R K H v d) (hs : fine 1000 d = true) (hd : d.depth < 72) (h : ∀ H', Same H H' → Q (.bl (isTms 36 d)) H') : spIsTms K 36 [v] H Q E := ⟨v, d, rfl, r, hs, Nat.lt_succ_of_lt hd, h⟩
local macro_rules | `(tactic| walk_at "c") => `(tactic| ((with_reducible refine' G.eqT_R ?r ?s ?_); (case r => walk_at "R"); (case s => walk_at "R")))
local macro_rules | `(tactic| walk_at "c") => `(tactic| ((with_reducible refine' G.use_isTm36 ?r ?hs ?hd ?_); (case r => walk_at "R"); (case hs => with_reducible assumption); (case hd => with_reducible assumption); intro H0 s0))
local macro_rules | `(tactic| walk_at "c") => `(tactic| ((with_reducible refine' G.use_isTms36 ?r ?hs ?hd ?_); (case r => walk_at "R"); (case hs => with_reducible assumption); (case hd => with_reducible assumption); intro H0 s0))
local macro_rules | `(tactic| walk_at "c") => `(tactic| ((with_reducible refine' G.use_isSt ?r ?hs ?h7 ?hd ?_); (case r => walk_at "R"); (case hs => with_reducible assumption); (case h7 => with_reducible assumption); (case hd => with_reducible assumption); intro H0 s0))
theorem ok_is_statement (T : Tp K mg) {m : Nat} (c_is_name : Cal P w K mg base k "is_name" (spIsName K)) (c_is_term : Cal P w K mg base k "is_term" (spIsTm K 36)) (c_are_args : Cal P w K mg base k "are_args" (spIsTms K 36))
    (c_is_statement : Cal P w K mg base k "is_statement" (spIsSt K m)) : Cal P w K mg base (k + 1) "is_statement" (spIsSt K (m + 1)) := by
  refine T.d_is_statement.cal sc_is_statement (fun vs H Q E h => ?_) (fun f cdv A outer s H vs Q E hr h => ?_)
  · obtain ⟨v, d, rfl, _⟩ := h; rfl
  obtain ⟨v, d, rfl, r, hf, h7, hd, q⟩ := h
  have sc := @sc_is_statement
  obtain ⟨a_BINDERS, g_BINDERS, r_BINDERS⟩ := T.g_BINDERS
  have r_BINDERS := r_BINDERS H
  refine ⟨_, (pss_cons (ps_if (PW.pt (pw_or (pt_not (pt_val (pe_callB (isi_K K) rfl T.n_isinstance bt_isinstance (pa_cons (pv 0) (pa_cons (pe_bltn (v := .ty "tuple") rfl T.n_tuple bt_tuple rfl) pa_nil))))) (pw_or (pt_not (pt_chain op_le op_le pe_int (pe_callB (len_K K) rfl T.n_len bt_len (pa_cons (pv 0) pa_nil)) pe_int)) (pw_or1 (pt_not (pt_val (pe_callB (isi_K K) rfl T.n_isinstance bt_isinstance (pa_cons (pe_ix (ix_K K) (pv 0) pe_int (fun _ _ => rfl)) (pa_cons (pe_bltn (v := .ty "str") rfl T.n_str bt_str rfl) pa_nil))))))))) (pss_one (ps_ret pe_bl)) pss_nil)
      (pss_cons (ps_if (pt_cmpR op_lt (pe_callB (len_K K) rfl T.n_len bt_len (pa_cons (pv 0) pa_nil)) pe_int (nomark _)) (pss_one (ps_ret (pe_cmpR (op_eqTK K hr) (pv 0) (pe_tupK K (pa_cons pe_str pa_nil)) (nomark _)))) pss_nil)
      (pss_cons (ps_if (pt_cmpR (op_eqK K hr) (pe_ix (ix_K K) (pv 0) pe_int (fun _ _ => rfl)) pe_str (nomark _)) (pss_one (ps_ret (pe_and (pe_c c_is_term hr (Nat.le_refl _) rfl (pa_cons (pe_ix (ix_K K) (pv 0) pe_int (fun _ _ => rfl)) pa_nil)) (pe_one (pe_c c_is_term hr (Nat.le_refl _) rfl (pa_cons (pe_ix (ix_K K) (pv 0) pe_int (fun _ _ => rfl)) pa_nil)))))) pss_nil)
      (pss_cons (ps_if (pt_cmpR (op_eqK K hr) (pe_ix (ix_K K) (pv 0) pe_int (fun _ _ => rfl)) pe_str (nomark _)) (pss_one (ps_ret (pe_and (pe_c c_is_name hr (Nat.le_refl _) rfl (pa_cons (pe_ix (ix_K K) (pv 0) pe_int (fun _ _ => rfl)) pa_nil)) (pe_one (pe_c c_are_args hr (Nat.le_refl _) rfl (pa_cons (pe_ix (ix_K K) (pv 0) pe_int (fun _ _ => rfl)) pa_nil)))))) pss_nil)
      (pss_cons (ps_if (pt_cmpR (op_inK K) (pe_ix (ix_K K) (pv 0) pe_int (fun _ _ => rfl)) (pe_gv rfl g_BINDERS) rfl) (pss_one (ps_ret (pe_and (pe_c c_is_name hr (Nat.le_refl _) rfl (pa_cons (pe_ix (ix_K K) (pv 0) pe_int (fun _ _ => rfl)) pa_nil)) (pe_one (pe_c c_is_statement hr (Nat.le_refl _) rfl (pa_cons (pe_ix (ix_K K) (pv 0) pe_int (fun _ _ => rfl)) pa_nil)))))) pss_nil)
      (pss_one (ps_ret (pe_and (pe_cmpR (op_inK K) (pe_ix (ix_K K) (pv 0) pe_int (fun _ _ => rfl)) (pe_tupK K (pa_cons pe_str (pa_cons pe_str (pa_cons pe_str pa_nil)))) rfl) (pe_and (pe_c c_is_statement hr (Nat.le_refl _) rfl (pa_cons (pe_ix (ix_K K) (pv 0) pe_int (fun _ _ => rfl)) pa_nil)) (pe_one (pe_c c_is_statement hr (Nat.le_refl _) rfl (pa_cons (pe_ix (ix_K K) (pv 0) pe_int (fun _ _ => rfl)) pa_nil)))))))))))), ?_⟩
  cases d
  case tuple ds =>
    have hf' : ds.length ≤ 1000 ∧ fines 1000 ds = true := by simpa [fine] using hf
    have hd' : PyData.depthAll ds + 1 < m + 1 := by simp only [PyData.depth] at hd; omega
    have h7' : PyData.depthAll ds + 1 < 72 := by simp only [PyData.depth] at h7; omega
    rcases ds with _ | ⟨a, _ | ⟨b, _ | ⟨c, _ | ⟨e, ds⟩⟩⟩⟩
    · walk_at "r"
      exact q _ (by walk_at "S")
    · have h1 : (([a] : List PyData).length : Int) = 1 := rfl
      cases a
      case str x =>
        walk_at "r"
        rw [List.isEmpty_nil, Bool.and_true]
        exact q _ (by walk_at "S")
      all_goals
        walk_at "r"
        exact q _ (by walk_at "S")
    · have h2 : (([a, b] : List PyData).length : Int) = 2 := rfl
      cases a
      case str x =>
        walk_at "r"
        rw [List.isEmpty_cons, Bool.and_false]
        exact q _ (by walk_at "S")
      all_goals
        walk_at "r"
        exact q _ (by walk_at "S")
    · have sb : short b := fine_short (fines_all.mp hf'.2 b (by simp))
      have fb : fine 1000 b = true := fines_all.mp hf'.2 b (by simp)
      have fc : fine 1000 c = true := fines_all.mp hf'.2 c (by simp)
      have db := depthAll_mem (ds := [a, b, c]) (d := b) (by simp)
      have dc := depthAll_mem (ds := [a, b, c]) (d := c) (by simp)
      have db1 : b.depth < 72 := by omega
      have db2 : b.depth < m := by omega
      have dc1 : c.depth < 72 := by omega
      have dc2 : c.depth < m := by omega
      have h3 : (([a, b, c] : List PyData).length : Int) = 3 := rfl
      cases a
      case str x =>
        have e : isSt (m + 1) (.tuple [.str x, b, c]) = (bif decide (x = "same") then isTm 36 b && isTm 36 c else bif decide (x = "atom") then isName b && isTms 36 c else
          bif inS x [.str "all", .str "some"] then isName b && isSt m c else inS x [.str "and", .str "or", .str "if"] && (isSt m b && isSt m c)) := rfl
        rw [e] at q
        by_cases h4 : x = "same"
        · rw [decide_eq_true h4] at q
          walk_at "r"
          all_goals
            refine Eq.subst (motive := fun b => Q (.bl b) _) (?_ : (_ : Bool) = _) (q _ (by walk_at "S"))
            clear q e
            simp only [*, cond_true, cond_false, Bool.true_and, Bool.false_and]
        rw [decide_eq_false h4] at q
        by_cases h5 : x = "atom"
        · rw [decide_eq_true h5] at q
          walk_at "r"
          all_goals
            refine Eq.subst (motive := fun b => Q (.bl b) _) (?_ : (_ : Bool) = _) (q _ (by walk_at "S"))
            clear q e
            simp only [*, cond_true, cond_false, Bool.true_and, Bool.false_and]
        rw [decide_eq_false h5] at q
        walk_at "r"
        all_goals
          refine Eq.subst (motive := fun b => Q (.bl b) _) (?_ : (_ : Bool) = _) (q _ (by walk_at "S"))
          clear q e
          simp only [*, cond_true, cond_false, Bool.true_and, Bool.false_and]
      all_goals
        walk_at "r"
        exact q _ (by walk_at "S")
    · have e : isSt (m + 1) (.tuple (a :: b :: c :: e :: ds)) = false := by cases a <;> rfl
      rw [e] at q
      walk_at "r"
      exact q _ (by walk_at "S")
  all_goals
    walk_at "r"
    exact q _ (by walk_at "S")

end
end G

/-! the words of the walk: S (a heap keeps), R (a value stands for data), A (a row of them), no (a way that cannot be), s (one step), r (all steps) -/
local macro_rules | `(tactic| walk_at "S") => `(tactic| first | exact L2.Same.refl _ | assumption | exact G.sm_tr (by assumption) (by walk_at "S"))
local macro_rules | `(tactic| walk_at "R") => `(tactic| first
  | with_reducible exact G.R.int _ | with_reducible exact G.R.str _ | with_reducible exact G.R.bl _ | with_reducible exact G.R.non
  | with_reducible assumption
  | exact G.r_mono (by with_reducible assumption) (by walk_at "S")
  | ((with_reducible refine' G.R.lst L2.upd_same ?rl); (case rl => walk_at "A")))
local macro_rules | `(tactic| walk_at "A") => `(tactic| first | with_reducible exact G.RA.nil | ((with_reducible refine' G.RA.cons ?ra ?rb); (case ra => walk_at "R"); (case rb => walk_at "A")))
local macro_rules | `(tactic| walk_at "no") => `(tactic| first | contradiction | omega)
local macro_rules | `(tactic| walk_at "side") => `(tactic| first | with_reducible rfl | with_reducible assumption | omega | exact Int.lt_of_lt_of_le (by with_reducible assumption) (by decide +kernel) | ((with_reducible refine G.le_up ?_); decide +kernel) | (simp only [List.length_cons, List.length_nil, List.getElem?_cons_zero, List.getElem?_cons_succ, List.length_map]; done) | (simp only [List.length_cons, List.length_nil, List.length_map, List.length_append] at *; omega))
local macro_rules | `(tactic| walk_at "sideC") => `(tactic| first | with_reducible assumption | (with_reducible refine G.cmul_r ⟨?_, ?_⟩ <;> decide) | (with_reducible refine G.cdiv_r ⟨?_, ?_⟩ <;> decide) | (with_reducible refine G.cmul_l ⟨?_, ?_⟩ <;> decide) | (with_reducible refine G.cpow_c ⟨?_, ?_, ?_⟩ <;> decide) | (with_reducible refine G.cmul_r ⟨?_, ?_⟩ <;> omega) | (with_reducible refine G.cdiv_r ⟨?_, ?_⟩ <;> omega) | omega)
local macro_rules | `(tactic| walk_at "got") => `(tactic| (intro v0 r0; first
  | (have e0 := G.R.inv_str r0; subst e0) | (have e0 := G.R.inv_int r0; subst e0) | (have e0 := G.R.inv_bl r0; subst e0) | (have e0 := G.R.inv_non r0; subst e0) | skip))
local macro_rules | `(tactic| walk_at "P") => `(tactic| first | with_reducible assumption | exact G.keep_at (by with_reducible assumption) (by walk_at "S"))
local macro_rules | `(tactic| walk_at "c") => `(tactic| fail)
local macro_rules | `(tactic| walk_at "Q") => `(tactic| first | with_reducible assumption | exact G.seq_keep (by with_reducible assumption) (by walk_at "S"))
local macro_rules | `(tactic| walk_at "c") => `(tactic| ((with_reducible refine' G.use_state ?hp ?h0 ?h1 ?_); (case hp => walk_at "Q"); (case h0 => walk_at "side"); (case h1 => walk_at "side"); intro p0 H0 s0 hp0))
local macro_rules | `(tactic| walk_at "c") => `(tactic| ((with_reducible refine' G.use_draw ?hp ?h0 ?h1 ?_); (case hp => walk_at "P"); (case h0 => walk_at "side"); (case h1 => walk_at "side"); intro r0 hr0 hr1))
local macro_rules | `(tactic| walk_at "s") => `(tactic| first
  | with_reducible refine G.st_seq ?_
  | ((with_reducible refine' G.st_var ?hv ?_); (case hv => exact rfl))
  | with_reducible refine G.st_c ?_
  | with_reducible refine G.st_op ?_
  | with_reducible refine G.st_bl ?_
  | with_reducible refine L2.iteT ?_
  | with_reducible refine L2.iteF ?_
  | with_reducible refine G.ite_nt ?_
  | with_reducible refine G.ite_nf ?_
  | ((with_reducible refine G.st_ite ?_ ?_) <;> (intro hb; (try simp only [decide_eq_true_eq, decide_eq_false_iff_not, Bool.not_eq_true', Bool.not_eq_false', beq_iff_eq, Bool.and_eq_true, Bool.or_eq_true, Bool.and_eq_false_iff, Bool.or_eq_false_iff, beq_eq_false_iff_ne, ne_eq, Int.not_lt, Int.not_le, Nat.not_lt, Nat.not_le] at hb); first | (exfalso; walk_at "no"; done) | skip))
  | with_reducible refine G.st_if ?_
  | with_reducible refine G.st_ret ?_
  | with_reducible refine G.st_set ?_
  | with_reducible refine G.st_call ?_
  | with_reducible refine G.st_cons ?_
  | with_reducible refine G.st_nil ?_
  | with_reducible refine G.st_CB ?_
  | with_reducible refine G.st_tTest ?_
  | with_reducible refine G.st_tB ?_
  | with_reducible refine G.st_or ?_
  | with_reducible refine G.st_and ?_
  | with_reducible refine G.st_not ?_
  | with_reducible refine G.st_orV ?_
  | with_reducible refine G.st_andV ?_
  | with_reducible refine G.st_notV ?_
  | with_reducible refine G.st_tIf ?_
  | with_reducible refine G.st_chain ?_
  | with_reducible refine G.st_un ?_
  | with_reducible refine G.st_then ?_
  | with_reducible refine G.st_slice ?_
  | with_reducible refine G.st_noPart ?_
  | with_reducible refine G.st_part ?_
  | with_reducible refine G.st_exInt ?_
  | with_reducible refine G.st_drop ?_
  | with_reducible refine G.st_next ?_
  | with_reducible refine G.st_retN ?_
  | with_reducible refine G.add_int ?_
  | with_reducible refine G.i0 ?_
  | ((with_reducible refine G.imod2 (by decide) ?_ ?_) <;> (intro hm; first | (exfalso; walk_at "no"; done) | skip))
  | ((with_reducible refine G.imod3 (by decide) ?_ ?_ ?_) <;> (intro hm; first | (exfalso; walk_at "no"; done) | skip))
  | ((with_reducible refine' G.iC ?hc ?_); (case hc => walk_at "sideC"))
  | ((with_reducible refine' G.eq_str1 ?e ?_); (case e => with_reducible rfl))
  | ((with_reducible refine' G.eq_str0 ?e ?_); (case e => decide +kernel))
  | with_reducible refine G.eq_str ?_
  | with_reducible refine G.eq_int ?_
  | with_reducible refine G.eq_bl ?_
  | with_reducible refine G.ne_str ?_
  | with_reducible refine G.ne_int ?_
  | ((with_reducible refine' G.is_none ?r ?_); (case r => walk_at "R"))
  | ((with_reducible refine' G.isnt_none ?r ?_); (case r => walk_at "R"))
  | with_reducible refine G.is_bl ?_
  | with_reducible refine G.isnt_bl ?_
  | with_reducible refine G.in_sign ?_
  | with_reducible refine G.nin_sign ?_
  | ((with_reducible refine' G.in_strsT1 ?r ?c ?e ?_); (case r => walk_at "R"); (case c => rfl); (case e => decide +kernel))
  | ((with_reducible refine' G.in_strsT0 ?r ?c ?e ?_); (case r => walk_at "R"); (case c => rfl); (case e => decide +kernel))
  | ((with_reducible refine' G.in_strsT ?r ?c ?_); (case r => walk_at "R"); (case c => rfl))
  | ((with_reducible refine' G.nin_strsT ?r ?c ?_); (case r => walk_at "R"); (case c => rfl))
  | ((with_reducible refine' G.in_intsT ?r ?c ?_); (case r => walk_at "R"); (case c => rfl))
  | ((with_reducible refine' G.nin_intsT ?r ?c ?_); (case r => walk_at "R"); (case c => rfl))
  | ((with_reducible refine' G.add_str ?l ?_); (case l => walk_at "side"))
  | ((with_reducible refine' G.add_tup ?r ?s ?l ?_); (case r => walk_at "R"); (case s => walk_at "R"); (case l => walk_at "side"); intro v0 H0 s0 r0)
  | ((with_reducible refine' G.add_lst ?r ?s ?l ?_); (case r => walk_at "R"); (case s => walk_at "R"); (case l => walk_at "side"); intro v0 H0 s0 r0)
  | ((with_reducible refine' G.isi_1 ?r ?e ?t ?_); (case r => walk_at "R"); (case e => rfl); (case t => simp only [List.mem_cons, true_or, or_true]))
  | ((with_reducible refine' G.isi_0 ?r ?e ?t ?_); (case r => walk_at "R"); (case e => rfl); (case t => simp only [List.mem_cons, true_or, or_true]))
  | ((with_reducible refine' G.isi_R ?r ?t ?_); (case r => walk_at "R"); (case t => simp only [List.mem_cons, true_or, or_true]))
  | ((with_reducible refine' G.len_str ?l ?_); (case l => walk_at "side"))
  | ((with_reducible refine' G.len_tup ?r ?_); (case r => walk_at "R"))
  | ((with_reducible refine' G.len_lst ?r ?_); (case r => walk_at "R"))
  | (with_reducible refine G.st_tup ?_)
  | (with_reducible refine G.st_lst ?_)
  | ((with_reducible refine' G.st_newT ?r ?l ?_); (case r => walk_at "A"); (case l => first | exact Nat.le_of_ble_eq_true rfl | walk_at "side"); intro v0 H0 s0 r0)
  | ((with_reducible refine' G.st_newL ?r ?l ?_); (case r => walk_at "A"); (case l => first | exact Nat.le_of_ble_eq_true rfl | walk_at "side"); intro v0 H0 s0 r0)
  | ((with_reducible refine' G.ix_tupR ?r ?h0 ?hd ?_); (case r => walk_at "R"); (case h0 => walk_at "side"); (case hd => first | rfl | assumption); walk_at "got")
  | ((with_reducible refine' G.ix_lstR ?r ?h0 ?hd ?_); (case r => walk_at "R"); (case h0 => walk_at "side"); (case hd => first | rfl | assumption); walk_at "got")
  | ((with_reducible refine' G.ix_strR ?l ?h0 ?hd ?_); (case l => walk_at "side"); (case h0 => walk_at "side"); (case hd => first | rfl | assumption))
  | ((with_reducible refine' G.ix_strM ?l ?h0 ?h1 ?_); (case l => walk_at "side"); (case h0 => walk_at "side"); (case h1 => walk_at "side"); intro c0 hc0)
  | ((with_reducible refine' G.ix_tupN ?r ?h0 ?h1 ?_); (case r => walk_at "R"); (case h0 => walk_at "side"); (case h1 => walk_at "side"); intro v0 d0 hd0 r0)
  | ((with_reducible refine' G.ix_lstS ?r ?h0 ?h1 ?_); (case r => walk_at "R"); (case h0 => walk_at "side"); (case h1 => walk_at "side"); intro z0 hz0)
  | ((with_reducible refine' G.ix_lstN ?r ?h0 ?h1 ?_); (case r => walk_at "R"); (case h0 => walk_at "side"); (case h1 => walk_at "side"); intro v0 d0 hd0 r0)
  | ((with_reducible refine' G.sl_strR ?l ?_); (case l => walk_at "side"))
  | ((with_reducible refine' G.sl_tupR ?r ?_); (case r => walk_at "R"); intro v0 H0 s0 r0)
  | ((with_reducible refine' G.sl_lstR ?r ?_); (case r => walk_at "R"); intro v0 H0 s0 r0)
  | ((with_reducible refine' G.tupOf_L ?r ?_); (case r => walk_at "R"); intro v0 H0 s0 r0)
  | ((with_reducible refine' G.tupOf_T ?r ?_); (case r => walk_at "R"))
  | ((with_reducible refine' G.lstOf_T ?r ?_); (case r => walk_at "R"); intro v0 H0 s0 r0)
  | ((with_reducible refine' G.lstOf_L ?r ?_); (case r => walk_at "R"); intro v0 H0 s0 r0)
  | with_reducible refine G.st_lcL ?_
  | with_reducible refine G.st_lcT ?_
  | with_reducible refine G.st_lcS ?_
  | with_reducible refine G.st_lcR ?_
  | with_reducible refine G.st_M0 ?_
  | with_reducible refine G.st_M1 ?_
  | (with_reducible refine G.upper_one ?_; intro hu0)
  | ((with_reducible refine' G.upper_R ?l ?_); (case l => walk_at "side"))
  | (with_reducible refine G.st_strAnd ?_)
  | (with_reducible refine G.st_sub ?_)
  | ((with_reducible refine' G.set_20 ?hp ?_); (case hp => first | exact L2.upd_same | walk_at "P"))
  | ((with_reducible refine' G.set_21 ?hp ?_); (case hp => first | exact L2.upd_same | walk_at "P"))
  | ((with_reducible refine' G.set_at ?hp ?hi ?_); (case hp => first | exact L2.upd_same | walk_at "P"); (case hi => rfl))
  | with_reducible refine G.st_lst2 ?_
  | with_reducible refine G.st_shut ?_
  | with_reducible refine G.st_forR ?_
  | ((with_reducible refine' G.len_scr ?s ?_); (case s => walk_at "Q"))
  | ((with_reducible refine' G.ix_scr ?s ?h0 ?h1 ?_); (case s => walk_at "Q"); (case h0 => walk_at "side"); (case h1 => walk_at "side"); intro n0)
  | ((with_reducible refine' G.sl_scr ?s ?_); (case s => walk_at "Q"); intro v0 H0 s0 r0)
  | (with_reducible refine' G.st_disp1 ?_; intro v0 H0 s0 r0)
  | walk_at "c"
  | fail "no step")
local macro_rules | `(tactic| walk_at "r") => `(tactic| repeat' (walk_at "s"))

local macro_rules | `(tactic| walk_at "side") => `(tactic| first | exact G.nm_a (by with_reducible assumption) | exact G.fm_a (by with_reducible assumption) | exact G.nm_b (by with_reducible assumption) | exact G.nm_c (by with_reducible assumption) | fail)
local macro_rules | `(tactic| walk_at "c") => `(tactic| ((with_reducible refine' G.use_name ?hp ?_); (case hp => walk_at "P"); intro z0 H0 s0 hz0))
local macro_rules | `(tactic| walk_at "c") => `(tactic| ((with_reducible refine' G.use_form ?hp ?_); (case hp => walk_at "P"); intro z0 H0 s0 hz0))
local macro_rules | `(tactic| walk_at "c") => `(tactic| ((with_reducible refine' G.use_pool ?hp ?_); (case hp => walk_at "P"); intro v0 fs0 gs0 ns0 H0 s0 ok0 r0))
local macro_rules | `(tactic| walk_at "c") => `(tactic| ((with_reducible refine' G.use_leaf ?hp ?r ?ok ?h0 ?h1 ?_); (case hp => walk_at "P"); (case r => walk_at "R"); (case ok => with_reducible assumption); (case h0 => walk_at "side"); (case h1 => walk_at "side"); intro v0 t0 H0 s0 r0 ht0 hd0 hs0))
local macro_rules | `(tactic| walk_at "c") => `(tactic| ((with_reducible refine' G.use_term ?hp ?r ?ok ?h0 ?h1 ?e0 ?e1 ?_); (case hp => walk_at "P"); (case r => walk_at "R"); (case ok => with_reducible assumption); (case h0 => walk_at "side"); (case h1 => walk_at "side"); (case e0 => walk_at "side"); (case e1 => walk_at "side"); intro v0 t0 H0 s0 r0 ht0 hd0 hs0))
local macro_rules | `(tactic| walk_at "c") => `(tactic| ((with_reducible refine' G.use_tall ?hp ?r ?ok ?rt ?ht ?h0 ?h1 ?_); (case hp => walk_at "P"); (case r => walk_at "R"); (case ok => with_reducible assumption); (case rt => walk_at "R"); (case ht => with_reducible assumption); (case h0 => walk_at "side"); (case h1 => walk_at "side"); intro v0 t0 H0 s0 r0 ht0 hd0 hs0))
local macro_rules | `(tactic| walk_at "c") => `(tactic| ((with_reducible refine' G.use_anyT ?hp ?r ?ok ?h0 ?h1 ?_); (case hp => walk_at "P"); (case r => walk_at "R"); (case ok => with_reducible assumption); (case h0 => walk_at "side"); (case h1 => walk_at "side"); intro v0 t0 H0 s0 r0 ht0 hd0 hs0))

namespace G
open PySem PySem.Spec PyProof.Rows L2
section
variable {P : Program} {w : World} {K : PySem.W.Frag} {mg : Str → Option Value} {base : Heap} {k n : Nat}
local macro_rules | `(tactic| walk_at "c") => `(tactic| ((with_reducible refine' G.use_isName ?r ?hs ?_); (case r => walk_at "R"); (case hs => with_reducible assumption); intro H0 s0))
local macro_rules | `(tactic| walk_at "c") => `(tactic| ((with_reducible refine' G.use_isForm ?r ?hs ?_); (case r => walk_at "R"); (case hs => with_reducible assumption); intro H0 s0))
local macro_rules | `(tactic| walk_at "c") => `(tactic| ((with_reducible refine' G.use_isNum ?r ?_); (case r => walk_at "R"); intro H0 s0))
local macro_rules | `(tactic| walk_at "c") => `(tactic| ((with_reducible refine' G.use_isTms ?r ?hs ?hd ?_); (case r => walk_at "R"); (case hs => with_reducible assumption); (case hd => with_reducible assumption); intro H0 s0))

def spNamed (K : PySem.W.Frag) : Sp := fun vs H Q _ => ∃ v d g, vs = [v, .bl g] ∧ R K H v d ∧ short d ∧ ∀ H', Same H H' → Q (.bl (bif g then isForm d else isName d)) H'
theorem use_named {H : Hp} {Q : VK} {E : XK} {v : V} {d : PyData} {g : Bool} (r : R K H v d) (hs : short d) (h : ∀ H', Same H H' → Q (.bl (bif g then isForm d else isName d)) H') : spNamed K [v, .bl g] H Q E := ⟨v, d, g, rfl, r, hs, h⟩
theorem ok_l_is_named (T : Tp K mg) : Cal P w K mg base (k + 1) "_law_is_named" (spNamed K) := by
  refine T.d_l_is_named.cal sc_l_is_named (fun vs H Q E h => ?_) (fun f cdv A outer s H vs Q E hr h => ?_)
  · obtain ⟨v, d, g, rfl, _⟩ := h; rfl
  obtain ⟨v, d, g, rfl, r, hs, q⟩ := h
  have sc := @sc_l_is_named
  refine ⟨_, (pss_cons (ps_if (PW.pt (pw_or (pt_not (pt_val (pe_callB (isi_K K) rfl T.n_isinstance bt_isinstance (pa_cons (pv 0) (pa_cons (pe_bltn (v := .ty "str") rfl T.n_str bt_str rfl) pa_nil))))) (pw_or1 (pt_not (pt_chain op_le op_le pe_int (pe_callB (len_K K) rfl T.n_len bt_len (pa_cons (pv 0) pa_nil)) pe_int))))) (pss_one (ps_ret pe_bl)) pss_nil)
      (pss_cons (ps_set (i := 2) sc.nd rfl (Or.inl rfl) pe_str)
      (pss_cons (ps_for PassesOwn.never rfl (pi_enumS rfl T.n_enumerate (pa_cons (pv 0) pa_nil)) (gtK K (pg_tup (n := 2) rfl (pgs_cons (pg_name (i := 3) sc.nd rfl (Or.inl rfl)) (pgs_cons (pg_name (i := 4) sc.nd rfl (Or.inl rfl)) pgs_nil)))) (pss_one (ps_if (PW.pt (pw_and (pt_cmpR (op_ninK K) (pv 4) (pv 2) rfl) (pw_and1 (pt_not (PW.pt (pw_and (pt_val (pv 1)) (pw_and (pt_cmpR (op_eqK K hr) (pv 3) pe_int (nomark _)) (pw_and1 (pt_cmpR (op_inK K) (pv 4) (pe_upperR (pv 2)) rfl))))))))) (pss_one (ps_ret pe_bl)) pss_nil)))
      (pss_one (ps_ret (pe_and (pe_cmpR (op_eqK K hr) (pv 1) (pe_cmpR (op_ninK K) (pe_ix (ix_K K) (pv 0) pe_int (fun _ _ => rfl)) (pv 2) rfl) (nomark _)) (pe_one (pe_cmpR (op_ninK K) (pv 0) (pe_tupK K (pa_cons pe_str (pa_cons pe_str (pa_cons pe_str (pa_cons pe_str (pa_cons pe_str pa_nil)))))) rfl)))))))), ?_⟩
  cases d
  case str z =>
    obtain rfl := r.inv_str
    have hz : z.length ≤ 100000 := of_decide_eq_true hs
    have hc := len_cps z
    have e : (bif g then isForm (.str z) else isName (.str z)) = bif g then isFormS z else isNameS z := by cases g <;> rfl
    rw [e] at q
    have hshort : ∀ g : Bool, ¬ (1 ≤ z.length ∧ z.length ≤ 8) → (bif g then isFormS z else isNameS z) = false := by
      intro g hn
      cases g
      · cases h : isNameS z with
        | false => rfl
        | true => exact absurd (isNameS_len h) hn
      · cases h : isFormS z with
        | false => rfl
        | true => exact absurd (isFormS_len h) hn
    walk_at "r"
    · rw [hshort g (by omega)] at q
      exact q _ (by walk_at "S")
    · have h1 : 1 ≤ z.length := by omega
      have h8 : z.length ≤ 8 := by omega
      refine st_forS ?_
      walk_at "r"
      refine for_S (fun i σ' H' => Same H H' ∧ (∀ (j : Nat) c, j < i → z.cps.toList[j]? = some c → okSign g j c = true) ∧ ∃ x y, σ' = [some (.str z), some (.bl g), some (.str abc), x, y]) ⟨Same.refl _, fun j c hj => absurd hj (Nat.not_lt_zero _), _, _, rfl⟩ (fun k σ' H' H'' p s => ⟨p.1.trans s, p.2⟩) ?_ ?_
      · rintro i c σ' H' hc ⟨s1, ho, x, y, rfl⟩
        have hgr : great c = decide (c ∈ (Txt.upper abc).cps.toList) := by rw [upper_abc]; rfl
        have hlo : low c = decide (c ∈ abc.cps.toList) := rfl
        have bad : okSign g i c = false → Q (.bl false) H' := fun h => by rw [named_bad hc h] at q; exact q _ s1
        have good : okSign g i c = true → ∀ (j : Nat) c', j < i + 1 → z.cps.toList[j]? = some c' → okSign g j c' = true := fun h j c' hj hc' => by
          by_cases hji : j = i
          · subst hji
            rw [hc] at hc'
            cases hc'
            exact h
          · exact ho j c' (by omega) hc'
        walk_at "r"
        · rename_i h2 h3 h4 h5
          exact bad (by unfold okSign; rw [hlo, hgr, decide_eq_false h2, decide_eq_false h5]; simp)
        · rename_i h2 h3 h4 h5
          exact ⟨s1, good (by unfold okSign; rw [hgr, decide_eq_true h5, h3, decide_eq_true (by omega)]; simp), _, _, rfl⟩
        · rename_i h2 h3 h4
          exact bad (by unfold okSign; rw [hlo, decide_eq_false h2, decide_eq_false (p := i = 0) (by omega)]; simp)
        · rename_i h2 h3
          exact bad (by unfold okSign; rw [hlo, decide_eq_false h2, h3]; simp)
        · rename_i h2
          exact ⟨s1, good (by unfold okSign; rw [hlo, decide_eq_true (by simpa using h2)]; simp), _, _, rfl⟩
      · rintro σ' H' ⟨s1, ho, x, y, rfl⟩
        obtain ⟨c0, h0⟩ : ∃ c0, z.cps.toList[0]? = some c0 := ⟨_, List.getElem?_eq_getElem (by omega)⟩
        have e := named_good (g := g) h1 h8 h0 (fun k c hk => ho k c (by have := (List.getElem?_eq_some_iff.mp hk).1; omega) hk)
        rw [e] at q
        walk_at "r"
        · rename_i h2 v0 H0 s0 r0
          have h2' : g = !low c0 := h2
          rw [decide_eq_true h2', Bool.true_and] at q
          exact q _ (by walk_at "S")
        · rename_i h2
          have h2' : ¬ g = !low c0 := h2
          rw [decide_eq_false h2', Bool.false_and] at q
          exact q _ (by walk_at "S")
    · rw [hshort g (by omega)] at q
      exact q _ (by walk_at "S")
  all_goals
    cases g
    all_goals
      walk_at "r"
      exact q _ (by walk_at "S")

end
end G

/-! the words of the walk: S (a heap keeps), R (a value stands for data), A (a row of them), no (a way that cannot be), s (one step), r (all steps) -/
local macro_rules | `(tactic| walk_at "S") => `(tactic| first | exact L2.Same.refl _ | assumption | exact G.sm_tr (by assumption) (by walk_at "S"))
local macro_rules | `(tactic| walk_at "R") => `(tactic| first
  | with_reducible exact G.R.int _ | with_reducible exact G.R.str _ | with_reducible exact G.R.bl _ | with_reducible exact G.R.non
  | with_reducible assumption
  | exact G.r_mono (by with_reducible assumption) (by walk_at "S")
  | ((with_reducible refine' G.R.lst L2.upd_same ?rl); (case rl => walk_at "A")))
local macro_rules | `(tactic| walk_at "A") => `(tactic| first | with_reducible exact G.RA.nil | ((with_reducible refine' G.RA.cons ?ra ?rb); (case ra => walk_at "R"); (case rb => walk_at "A")))
local macro_rules | `(tactic| walk_at "no") => `(tactic| first | contradiction | omega)
local macro_rules | `(tactic| walk_at "side") => `(tactic| first | with_reducible rfl | with_reducible assumption | omega | exact Int.lt_of_lt_of_le (by with_reducible assumption) (by decide +kernel) | ((with_reducible refine G.le_up ?_); decide +kernel) | (simp only [List.length_cons, List.length_nil, List.getElem?_cons_zero, List.getElem?_cons_succ, List.length_map]; done) | (simp only [List.length_cons, List.length_nil, List.length_map, List.length_append] at *; omega))
local macro_rules | `(tactic| walk_at "sideC") => `(tactic| first | with_reducible assumption | (with_reducible refine G.cmul_r ⟨?_, ?_⟩ <;> decide) | (with_reducible refine G.cdiv_r ⟨?_, ?_⟩ <;> decide) | (with_reducible refine G.cmul_l ⟨?_, ?_⟩ <;> decide) | (with_reducible refine G.cpow_c ⟨?_, ?_, ?_⟩ <;> decide) | (with_reducible refine G.cmul_r ⟨?_, ?_⟩ <;> omega) | (with_reducible refine G.cdiv_r ⟨?_, ?_⟩ <;> omega) | omega)
local macro_rules | `(tactic| walk_at "got") => `(tactic| (intro v0 r0; first
  | (have e0 := G.R.inv_str r0; subst e0) | (have e0 := G.R.inv_int r0; subst e0) | (have e0 := G.R.inv_bl r0; subst e0) | (have e0 := G.R.inv_non r0; subst e0) | skip))
local macro_rules | `(tactic| walk_at "P") => `(tactic| first | with_reducible assumption | exact G.keep_at (by with_reducible assumption) (by walk_at "S"))
local macro_rules | `(tactic| walk_at "c") => `(tactic| fail)
local macro_rules | `(tactic| walk_at "Q") => `(tactic| first | with_reducible assumption | exact G.seq_keep (by with_reducible assumption) (by walk_at "S"))
local macro_rules | `(tactic| walk_at "c") => `(tactic| ((with_reducible refine' G.use_state ?hp ?h0 ?h1 ?_); (case hp => walk_at "Q"); (case h0 => walk_at "side"); (case h1 => walk_at "side"); intro p0 H0 s0 hp0))
local macro_rules | `(tactic| walk_at "c") => `(tactic| ((with_reducible refine' G.use_draw ?hp ?h0 ?h1 ?_); (case hp => walk_at "P"); (case h0 => walk_at "side"); (case h1 => walk_at "side"); intro r0 hr0 hr1))
local macro_rules | `(tactic| walk_at "s") => `(tactic| first
  | with_reducible refine G.st_seq ?_
  | ((with_reducible refine' G.st_var ?hv ?_); (case hv => exact rfl))
  | with_reducible refine G.st_c ?_
  | with_reducible refine G.st_op ?_
  | with_reducible refine G.st_bl ?_
  | with_reducible refine L2.iteT ?_
  | with_reducible refine L2.iteF ?_
  | with_reducible refine G.ite_nt ?_
  | with_reducible refine G.ite_nf ?_
  | ((with_reducible refine G.st_ite ?_ ?_) <;> (intro hb; (try simp only [decide_eq_true_eq, decide_eq_false_iff_not, Bool.not_eq_true', Bool.not_eq_false', beq_iff_eq, Bool.and_eq_true, Bool.or_eq_true, Bool.and_eq_false_iff, Bool.or_eq_false_iff, beq_eq_false_iff_ne, ne_eq, Int.not_lt, Int.not_le, Nat.not_lt, Nat.not_le] at hb); first | (exfalso; walk_at "no"; done) | skip))
  | with_reducible refine G.st_if ?_
  | with_reducible refine G.st_ret ?_
  | with_reducible refine G.st_set ?_
  | with_reducible refine G.st_call ?_
  | with_reducible refine G.st_cons ?_
  | with_reducible refine G.st_nil ?_
  | with_reducible refine G.st_CB ?_
  | with_reducible refine G.st_tTest ?_
  | with_reducible refine G.st_tB ?_
  | with_reducible refine G.st_or ?_
  | with_reducible refine G.st_and ?_
  | with_reducible refine G.st_not ?_
  | with_reducible refine G.st_orV ?_
  | with_reducible refine G.st_andV ?_
  | with_reducible refine G.st_notV ?_
  | with_reducible refine G.st_tIf ?_
  | with_reducible refine G.st_chain ?_
  | with_reducible refine G.st_un ?_
  | with_reducible refine G.st_then ?_
  | with_reducible refine G.st_slice ?_
  | with_reducible refine G.st_noPart ?_
  | with_reducible refine G.st_part ?_
  | with_reducible refine G.st_exInt ?_
  | with_reducible refine G.st_drop ?_
  | with_reducible refine G.st_next ?_
  | with_reducible refine G.st_retN ?_
  | with_reducible refine G.add_int ?_
  | with_reducible refine G.i0 ?_
  | ((with_reducible refine G.imod2 (by decide) ?_ ?_) <;> (intro hm; first | (exfalso; walk_at "no"; done) | skip))
  | ((with_reducible refine G.imod3 (by decide) ?_ ?_ ?_) <;> (intro hm; first | (exfalso; walk_at "no"; done) | skip))
  | ((with_reducible refine' G.iC ?hc ?_); (case hc => walk_at "sideC"))
  | ((with_reducible refine' G.eq_str1 ?e ?_); (case e => with_reducible rfl))
  | ((with_reducible refine' G.eq_str0 ?e ?_); (case e => decide +kernel))
  | with_reducible refine G.eq_str ?_
  | with_reducible refine G.eq_int ?_
  | with_reducible refine G.eq_bl ?_
  | with_reducible refine G.ne_str ?_
  | with_reducible refine G.ne_int ?_
  | ((with_reducible refine' G.is_none ?r ?_); (case r => walk_at "R"))
  | ((with_reducible refine' G.isnt_none ?r ?_); (case r => walk_at "R"))
  | with_reducible refine G.is_bl ?_
  | with_reducible refine G.isnt_bl ?_
  | with_reducible refine G.in_sign ?_
  | with_reducible refine G.nin_sign ?_
  | ((with_reducible refine' G.in_strsT1 ?r ?c ?e ?_); (case r => walk_at "R"); (case c => rfl); (case e => decide +kernel))
  | ((with_reducible refine' G.in_strsT0 ?r ?c ?e ?_); (case r => walk_at "R"); (case c => rfl); (case e => decide +kernel))
  | ((with_reducible refine' G.in_strsT ?r ?c ?_); (case r => walk_at "R"); (case c => rfl))
  | ((with_reducible refine' G.nin_strsT ?r ?c ?_); (case r => walk_at "R"); (case c => rfl))
  | ((with_reducible refine' G.in_intsT ?r ?c ?_); (case r => walk_at "R"); (case c => rfl))
  | ((with_reducible refine' G.nin_intsT ?r ?c ?_); (case r => walk_at "R"); (case c => rfl))
  | ((with_reducible refine' G.add_str ?l ?_); (case l => walk_at "side"))
  | ((with_reducible refine' G.add_tup ?r ?s ?l ?_); (case r => walk_at "R"); (case s => walk_at "R"); (case l => walk_at "side"); intro v0 H0 s0 r0)
  | ((with_reducible refine' G.add_lst ?r ?s ?l ?_); (case r => walk_at "R"); (case s => walk_at "R"); (case l => walk_at "side"); intro v0 H0 s0 r0)
  | ((with_reducible refine' G.isi_1 ?r ?e ?t ?_); (case r => walk_at "R"); (case e => rfl); (case t => simp only [List.mem_cons, true_or, or_true]))
  | ((with_reducible refine' G.isi_0 ?r ?e ?t ?_); (case r => walk_at "R"); (case e => rfl); (case t => simp only [List.mem_cons, true_or, or_true]))
  | ((with_reducible refine' G.isi_R ?r ?t ?_); (case r => walk_at "R"); (case t => simp only [List.mem_cons, true_or, or_true]))
  | ((with_reducible refine' G.len_str ?l ?_); (case l => walk_at "side"))
  | ((with_reducible refine' G.len_tup ?r ?_); (case r => walk_at "R"))
  | ((with_reducible refine' G.len_lst ?r ?_); (case r => walk_at "R"))
  | (with_reducible refine G.st_tup ?_)
  | (with_reducible refine G.st_lst ?_)
  | ((with_reducible refine' G.st_newT ?r ?l ?_); (case r => walk_at "A"); (case l => first | exact Nat.le_of_ble_eq_true rfl | walk_at "side"); intro v0 H0 s0 r0)
  | ((with_reducible refine' G.st_newL ?r ?l ?_); (case r => walk_at "A"); (case l => first | exact Nat.le_of_ble_eq_true rfl | walk_at "side"); intro v0 H0 s0 r0)
  | ((with_reducible refine' G.ix_tupR ?r ?h0 ?hd ?_); (case r => walk_at "R"); (case h0 => walk_at "side"); (case hd => first | rfl | assumption); walk_at "got")
  | ((with_reducible refine' G.ix_lstR ?r ?h0 ?hd ?_); (case r => walk_at "R"); (case h0 => walk_at "side"); (case hd => first | rfl | assumption); walk_at "got")
  | ((with_reducible refine' G.ix_strR ?l ?h0 ?hd ?_); (case l => walk_at "side"); (case h0 => walk_at "side"); (case hd => first | rfl | assumption))
  | ((with_reducible refine' G.ix_strM ?l ?h0 ?h1 ?_); (case l => walk_at "side"); (case h0 => walk_at "side"); (case h1 => walk_at "side"); intro c0 hc0)
  | ((with_reducible refine' G.ix_tupN ?r ?h0 ?h1 ?_); (case r => walk_at "R"); (case h0 => walk_at "side"); (case h1 => walk_at "side"); intro v0 d0 hd0 r0)
  | ((with_reducible refine' G.ix_lstS ?r ?h0 ?h1 ?_); (case r => walk_at "R"); (case h0 => walk_at "side"); (case h1 => walk_at "side"); intro z0 hz0)
  | ((with_reducible refine' G.ix_lstN ?r ?h0 ?h1 ?_); (case r => walk_at "R"); (case h0 => walk_at "side"); (case h1 => walk_at "side"); intro v0 d0 hd0 r0)
  | ((with_reducible refine' G.sl_strR ?l ?_); (case l => walk_at "side"))
  | ((with_reducible refine' G.sl_tupR ?r ?_); (case r => walk_at "R"); intro v0 H0 s0 r0)
  | ((with_reducible refine' G.sl_lstR ?r ?_); (case r => walk_at "R"); intro v0 H0 s0 r0)
  | ((with_reducible refine' G.tupOf_L ?r ?_); (case r => walk_at "R"); intro v0 H0 s0 r0)
  | ((with_reducible refine' G.tupOf_T ?r ?_); (case r => walk_at "R"))
  | ((with_reducible refine' G.lstOf_T ?r ?_); (case r => walk_at "R"); intro v0 H0 s0 r0)
  | ((with_reducible refine' G.lstOf_L ?r ?_); (case r => walk_at "R"); intro v0 H0 s0 r0)
  | with_reducible refine G.st_lcL ?_
  | with_reducible refine G.st_lcT ?_
  | with_reducible refine G.st_lcS ?_
  | with_reducible refine G.st_lcR ?_
  | with_reducible refine G.st_M0 ?_
  | with_reducible refine G.st_M1 ?_
  | (with_reducible refine G.upper_one ?_; intro hu0)
  | ((with_reducible refine' G.upper_R ?l ?_); (case l => walk_at "side"))
  | (with_reducible refine G.st_strAnd ?_)
  | (with_reducible refine G.st_sub ?_)
  | ((with_reducible refine' G.set_20 ?hp ?_); (case hp => first | exact L2.upd_same | walk_at "P"))
  | ((with_reducible refine' G.set_21 ?hp ?_); (case hp => first | exact L2.upd_same | walk_at "P"))
  | ((with_reducible refine' G.set_at ?hp ?hi ?_); (case hp => first | exact L2.upd_same | walk_at "P"); (case hi => rfl))
  | with_reducible refine G.st_lst2 ?_
  | with_reducible refine G.st_shut ?_
  | with_reducible refine G.st_forR ?_
  | ((with_reducible refine' G.len_scr ?s ?_); (case s => walk_at "Q"))
  | ((with_reducible refine' G.ix_scr ?s ?h0 ?h1 ?_); (case s => walk_at "Q"); (case h0 => walk_at "side"); (case h1 => walk_at "side"); intro n0)
  | ((with_reducible refine' G.sl_scr ?s ?_); (case s => walk_at "Q"); intro v0 H0 s0 r0)
  | (with_reducible refine' G.st_disp1 ?_; intro v0 H0 s0 r0)
  | walk_at "c"
  | fail "no step")
local macro_rules | `(tactic| walk_at "r") => `(tactic| repeat' (walk_at "s"))

local macro_rules | `(tactic| walk_at "side") => `(tactic| first | exact G.nm_a (by with_reducible assumption) | exact G.fm_a (by with_reducible assumption) | exact G.nm_b (by with_reducible assumption) | exact G.nm_c (by with_reducible assumption) | fail)
local macro_rules | `(tactic| walk_at "c") => `(tactic| ((with_reducible refine' G.use_name ?hp ?_); (case hp => walk_at "P"); intro z0 H0 s0 hz0))
local macro_rules | `(tactic| walk_at "c") => `(tactic| ((with_reducible refine' G.use_form ?hp ?_); (case hp => walk_at "P"); intro z0 H0 s0 hz0))
local macro_rules | `(tactic| walk_at "c") => `(tactic| ((with_reducible refine' G.use_pool ?hp ?_); (case hp => walk_at "P"); intro v0 fs0 gs0 ns0 H0 s0 ok0 r0))
local macro_rules | `(tactic| walk_at "c") => `(tactic| ((with_reducible refine' G.use_leaf ?hp ?r ?ok ?h0 ?h1 ?_); (case hp => walk_at "P"); (case r => walk_at "R"); (case ok => with_reducible assumption); (case h0 => walk_at "side"); (case h1 => walk_at "side"); intro v0 t0 H0 s0 r0 ht0 hd0 hs0))
local macro_rules | `(tactic| walk_at "c") => `(tactic| ((with_reducible refine' G.use_term ?hp ?r ?ok ?h0 ?h1 ?e0 ?e1 ?_); (case hp => walk_at "P"); (case r => walk_at "R"); (case ok => with_reducible assumption); (case h0 => walk_at "side"); (case h1 => walk_at "side"); (case e0 => walk_at "side"); (case e1 => walk_at "side"); intro v0 t0 H0 s0 r0 ht0 hd0 hs0))
local macro_rules | `(tactic| walk_at "c") => `(tactic| ((with_reducible refine' G.use_tall ?hp ?r ?ok ?rt ?ht ?h0 ?h1 ?_); (case hp => walk_at "P"); (case r => walk_at "R"); (case ok => with_reducible assumption); (case rt => walk_at "R"); (case ht => with_reducible assumption); (case h0 => walk_at "side"); (case h1 => walk_at "side"); intro v0 t0 H0 s0 r0 ht0 hd0 hs0))
local macro_rules | `(tactic| walk_at "c") => `(tactic| ((with_reducible refine' G.use_anyT ?hp ?r ?ok ?h0 ?h1 ?_); (case hp => walk_at "P"); (case r => walk_at "R"); (case ok => with_reducible assumption); (case h0 => walk_at "side"); (case h1 => walk_at "side"); intro v0 t0 H0 s0 r0 ht0 hd0 hs0))

namespace G
open PySem PySem.Spec PyProof.Rows L2
section
variable {P : Program} {w : World} {K : PySem.W.Frag} {mg : Str → Option Value} {base : Heap} {k n : Nat}
local macro_rules | `(tactic| walk_at "c") => `(tactic| ((with_reducible refine' G.use_isName ?r ?hs ?_); (case r => walk_at "R"); (case hs => with_reducible assumption); intro H0 s0))
local macro_rules | `(tactic| walk_at "c") => `(tactic| ((with_reducible refine' G.use_isForm ?r ?hs ?_); (case r => walk_at "R"); (case hs => with_reducible assumption); intro H0 s0))
local macro_rules | `(tactic| walk_at "c") => `(tactic| ((with_reducible refine' G.use_isNum ?r ?_); (case r => walk_at "R"); intro H0 s0))
local macro_rules | `(tactic| walk_at "c") => `(tactic| ((with_reducible refine' G.use_isTms ?r ?hs ?hd ?_); (case r => walk_at "R"); (case hs => with_reducible assumption); (case hd => with_reducible assumption); intro H0 s0))

theorem use_lTm {H : Hp} {Q : VK} {E : XK} {m : Nat} {v : V} {d : PyData} (r : R K H v d) (hs : fine 1000 d = true) (hd : d.depth < 2 * m) (h : ∀ H', Same H H' → Q (.bl (isTm m d)) H') : spIsTm K m [v] H Q E := ⟨v, d, rfl, r, hs, hd, h⟩
local macro_rules | `(tactic| walk_at "c") => `(tactic| ((with_reducible refine' G.use_named ?r ?hs ?_); (case r => walk_at "R"); (case hs => with_reducible assumption); intro H0 s0))
theorem ok_l_are_args (T : Tp K mg) {m : Nat} (c_l_is_term : Cal P w K mg base k "_law_is_term" (spIsTm K m)) : Cal P w K mg base (k + 1) "_law_are_args" (spIsTms K m) := by
  refine T.d_l_are_args.cal sc_l_are_args (fun vs H Q E h => ?_) (fun f cdv A outer s H vs Q E hr h => ?_)
  · obtain ⟨v, d, rfl, _⟩ := h; rfl
  obtain ⟨v, d, rfl, r, hf, hd, q⟩ := h
  have sc := @sc_l_are_args
  refine ⟨_, (pss_cons (ps_if (PW.pt (pw_or (pt_not (pt_val (pe_callB (isi_K K) rfl T.n_isinstance bt_isinstance (pa_cons (pv 0) (pa_cons (pe_bltn (v := .ty "tuple") rfl T.n_tuple bt_tuple rfl) pa_nil))))) (pw_or1 (pt_cmpR op_gt (pe_callB (len_K K) rfl T.n_len bt_len (pa_cons (pv 0) pa_nil)) pe_int (nomark _))))) (pss_one (ps_ret pe_bl)) pss_nil)
      (pss_one (ps_ret (pe_callB (all_K K rfl) rfl T.n_all bt_all (pa_cons (pe_lc (own := [("_law_arg", 1)]) (g := gName 1) (tt := tYes) rfl sc.nd (pi_tupK K (pv 0)) (blkOk_by (N := n_l_are_args) (sc := defScope s_l_are_args) (by decide +kernel)) (fun _ _ _ _ _ => pg_name (i := 1) sc.nd rfl (Or.inl rfl)) (fun _ _ _ _ _ => pts_nil) (fun _ _ _ _ _ => pe_hide (pe_c c_l_is_term hr (Nat.le_refl _) rfl (pa_cons (pv 1) pa_nil)))) pa_nil))))), ?_⟩
  cases d
  case tuple ds =>
    have hf' : ds.length ≤ 1000 ∧ fines 1000 ds = true := by simpa [fine] using hf
    have hd' : PyData.depthAll ds + 1 ≤ 2 * m := by simp only [PyData.depth] at hd; omega
    walk_at "r"
    · rename_i h4
      have e : isTms m (.tuple ds) = false := by
        have : decide (ds.length ≤ 4) = false := decide_eq_false (by omega)
        simp [isTms, argsP, this]
      exact e ▸ q _ (by walk_at "S")
    · rename_i h4
      refine lcT_f (K := K) (fun d => .bool (isTm m d)) r (by omega) (fun _ => rfl) (fun v d H1 hm rv s1 Qt hQ => ?_) (fun v H1 s1 r1 => ?_)
      · walk_at "r"
        refine use_isTm rv (fines_all.mp hf'.2 d hm) (by have := depthAll_mem hm; omega) fun H2 s2 => ?_
        walk_at "r"
        exact hQ _ _ (by walk_at "S") (R.bl _)
      walk_at "r"
      refine all_R (bs := ds.map (isTm m)) (by rw [List.map_map]; exact r1) ?_
      have e : isTms m (.tuple ds) = (ds.map (isTm m)).all id := by
        have : decide (ds.length ≤ 4) = true := decide_eq_true (by omega)
        simp [isTms, argsP, this, List.all_map]
      walk_at "r"
      exact e ▸ q _ (by walk_at "S")
  all_goals
    walk_at "r"
    exact q _ (by walk_at "S")
theorem ok_l_is_term (T : Tp K mg) {m : Nat} (c_l_is_named : Cal P w K mg base k "_law_is_named" (spNamed K)) (c_l_are_args : Cal P w K mg base k "_law_are_args" (spIsTms K m)) : Cal P w K mg base (k + 1) "_law_is_term" (spIsTm K (m + 1)) := by
  refine T.d_l_is_term.cal sc_l_is_term (fun vs H Q E h => ?_) (fun f cdv A outer s H vs Q E hr h => ?_)
  · obtain ⟨v, d, rfl, _⟩ := h; rfl
  obtain ⟨v, d, rfl, r, hf, hd, q⟩ := h
  have sc := @sc_l_is_term
  refine ⟨_, (pss_cons (ps_if (PW.pt (pw_or (pt_not (pt_val (pe_callB (isi_K K) rfl T.n_isinstance bt_isinstance (pa_cons (pv 0) (pa_cons (pe_bltn (v := .ty "tuple") rfl T.n_tuple bt_tuple rfl) pa_nil))))) (pw_or (pt_cmpR (op_ninK K) (pe_callB (len_K K) rfl T.n_len bt_len (pa_cons (pv 0) pa_nil)) (pe_tupK K (pa_cons pe_int (pa_cons pe_int pa_nil))) rfl) (pw_or1 (pt_not (pt_val (pe_callB (isi_K K) rfl T.n_isinstance bt_isinstance (pa_cons (pe_ix (ix_K K) (pv 0) pe_int (fun _ _ => rfl)) (pa_cons (pe_bltn (v := .ty "str") rfl T.n_str bt_str rfl) pa_nil))))))))) (pss_one (ps_ret pe_bl)) pss_nil)
      (pss_cons (ps_if (pt_cmpR (op_eqK K hr) (pe_ix (ix_K K) (pv 0) pe_int (fun _ _ => rfl)) pe_str (nomark _)) (pss_one (ps_ret (pe_and (pe_cmpR (op_eqK K hr) (pe_callB (len_K K) rfl T.n_len bt_len (pa_cons (pv 0) pa_nil)) pe_int (nomark _)) (pe_one (pe_c c_l_is_named hr (Nat.le_refl _) rfl (pa_cons (pe_ix (ix_K K) (pv 0) pe_int (fun _ _ => rfl)) (pa_cons pe_bl pa_nil))))))) pss_nil)
      (pss_cons (ps_if (pt_cmpR (op_eqK K hr) (pe_ix (ix_K K) (pv 0) pe_int (fun _ _ => rfl)) pe_str (nomark _)) (pss_one (ps_ret (pe_and (pe_cmpR (op_eqK K hr) (pe_callB (len_K K) rfl T.n_len bt_len (pa_cons (pv 0) pa_nil)) pe_int (nomark _)) (pe_and (pe_callB (isi_K K) rfl T.n_isinstance bt_isinstance (pa_cons (pe_ix (ix_K K) (pv 0) pe_int (fun _ _ => rfl)) (pa_cons (pe_bltn (v := .ty "int") rfl T.n_int bt_int rfl) pa_nil))) (pe_and (pe_not (pe_callB (isi_K K) rfl T.n_isinstance bt_isinstance (pa_cons (pe_ix (ix_K K) (pv 0) pe_int (fun _ _ => rfl)) (pa_cons (pe_bltn (v := .ty "bool") rfl T.n_bool bt_bool rfl) pa_nil)))) (pe_one (pe_cmpR op_ge (pe_ix (ix_K K) (pv 0) pe_int (fun _ _ => rfl)) pe_int (nomark _)))))))) pss_nil)
      (pss_cons (ps_if (PW.pt (pw_or (pt_cmpR (op_ninK K) (pe_ix (ix_K K) (pv 0) pe_int (fun _ _ => rfl)) (pe_tupK K (pa_cons pe_str (pa_cons pe_str pa_nil))) rfl) (pw_or1 (pt_cmpR (op_neK K hr) (pe_callB (len_K K) rfl T.n_len bt_len (pa_cons (pv 0) pa_nil)) pe_int (nomark _))))) (pss_one (ps_ret pe_bl)) pss_nil)
      (pss_one (ps_ret (pe_and (pe_c c_l_is_named hr (Nat.le_refl _) rfl (pa_cons (pe_ix (ix_K K) (pv 0) pe_int (fun _ _ => rfl)) (pa_cons (pe_cmpR (op_eqK K hr) (pe_ix (ix_K K) (pv 0) pe_int (fun _ _ => rfl)) pe_str (nomark _)) pa_nil))) (pe_one (pe_c c_l_are_args hr (Nat.le_refl _) rfl (pa_cons (pe_ix (ix_K K) (pv 0) pe_int (fun _ _ => rfl)) pa_nil)))))))))), ?_⟩
  cases d
  case tuple ds =>
    have hf' : ds.length ≤ 1000 ∧ fines 1000 ds = true := by simpa [fine] using hf
    have hd' : PyData.depthAll ds + 1 ≤ 2 * m + 1 := by simp only [PyData.depth] at hd; omega
    rcases ds with _ | ⟨a, _ | ⟨b, _ | ⟨c, _ | ⟨e, ds⟩⟩⟩⟩
    · walk_at "r"
      exact q _ (by walk_at "S")
    · have e : isTm (m + 1) (.tuple [a]) = false := by cases a <;> rfl
      rw [e] at q
      walk_at "r"
      all_goals exact q _ (by walk_at "S")
    · have fb : short b := fine_short (fines_all.mp hf'.2 b (by simp))
      have h2 : (([a, b] : List PyData).length : Int) = 2 := rfl
      cases a
      case str x =>
        have e : isTm (m + 1) (.tuple [.str x, b]) = bif decide (x = "free") then isName b else (decide (x = "bound") && isNum b) := rfl
        rw [e] at q
        by_cases h4 : x = "free"
        · rw [decide_eq_true h4] at q
          walk_at "r"
          all_goals first | exact q _ (by walk_at "S") | exact Bool.noConfusion (show (true : Bool) = false from by assumption) | trace_state
        · rw [decide_eq_false h4] at q
          by_cases h5 : x = "bound"
          · rw [decide_eq_true h5] at q
            cases b
            all_goals
              walk_at "r"
              all_goals first | exact q _ (by walk_at "S") | exact Bool.noConfusion (show (true : Bool) = false from by assumption) | trace_state
          · rw [decide_eq_false h5] at q
            walk_at "r"
            all_goals exact q _ (by walk_at "S")
      all_goals
        walk_at "r"
        all_goals exact q _ (by walk_at "S")
    · have fb : short b := fine_short (fines_all.mp hf'.2 b (by simp))
      have fc : fine 1000 c = true := fines_all.mp hf'.2 c (by simp)
      have dc : c.depth < 2 * m + 1 := by have := depthAll_mem (ds := [a, b, c]) (d := c) (by simp); omega
      have h3 : (([a, b, c] : List PyData).length : Int) = 3 := rfl
      cases a
      case str x =>
        have e : isTm (m + 1) (.tuple [.str x, b, c]) = (((decide (x = "form") && isForm b) || (decide (x = "call") && isName b)) && isTms m c) := rfl
        rw [e] at q
        by_cases hx : x = "form"
        · have hy : ¬ x = "call" := fun e => absurd (hx.symm.trans e) (by decide +kernel)
          rw [decide_eq_true hx, decide_eq_false hy] at q
          subst hx
          walk_at "r"
          all_goals first
            | (rename_i hb _ _ _ _; have hb' : isForm b = true := hb; rw [hb'] at q; exact q _ (by walk_at "S"))
            | (rename_i hb; have hb' : isForm b = false := hb; rw [hb'] at q; exact q _ (by walk_at "S"))
            | exact Bool.noConfusion (show (true : Bool) = false from by assumption) | trace_state
        · rw [decide_eq_false hx] at q
          by_cases hy : x = "call"
          · rw [decide_eq_true hy] at q
            subst hy
            walk_at "r"
            all_goals first
              | (rename_i hb _ _ _ _; have hb' : isName b = true := hb; rw [hb'] at q; exact q _ (by walk_at "S"))
              | (rename_i hb; have hb' : isName b = false := hb; rw [hb'] at q; exact q _ (by walk_at "S"))
              | exact Bool.noConfusion (show (true : Bool) = false from by assumption) | trace_state
          · rw [decide_eq_false hy] at q
            have hin : inS x [.str "form", .str "call"] = false := by
              unfold inS inS inS
              rw [decide_eq_false (p := (Str.ofString "form") = x) (fun e => hx e.symm), decide_eq_false (p := (Str.ofString "call") = x) (fun e => hy e.symm)]; rfl
            walk_at "r"
            all_goals first | exact q _ (by walk_at "S") | exact Bool.noConfusion (hin.symm.trans (by assumption)) | exact Bool.noConfusion (show (true : Bool) = false from by assumption) | trace_state
      all_goals
        walk_at "r"
        all_goals exact q _ (by walk_at "S")
    · have e : isTm (m + 1) (.tuple (a :: b :: c :: e :: ds)) = false := by cases a <;> rfl
      rw [e] at q
      walk_at "r"
      all_goals first | exact q _ (by walk_at "S") | exact Bool.noConfusion (show (true : Bool) = false from by assumption) | trace_state
  all_goals
    walk_at "r"
    exact q _ (by walk_at "S")

end
end G

/-! the words of the walk: S (a heap keeps), R (a value stands for data), A (a row of them), no (a way that cannot be), s (one step), r (all steps) -/
local macro_rules | `(tactic| walk_at "S") => `(tactic| first | exact L2.Same.refl _ | assumption | exact G.sm_tr (by assumption) (by walk_at "S"))
local macro_rules | `(tactic| walk_at "R") => `(tactic| first
  | with_reducible exact G.R.int _ | with_reducible exact G.R.str _ | with_reducible exact G.R.bl _ | with_reducible exact G.R.non
  | with_reducible assumption
  | exact G.r_mono (by with_reducible assumption) (by walk_at "S")
  | ((with_reducible refine' G.R.lst L2.upd_same ?rl); (case rl => walk_at "A")))
local macro_rules | `(tactic| walk_at "A") => `(tactic| first | with_reducible exact G.RA.nil | ((with_reducible refine' G.RA.cons ?ra ?rb); (case ra => walk_at "R"); (case rb => walk_at "A")))
local macro_rules | `(tactic| walk_at "no") => `(tactic| first | contradiction | omega)
local macro_rules | `(tactic| walk_at "side") => `(tactic| first | with_reducible rfl | with_reducible assumption | omega | exact Int.lt_of_lt_of_le (by with_reducible assumption) (by decide +kernel) | ((with_reducible refine G.le_up ?_); decide +kernel) | (simp only [List.length_cons, List.length_nil, List.getElem?_cons_zero, List.getElem?_cons_succ, List.length_map]; done) | (simp only [List.length_cons, List.length_nil, List.length_map, List.length_append] at *; omega))
local macro_rules | `(tactic| walk_at "sideC") => `(tactic| first | with_reducible assumption | (with_reducible refine G.cmul_r ⟨?_, ?_⟩ <;> decide) | (with_reducible refine G.cdiv_r ⟨?_, ?_⟩ <;> decide) | (with_reducible refine G.cmul_l ⟨?_, ?_⟩ <;> decide) | (with_reducible refine G.cpow_c ⟨?_, ?_, ?_⟩ <;> decide) | (with_reducible refine G.cmul_r ⟨?_, ?_⟩ <;> omega) | (with_reducible refine G.cdiv_r ⟨?_, ?_⟩ <;> omega) | omega)
local macro_rules | `(tactic| walk_at "got") => `(tactic| (intro v0 r0; first
  | (have e0 := G.R.inv_str r0; subst e0) | (have e0 := G.R.inv_int r0; subst e0) | (have e0 := G.R.inv_bl r0; subst e0) | (have e0 := G.R.inv_non r0; subst e0) | skip))
local macro_rules | `(tactic| walk_at "P") => `(tactic| first | with_reducible assumption | exact G.keep_at (by with_reducible assumption) (by walk_at "S"))
local macro_rules | `(tactic| walk_at "c") => `(tactic| fail)
local macro_rules | `(tactic| walk_at "Q") => `(tactic| first | with_reducible assumption | exact G.seq_keep (by with_reducible assumption) (by walk_at "S"))
local macro_rules | `(tactic| walk_at "c") => `(tactic| ((with_reducible refine' G.use_state ?hp ?h0 ?h1 ?_); (case hp => walk_at "Q"); (case h0 => walk_at "side"); (case h1 => walk_at "side"); intro p0 H0 s0 hp0))
local macro_rules | `(tactic| walk_at "c") => `(tactic| ((with_reducible refine' G.use_draw ?hp ?h0 ?h1 ?_); (case hp => walk_at "P"); (case h0 => walk_at "side"); (case h1 => walk_at "side"); intro r0 hr0 hr1))
local macro_rules | `(tactic| walk_at "s") => `(tactic| first
  | with_reducible refine G.st_seq ?_
  | ((with_reducible refine' G.st_var ?hv ?_); (case hv => exact rfl))
  | with_reducible refine G.st_c ?_
  | with_reducible refine G.st_op ?_
  | with_reducible refine G.st_bl ?_
  | with_reducible refine L2.iteT ?_
  | with_reducible refine L2.iteF ?_
  | with_reducible refine G.ite_nt ?_
  | with_reducible refine G.ite_nf ?_
  | ((with_reducible refine G.st_ite ?_ ?_) <;> (intro hb; (try simp only [decide_eq_true_eq, decide_eq_false_iff_not, Bool.not_eq_true', Bool.not_eq_false', beq_iff_eq, Bool.and_eq_true, Bool.or_eq_true, Bool.and_eq_false_iff, Bool.or_eq_false_iff, beq_eq_false_iff_ne, ne_eq, Int.not_lt, Int.not_le, Nat.not_lt, Nat.not_le] at hb); first | (exfalso; walk_at "no"; done) | skip))
  | with_reducible refine G.st_if ?_
  | with_reducible refine G.st_ret ?_
  | with_reducible refine G.st_set ?_
  | with_reducible refine G.st_call ?_
  | with_reducible refine G.st_cons ?_
  | with_reducible refine G.st_nil ?_
  | with_reducible refine G.st_CB ?_
  | with_reducible refine G.st_tTest ?_
  | with_reducible refine G.st_tB ?_
  | with_reducible refine G.st_or ?_
  | with_reducible refine G.st_and ?_
  | with_reducible refine G.st_not ?_
  | with_reducible refine G.st_orV ?_
  | with_reducible refine G.st_andV ?_
  | with_reducible refine G.st_notV ?_
  | with_reducible refine G.st_tIf ?_
  | with_reducible refine G.st_chain ?_
  | with_reducible refine G.st_un ?_
  | with_reducible refine G.st_then ?_
  | with_reducible refine G.st_slice ?_
  | with_reducible refine G.st_noPart ?_
  | with_reducible refine G.st_part ?_
  | with_reducible refine G.st_exInt ?_
  | with_reducible refine G.st_drop ?_
  | with_reducible refine G.st_next ?_
  | with_reducible refine G.st_retN ?_
  | with_reducible refine G.add_int ?_
  | with_reducible refine G.i0 ?_
  | ((with_reducible refine G.imod2 (by decide) ?_ ?_) <;> (intro hm; first | (exfalso; walk_at "no"; done) | skip))
  | ((with_reducible refine G.imod3 (by decide) ?_ ?_ ?_) <;> (intro hm; first | (exfalso; walk_at "no"; done) | skip))
  | ((with_reducible refine' G.iC ?hc ?_); (case hc => walk_at "sideC"))
  | ((with_reducible refine' G.eq_str1 ?e ?_); (case e => with_reducible rfl))
  | ((with_reducible refine' G.eq_str0 ?e ?_); (case e => decide +kernel))
  | with_reducible refine G.eq_str ?_
  | with_reducible refine G.eq_int ?_
  | with_reducible refine G.eq_bl ?_
  | with_reducible refine G.ne_str ?_
  | with_reducible refine G.ne_int ?_
  | ((with_reducible refine' G.is_none ?r ?_); (case r => walk_at "R"))
  | ((with_reducible refine' G.isnt_none ?r ?_); (case r => walk_at "R"))
  | with_reducible refine G.is_bl ?_
  | with_reducible refine G.isnt_bl ?_
  | with_reducible refine G.in_sign ?_
  | with_reducible refine G.nin_sign ?_
  | ((with_reducible refine' G.in_strsT1 ?r ?c ?e ?_); (case r => walk_at "R"); (case c => rfl); (case e => decide +kernel))
  | ((with_reducible refine' G.in_strsT0 ?r ?c ?e ?_); (case r => walk_at "R"); (case c => rfl); (case e => decide +kernel))
  | ((with_reducible refine' G.in_strsT ?r ?c ?_); (case r => walk_at "R"); (case c => rfl))
  | ((with_reducible refine' G.nin_strsT ?r ?c ?_); (case r => walk_at "R"); (case c => rfl))
  | ((with_reducible refine' G.in_intsT ?r ?c ?_); (case r => walk_at "R"); (case c => rfl))
  | ((with_reducible refine' G.nin_intsT ?r ?c ?_); (case r => walk_at "R"); (case c => rfl))
  | ((with_reducible refine' G.add_str ?l ?_); (case l => walk_at "side"))
  | ((with_reducible refine' G.add_tup ?r ?s ?l ?_); (case r => walk_at "R"); (case s => walk_at "R"); (case l => walk_at "side"); intro v0 H0 s0 r0)
  | ((with_reducible refine' G.add_lst ?r ?s ?l ?_); (case r => walk_at "R"); (case s => walk_at "R"); (case l => walk_at "side"); intro v0 H0 s0 r0)
  | ((with_reducible refine' G.isi_1 ?r ?e ?t ?_); (case r => walk_at "R"); (case e => rfl); (case t => simp only [List.mem_cons, true_or, or_true]))
  | ((with_reducible refine' G.isi_0 ?r ?e ?t ?_); (case r => walk_at "R"); (case e => rfl); (case t => simp only [List.mem_cons, true_or, or_true]))
  | ((with_reducible refine' G.isi_R ?r ?t ?_); (case r => walk_at "R"); (case t => simp only [List.mem_cons, true_or, or_true]))
  | ((with_reducible refine' G.len_str ?l ?_); (case l => walk_at "side"))
  | ((with_reducible refine' G.len_tup ?r ?_); (case r => walk_at "R"))
  | ((with_reducible refine' G.len_lst ?r ?_); (case r => walk_at "R"))
  | (with_reducible refine G.st_tup ?_)
  | (with_reducible refine G.st_lst ?_)
  | ((with_reducible refine' G.st_newT ?r ?l ?_); (case r => walk_at "A"); (case l => first | exact Nat.le_of_ble_eq_true rfl | walk_at "side"); intro v0 H0 s0 r0)
  | ((with_reducible refine' G.st_newL ?r ?l ?_); (case r => walk_at "A"); (case l => first | exact Nat.le_of_ble_eq_true rfl | walk_at "side"); intro v0 H0 s0 r0)
  | ((with_reducible refine' G.ix_tupR ?r ?h0 ?hd ?_); (case r => walk_at "R"); (case h0 => walk_at "side"); (case hd => first | rfl | assumption); walk_at "got")
  | ((with_reducible refine' G.ix_lstR ?r ?h0 ?hd ?_); (case r => walk_at "R"); (case h0 => walk_at "side"); (case hd => first | rfl | assumption); walk_at "got")
  | ((with_reducible refine' G.ix_strR ?l ?h0 ?hd ?_); (case l => walk_at "side"); (case h0 => walk_at "side"); (case hd => first | rfl | assumption))
  | ((with_reducible refine' G.ix_strM ?l ?h0 ?h1 ?_); (case l => walk_at "side"); (case h0 => walk_at "side"); (case h1 => walk_at "side"); intro c0 hc0)
  | ((with_reducible refine' G.ix_tupN ?r ?h0 ?h1 ?_); (case r => walk_at "R"); (case h0 => walk_at "side"); (case h1 => walk_at "side"); intro v0 d0 hd0 r0)
  | ((with_reducible refine' G.ix_lstS ?r ?h0 ?h1 ?_); (case r => walk_at "R"); (case h0 => walk_at "side"); (case h1 => walk_at "side"); intro z0 hz0)
  | ((with_reducible refine' G.ix_lstN ?r ?h0 ?h1 ?_); (case r => walk_at "R"); (case h0 => walk_at "side"); (case h1 => walk_at "side"); intro v0 d0 hd0 r0)
  | ((with_reducible refine' G.sl_strR ?l ?_); (case l => walk_at "side"))
  | ((with_reducible refine' G.sl_tupR ?r ?_); (case r => walk_at "R"); intro v0 H0 s0 r0)
  | ((with_reducible refine' G.sl_lstR ?r ?_); (case r => walk_at "R"); intro v0 H0 s0 r0)
  | ((with_reducible refine' G.tupOf_L ?r ?_); (case r => walk_at "R"); intro v0 H0 s0 r0)
  | ((with_reducible refine' G.tupOf_T ?r ?_); (case r => walk_at "R"))
  | ((with_reducible refine' G.lstOf_T ?r ?_); (case r => walk_at "R"); intro v0 H0 s0 r0)
  | ((with_reducible refine' G.lstOf_L ?r ?_); (case r => walk_at "R"); intro v0 H0 s0 r0)
  | with_reducible refine G.st_lcL ?_
  | with_reducible refine G.st_lcT ?_
  | with_reducible refine G.st_lcS ?_
  | with_reducible refine G.st_lcR ?_
  | with_reducible refine G.st_M0 ?_
  | with_reducible refine G.st_M1 ?_
  | (with_reducible refine G.upper_one ?_; intro hu0)
  | ((with_reducible refine' G.upper_R ?l ?_); (case l => walk_at "side"))
  | (with_reducible refine G.st_strAnd ?_)
  | (with_reducible refine G.st_sub ?_)
  | ((with_reducible refine' G.set_20 ?hp ?_); (case hp => first | exact L2.upd_same | walk_at "P"))
  | ((with_reducible refine' G.set_21 ?hp ?_); (case hp => first | exact L2.upd_same | walk_at "P"))
  | ((with_reducible refine' G.set_at ?hp ?hi ?_); (case hp => first | exact L2.upd_same | walk_at "P"); (case hi => rfl))
  | with_reducible refine G.st_lst2 ?_
  | with_reducible refine G.st_shut ?_
  | with_reducible refine G.st_forR ?_
  | ((with_reducible refine' G.len_scr ?s ?_); (case s => walk_at "Q"))
  | ((with_reducible refine' G.ix_scr ?s ?h0 ?h1 ?_); (case s => walk_at "Q"); (case h0 => walk_at "side"); (case h1 => walk_at "side"); intro n0)
  | ((with_reducible refine' G.sl_scr ?s ?_); (case s => walk_at "Q"); intro v0 H0 s0 r0)
  | (with_reducible refine' G.st_disp1 ?_; intro v0 H0 s0 r0)
  | walk_at "c"
  | fail "no step")
local macro_rules | `(tactic| walk_at "r") => `(tactic| repeat' (walk_at "s"))

local macro_rules | `(tactic| walk_at "side") => `(tactic| first | exact G.nm_a (by with_reducible assumption) | exact G.fm_a (by with_reducible assumption) | exact G.nm_b (by with_reducible assumption) | exact G.nm_c (by with_reducible assumption) | fail)
local macro_rules | `(tactic| walk_at "c") => `(tactic| ((with_reducible refine' G.use_name ?hp ?_); (case hp => walk_at "P"); intro z0 H0 s0 hz0))
local macro_rules | `(tactic| walk_at "c") => `(tactic| ((with_reducible refine' G.use_form ?hp ?_); (case hp => walk_at "P"); intro z0 H0 s0 hz0))
local macro_rules | `(tactic| walk_at "c") => `(tactic| ((with_reducible refine' G.use_pool ?hp ?_); (case hp => walk_at "P"); intro v0 fs0 gs0 ns0 H0 s0 ok0 r0))
local macro_rules | `(tactic| walk_at "c") => `(tactic| ((with_reducible refine' G.use_leaf ?hp ?r ?ok ?h0 ?h1 ?_); (case hp => walk_at "P"); (case r => walk_at "R"); (case ok => with_reducible assumption); (case h0 => walk_at "side"); (case h1 => walk_at "side"); intro v0 t0 H0 s0 r0 ht0 hd0 hs0))
local macro_rules | `(tactic| walk_at "c") => `(tactic| ((with_reducible refine' G.use_term ?hp ?r ?ok ?h0 ?h1 ?e0 ?e1 ?_); (case hp => walk_at "P"); (case r => walk_at "R"); (case ok => with_reducible assumption); (case h0 => walk_at "side"); (case h1 => walk_at "side"); (case e0 => walk_at "side"); (case e1 => walk_at "side"); intro v0 t0 H0 s0 r0 ht0 hd0 hs0))
local macro_rules | `(tactic| walk_at "c") => `(tactic| ((with_reducible refine' G.use_tall ?hp ?r ?ok ?rt ?ht ?h0 ?h1 ?_); (case hp => walk_at "P"); (case r => walk_at "R"); (case ok => with_reducible assumption); (case rt => walk_at "R"); (case ht => with_reducible assumption); (case h0 => walk_at "side"); (case h1 => walk_at "side"); intro v0 t0 H0 s0 r0 ht0 hd0 hs0))
local macro_rules | `(tactic| walk_at "c") => `(tactic| ((with_reducible refine' G.use_anyT ?hp ?r ?ok ?h0 ?h1 ?_); (case hp => walk_at "P"); (case r => walk_at "R"); (case ok => with_reducible assumption); (case h0 => walk_at "side"); (case h1 => walk_at "side"); intro v0 t0 H0 s0 r0 ht0 hd0 hs0))

namespace G
open PySem PySem.Spec PyProof.Rows L2
section
variable {P : Program} {w : World} {K : PySem.W.Frag} {mg : Str → Option Value} {base : Heap} {k n : Nat}
local macro_rules | `(tactic| walk_at "c") => `(tactic| ((with_reducible refine' G.use_isName ?r ?hs ?_); (case r => walk_at "R"); (case hs => with_reducible assumption); intro H0 s0))
local macro_rules | `(tactic| walk_at "c") => `(tactic| ((with_reducible refine' G.use_isForm ?r ?hs ?_); (case r => walk_at "R"); (case hs => with_reducible assumption); intro H0 s0))
local macro_rules | `(tactic| walk_at "c") => `(tactic| ((with_reducible refine' G.use_isNum ?r ?_); (case r => walk_at "R"); intro H0 s0))
local macro_rules | `(tactic| walk_at "c") => `(tactic| ((with_reducible refine' G.use_isTms ?r ?hs ?hd ?_); (case r => walk_at "R"); (case hs => with_reducible assumption); (case hd => with_reducible assumption); intro H0 s0))

local macro_rules | `(tactic| walk_at "c") => `(tactic| ((with_reducible refine' G.eqT_R ?r ?s ?_); (case r => walk_at "R"); (case s => walk_at "R")))
local macro_rules | `(tactic| walk_at "c") => `(tactic| ((with_reducible refine' G.use_isTm36 ?r ?hs ?hd ?_); (case r => walk_at "R"); (case hs => with_reducible assumption); (case hd => with_reducible assumption); intro H0 s0))
local macro_rules | `(tactic| walk_at "c") => `(tactic| ((with_reducible refine' G.use_isTms36 ?r ?hs ?hd ?_); (case r => walk_at "R"); (case hs => with_reducible assumption); (case hd => with_reducible assumption); intro H0 s0))
local macro_rules | `(tactic| walk_at "c") => `(tactic| ((with_reducible refine' G.use_isSt ?r ?hs ?h7 ?hd ?_); (case r => walk_at "R"); (case hs => with_reducible assumption); (case h7 => with_reducible assumption); (case hd => with_reducible assumption); intro H0 s0))

local macro_rules | `(tactic| walk_at "c") => `(tactic| ((with_reducible refine' G.use_named ?r ?hs ?_); (case r => walk_at "R"); (case hs => with_reducible assumption); intro H0 s0))

theorem ok_l_is_told (T : Tp K mg) {m : Nat} (c_l_is_named : Cal P w K mg base k "_law_is_named" (spNamed K)) (c_l_is_term : Cal P w K mg base k "_law_is_term" (spIsTm K 36)) (c_l_are_args : Cal P w K mg base k "_law_are_args" (spIsTms K 36))
    (c_l_is_told : Cal P w K mg base k "_law_is_told" (spIsSt K m)) : Cal P w K mg base (k + 1) "_law_is_told" (spIsSt K (m + 1)) := by
  refine T.d_l_is_told.cal sc_l_is_told (fun vs H Q E h => ?_) (fun f cdv A outer s H vs Q E hr h => ?_)
  · obtain ⟨v, d, rfl, _⟩ := h; rfl
  obtain ⟨v, d, rfl, r, hf, h7, hd, q⟩ := h
  have sc := @sc_l_is_told
  refine ⟨_, (pss_cons (ps_if (PW.pt (pw_or (pt_not (pt_val (pe_callB (isi_K K) rfl T.n_isinstance bt_isinstance (pa_cons (pv 0) (pa_cons (pe_bltn (v := .ty "tuple") rfl T.n_tuple bt_tuple rfl) pa_nil))))) (pw_or (pt_cmpR (op_ninK K) (pe_callB (len_K K) rfl T.n_len bt_len (pa_cons (pv 0) pa_nil)) (pe_tupK K (pa_cons pe_int (pa_cons pe_int pa_nil))) rfl) (pw_or1 (pt_not (pt_val (pe_callB (isi_K K) rfl T.n_isinstance bt_isinstance (pa_cons (pe_ix (ix_K K) (pv 0) pe_int (fun _ _ => rfl)) (pa_cons (pe_bltn (v := .ty "str") rfl T.n_str bt_str rfl) pa_nil))))))))) (pss_one (ps_ret pe_bl)) pss_nil)
      (pss_cons (ps_if (pt_cmpR (op_eqK K hr) (pe_callB (len_K K) rfl T.n_len bt_len (pa_cons (pv 0) pa_nil)) pe_int (nomark _)) (pss_one (ps_ret (pe_cmpR (op_eqK K hr) (pe_ix (ix_K K) (pv 0) pe_int (fun _ _ => rfl)) pe_str (nomark _)))) pss_nil)
      (pss_cons (ps_if (pt_cmpR (op_eqK K hr) (pe_ix (ix_K K) (pv 0) pe_int (fun _ _ => rfl)) pe_str (nomark _)) (pss_one (ps_ret (pe_and (pe_c c_l_is_term hr (Nat.le_refl _) rfl (pa_cons (pe_ix (ix_K K) (pv 0) pe_int (fun _ _ => rfl)) pa_nil)) (pe_one (pe_c c_l_is_term hr (Nat.le_refl _) rfl (pa_cons (pe_ix (ix_K K) (pv 0) pe_int (fun _ _ => rfl)) pa_nil)))))) pss_nil)
      (pss_cons (ps_if (pt_cmpR (op_eqK K hr) (pe_ix (ix_K K) (pv 0) pe_int (fun _ _ => rfl)) pe_str (nomark _)) (pss_one (ps_ret (pe_and (pe_c c_l_is_named hr (Nat.le_refl _) rfl (pa_cons (pe_ix (ix_K K) (pv 0) pe_int (fun _ _ => rfl)) (pa_cons pe_bl pa_nil))) (pe_one (pe_c c_l_are_args hr (Nat.le_refl _) rfl (pa_cons (pe_ix (ix_K K) (pv 0) pe_int (fun _ _ => rfl)) pa_nil)))))) pss_nil)
      (pss_cons (ps_if (pt_cmpR (op_inK K) (pe_ix (ix_K K) (pv 0) pe_int (fun _ _ => rfl)) (pe_tupK K (pa_cons pe_str (pa_cons pe_str pa_nil))) rfl) (pss_one (ps_ret (pe_and (pe_c c_l_is_named hr (Nat.le_refl _) rfl (pa_cons (pe_ix (ix_K K) (pv 0) pe_int (fun _ _ => rfl)) (pa_cons pe_bl pa_nil))) (pe_one (pe_c c_l_is_told hr (Nat.le_refl _) rfl (pa_cons (pe_ix (ix_K K) (pv 0) pe_int (fun _ _ => rfl)) pa_nil)))))) pss_nil)
      (pss_one (ps_ret (pe_and (pe_cmpR (op_inK K) (pe_ix (ix_K K) (pv 0) pe_int (fun _ _ => rfl)) (pe_tupK K (pa_cons pe_str (pa_cons pe_str (pa_cons pe_str pa_nil)))) rfl) (pe_and (pe_c c_l_is_told hr (Nat.le_refl _) rfl (pa_cons (pe_ix (ix_K K) (pv 0) pe_int (fun _ _ => rfl)) pa_nil)) (pe_one (pe_c c_l_is_told hr (Nat.le_refl _) rfl (pa_cons (pe_ix (ix_K K) (pv 0) pe_int (fun _ _ => rfl)) pa_nil)))))))))))), ?_⟩
  cases d
  case tuple ds =>
    have hf' : ds.length ≤ 1000 ∧ fines 1000 ds = true := by simpa [fine] using hf
    have hd' : PyData.depthAll ds + 1 < m + 1 := by simp only [PyData.depth] at hd; omega
    have h7' : PyData.depthAll ds + 1 < 72 := by simp only [PyData.depth] at h7; omega
    rcases ds with _ | ⟨a, _ | ⟨b, _ | ⟨c, _ | ⟨e, ds⟩⟩⟩⟩
    · walk_at "r"
      all_goals first | exact q _ (by walk_at "S") | exact Bool.noConfusion (show (true : Bool) = false from by assumption)
    · have h1 : (([a] : List PyData).length : Int) = 1 := rfl
      cases a
      all_goals
        walk_at "r"
        all_goals first | exact q _ (by walk_at "S") | exact Bool.noConfusion (show (true : Bool) = false from by assumption)
    · have e : isSt (m + 1) (.tuple [a, b]) = false := by cases a <;> rfl
      rw [e] at q
      walk_at "r"
      all_goals first | exact q _ (by walk_at "S") | exact Bool.noConfusion (show (true : Bool) = false from by assumption)
    · have sb : short b := fine_short (fines_all.mp hf'.2 b (by simp))
      have fb : fine 1000 b = true := fines_all.mp hf'.2 b (by simp)
      have fc : fine 1000 c = true := fines_all.mp hf'.2 c (by simp)
      have db := depthAll_mem (ds := [a, b, c]) (d := b) (by simp)
      have dc := depthAll_mem (ds := [a, b, c]) (d := c) (by simp)
      have db1 : b.depth < 72 := by omega
      have db2 : b.depth < m := by omega
      have dc1 : c.depth < 72 := by omega
      have dc2 : c.depth < m := by omega
      have h3 : (([a, b, c] : List PyData).length : Int) = 3 := rfl
      cases a
      case str x =>
        have e : isSt (m + 1) (.tuple [.str x, b, c]) = (bif decide (x = "same") then isTm 36 b && isTm 36 c else bif decide (x = "atom") then isName b && isTms 36 c else
          bif inS x [.str "all", .str "some"] then isName b && isSt m c else inS x [.str "and", .str "or", .str "if"] && (isSt m b && isSt m c)) := rfl
        rw [e] at q
        by_cases h4 : x = "same"
        · rw [decide_eq_true h4] at q
          walk_at "r"
          all_goals first
            | exact Bool.noConfusion (show (true : Bool) = false from by assumption)
            | (refine Eq.subst (motive := fun b => Q (.bl b) _) (?_ : (_ : Bool) = _) (q _ (by walk_at "S"))
               clear q e
               simp only [*, cond_true, cond_false, Bool.true_and, Bool.false_and]; done)
        rw [decide_eq_false h4] at q
        by_cases h5 : x = "atom"
        · rw [decide_eq_true h5] at q
          walk_at "r"
          all_goals first
            | exact Bool.noConfusion (show (true : Bool) = false from by assumption)
            | (refine Eq.subst (motive := fun b => Q (.bl b) _) (?_ : (_ : Bool) = _) (q _ (by walk_at "S"))
               clear q e
               simp only [*, cond_true, cond_false, Bool.true_and, Bool.false_and]; done)
            | (simp only [cond_true, cond_false] at *
               refine Eq.subst (motive := fun b => Q (.bl b) _) (?_ : (_ : Bool) = _) (q _ (by walk_at "S"))
               clear q e
               simp only [*, cond_true, cond_false, Bool.true_and, Bool.false_and]; done)
        rw [decide_eq_false h5] at q
        walk_at "r"
        all_goals first
            | exact Bool.noConfusion (show (true : Bool) = false from by assumption)
            | (refine Eq.subst (motive := fun b => Q (.bl b) _) (?_ : (_ : Bool) = _) (q _ (by walk_at "S"))
               clear q e
               simp only [*, cond_true, cond_false, Bool.true_and, Bool.false_and]; done)
            | (simp only [cond_true, cond_false] at *
               refine Eq.subst (motive := fun b => Q (.bl b) _) (?_ : (_ : Bool) = _) (q _ (by walk_at "S"))
               clear q e
               simp only [*, cond_true, cond_false, Bool.true_and, Bool.false_and]; done)
            | trace_state
      all_goals
        walk_at "r"
        all_goals first | exact q _ (by walk_at "S") | exact Bool.noConfusion (show (true : Bool) = false from by assumption)
    · have e : isSt (m + 1) (.tuple (a :: b :: c :: e :: ds)) = false := by cases a <;> rfl
      rw [e] at q
      walk_at "r"
      all_goals first | exact q _ (by walk_at "S") | exact Bool.noConfusion (show (true : Bool) = false from by assumption) | trace_state
  all_goals
    walk_at "r"
    exact q _ (by walk_at "S")

end
end G

/-! the words of the walk: S (a heap keeps), R (a value stands for data), A (a row of them), no (a way that cannot be), s (one step), r (all steps) -/
local macro_rules | `(tactic| walk_at "S") => `(tactic| first | exact L2.Same.refl _ | assumption | exact G.sm_tr (by assumption) (by walk_at "S"))
local macro_rules | `(tactic| walk_at "R") => `(tactic| first
  | with_reducible exact G.R.int _ | with_reducible exact G.R.str _ | with_reducible exact G.R.bl _ | with_reducible exact G.R.non
  | with_reducible assumption
  | exact G.r_mono (by with_reducible assumption) (by walk_at "S")
  | ((with_reducible refine' G.R.lst L2.upd_same ?rl); (case rl => walk_at "A")))
local macro_rules | `(tactic| walk_at "A") => `(tactic| first | with_reducible exact G.RA.nil | ((with_reducible refine' G.RA.cons ?ra ?rb); (case ra => walk_at "R"); (case rb => walk_at "A")))
local macro_rules | `(tactic| walk_at "no") => `(tactic| first | contradiction | omega)
local macro_rules | `(tactic| walk_at "side") => `(tactic| first | with_reducible rfl | with_reducible assumption | omega | exact Int.lt_of_lt_of_le (by with_reducible assumption) (by decide +kernel) | ((with_reducible refine G.le_up ?_); decide +kernel) | (simp only [List.length_cons, List.length_nil, List.getElem?_cons_zero, List.getElem?_cons_succ, List.length_map]; done) | (simp only [List.length_cons, List.length_nil, List.length_map, List.length_append] at *; omega))
local macro_rules | `(tactic| walk_at "sideC") => `(tactic| first | with_reducible assumption | (with_reducible refine G.cmul_r ⟨?_, ?_⟩ <;> decide) | (with_reducible refine G.cdiv_r ⟨?_, ?_⟩ <;> decide) | (with_reducible refine G.cmul_l ⟨?_, ?_⟩ <;> decide) | (with_reducible refine G.cpow_c ⟨?_, ?_, ?_⟩ <;> decide) | (with_reducible refine G.cmul_r ⟨?_, ?_⟩ <;> omega) | (with_reducible refine G.cdiv_r ⟨?_, ?_⟩ <;> omega) | omega)
local macro_rules | `(tactic| walk_at "got") => `(tactic| (intro v0 r0; first
  | (have e0 := G.R.inv_str r0; subst e0) | (have e0 := G.R.inv_int r0; subst e0) | (have e0 := G.R.inv_bl r0; subst e0) | (have e0 := G.R.inv_non r0; subst e0) | skip))
local macro_rules | `(tactic| walk_at "P") => `(tactic| first | with_reducible assumption | exact G.keep_at (by with_reducible assumption) (by walk_at "S"))
local macro_rules | `(tactic| walk_at "c") => `(tactic| fail)
local macro_rules | `(tactic| walk_at "Q") => `(tactic| first | with_reducible assumption | exact G.seq_keep (by with_reducible assumption) (by walk_at "S"))
local macro_rules | `(tactic| walk_at "c") => `(tactic| ((with_reducible refine' G.use_state ?hp ?h0 ?h1 ?_); (case hp => walk_at "Q"); (case h0 => walk_at "side"); (case h1 => walk_at "side"); intro p0 H0 s0 hp0))
local macro_rules | `(tactic| walk_at "c") => `(tactic| ((with_reducible refine' G.use_draw ?hp ?h0 ?h1 ?_); (case hp => walk_at "P"); (case h0 => walk_at "side"); (case h1 => walk_at "side"); intro r0 hr0 hr1))
local macro_rules | `(tactic| walk_at "s") => `(tactic| first
  | with_reducible refine G.st_seq ?_
  | ((with_reducible refine' G.st_var ?hv ?_); (case hv => exact rfl))
  | with_reducible refine G.st_c ?_
  | with_reducible refine G.st_op ?_
  | with_reducible refine G.st_bl ?_
  | with_reducible refine L2.iteT ?_
  | with_reducible refine L2.iteF ?_
  | with_reducible refine G.ite_nt ?_
  | with_reducible refine G.ite_nf ?_
  | ((with_reducible refine G.st_ite ?_ ?_) <;> (intro hb; (try simp only [decide_eq_true_eq, decide_eq_false_iff_not, Bool.not_eq_true', Bool.not_eq_false', beq_iff_eq, Bool.and_eq_true, Bool.or_eq_true, Bool.and_eq_false_iff, Bool.or_eq_false_iff, beq_eq_false_iff_ne, ne_eq, Int.not_lt, Int.not_le, Nat.not_lt, Nat.not_le] at hb); first | (exfalso; walk_at "no"; done) | skip))
  | with_reducible refine G.st_if ?_
  | with_reducible refine G.st_ret ?_
  | with_reducible refine G.st_set ?_
  | with_reducible refine G.st_call ?_
  | with_reducible refine G.st_cons ?_
  | with_reducible refine G.st_nil ?_
  | with_reducible refine G.st_CB ?_
  | with_reducible refine G.st_tTest ?_
  | with_reducible refine G.st_tB ?_
  | with_reducible refine G.st_or ?_
  | with_reducible refine G.st_and ?_
  | with_reducible refine G.st_not ?_
  | with_reducible refine G.st_orV ?_
  | with_reducible refine G.st_andV ?_
  | with_reducible refine G.st_notV ?_
  | with_reducible refine G.st_tIf ?_
  | with_reducible refine G.st_chain ?_
  | with_reducible refine G.st_un ?_
  | with_reducible refine G.st_then ?_
  | with_reducible refine G.st_slice ?_
  | with_reducible refine G.st_noPart ?_
  | with_reducible refine G.st_part ?_
  | with_reducible refine G.st_exInt ?_
  | with_reducible refine G.st_drop ?_
  | with_reducible refine G.st_next ?_
  | with_reducible refine G.st_retN ?_
  | with_reducible refine G.add_int ?_
  | with_reducible refine G.i0 ?_
  | ((with_reducible refine G.imod2 (by decide) ?_ ?_) <;> (intro hm; first | (exfalso; walk_at "no"; done) | skip))
  | ((with_reducible refine G.imod3 (by decide) ?_ ?_ ?_) <;> (intro hm; first | (exfalso; walk_at "no"; done) | skip))
  | ((with_reducible refine' G.iC ?hc ?_); (case hc => walk_at "sideC"))
  | ((with_reducible refine' G.eq_str1 ?e ?_); (case e => with_reducible rfl))
  | ((with_reducible refine' G.eq_str0 ?e ?_); (case e => decide +kernel))
  | with_reducible refine G.eq_str ?_
  | with_reducible refine G.eq_int ?_
  | with_reducible refine G.eq_bl ?_
  | with_reducible refine G.ne_str ?_
  | with_reducible refine G.ne_int ?_
  | ((with_reducible refine' G.is_none ?r ?_); (case r => walk_at "R"))
  | ((with_reducible refine' G.isnt_none ?r ?_); (case r => walk_at "R"))
  | with_reducible refine G.is_bl ?_
  | with_reducible refine G.isnt_bl ?_
  | with_reducible refine G.in_sign ?_
  | with_reducible refine G.nin_sign ?_
  | ((with_reducible refine' G.in_strsT1 ?r ?c ?e ?_); (case r => walk_at "R"); (case c => rfl); (case e => decide +kernel))
  | ((with_reducible refine' G.in_strsT0 ?r ?c ?e ?_); (case r => walk_at "R"); (case c => rfl); (case e => decide +kernel))
  | ((with_reducible refine' G.in_strsT ?r ?c ?_); (case r => walk_at "R"); (case c => rfl))
  | ((with_reducible refine' G.nin_strsT ?r ?c ?_); (case r => walk_at "R"); (case c => rfl))
  | ((with_reducible refine' G.in_intsT ?r ?c ?_); (case r => walk_at "R"); (case c => rfl))
  | ((with_reducible refine' G.nin_intsT ?r ?c ?_); (case r => walk_at "R"); (case c => rfl))
  | ((with_reducible refine' G.add_str ?l ?_); (case l => walk_at "side"))
  | ((with_reducible refine' G.add_tup ?r ?s ?l ?_); (case r => walk_at "R"); (case s => walk_at "R"); (case l => walk_at "side"); intro v0 H0 s0 r0)
  | ((with_reducible refine' G.add_lst ?r ?s ?l ?_); (case r => walk_at "R"); (case s => walk_at "R"); (case l => walk_at "side"); intro v0 H0 s0 r0)
  | ((with_reducible refine' G.isi_1 ?r ?e ?t ?_); (case r => walk_at "R"); (case e => rfl); (case t => simp only [List.mem_cons, true_or, or_true]))
  | ((with_reducible refine' G.isi_0 ?r ?e ?t ?_); (case r => walk_at "R"); (case e => rfl); (case t => simp only [List.mem_cons, true_or, or_true]))
  | ((with_reducible refine' G.isi_R ?r ?t ?_); (case r => walk_at "R"); (case t => simp only [List.mem_cons, true_or, or_true]))
  | ((with_reducible refine' G.len_str ?l ?_); (case l => walk_at "side"))
  | ((with_reducible refine' G.len_tup ?r ?_); (case r => walk_at "R"))
  | ((with_reducible refine' G.len_lst ?r ?_); (case r => walk_at "R"))
  | (with_reducible refine G.st_tup ?_)
  | (with_reducible refine G.st_lst ?_)
  | ((with_reducible refine' G.st_newT ?r ?l ?_); (case r => walk_at "A"); (case l => first | exact Nat.le_of_ble_eq_true rfl | walk_at "side"); intro v0 H0 s0 r0)
  | ((with_reducible refine' G.st_newL ?r ?l ?_); (case r => walk_at "A"); (case l => first | exact Nat.le_of_ble_eq_true rfl | walk_at "side"); intro v0 H0 s0 r0)
  | ((with_reducible refine' G.ix_tupR ?r ?h0 ?hd ?_); (case r => walk_at "R"); (case h0 => walk_at "side"); (case hd => first | rfl | assumption); walk_at "got")
  | ((with_reducible refine' G.ix_lstR ?r ?h0 ?hd ?_); (case r => walk_at "R"); (case h0 => walk_at "side"); (case hd => first | rfl | assumption); walk_at "got")
  | ((with_reducible refine' G.ix_strR ?l ?h0 ?hd ?_); (case l => walk_at "side"); (case h0 => walk_at "side"); (case hd => first | rfl | assumption))
  | ((with_reducible refine' G.ix_strM ?l ?h0 ?h1 ?_); (case l => walk_at "side"); (case h0 => walk_at "side"); (case h1 => walk_at "side"); intro c0 hc0)
  | ((with_reducible refine' G.ix_tupN ?r ?h0 ?h1 ?_); (case r => walk_at "R"); (case h0 => walk_at "side"); (case h1 => walk_at "side"); intro v0 d0 hd0 r0)
  | ((with_reducible refine' G.ix_lstS ?r ?h0 ?h1 ?_); (case r => walk_at "R"); (case h0 => walk_at "side"); (case h1 => walk_at "side"); intro z0 hz0)
  | ((with_reducible refine' G.ix_lstN ?r ?h0 ?h1 ?_); (case r => walk_at "R"); (case h0 => walk_at "side"); (case h1 => walk_at "side"); intro v0 d0 hd0 r0)
  | ((with_reducible refine' G.sl_strR ?l ?_); (case l => walk_at "side"))
  | ((with_reducible refine' G.sl_tupR ?r ?_); (case r => walk_at "R"); intro v0 H0 s0 r0)
  | ((with_reducible refine' G.sl_lstR ?r ?_); (case r => walk_at "R"); intro v0 H0 s0 r0)
  | ((with_reducible refine' G.tupOf_L ?r ?_); (case r => walk_at "R"); intro v0 H0 s0 r0)
  | ((with_reducible refine' G.tupOf_T ?r ?_); (case r => walk_at "R"))
  | ((with_reducible refine' G.lstOf_T ?r ?_); (case r => walk_at "R"); intro v0 H0 s0 r0)
  | ((with_reducible refine' G.lstOf_L ?r ?_); (case r => walk_at "R"); intro v0 H0 s0 r0)
  | with_reducible refine G.st_lcL ?_
  | with_reducible refine G.st_lcT ?_
  | with_reducible refine G.st_lcS ?_
  | with_reducible refine G.st_lcR ?_
  | with_reducible refine G.st_M0 ?_
  | with_reducible refine G.st_M1 ?_
  | (with_reducible refine G.upper_one ?_; intro hu0)
  | ((with_reducible refine' G.upper_R ?l ?_); (case l => walk_at "side"))
  | (with_reducible refine G.st_strAnd ?_)
  | (with_reducible refine G.st_sub ?_)
  | ((with_reducible refine' G.set_20 ?hp ?_); (case hp => first | exact L2.upd_same | walk_at "P"))
  | ((with_reducible refine' G.set_21 ?hp ?_); (case hp => first | exact L2.upd_same | walk_at "P"))
  | ((with_reducible refine' G.set_at ?hp ?hi ?_); (case hp => first | exact L2.upd_same | walk_at "P"); (case hi => rfl))
  | with_reducible refine G.st_lst2 ?_
  | with_reducible refine G.st_shut ?_
  | with_reducible refine G.st_forR ?_
  | ((with_reducible refine' G.len_scr ?s ?_); (case s => walk_at "Q"))
  | ((with_reducible refine' G.ix_scr ?s ?h0 ?h1 ?_); (case s => walk_at "Q"); (case h0 => walk_at "side"); (case h1 => walk_at "side"); intro n0)
  | ((with_reducible refine' G.sl_scr ?s ?_); (case s => walk_at "Q"); intro v0 H0 s0 r0)
  | (with_reducible refine' G.st_disp1 ?_; intro v0 H0 s0 r0)
  | walk_at "c"
  | fail "no step")
local macro_rules | `(tactic| walk_at "r") => `(tactic| repeat' (walk_at "s"))

local macro_rules | `(tactic| walk_at "side") => `(tactic| first | exact G.nm_a (by with_reducible assumption) | exact G.fm_a (by with_reducible assumption) | exact G.nm_b (by with_reducible assumption) | exact G.nm_c (by with_reducible assumption) | fail)
local macro_rules | `(tactic| walk_at "c") => `(tactic| ((with_reducible refine' G.use_name ?hp ?_); (case hp => walk_at "P"); intro z0 H0 s0 hz0))
local macro_rules | `(tactic| walk_at "c") => `(tactic| ((with_reducible refine' G.use_form ?hp ?_); (case hp => walk_at "P"); intro z0 H0 s0 hz0))
local macro_rules | `(tactic| walk_at "c") => `(tactic| ((with_reducible refine' G.use_pool ?hp ?_); (case hp => walk_at "P"); intro v0 fs0 gs0 ns0 H0 s0 ok0 r0))
local macro_rules | `(tactic| walk_at "c") => `(tactic| ((with_reducible refine' G.use_leaf ?hp ?r ?ok ?h0 ?h1 ?_); (case hp => walk_at "P"); (case r => walk_at "R"); (case ok => with_reducible assumption); (case h0 => walk_at "side"); (case h1 => walk_at "side"); intro v0 t0 H0 s0 r0 ht0 hd0 hs0))
local macro_rules | `(tactic| walk_at "c") => `(tactic| ((with_reducible refine' G.use_term ?hp ?r ?ok ?h0 ?h1 ?e0 ?e1 ?_); (case hp => walk_at "P"); (case r => walk_at "R"); (case ok => with_reducible assumption); (case h0 => walk_at "side"); (case h1 => walk_at "side"); (case e0 => walk_at "side"); (case e1 => walk_at "side"); intro v0 t0 H0 s0 r0 ht0 hd0 hs0))
local macro_rules | `(tactic| walk_at "c") => `(tactic| ((with_reducible refine' G.use_tall ?hp ?r ?ok ?rt ?ht ?h0 ?h1 ?_); (case hp => walk_at "P"); (case r => walk_at "R"); (case ok => with_reducible assumption); (case rt => walk_at "R"); (case ht => with_reducible assumption); (case h0 => walk_at "side"); (case h1 => walk_at "side"); intro v0 t0 H0 s0 r0 ht0 hd0 hs0))
local macro_rules | `(tactic| walk_at "c") => `(tactic| ((with_reducible refine' G.use_anyT ?hp ?r ?ok ?h0 ?h1 ?_); (case hp => walk_at "P"); (case r => walk_at "R"); (case ok => with_reducible assumption); (case h0 => walk_at "side"); (case h1 => walk_at "side"); intro v0 t0 H0 s0 r0 ht0 hd0 hs0))

namespace G
open PySem PySem.Spec PyProof.Rows L2
section
variable {P : Program} {w : World} {K : PySem.W.Frag} {mg : Str → Option Value} {base : Heap} {k n : Nat}
local macro_rules | `(tactic| walk_at "c") => `(tactic| with_reducible refine G.neg_i ?_)
def spOdd (K : PySem.W.Frag) : Sp := fun vs H Q _ => ∃ (p : Addr), vs = [.ref p] ∧ H p = some (Stt p) ∧ ∀ v d H', Same H H' → R K H' v d → fine 100 d = true → d.depth ≤ 3 → Q v H'
theorem use_odd {H : Hp} {Q : VK} {E : XK} {p : Addr} (hp : H p = some (Stt p)) (h : ∀ v d H', Same H H' → R K H' v d → fine 100 d = true → d.depth ≤ 3 → Q v H') : spOdd K [.ref p] H Q E := ⟨p, rfl, hp, h⟩
def oddB (d : PyData) : Bool := fine 100 d && decide (d.depth ≤ 3)
theorem odd_mem {ds : List PyData} (h : ds.all oddB = true) {i : Nat} {d : PyData} (hd : ds[i]? = some d) : fine 100 d = true ∧ d.depth ≤ 3 := by
  have := List.all_eq_true.mp h d (List.mem_of_getElem? hd)
  unfold oddB at this
  simpa using this
theorem ok_l_odd (T : Tp K mg) (c_l_draw : Cal P w K mg base k "_law_draw" spDraw) : Cal P w K mg base (k + 1) "_law_odd" (spOdd K) := by
  refine T.d_l_odd.cal sc_l_odd (fun vs H Q E h => ?_) (fun f cdv A outer s H vs Q E hr h => ?_)
  · obtain ⟨p, rfl, _⟩ := h; rfl
  obtain ⟨p, rfl, hp, q⟩ := h
  have sc := @sc_l_odd
  refine ⟨_, (pss_cons (ps_set (i := 1) sc.nd rfl (Or.inl rfl) (pe_lstK K (pa_cons pe_non (pa_cons pe_bl (pa_cons pe_bl (pa_cons (pe_un un_neg pe_int) (pa_cons pe_int (pa_cons pe_int (pa_cons pe_int (pa_cons (pe_op op_pow pe_int pe_int) (pa_cons pe_str (pa_cons pe_str (pa_cons pe_str (pa_cons pe_str (pa_cons pe_str (pa_cons pe_str (pa_cons pe_str (pa_cons pe_str pa_nil))))))))))))))))))
      (pss_cons (ps_set (i := 1) sc.nd rfl (Or.inl rfl) (pe_op (op_addK K) (pv 1) (pe_lstK K (pa_cons pe_str (pa_cons pe_str (pa_cons pe_str (pa_cons pe_str (pa_cons pe_str (pa_cons pe_str (pa_cons pe_str (pa_cons pe_str (pa_cons pe_str (pa_cons pe_str (pa_cons (pe_tupK K pa_nil) (pa_cons (pe_lstK K pa_nil) (pa_cons (pe_tupK K (pa_cons pe_str (pa_cons pe_str pa_nil))) pa_nil))))))))))))))))
      (pss_cons (ps_set (i := 1) sc.nd rfl (Or.inl rfl) (pe_op (op_addK K) (pv 1) (pe_lstK K (pa_cons (pe_lstK K (pa_cons pe_str (pa_cons pe_str pa_nil))) (pa_cons (pe_tupK K (pa_cons pe_str (pa_cons pe_str pa_nil))) (pa_cons (pe_tupK K (pa_cons pe_str (pa_cons pe_int pa_nil))) (pa_cons (pe_tupK K (pa_cons pe_str (pa_cons (pe_un un_neg pe_int) pa_nil))) (pa_cons (pe_tupK K (pa_cons pe_str (pa_cons pe_bl pa_nil))) (pa_cons (pe_tupK K (pa_cons pe_str (pa_cons pe_str (pa_cons (pe_tupK K pa_nil) pa_nil)))) pa_nil)))))))))
      (pss_cons (ps_set (i := 1) sc.nd rfl (Or.inl rfl) (pe_op (op_addK K) (pv 1) (pe_lstK K (pa_cons (pe_tupK K (pa_cons pe_str (pa_cons pe_str (pa_cons (pe_tupK K pa_nil) pa_nil)))) (pa_cons (pe_tupK K (pa_cons pe_str (pa_cons pe_str (pa_cons (pe_tupK K pa_nil) pa_nil)))) (pa_cons (pe_tupK K (pa_cons pe_str (pa_cons pe_str (pa_cons (pe_tupK K pa_nil) pa_nil)))) (pa_cons (pe_tupK K (pa_cons pe_str (pa_cons pe_str (pa_cons (pe_tupK K pa_nil) pa_nil)))) (pa_cons (pe_tupK K (pa_cons pe_str pa_nil)) (pa_cons pe_str pa_nil)))))))))
      (pss_cons (ps_set (i := 1) sc.nd rfl (Or.inl rfl) (pe_op (op_addK K) (pv 1) (pe_lstK K (pa_cons (pe_tupK K (pa_cons pe_str (pa_cons pe_str (pa_cons (pe_lstK K pa_nil) pa_nil)))) (pa_cons (pe_tupK K (pa_cons pe_str (pa_cons (pe_tupK K (pa_cons pe_str (pa_cons pe_str pa_nil))) pa_nil))) (pa_cons (pe_tupK K (pa_cons pe_str (pa_cons pe_str (pa_cons (pe_tupK K (pa_cons pe_str pa_nil)) pa_nil)))) (pa_cons (pe_tupK K (pa_cons pe_str pa_nil)) (pa_cons (pe_dispK K (pps_cons pe_str pe_int pps_nil) rfl rfl (by simp) (by decide)) pa_nil))))))))
      (pss_one (ps_ret (pe_ix (ix_K K) (pv 1) (pe_c c_l_draw hr (Nat.le_refl _) rfl (pa_cons (pv 0) (pa_cons (pe_callB (len_K K) rfl T.n_len bt_len (pa_cons (pv 1) pa_nil)) pa_nil))) (fun _ _ => rfl))))))))), ?_⟩
  walk_at "r"
  rename_i hd r0
  have h2 := odd_mem (by decide +kernel) hd
  exact q _ _ _ (by walk_at "S") r0 h2.1 h2.2
def spSpoilt (K : PySem.W.Frag) (m : Nat) : Sp := fun vs H Q _ => ∃ (p : Addr) (v : V) (d : PyData), vs = [.ref p, v] ∧ H p = some (Stt p) ∧ R K H v d ∧ fine 8 d = true ∧ d.depth < m ∧
  ∀ u e H', Same H H' → R K H' u e → fine 100 e = true → e.depth ≤ d.depth + 4 → Q u H'
theorem use_spoilt {H : Hp} {Q : VK} {E : XK} {m : Nat} {p : Addr} {v : V} {d : PyData} (hp : H p = some (Stt p)) (r : R K H v d) (hf : fine 8 d = true) (hd : d.depth < m) (h : ∀ u e H', Same H H' → R K H' u e → fine 100 e = true → e.depth ≤ d.depth + 4 → Q u H') : spSpoilt K m [.ref p, v] H Q E :=
  ⟨p, v, d, rfl, hp, r, hf, hd, h⟩
local macro_rules | `(tactic| walk_at "c") => `(tactic| ((with_reducible refine' G.use_odd ?hp ?_); (case hp => walk_at "P"); intro v0 d0 H0 s0 r0 hf0 hd0))
theorem ok_l_spoilt (T : Tp K mg) {m : Nat} (c_l_draw : Cal P w K mg base k "_law_draw" spDraw) (c_l_odd : Cal P w K mg base k "_law_odd" (spOdd K)) (c_l_spoilt : Cal P w K mg base k "_law_spoilt" (spSpoilt K m)) : Cal P w K mg base (k + 1) "_law_spoilt" (spSpoilt K (m + 1)) := by
  refine T.d_l_spoilt.cal sc_l_spoilt (fun vs H Q E h => ?_) (fun f cdv A outer s H vs Q E hr h => ?_)
  · obtain ⟨p, v, d, rfl, _⟩ := h; rfl
  obtain ⟨p, v, d, rfl, hp, r, hf, hd, q⟩ := h
  have sc := @sc_l_spoilt
  refine ⟨_, (pss_cons (ps_if (PW.pt (pw_and (pt_val (pe_callB (isi_K K) rfl T.n_isinstance bt_isinstance (pa_cons (pv 1) (pa_cons (pe_bltn (v := .ty "tuple") rfl T.n_tuple bt_tuple rfl) pa_nil)))) (pw_and (pt_cmpR op_gt (pe_callB (len_K K) rfl T.n_len bt_len (pa_cons (pv 1) pa_nil)) pe_int (nomark _)) (pw_and1 (pt_cmpR op_gt (pe_c c_l_draw hr (Nat.le_refl _) rfl (pa_cons (pv 0) (pa_cons pe_int pa_nil))) pe_int (nomark _)))))) (pss_cons (ps_set (i := 2) sc.nd rfl (Or.inl rfl) (pe_c c_l_draw hr (Nat.le_refl _) rfl (pa_cons (pv 0) (pa_cons (pe_callB (len_K K) rfl T.n_len bt_len (pa_cons (pv 1) pa_nil)) pa_nil))))
      (pss_one (ps_ret (pe_op (op_addK K) (pe_op (op_addK K) (pe_slice (sl_K K) (pv 1) po_none (po_some (pv 2))) (pe_tupK K (pa_cons (pe_c c_l_spoilt hr (Nat.le_refl _) rfl (pa_cons (pv 0) (pa_cons (pe_ix (ix_K K) (pv 1) (pv 2) (fun _ _ => rfl)) pa_nil))) pa_nil))) (pe_slice (sl_K K) (pv 1) (po_some (pe_op (op_addK K) (pv 2) pe_int)) po_none))))) pss_nil)
      (pss_cons (ps_set (i := 3) sc.nd rfl (Or.inl rfl) (pe_c c_l_draw hr (Nat.le_refl _) rfl (pa_cons (pv 0) (pa_cons pe_int pa_nil))))
      (pss_cons (ps_if (PW.pt (pw_and (pt_val (pe_callB (isi_K K) rfl T.n_isinstance bt_isinstance (pa_cons (pv 1) (pa_cons (pe_bltn (v := .ty "tuple") rfl T.n_tuple bt_tuple rfl) pa_nil)))) (pw_and1 (pt_cmpR op_lt (pv 3) pe_int (nomark _))))) (pss_one (ps_ret (pe_ix (ix_K K) (pe_lstK K (pa_cons (pe_callTy (list_K K) rfl T.n_list bt_list (pa_cons (pv 1) pa_nil)) (pa_cons (pe_slice (sl_K K) (pv 1) po_none (po_some (pe_un un_neg pe_int))) (pa_cons (pe_op (op_addK K) (pv 1) (pe_tupK K (pa_cons (pe_c c_l_odd hr (Nat.le_refl _) rfl (pa_cons (pv 0) pa_nil)) pa_nil))) (pa_cons (pe_op (op_addK K) (pv 1) (pv 1)) pa_nil))))) (pv 3) (fun _ _ => rfl)))) pss_nil)
      (pss_cons (ps_if (PW.pt (pw_and (pt_val (pe_callB (isi_K K) rfl T.n_isinstance bt_isinstance (pa_cons (pv 1) (pa_cons (pe_bltn (v := .ty "str") rfl T.n_str bt_str rfl) pa_nil)))) (pw_and1 (pt_cmpR op_lt (pv 3) pe_int (nomark _))))) (pss_one (ps_ret (pe_ix (ix_K K) (pe_lstK K (pa_cons (pe_op (op_addK K) (pv 1) pe_str) (pa_cons (pe_slice (sl_K K) (pv 1) po_none (po_some (pe_un un_neg pe_int))) (pa_cons (pe_upperR (pv 1)) pa_nil)))) (pv 3) (fun _ _ => rfl)))) pss_nil)
      (pss_one (ps_ret (pe_c c_l_odd hr (Nat.le_refl _) rfl (pa_cons (pv 0) pa_nil)))))))), ?_⟩
  cases d
  case tuple ds =>
    have hf' : ds.length ≤ 8 ∧ fines 8 ds = true := by simpa [fine] using hf
    have hd' : PyData.depthAll ds + 1 < m + 1 := by simp only [PyData.depth] at hd; omega
    have hmem : ∀ d ∈ ds, fine 100 d = true ∧ d.depth ≤ PyData.depthAll ds := fun d h => ⟨fine_mono (by decide) d (fines_all.mp hf'.2 d h), depthAll_mem h⟩
    have made : ∀ es : List PyData, es.length ≤ 100 → (∀ d ∈ es, fine 100 d = true ∧ d.depth ≤ PyData.depthAll ds + 4) → fine 100 (.tuple es) = true ∧ (PyData.tuple es).depth ≤ (PyData.tuple ds).depth + 4 := fun es hl he => by
      have h1 : fines 100 es = true := fines_all.mpr fun d h => (he d h).1
      have h2 : PyData.depthAll es ≤ PyData.depthAll ds + 4 := depthAll_le.mpr fun d h => (he d h).2
      refine ⟨by simp [fine, h1, hl], ?_⟩
      simp only [PyData.depth]; omega
    have hmade : ∀ es : List PyData, (∀ d ∈ es, d ∈ ds) → ∀ d ∈ es, fine 100 d = true ∧ d.depth ≤ PyData.depthAll ds + 4 := fun es h d hd => by
      have := hmem d (h d hd)
      exact ⟨this.1, by omega⟩
    have way4 : ∀ (o : PyData) (i : Nat) (d : PyData), fine 100 o = true → o.depth ≤ 3 → [PyData.list ds, .tuple (cutD ds none (some (-1))), .tuple (ds ++ [o]), .tuple (ds ++ ds)][i]? = some d → fine 100 d = true ∧ d.depth ≤ (PyData.tuple ds).depth + 4 := fun o i d ho hod hi => by
      have hc := cutD_len ds none (some (-1))
      have hm := List.mem_of_getElem? hi
      simp only [List.mem_cons, List.not_mem_nil, or_false] at hm
      rcases hm with rfl | rfl | rfl | rfl
      · have h1 : fines 100 ds = true := fines_all.mpr fun d h => (hmem d h).1
        exact ⟨by simp [fine, h1]; omega, by simp only [PyData.depth]; omega⟩
      · exact made _ (by omega) (hmade _ fun d h => mem_cutD h)
      · refine made _ (by simp; omega) fun d h => ?_
        rcases List.mem_append.mp h with h | h
        · exact hmade ds (fun _ h => h) d h
        · rw [List.mem_singleton.mp h]; exact ⟨ho, by omega⟩
      · refine made _ (by simp; omega) fun d h => hmade ds (fun _ h => h) d ?_
        rcases List.mem_append.mp h with h | h <;> exact h
    walk_at "r"
    · rename_i i hi0 hi1 va H1 s1 ra vb d0 hd0 rb
      have h0 := List.mem_of_getElem? hd0
      have f0 : fine 8 d0 = true := fines_all.mp hf'.2 d0 h0
      have e0 := depthAll_mem h0
      have l1 := cutD_len ds none (some i)
      have l2 := cutD_len ds (some (i + 1)) none
      refine use_spoilt (by walk_at "P") rb f0 (by omega) fun u e H2 s2 ru fe de => ?_
      walk_at "r"
      rename_i v5 H5 s5 r5
      have h := made (cutD ds none (some i) ++ [e] ++ cutD ds (some (i + 1)) none) (by simp; omega) fun d h => by
        rcases List.mem_append.mp h with h | h
        · rcases List.mem_append.mp h with h | h
          · exact hmade _ (fun d h => mem_cutD h) d h
          · rw [List.mem_singleton.mp h]; exact ⟨fe, by omega⟩
        · exact hmade _ (fun d h => mem_cutD h) d h
      exact q _ _ _ (by walk_at "S") r5 h.1 h.2
    · rename_i f1 g1 _ _ _ _ _ _ _ _ _ _ _ hd1 r1
      have h := way4 _ _ _ (by assumption) (by assumption) hd1
      exact q _ _ _ (by walk_at "S") r1 h.1 h.2
    · exact q _ _ _ (by walk_at "S") (by assumption) (by assumption) (by simp only [PyData.depth]; omega)
    · rename_i hd1 r1
      have h := way4 _ _ _ (by assumption) (by assumption) hd1
      exact q _ _ _ (by walk_at "S") r1 h.1 h.2
    · exact q _ _ _ (by walk_at "S") (by assumption) (by assumption) (by simp only [PyData.depth]; omega)
  case str z =>
    obtain rfl := r.inv_str
    have hz : z.length ≤ 8 := by simpa [fine] using hf
    have ha : (Str.ofString "a").length = 1 := rfl
    have hz1 : z.length + (Str.ofString "a").length ≤ 1000000 := by omega
    have hz2 : z.length ≤ 1000000 := by omega
    walk_at "r"
    · rename_i hd1 r1
      have hc := cutS_length z none (some (-1))
      have hu := PyProof.Rows.len_upper z
      have hm := List.mem_of_getElem? hd1
      simp only [List.mem_cons, List.not_mem_nil, or_false] at hm
      have h : ∀ x : Str, x.length ≤ 100 → fine 100 (PyData.str x) = true ∧ (PyData.str x).depth ≤ (PyData.str z).depth + 4 := fun x hx => ⟨by simp [fine, hx], by simp [PyData.depth]⟩
      rcases hm with rfl | rfl | rfl
      · have h := h (z ++ Str.ofString "a") (by rw [Str.length_append]; omega)
        exact q _ _ _ (by walk_at "S") r1 h.1 h.2
      · have h := h (cutS z none (some (-1))) (by omega)
        exact q _ _ _ (by walk_at "S") r1 h.1 h.2
      · have h := h (Txt.upper z) (by omega)
        exact q _ _ _ (by walk_at "S") r1 h.1 h.2
    · exact q _ _ _ (by walk_at "S") (by assumption) (by assumption) (by omega)
  all_goals
    walk_at "r"
    all_goals exact q _ _ _ (by walk_at "S") (by walk_at "R") (by assumption) (by omega)
theorem spoilt_n (T : Tp K mg) : ∀ m, Cal P w K mg base (m + 3) "_law_spoilt" (spSpoilt K m)
  | 0 => T.d_l_spoilt.none fun vs H Q E h => by obtain ⟨p, v, d, _, _, _, _, h0, _⟩ := h; omega
  | m + 1 => ok_l_spoilt T ((ok_l_draw (k := 0) T).lift (by omega)) ((ok_l_odd (k := 1) T (ok_l_draw T)).lift (by omega)) (spoilt_n T m)

end
end G

/-! the words of the walk: S (a heap keeps), R (a value stands for data), A (a row of them), no (a way that cannot be), s (one step), r (all steps) -/
local macro_rules | `(tactic| walk_at "S") => `(tactic| first | exact L2.Same.refl _ | assumption | exact G.sm_tr (by assumption) (by walk_at "S"))
local macro_rules | `(tactic| walk_at "R") => `(tactic| first
  | with_reducible exact G.R.int _ | with_reducible exact G.R.str _ | with_reducible exact G.R.bl _ | with_reducible exact G.R.non
  | with_reducible assumption
  | exact G.r_mono (by with_reducible assumption) (by walk_at "S")
  | ((with_reducible refine' G.R.lst L2.upd_same ?rl); (case rl => walk_at "A")))
local macro_rules | `(tactic| walk_at "A") => `(tactic| first | with_reducible exact G.RA.nil | ((with_reducible refine' G.RA.cons ?ra ?rb); (case ra => walk_at "R"); (case rb => walk_at "A")))
local macro_rules | `(tactic| walk_at "no") => `(tactic| first | contradiction | omega)
local macro_rules | `(tactic| walk_at "side") => `(tactic| first | with_reducible rfl | with_reducible assumption | omega | exact Int.lt_of_lt_of_le (by with_reducible assumption) (by decide +kernel) | ((with_reducible refine G.le_up ?_); decide +kernel) | (simp only [List.length_cons, List.length_nil, List.getElem?_cons_zero, List.getElem?_cons_succ, List.length_map]; done) | (simp only [List.length_cons, List.length_nil, List.length_map, List.length_append] at *; omega))
local macro_rules | `(tactic| walk_at "sideC") => `(tactic| first | with_reducible assumption | (with_reducible refine G.cmul_r ⟨?_, ?_⟩ <;> decide) | (with_reducible refine G.cdiv_r ⟨?_, ?_⟩ <;> decide) | (with_reducible refine G.cmul_l ⟨?_, ?_⟩ <;> decide) | (with_reducible refine G.cpow_c ⟨?_, ?_, ?_⟩ <;> decide) | (with_reducible refine G.cmul_r ⟨?_, ?_⟩ <;> omega) | (with_reducible refine G.cdiv_r ⟨?_, ?_⟩ <;> omega) | omega)
local macro_rules | `(tactic| walk_at "got") => `(tactic| (intro v0 r0; first
  | (have e0 := G.R.inv_str r0; subst e0) | (have e0 := G.R.inv_int r0; subst e0) | (have e0 := G.R.inv_bl r0; subst e0) | (have e0 := G.R.inv_non r0; subst e0) | skip))
local macro_rules | `(tactic| walk_at "P") => `(tactic| first | with_reducible assumption | exact G.keep_at (by with_reducible assumption) (by walk_at "S"))
local macro_rules | `(tactic| walk_at "c") => `(tactic| fail)
local macro_rules | `(tactic| walk_at "Q") => `(tactic| first | with_reducible assumption | exact G.seq_keep (by with_reducible assumption) (by walk_at "S"))
local macro_rules | `(tactic| walk_at "c") => `(tactic| ((with_reducible refine' G.use_state ?hp ?h0 ?h1 ?_); (case hp => walk_at "Q"); (case h0 => walk_at "side"); (case h1 => walk_at "side"); intro p0 H0 s0 hp0))
local macro_rules | `(tactic| walk_at "c") => `(tactic| ((with_reducible refine' G.use_draw ?hp ?h0 ?h1 ?_); (case hp => walk_at "P"); (case h0 => walk_at "side"); (case h1 => walk_at "side"); intro r0 hr0 hr1))
local macro_rules | `(tactic| walk_at "s") => `(tactic| first
  | with_reducible refine G.st_seq ?_
  | ((with_reducible refine' G.st_var ?hv ?_); (case hv => exact rfl))
  | with_reducible refine G.st_c ?_
  | with_reducible refine G.st_op ?_
  | with_reducible refine G.st_bl ?_
  | with_reducible refine L2.iteT ?_
  | with_reducible refine L2.iteF ?_
  | with_reducible refine G.ite_nt ?_
  | with_reducible refine G.ite_nf ?_
  | ((with_reducible refine G.st_ite ?_ ?_) <;> (intro hb; (try simp only [decide_eq_true_eq, decide_eq_false_iff_not, Bool.not_eq_true', Bool.not_eq_false', beq_iff_eq, Bool.and_eq_true, Bool.or_eq_true, Bool.and_eq_false_iff, Bool.or_eq_false_iff, beq_eq_false_iff_ne, ne_eq, Int.not_lt, Int.not_le, Nat.not_lt, Nat.not_le] at hb); first | (exfalso; walk_at "no"; done) | skip))
  | with_reducible refine G.st_if ?_
  | with_reducible refine G.st_ret ?_
  | with_reducible refine G.st_set ?_
  | with_reducible refine G.st_call ?_
  | with_reducible refine G.st_cons ?_
  | with_reducible refine G.st_nil ?_
  | with_reducible refine G.st_CB ?_
  | with_reducible refine G.st_tTest ?_
  | with_reducible refine G.st_tB ?_
  | with_reducible refine G.st_or ?_
  | with_reducible refine G.st_and ?_
  | with_reducible refine G.st_not ?_
  | with_reducible refine G.st_orV ?_
  | with_reducible refine G.st_andV ?_
  | with_reducible refine G.st_notV ?_
  | with_reducible refine G.st_tIf ?_
  | with_reducible refine G.st_chain ?_
  | with_reducible refine G.st_un ?_
  | with_reducible refine G.st_then ?_
  | with_reducible refine G.st_slice ?_
  | with_reducible refine G.st_noPart ?_
  | with_reducible refine G.st_part ?_
  | with_reducible refine G.st_exInt ?_
  | with_reducible refine G.st_drop ?_
  | with_reducible refine G.st_next ?_
  | with_reducible refine G.st_retN ?_
  | with_reducible refine G.add_int ?_
  | with_reducible refine G.i0 ?_
  | ((with_reducible refine G.imod2 (by decide) ?_ ?_) <;> (intro hm; first | (exfalso; walk_at "no"; done) | skip))
  | ((with_reducible refine G.imod3 (by decide) ?_ ?_ ?_) <;> (intro hm; first | (exfalso; walk_at "no"; done) | skip))
  | ((with_reducible refine' G.iC ?hc ?_); (case hc => walk_at "sideC"))
  | ((with_reducible refine' G.eq_str1 ?e ?_); (case e => with_reducible rfl))
  | ((with_reducible refine' G.eq_str0 ?e ?_); (case e => decide +kernel))
  | with_reducible refine G.eq_str ?_
  | with_reducible refine G.eq_int ?_
  | with_reducible refine G.eq_bl ?_
  | with_reducible refine G.ne_str ?_
  | with_reducible refine G.ne_int ?_
  | ((with_reducible refine' G.is_none ?r ?_); (case r => walk_at "R"))
  | ((with_reducible refine' G.isnt_none ?r ?_); (case r => walk_at "R"))
  | with_reducible refine G.is_bl ?_
  | with_reducible refine G.isnt_bl ?_
  | with_reducible refine G.in_sign ?_
  | with_reducible refine G.nin_sign ?_
  | ((with_reducible refine' G.in_strsT1 ?r ?c ?e ?_); (case r => walk_at "R"); (case c => rfl); (case e => decide +kernel))
  | ((with_reducible refine' G.in_strsT0 ?r ?c ?e ?_); (case r => walk_at "R"); (case c => rfl); (case e => decide +kernel))
  | ((with_reducible refine' G.in_strsT ?r ?c ?_); (case r => walk_at "R"); (case c => rfl))
  | ((with_reducible refine' G.nin_strsT ?r ?c ?_); (case r => walk_at "R"); (case c => rfl))
  | ((with_reducible refine' G.in_intsT ?r ?c ?_); (case r => walk_at "R"); (case c => rfl))
  | ((with_reducible refine' G.nin_intsT ?r ?c ?_); (case r => walk_at "R"); (case c => rfl))
  | ((with_reducible refine' G.add_str ?l ?_); (case l => walk_at "side"))
  | ((with_reducible refine' G.add_tup ?r ?s ?l ?_); (case r => walk_at "R"); (case s => walk_at "R"); (case l => walk_at "side"); intro v0 H0 s0 r0)
  | ((with_reducible refine' G.add_lst ?r ?s ?l ?_); (case r => walk_at "R"); (case s => walk_at "R"); (case l => walk_at "side"); intro v0 H0 s0 r0)
  | ((with_reducible refine' G.isi_1 ?r ?e ?t ?_); (case r => walk_at "R"); (case e => rfl); (case t => simp only [List.mem_cons, true_or, or_true]))
  | ((with_reducible refine' G.isi_0 ?r ?e ?t ?_); (case r => walk_at "R"); (case e => rfl); (case t => simp only [List.mem_cons, true_or, or_true]))
  | ((with_reducible refine' G.isi_R ?r ?t ?_); (case r => walk_at "R"); (case t => simp only [List.mem_cons, true_or, or_true]))
  | ((with_reducible refine' G.len_str ?l ?_); (case l => walk_at "side"))
  | ((with_reducible refine' G.len_tup ?r ?_); (case r => walk_at "R"))
  | ((with_reducible refine' G.len_lst ?r ?_); (case r => walk_at "R"))
  | (with_reducible refine G.st_tup ?_)
  | (with_reducible refine G.st_lst ?_)
  | ((with_reducible refine' G.st_newT ?r ?l ?_); (case r => walk_at "A"); (case l => first | exact Nat.le_of_ble_eq_true rfl | walk_at "side"); intro v0 H0 s0 r0)
  | ((with_reducible refine' G.st_newL ?r ?l ?_); (case r => walk_at "A"); (case l => first | exact Nat.le_of_ble_eq_true rfl | walk_at "side"); intro v0 H0 s0 r0)
  | ((with_reducible refine' G.ix_tupR ?r ?h0 ?hd ?_); (case r => walk_at "R"); (case h0 => walk_at "side"); (case hd => first | rfl | assumption); walk_at "got")
  | ((with_reducible refine' G.ix_lstR ?r ?h0 ?hd ?_); (case r => walk_at "R"); (case h0 => walk_at "side"); (case hd => first | rfl | assumption); walk_at "got")
  | ((with_reducible refine' G.ix_strR ?l ?h0 ?hd ?_); (case l => walk_at "side"); (case h0 => walk_at "side"); (case hd => first | rfl | assumption))
  | ((with_reducible refine' G.ix_strM ?l ?h0 ?h1 ?_); (case l => walk_at "side"); (case h0 => walk_at "side"); (case h1 => walk_at "side"); intro c0 hc0)
  | ((with_reducible refine' G.ix_tupN ?r ?h0 ?h1 ?_); (case r => walk_at "R"); (case h0 => walk_at "side"); (case h1 => walk_at "side"); intro v0 d0 hd0 r0)
  | ((with_reducible refine' G.ix_lstS ?r ?h0 ?h1 ?_); (case r => walk_at "R"); (case h0 => walk_at "side"); (case h1 => walk_at "side"); intro z0 hz0)
  | ((with_reducible refine' G.ix_lstN ?r ?h0 ?h1 ?_); (case r => walk_at "R"); (case h0 => walk_at "side"); (case h1 => walk_at "side"); intro v0 d0 hd0 r0)
  | ((with_reducible refine' G.sl_strR ?l ?_); (case l => walk_at "side"))
  | ((with_reducible refine' G.sl_tupR ?r ?_); (case r => walk_at "R"); intro v0 H0 s0 r0)
  | ((with_reducible refine' G.sl_lstR ?r ?_); (case r => walk_at "R"); intro v0 H0 s0 r0)
  | ((with_reducible refine' G.tupOf_L ?r ?_); (case r => walk_at "R"); intro v0 H0 s0 r0)
  | ((with_reducible refine' G.tupOf_T ?r ?_); (case r => walk_at "R"))
  | ((with_reducible refine' G.lstOf_T ?r ?_); (case r => walk_at "R"); intro v0 H0 s0 r0)
  | ((with_reducible refine' G.lstOf_L ?r ?_); (case r => walk_at "R"); intro v0 H0 s0 r0)
  | with_reducible refine G.st_lcL ?_
  | with_reducible refine G.st_lcT ?_
  | with_reducible refine G.st_lcS ?_
  | with_reducible refine G.st_lcR ?_
  | with_reducible refine G.st_M0 ?_
  | with_reducible refine G.st_M1 ?_
  | (with_reducible refine G.upper_one ?_; intro hu0)
  | ((with_reducible refine' G.upper_R ?l ?_); (case l => walk_at "side"))
  | (with_reducible refine G.st_strAnd ?_)
  | (with_reducible refine G.st_sub ?_)
  | ((with_reducible refine' G.set_20 ?hp ?_); (case hp => first | exact L2.upd_same | walk_at "P"))
  | ((with_reducible refine' G.set_21 ?hp ?_); (case hp => first | exact L2.upd_same | walk_at "P"))
  | ((with_reducible refine' G.set_at ?hp ?hi ?_); (case hp => first | exact L2.upd_same | walk_at "P"); (case hi => rfl))
  | with_reducible refine G.st_lst2 ?_
  | with_reducible refine G.st_shut ?_
  | with_reducible refine G.st_forR ?_
  | ((with_reducible refine' G.len_scr ?s ?_); (case s => walk_at "Q"))
  | ((with_reducible refine' G.ix_scr ?s ?h0 ?h1 ?_); (case s => walk_at "Q"); (case h0 => walk_at "side"); (case h1 => walk_at "side"); intro n0)
  | ((with_reducible refine' G.sl_scr ?s ?_); (case s => walk_at "Q"); intro v0 H0 s0 r0)
  | (with_reducible refine' G.st_disp1 ?_; intro v0 H0 s0 r0)
  | walk_at "c"
  | fail "no step")
local macro_rules | `(tactic| walk_at "r") => `(tactic| repeat' (walk_at "s"))

local macro_rules | `(tactic| walk_at "side") => `(tactic| first | exact G.nm_a (by with_reducible assumption) | exact G.fm_a (by with_reducible assumption) | exact G.nm_b (by with_reducible assumption) | exact G.nm_c (by with_reducible assumption) | fail)
local macro_rules | `(tactic| walk_at "c") => `(tactic| ((with_reducible refine' G.use_name ?hp ?_); (case hp => walk_at "P"); intro z0 H0 s0 hz0))
local macro_rules | `(tactic| walk_at "c") => `(tactic| ((with_reducible refine' G.use_form ?hp ?_); (case hp => walk_at "P"); intro z0 H0 s0 hz0))
local macro_rules | `(tactic| walk_at "c") => `(tactic| ((with_reducible refine' G.use_pool ?hp ?_); (case hp => walk_at "P"); intro v0 fs0 gs0 ns0 H0 s0 ok0 r0))
local macro_rules | `(tactic| walk_at "c") => `(tactic| ((with_reducible refine' G.use_leaf ?hp ?r ?ok ?h0 ?h1 ?_); (case hp => walk_at "P"); (case r => walk_at "R"); (case ok => with_reducible assumption); (case h0 => walk_at "side"); (case h1 => walk_at "side"); intro v0 t0 H0 s0 r0 ht0 hd0 hs0))
local macro_rules | `(tactic| walk_at "c") => `(tactic| ((with_reducible refine' G.use_term ?hp ?r ?ok ?h0 ?h1 ?e0 ?e1 ?_); (case hp => walk_at "P"); (case r => walk_at "R"); (case ok => with_reducible assumption); (case h0 => walk_at "side"); (case h1 => walk_at "side"); (case e0 => walk_at "side"); (case e1 => walk_at "side"); intro v0 t0 H0 s0 r0 ht0 hd0 hs0))
local macro_rules | `(tactic| walk_at "c") => `(tactic| ((with_reducible refine' G.use_tall ?hp ?r ?ok ?rt ?ht ?h0 ?h1 ?_); (case hp => walk_at "P"); (case r => walk_at "R"); (case ok => with_reducible assumption); (case rt => walk_at "R"); (case ht => with_reducible assumption); (case h0 => walk_at "side"); (case h1 => walk_at "side"); intro v0 t0 H0 s0 r0 ht0 hd0 hs0))
local macro_rules | `(tactic| walk_at "c") => `(tactic| ((with_reducible refine' G.use_anyT ?hp ?r ?ok ?h0 ?h1 ?_); (case hp => walk_at "P"); (case r => walk_at "R"); (case ok => with_reducible assumption); (case h0 => walk_at "side"); (case h1 => walk_at "side"); intro v0 t0 H0 s0 r0 ht0 hd0 hs0))

local macro_rules | `(tactic| walk_at "c") => `(tactic| ((with_reducible refine' G.use_told ?hp ?r ?ok ?h0 ?h1 ?e0 ?e1 ?_); (case hp => walk_at "P"); (case r => walk_at "R"); (case ok => with_reducible assumption); (case h0 => walk_at "side"); (case h1 => walk_at "side"); (case e0 => walk_at "side"); (case e1 => walk_at "side"); intro v0 t0 H0 s0 r0 ht0 hd0 hs0))
local macro_rules | `(tactic| walk_at "c") => `(tactic| ((with_reducible refine' G.use_anyS ?hp ?r ?ok ?h0 ?h1 ?e0 ?e1 ?_); (case hp => walk_at "P"); (case r => walk_at "R"); (case ok => with_reducible assumption); (case h0 => walk_at "side"); (case h1 => walk_at "side"); (case e0 => walk_at "side"); (case e1 => walk_at "side"); intro v0 t0 H0 s0 r0 ht0 hd0 hs0))

namespace G
open PySem PySem.Spec PyProof.Rows L2
section
variable {P : Program} {w : World} {K : PySem.W.Frag} {mg : Str → Option Value} {base : Heap} {k n : Nat}
local macro_rules | `(tactic| walk_at "c") => `(tactic| ((with_reducible refine' G.use_isName ?r ?hs ?_); (case r => walk_at "R"); (case hs => with_reducible assumption); intro H0 s0))
local macro_rules | `(tactic| walk_at "c") => `(tactic| ((with_reducible refine' G.use_isForm ?r ?hs ?_); (case r => walk_at "R"); (case hs => with_reducible assumption); intro H0 s0))
local macro_rules | `(tactic| walk_at "c") => `(tactic| ((with_reducible refine' G.use_isNum ?r ?_); (case r => walk_at "R"); intro H0 s0))
local macro_rules | `(tactic| walk_at "c") => `(tactic| ((with_reducible refine' G.use_isTms ?r ?hs ?hd ?_); (case r => walk_at "R"); (case hs => with_reducible assumption); (case hd => with_reducible assumption); intro H0 s0))

theorem is_term_n (T : Tp K mg) : ∀ m, Cal P w K mg base (2 * m + 1) "is_term" (spIsTm K m)
  | 0 => T.d_is_term.none fun vs H Q E h => by obtain ⟨v, d, _, _, _, h0, _⟩ := h; omega
  | m + 1 => ok_is_term T ((ok_is_number (k := 0) T).lift (by omega)) ((ok_is_name (k := 0) T).lift (by omega)) ((ok_is_form_name (k := 0) T).lift (by omega)) (ok_are_args T (is_term_n T m))
theorem l_is_term_n (T : Tp K mg) : ∀ m, Cal P w K mg base (2 * m + 1) "_law_is_term" (spIsTm K m)
  | 0 => T.d_l_is_term.none fun vs H Q E h => by obtain ⟨v, d, _, _, _, h0, _⟩ := h; omega
  | m + 1 => ok_l_is_term T ((ok_l_is_named (k := 0) T).lift (by omega)) (ok_l_are_args T (l_is_term_n T m))

theorem is_statement_n (T : Tp K mg) : ∀ m, Cal P w K mg base (m + 75) "is_statement" (spIsSt K m)
  | 0 => T.d_is_statement.none fun vs H Q E h => by obtain ⟨v, d, _, _, _, _, h0, _⟩ := h; omega
  | m + 1 => ok_is_statement T ((ok_is_name (k := 0) T).lift (by omega)) ((is_term_n T 36).lift (by omega)) ((ok_are_args T (is_term_n T 36)).lift (by omega)) (is_statement_n T m)
theorem l_is_told_n (T : Tp K mg) : ∀ m, Cal P w K mg base (m + 75) "_law_is_told" (spIsSt K m)
  | 0 => T.d_l_is_told.none fun vs H Q E h => by obtain ⟨v, d, _, _, _, _, h0, _⟩ := h; omega
  | m + 1 => ok_l_is_told T ((ok_l_is_named (k := 0) T).lift (by omega)) ((l_is_term_n T 36).lift (by omega)) ((ok_l_are_args T (l_is_term_n T 36)).lift (by omega)) (l_is_told_n T m)
def spRight (K : PySem.W.Frag) : Sp := fun vs H Q _ => ∃ v d, vs = [v] ∧ R K H v d ∧ fine 1000 d = true ∧ d.depth < 72 ∧ ∀ H', Same H H' → Q (.bl true) H'
theorem use_right {H : Hp} {Q : VK} {E : XK} {v : V} {d : PyData} (r : R K H v d) (hf : fine 1000 d = true) (hd : d.depth < 72) (h : ∀ H', Same H H' → Q (.bl true) H') : spRight K [v] H Q E := ⟨v, d, rfl, r, hf, hd, h⟩
theorem ok_l_right (T : Tp K mg) (c_is_statement : Cal P w K mg base k "is_statement" (spIsSt K 72)) (c_l_is_told : Cal P w K mg base k "_law_is_told" (spIsSt K 72)) : Cal P w K mg base (k + 1) "_law_right" (spRight K) := by
  refine T.d_l_right.cal sc_l_right (fun vs H Q E h => ?_) (fun f cdv A outer s H vs Q E hr h => ?_)
  · obtain ⟨v, d, rfl, _⟩ := h; rfl
  obtain ⟨v, d, rfl, r, hf, hd, q⟩ := h
  have sc := @sc_l_right
  refine ⟨_, (pss_cons (ps_set (i := 1) sc.nd rfl (Or.inl rfl) (pe_c c_is_statement hr (Nat.le_refl _) rfl (pa_cons (pv 0) pa_nil)))
      (pss_one (ps_ret (pe_and (pe_callB (isi_K K) rfl T.n_isinstance bt_isinstance (pa_cons (pv 1) (pa_cons (pe_bltn (v := .ty "bool") rfl T.n_bool bt_bool rfl) pa_nil))) (pe_one (pe_cmpR (op_eqK K hr) (pv 1) (pe_c c_l_is_told hr (Nat.le_refl _) rfl (pa_cons (pv 0) pa_nil)) (nomark _))))))), ?_⟩
  walk_at "r"
  refine use_isSt r hf hd hd fun H1 s1 => ?_
  walk_at "r"
  refine use_isSt (r.mono s1) hf hd hd fun H2 s2 => ?_
  walk_at "r"
  rw [show (isSt 72 d == isSt 72 d) = true from beq_self_eq_true _]
  exact q _ (by walk_at "S")
local macro_rules | `(tactic| walk_at "c") => `(tactic| ((with_reducible refine' G.use_odd ?hp ?_); (case hp => walk_at "P"); intro v0 d0 H0 s0 r0 hf0 hd0))
theorem ok_law {f : Addr} {fd : FuncData} (F : Fun K "law" "law" s_law f fd) (T : Tp K mg) : FnOk P w K mg base CX0 200 f fd p_law (spLaw K) := by
  have c_l_draw : Cal P w K mg base 199 "_law_draw" spDraw := (ok_l_draw (k := 0) T).lift (by decide)
  have c_l_state : Cal P w K mg base 199 "_law_state" (spState K) := (ok_l_state (k := 0) T).lift (by decide)
  have c_name : Cal P w K mg base 2 "_law_name" spName := ok_l_name T (ok_l_draw T)
  have c_l_pool : Cal P w K mg base 199 "_law_pool" (spPool K) := (ok_l_pool (k := 3) T (c_name.lift (by decide)) (ok_l_form_name T c_name)).lift (by decide)
  have c_l_term : Cal P w K mg base 199 "_law_term" (spTerm K 4) := (term_n T 4).lift (by decide)
  have c_leaf : Cal P w K mg base 2 "_law_leaf" (spLeaf K) := ok_l_leaf T (ok_l_draw T)

  have c_l_any_told : Cal P w K mg base 199 "_law_any_told" (spAnyS K) := (ok_l_any_told (k := 12) T ((ok_l_draw (k := 0) T).lift (by decide)) (told_n T 5)).lift (by decide)

  have c_is_statement : Cal P w K mg base 199 "is_statement" (spIsSt K 72) := (is_statement_n T 72).lift (by decide)
  have c_l_right : Cal P w K mg base 199 "_law_right" (spRight K) := ok_l_right (k := 198) T ((is_statement_n T 72).lift (by decide)) ((l_is_told_n T 72).lift (by decide))
  have c_l_odd : Cal P w K mg base 199 "_law_odd" (spOdd K) := (ok_l_odd (k := 1) T (ok_l_draw T)).lift (by decide)
  have c_l_spoilt : Cal P w K mg base 199 "_law_spoilt" (spSpoilt K 130) := (spoilt_n T 130).lift (by decide)
  refine F.ok sc_law (fun vs H Q E h => ?_) (fun cdv A outer s H vs Q E hr h => ?_)
  · obtain ⟨a, ns, rfl, _⟩ := h; rfl
  obtain ⟨a, ns, rfl, hS, hlen, q⟩ := h
  have sc := @sc_law
  refine ⟨_, (pss_cons (ps_for PassesOwn.never rfl (pi_range1 rfl T.n_range (pa_cons (pe_op (op_addK K) pe_int (pe_callB (len_K K) rfl T.n_len bt_len (pa_cons (pe_slice (sl_K K) (pv 0) po_none (po_some pe_int)) pa_nil))) pa_nil)) (pg_name (i := 1) sc.nd rfl (Or.inl rfl)) (pss_cons (ps_set (i := 2) sc.nd rfl (Or.inl rfl) (pe_c c_l_state hr (Nat.le_refl _) rfl (pa_cons (pv 0) (pa_cons (pv 1) pa_nil))))
      (pss_cons (ps_set (i := 3) sc.nd rfl (Or.inl rfl) (pe_c c_l_pool hr (Nat.le_refl _) rfl (pa_cons (pv 2) pa_nil)))
      (pss_cons (ps_set (i := 4) sc.nd rfl (Or.inl rfl) (pe_c c_l_any_told hr (Nat.le_refl _) rfl (pa_cons (pv 2) (pa_cons (pv 3) (pa_cons (pe_c c_l_draw hr (Nat.le_refl _) rfl (pa_cons (pv 2) (pa_cons pe_int pa_nil))) (pa_cons pe_int pa_nil))))))
      (pss_cons (ps_if (PW.pt (pw_or (pt_cmpR op_nisU (pe_c c_is_statement hr (Nat.le_refl _) rfl (pa_cons (pv 4) pa_nil)) pe_bl (nomark _)) (pw_or1 (pt_not (pt_val (pe_c c_l_right hr (Nat.le_refl _) rfl (pa_cons (pe_c c_l_term hr (Nat.le_refl _) rfl (pa_cons (pv 2) (pa_cons (pv 3) (pa_cons pe_int (pa_cons pe_int pa_nil))))) pa_nil))))))) (pss_one (ps_ret pe_bl)) pss_nil)
      (pss_one (ps_for PassesOwn.never rfl (pi_range1 rfl T.n_range (pa_cons pe_int pa_nil)) (pg_name (i := 5) sc.nd rfl (Or.inl rfl)) (pss_one (ps_if (PW.pt (pw_or (pt_not (pt_val (pe_c c_l_right hr (Nat.le_refl _) rfl (pa_cons (pe_c c_l_spoilt hr (Nat.le_refl _) rfl (pa_cons (pv 2) (pa_cons (pv 4) pa_nil))) pa_nil)))) (pw_or1 (pt_not (pt_val (pe_c c_l_right hr (Nat.le_refl _) rfl (pa_cons (pe_c c_l_odd hr (Nat.le_refl _) rfl (pa_cons (pv 2) pa_nil)) pa_nil))))))) (pss_one (ps_ret pe_bl)) pss_nil)))))))))
      (pss_one (ps_ret (pe_and (pe_cmpR op_isU (pe_c c_is_statement hr (Nat.le_refl _) rfl (pa_cons pe_non pa_nil)) pe_bl (nomark _)) (pe_one (pe_cmpR op_isU (pe_c c_is_statement hr (Nat.le_refl _) rfl (pa_cons (pe_tupK K pa_nil) pa_nil)) pe_bl (nomark _))))))), ?_⟩
  walk_at "r"
  rename_i v1 H1 s1 r1
  have hc := cutD_len (ns.map PyData.int) none (some 16)
  rw [List.length_map] at hc
  refine for_R (fun _ σ' H' => Same H H' ∧ ∃ x1 x2 x3 x4 x5, σ' = [some (.ref a), x1, x2, x3, x4, x5]) (by omega) (by omega) ⟨s1, _, _, _, _, _, rfl⟩ ?_ ?_
  · rintro i σ' H2 hi ⟨s2, x1, x2, x3, x4, x5, rfl⟩
    walk_at "r"
    rename_i p H3 s3 hp vp fs gs ms H4 s4 ok rp j0 hj0 hj1 vt t H5 s5 rt ht hdt hst
    have ht' : t.isS fs 2 := ht
    have hft := Th.fineS t ht'
    have hdp := Th.depth_le t
    have f1000 : ∀ {d : PyData}, fine 100 d = true → fine 1000 d = true := fun h => fine_mono (by decide) _ h
    refine use_isSt rt (fine_mono (by decide) _ hft) (by omega) (by omega) fun H6 s6 => ?_
    rw [Th.isSt_S t 72 ht' (by omega) (by omega)]
    walk_at "r"
    rename_i vu u H7 s7 ru hu hdu hsu
    have hu' : u.isT fs 1 := hu
    have hdu' : u.dep ≤ 3 := hdu
    have hdpu := Th.depth_le u
    refine use_right ru (fine_mono (by decide) _ (Th.fineT u hu')) (by omega) fun H8 s8 => ?_
    walk_at "r"
    refine for_R (fun _ σ' H' => Same H8 H' ∧ ∃ x5, σ' = [some (.ref a), some (.int (i : Int)), some (.ref p), some vp, some vt, x5]) (by decide) (by decide) ⟨Same.refl _, _, rfl⟩ ?_ ?_
    · rintro j σ' H9 hj ⟨s9, x5, rfl⟩
      walk_at "r"
      refine use_spoilt (by walk_at "P") (rt.mono (by walk_at "S")) hft (by omega) fun u e H10 s10 ru fe de => ?_
      walk_at "r"
      refine use_right ru (f1000 fe) (by omega) fun H11 s11 => ?_
      walk_at "r"
      rename_i vo o H12 s12 ro fo do_
      refine use_right ro (f1000 fo) (by omega) fun H13 s13 => ?_
      walk_at "r"
      exact ⟨by walk_at "S", _, rfl⟩
    · rintro σ' H9 ⟨s9, x5, rfl⟩
      walk_at "r"
      exact ⟨by walk_at "S", _, _, _, _, _, rfl⟩
  · rintro σ' H2 ⟨s2, x1, x2, x3, x4, x5, rfl⟩
    walk_at "r"
    refine use_isSt .non rfl (by decide) (by decide) fun H3 s3 => ?_
    walk_at "r"
    rename_i v4 H4 s4 r4
    refine use_isSt r4 rfl (by decide) (by decide) fun H5 s5 => ?_
    walk_at "r"
    exact q _
end
theorem all_mk {l : PySem.W.OpenLaw} {w : World} {K : PySem.W.Frag} {h : Heap} {mg : Str → Option Value} {fa : Addr} (X : K.In h) (G : h.Ns mainGlobals mg) (hfa : mg "law" = some (.ref fa))
    {f0 : Addr} {od0 an0 : Option Addr} {sl0 : Array (Option Value)} {oc0 kV0 dc0 pm0 cd0 ct0 : Value}
    (a0 : PySem.W.nsIn K mainGlobals "is_number" = some (some (.ref f0))) (l0 : K.lookup f0 = some ⟨oc0, od0, .func (PySem.W.fnOf "is_number" "is_number" (defArgs s_is_number) (defBody s_is_number) (defScope s_is_number) .none kV0 dc0 pm0 an0 cd0 ct0), sl0⟩) (c0 : PySem.W.codeIn K cd0 "is_number" = true) (k0 : PySem.W.keepIn K (.ref f0) = true)
    {f1 : Addr} {od1 an1 : Option Addr} {sl1 : Array (Option Value)} {oc1 kV1 dc1 pm1 cd1 ct1 : Value}
    (a1 : PySem.W.nsIn K mainGlobals "is_name" = some (some (.ref f1))) (l1 : K.lookup f1 = some ⟨oc1, od1, .func (PySem.W.fnOf "is_name" "is_name" (defArgs s_is_name) (defBody s_is_name) (defScope s_is_name) .none kV1 dc1 pm1 an1 cd1 ct1), sl1⟩) (c1 : PySem.W.codeIn K cd1 "is_name" = true) (k1 : PySem.W.keepIn K (.ref f1) = true)
    {f2 : Addr} {od2 an2 : Option Addr} {sl2 : Array (Option Value)} {oc2 kV2 dc2 pm2 cd2 ct2 : Value}
    (a2 : PySem.W.nsIn K mainGlobals "is_form_name" = some (some (.ref f2))) (l2 : K.lookup f2 = some ⟨oc2, od2, .func (PySem.W.fnOf "is_form_name" "is_form_name" (defArgs s_is_form_name) (defBody s_is_form_name) (defScope s_is_form_name) .none kV2 dc2 pm2 an2 cd2 ct2), sl2⟩) (c2 : PySem.W.codeIn K cd2 "is_form_name" = true) (k2 : PySem.W.keepIn K (.ref f2) = true)
    {f3 : Addr} {od3 an3 : Option Addr} {sl3 : Array (Option Value)} {oc3 kV3 dc3 pm3 cd3 ct3 : Value}
    (a3 : PySem.W.nsIn K mainGlobals "are_args" = some (some (.ref f3))) (l3 : K.lookup f3 = some ⟨oc3, od3, .func (PySem.W.fnOf "are_args" "are_args" (defArgs s_are_args) (defBody s_are_args) (defScope s_are_args) .none kV3 dc3 pm3 an3 cd3 ct3), sl3⟩) (c3 : PySem.W.codeIn K cd3 "are_args" = true) (k3 : PySem.W.keepIn K (.ref f3) = true)
    {f4 : Addr} {od4 an4 : Option Addr} {sl4 : Array (Option Value)} {oc4 kV4 dc4 pm4 cd4 ct4 : Value}
    (a4 : PySem.W.nsIn K mainGlobals "is_term" = some (some (.ref f4))) (l4 : K.lookup f4 = some ⟨oc4, od4, .func (PySem.W.fnOf "is_term" "is_term" (defArgs s_is_term) (defBody s_is_term) (defScope s_is_term) .none kV4 dc4 pm4 an4 cd4 ct4), sl4⟩) (c4 : PySem.W.codeIn K cd4 "is_term" = true) (k4 : PySem.W.keepIn K (.ref f4) = true)
    {f5 : Addr} {od5 an5 : Option Addr} {sl5 : Array (Option Value)} {oc5 kV5 dc5 pm5 cd5 ct5 : Value}
    (a5 : PySem.W.nsIn K mainGlobals "is_statement" = some (some (.ref f5))) (l5 : K.lookup f5 = some ⟨oc5, od5, .func (PySem.W.fnOf "is_statement" "is_statement" (defArgs s_is_statement) (defBody s_is_statement) (defScope s_is_statement) .none kV5 dc5 pm5 an5 cd5 ct5), sl5⟩) (c5 : PySem.W.codeIn K cd5 "is_statement" = true) (k5 : PySem.W.keepIn K (.ref f5) = true)
    {f6 : Addr} {od6 an6 : Option Addr} {sl6 : Array (Option Value)} {oc6 kV6 dc6 pm6 cd6 ct6 : Value}
    (a6 : PySem.W.nsIn K mainGlobals "_law_draw" = some (some (.ref f6))) (l6 : K.lookup f6 = some ⟨oc6, od6, .func (PySem.W.fnOf "_law_draw" "_law_draw" (defArgs s_l_draw) (defBody s_l_draw) (defScope s_l_draw) .none kV6 dc6 pm6 an6 cd6 ct6), sl6⟩) (c6 : PySem.W.codeIn K cd6 "_law_draw" = true) (k6 : PySem.W.keepIn K (.ref f6) = true)
    {f7 : Addr} {od7 an7 : Option Addr} {sl7 : Array (Option Value)} {oc7 kV7 dc7 pm7 cd7 ct7 : Value}
    (a7 : PySem.W.nsIn K mainGlobals "_law_state" = some (some (.ref f7))) (l7 : K.lookup f7 = some ⟨oc7, od7, .func (PySem.W.fnOf "_law_state" "_law_state" (defArgs s_l_state) (defBody s_l_state) (defScope s_l_state) .none kV7 dc7 pm7 an7 cd7 ct7), sl7⟩) (c7 : PySem.W.codeIn K cd7 "_law_state" = true) (k7 : PySem.W.keepIn K (.ref f7) = true)
    {f8 : Addr} {od8 an8 : Option Addr} {sl8 : Array (Option Value)} {oc8 kV8 dc8 pm8 cd8 ct8 : Value}
    (a8 : PySem.W.nsIn K mainGlobals "_law_name" = some (some (.ref f8))) (l8 : K.lookup f8 = some ⟨oc8, od8, .func (PySem.W.fnOf "_law_name" "_law_name" (defArgs s_l_name) (defBody s_l_name) (defScope s_l_name) .none kV8 dc8 pm8 an8 cd8 ct8), sl8⟩) (c8 : PySem.W.codeIn K cd8 "_law_name" = true) (k8 : PySem.W.keepIn K (.ref f8) = true)
    {f9 : Addr} {od9 an9 : Option Addr} {sl9 : Array (Option Value)} {oc9 kV9 dc9 pm9 cd9 ct9 : Value}
    (a9 : PySem.W.nsIn K mainGlobals "_law_form_name" = some (some (.ref f9))) (l9 : K.lookup f9 = some ⟨oc9, od9, .func (PySem.W.fnOf "_law_form_name" "_law_form_name" (defArgs s_l_form_name) (defBody s_l_form_name) (defScope s_l_form_name) .none kV9 dc9 pm9 an9 cd9 ct9), sl9⟩) (c9 : PySem.W.codeIn K cd9 "_law_form_name" = true) (k9 : PySem.W.keepIn K (.ref f9) = true)
    {f10 : Addr} {od10 an10 : Option Addr} {sl10 : Array (Option Value)} {oc10 kV10 dc10 pm10 cd10 ct10 : Value}
    (a10 : PySem.W.nsIn K mainGlobals "_law_pool" = some (some (.ref f10))) (l10 : K.lookup f10 = some ⟨oc10, od10, .func (PySem.W.fnOf "_law_pool" "_law_pool" (defArgs s_l_pool) (defBody s_l_pool) (defScope s_l_pool) .none kV10 dc10 pm10 an10 cd10 ct10), sl10⟩) (c10 : PySem.W.codeIn K cd10 "_law_pool" = true) (k10 : PySem.W.keepIn K (.ref f10) = true)
    {f11 : Addr} {od11 an11 : Option Addr} {sl11 : Array (Option Value)} {oc11 kV11 dc11 pm11 cd11 ct11 : Value}
    (a11 : PySem.W.nsIn K mainGlobals "_law_leaf" = some (some (.ref f11))) (l11 : K.lookup f11 = some ⟨oc11, od11, .func (PySem.W.fnOf "_law_leaf" "_law_leaf" (defArgs s_l_leaf) (defBody s_l_leaf) (defScope s_l_leaf) .none kV11 dc11 pm11 an11 cd11 ct11), sl11⟩) (c11 : PySem.W.codeIn K cd11 "_law_leaf" = true) (k11 : PySem.W.keepIn K (.ref f11) = true)
    {f12 : Addr} {od12 an12 : Option Addr} {sl12 : Array (Option Value)} {oc12 kV12 dc12 pm12 cd12 ct12 : Value}
    (a12 : PySem.W.nsIn K mainGlobals "_law_term" = some (some (.ref f12))) (l12 : K.lookup f12 = some ⟨oc12, od12, .func (PySem.W.fnOf "_law_term" "_law_term" (defArgs s_l_term) (defBody s_l_term) (defScope s_l_term) .none kV12 dc12 pm12 an12 cd12 ct12), sl12⟩) (c12 : PySem.W.codeIn K cd12 "_law_term" = true) (k12 : PySem.W.keepIn K (.ref f12) = true)
    {f13 : Addr} {od13 an13 : Option Addr} {sl13 : Array (Option Value)} {oc13 kV13 dc13 pm13 cd13 ct13 : Value}
    (a13 : PySem.W.nsIn K mainGlobals "_law_told" = some (some (.ref f13))) (l13 : K.lookup f13 = some ⟨oc13, od13, .func (PySem.W.fnOf "_law_told" "_law_told" (defArgs s_l_told) (defBody s_l_told) (defScope s_l_told) .none kV13 dc13 pm13 an13 cd13 ct13), sl13⟩) (c13 : PySem.W.codeIn K cd13 "_law_told" = true) (k13 : PySem.W.keepIn K (.ref f13) = true)
    {f14 : Addr} {od14 an14 : Option Addr} {sl14 : Array (Option Value)} {oc14 kV14 dc14 pm14 cd14 ct14 : Value}
    (a14 : PySem.W.nsIn K mainGlobals "_law_any_told" = some (some (.ref f14))) (l14 : K.lookup f14 = some ⟨oc14, od14, .func (PySem.W.fnOf "_law_any_told" "_law_any_told" (defArgs s_l_any_told) (defBody s_l_any_told) (defScope s_l_any_told) .none kV14 dc14 pm14 an14 cd14 ct14), sl14⟩) (c14 : PySem.W.codeIn K cd14 "_law_any_told" = true) (k14 : PySem.W.keepIn K (.ref f14) = true)
    {f15 : Addr} {od15 an15 : Option Addr} {sl15 : Array (Option Value)} {oc15 kV15 dc15 pm15 cd15 ct15 : Value}
    (a15 : PySem.W.nsIn K mainGlobals "_law_odd" = some (some (.ref f15))) (l15 : K.lookup f15 = some ⟨oc15, od15, .func (PySem.W.fnOf "_law_odd" "_law_odd" (defArgs s_l_odd) (defBody s_l_odd) (defScope s_l_odd) .none kV15 dc15 pm15 an15 cd15 ct15), sl15⟩) (c15 : PySem.W.codeIn K cd15 "_law_odd" = true) (k15 : PySem.W.keepIn K (.ref f15) = true)
    {f16 : Addr} {od16 an16 : Option Addr} {sl16 : Array (Option Value)} {oc16 kV16 dc16 pm16 cd16 ct16 : Value}
    (a16 : PySem.W.nsIn K mainGlobals "_law_spoilt" = some (some (.ref f16))) (l16 : K.lookup f16 = some ⟨oc16, od16, .func (PySem.W.fnOf "_law_spoilt" "_law_spoilt" (defArgs s_l_spoilt) (defBody s_l_spoilt) (defScope s_l_spoilt) .none kV16 dc16 pm16 an16 cd16 ct16), sl16⟩) (c16 : PySem.W.codeIn K cd16 "_law_spoilt" = true) (k16 : PySem.W.keepIn K (.ref f16) = true)
    {f17 : Addr} {od17 an17 : Option Addr} {sl17 : Array (Option Value)} {oc17 kV17 dc17 pm17 cd17 ct17 : Value}
    (a17 : PySem.W.nsIn K mainGlobals "_law_is_named" = some (some (.ref f17))) (l17 : K.lookup f17 = some ⟨oc17, od17, .func (PySem.W.fnOf "_law_is_named" "_law_is_named" (defArgs s_l_is_named) (defBody s_l_is_named) (defScope s_l_is_named) .none kV17 dc17 pm17 an17 cd17 ct17), sl17⟩) (c17 : PySem.W.codeIn K cd17 "_law_is_named" = true) (k17 : PySem.W.keepIn K (.ref f17) = true)
    {f18 : Addr} {od18 an18 : Option Addr} {sl18 : Array (Option Value)} {oc18 kV18 dc18 pm18 cd18 ct18 : Value}
    (a18 : PySem.W.nsIn K mainGlobals "_law_are_args" = some (some (.ref f18))) (l18 : K.lookup f18 = some ⟨oc18, od18, .func (PySem.W.fnOf "_law_are_args" "_law_are_args" (defArgs s_l_are_args) (defBody s_l_are_args) (defScope s_l_are_args) .none kV18 dc18 pm18 an18 cd18 ct18), sl18⟩) (c18 : PySem.W.codeIn K cd18 "_law_are_args" = true) (k18 : PySem.W.keepIn K (.ref f18) = true)
    {f19 : Addr} {od19 an19 : Option Addr} {sl19 : Array (Option Value)} {oc19 kV19 dc19 pm19 cd19 ct19 : Value}
    (a19 : PySem.W.nsIn K mainGlobals "_law_is_term" = some (some (.ref f19))) (l19 : K.lookup f19 = some ⟨oc19, od19, .func (PySem.W.fnOf "_law_is_term" "_law_is_term" (defArgs s_l_is_term) (defBody s_l_is_term) (defScope s_l_is_term) .none kV19 dc19 pm19 an19 cd19 ct19), sl19⟩) (c19 : PySem.W.codeIn K cd19 "_law_is_term" = true) (k19 : PySem.W.keepIn K (.ref f19) = true)
    {f20 : Addr} {od20 an20 : Option Addr} {sl20 : Array (Option Value)} {oc20 kV20 dc20 pm20 cd20 ct20 : Value}
    (a20 : PySem.W.nsIn K mainGlobals "_law_is_told" = some (some (.ref f20))) (l20 : K.lookup f20 = some ⟨oc20, od20, .func (PySem.W.fnOf "_law_is_told" "_law_is_told" (defArgs s_l_is_told) (defBody s_l_is_told) (defScope s_l_is_told) .none kV20 dc20 pm20 an20 cd20 ct20), sl20⟩) (c20 : PySem.W.codeIn K cd20 "_law_is_told" = true) (k20 : PySem.W.keepIn K (.ref f20) = true)
    {f21 : Addr} {od21 an21 : Option Addr} {sl21 : Array (Option Value)} {oc21 kV21 dc21 pm21 cd21 ct21 : Value}
    (a21 : PySem.W.nsIn K mainGlobals "_law_right" = some (some (.ref f21))) (l21 : K.lookup f21 = some ⟨oc21, od21, .func (PySem.W.fnOf "_law_right" "_law_right" (defArgs s_l_right) (defBody s_l_right) (defScope s_l_right) .none kV21 dc21 pm21 an21 cd21 ct21), sl21⟩) (c21 : PySem.W.codeIn K cd21 "_law_right" = true) (k21 : PySem.W.keepIn K (.ref f21) = true)
    {f22 : Addr} {od22 an22 : Option Addr} {sl22 : Array (Option Value)} {oc22 kV22 dc22 pm22 cd22 ct22 : Value}
    (a22 : PySem.W.nsIn K mainGlobals "law" = some (some (.ref f22))) (l22 : K.lookup f22 = some ⟨oc22, od22, .func (PySem.W.fnOf "law" "law" (defArgs s_law) (defBody s_law) (defScope s_law) .none kV22 dc22 pm22 an22 cd22 ct22), sl22⟩) (c22 : PySem.W.codeIn K cd22 "law" = true) (k22 : PySem.W.keepIn K (.ref f22) = true)
    {t_LETTERS t_MOST t_ARGS t0 t1 t2 t3 t4 : Tok} {u0 u1 : Tok} {a_BINDERS : Addr} {d_BINDERS : Option Addr} {n_BINDERS : Nat} {s_BINDERS : Array (Option Value)} {a_KEPT : Addr} {d_KEPT : Option Addr} {n_KEPT : Nat} {s_KEPT : Array (Option Value)}
    (e_LETTERS : PySem.W.nsIn K mainGlobals "LETTERS" = some (some (.str "abcdefghijklmnopqrstuvwxyz" t_LETTERS))) (e_MOST : PySem.W.nsIn K mainGlobals "MOST_LETTERS" = some (some (.int 8 t_MOST))) (e_ARGS : PySem.W.nsIn K mainGlobals "MOST_ARGS" = some (some (.int 4 t_ARGS)))
    (e_KEPT : PySem.W.nsIn K mainGlobals "KEPT" = some (some (.ref a_KEPT))) (o_KEPT : K.lookup a_KEPT = some ⟨.type "tuple", d_KEPT, .seq #[.str "false" t0, .str "all" t1, .str "some" t2, .str "and" t3, .str "or" t4] n_KEPT, s_KEPT⟩)
    (e_BINDERS : PySem.W.nsIn K mainGlobals "BINDERS" = some (some (.ref a_BINDERS))) (o_BINDERS : K.lookup a_BINDERS = some ⟨.type "tuple", d_BINDERS, .seq #[.str "all" u0, .str "some" u1] n_BINDERS, s_BINDERS⟩)
    (z_all : PySem.W.nsIn K mainGlobals "all" = some none)
    (z_bool : PySem.W.nsIn K mainGlobals "bool" = some none)
    (z_enumerate : PySem.W.nsIn K mainGlobals "enumerate" = some none)
    (z_int : PySem.W.nsIn K mainGlobals "int" = some none)
    (z_isinstance : PySem.W.nsIn K mainGlobals "isinstance" = some none)
    (z_len : PySem.W.nsIn K mainGlobals "len" = some none)
    (z_list : PySem.W.nsIn K mainGlobals "list" = some none)
    (z_range : PySem.W.nsIn K mainGlobals "range" = some none)
    (z_str : PySem.W.nsIn K mainGlobals "str" = some none)
    (z_tuple : PySem.W.nsIn K mainGlobals "tuple" = some none)
    : ∃ fd : FuncData, (∀ (s : Shared) (v : Value), BindsTo s fd ⟨[v], []⟩ [("_law_script", v)]) ∧ ∀ base : Heap, K.In base → base.Ns mainGlobals mg → FnOk l.prog w K mg base CX0 200 fa fd ["_law_script"] (spLaw K) := by
  have e := hfa.symm.trans (PySem.W.mg_of X G a22)
  cases e
  have F0 := fun_mk (st := s_is_number) l0 c0 k0
  have D0 : Df K mg "is_number" s_is_number p_is_number := ⟨_, _, F0, PySem.W.mg_of X G a0, F0.binds (ps := p_is_number) fun _ _ _ _ _ _ us hl => match us, hl with | [_], _ => rfl⟩
  have F1 := fun_mk (st := s_is_name) l1 c1 k1
  have D1 : Df K mg "is_name" s_is_name p_is_name := ⟨_, _, F1, PySem.W.mg_of X G a1, F1.binds (ps := p_is_name) fun _ _ _ _ _ _ us hl => match us, hl with | [_], _ => rfl⟩
  have F2 := fun_mk (st := s_is_form_name) l2 c2 k2
  have D2 : Df K mg "is_form_name" s_is_form_name p_is_form_name := ⟨_, _, F2, PySem.W.mg_of X G a2, F2.binds (ps := p_is_form_name) fun _ _ _ _ _ _ us hl => match us, hl with | [_], _ => rfl⟩
  have F3 := fun_mk (st := s_are_args) l3 c3 k3
  have D3 : Df K mg "are_args" s_are_args p_are_args := ⟨_, _, F3, PySem.W.mg_of X G a3, F3.binds (ps := p_are_args) fun _ _ _ _ _ _ us hl => match us, hl with | [_], _ => rfl⟩
  have F4 := fun_mk (st := s_is_term) l4 c4 k4
  have D4 : Df K mg "is_term" s_is_term p_is_term := ⟨_, _, F4, PySem.W.mg_of X G a4, F4.binds (ps := p_is_term) fun _ _ _ _ _ _ us hl => match us, hl with | [_], _ => rfl⟩
  have F5 := fun_mk (st := s_is_statement) l5 c5 k5
  have D5 : Df K mg "is_statement" s_is_statement p_is_statement := ⟨_, _, F5, PySem.W.mg_of X G a5, F5.binds (ps := p_is_statement) fun _ _ _ _ _ _ us hl => match us, hl with | [_], _ => rfl⟩
  have F6 := fun_mk (st := s_l_draw) l6 c6 k6
  have D6 : Df K mg "_law_draw" s_l_draw p_l_draw := ⟨_, _, F6, PySem.W.mg_of X G a6, F6.binds (ps := p_l_draw) fun _ _ _ _ _ _ us hl => match us, hl with | [_, _], _ => rfl⟩
  have F7 := fun_mk (st := s_l_state) l7 c7 k7
  have D7 : Df K mg "_law_state" s_l_state p_l_state := ⟨_, _, F7, PySem.W.mg_of X G a7, F7.binds (ps := p_l_state) fun _ _ _ _ _ _ us hl => match us, hl with | [_, _], _ => rfl⟩
  have F8 := fun_mk (st := s_l_name) l8 c8 k8
  have D8 : Df K mg "_law_name" s_l_name p_l_name := ⟨_, _, F8, PySem.W.mg_of X G a8, F8.binds (ps := p_l_name) fun _ _ _ _ _ _ us hl => match us, hl with | [_], _ => rfl⟩
  have F9 := fun_mk (st := s_l_form_name) l9 c9 k9
  have D9 : Df K mg "_law_form_name" s_l_form_name p_l_form_name := ⟨_, _, F9, PySem.W.mg_of X G a9, F9.binds (ps := p_l_form_name) fun _ _ _ _ _ _ us hl => match us, hl with | [_], _ => rfl⟩
  have F10 := fun_mk (st := s_l_pool) l10 c10 k10
  have D10 : Df K mg "_law_pool" s_l_pool p_l_pool := ⟨_, _, F10, PySem.W.mg_of X G a10, F10.binds (ps := p_l_pool) fun _ _ _ _ _ _ us hl => match us, hl with | [_], _ => rfl⟩
  have F11 := fun_mk (st := s_l_leaf) l11 c11 k11
  have D11 : Df K mg "_law_leaf" s_l_leaf p_l_leaf := ⟨_, _, F11, PySem.W.mg_of X G a11, F11.binds (ps := p_l_leaf) fun _ _ _ _ _ _ us hl => match us, hl with | [_, _, _], _ => rfl⟩
  have F12 := fun_mk (st := s_l_term) l12 c12 k12
  have D12 : Df K mg "_law_term" s_l_term p_l_term := ⟨_, _, F12, PySem.W.mg_of X G a12, F12.binds (ps := p_l_term) fun _ _ _ _ _ _ us hl => match us, hl with | [_, _, _, _], _ => rfl⟩
  have F13 := fun_mk (st := s_l_told) l13 c13 k13
  have D13 : Df K mg "_law_told" s_l_told p_l_told := ⟨_, _, F13, PySem.W.mg_of X G a13, F13.binds (ps := p_l_told) fun _ _ _ _ _ _ us hl => match us, hl with | [_, _, _, _], _ => rfl⟩
  have F14 := fun_mk (st := s_l_any_told) l14 c14 k14
  have D14 : Df K mg "_law_any_told" s_l_any_told p_l_any_told := ⟨_, _, F14, PySem.W.mg_of X G a14, F14.binds (ps := p_l_any_told) fun _ _ _ _ _ _ us hl => match us, hl with | [_, _, _, _], _ => rfl⟩
  have F15 := fun_mk (st := s_l_odd) l15 c15 k15
  have D15 : Df K mg "_law_odd" s_l_odd p_l_odd := ⟨_, _, F15, PySem.W.mg_of X G a15, F15.binds (ps := p_l_odd) fun _ _ _ _ _ _ us hl => match us, hl with | [_], _ => rfl⟩
  have F16 := fun_mk (st := s_l_spoilt) l16 c16 k16
  have D16 : Df K mg "_law_spoilt" s_l_spoilt p_l_spoilt := ⟨_, _, F16, PySem.W.mg_of X G a16, F16.binds (ps := p_l_spoilt) fun _ _ _ _ _ _ us hl => match us, hl with | [_, _], _ => rfl⟩
  have F17 := fun_mk (st := s_l_is_named) l17 c17 k17
  have D17 : Df K mg "_law_is_named" s_l_is_named p_l_is_named := ⟨_, _, F17, PySem.W.mg_of X G a17, F17.binds (ps := p_l_is_named) fun _ _ _ _ _ _ us hl => match us, hl with | [_, _], _ => rfl⟩
  have F18 := fun_mk (st := s_l_are_args) l18 c18 k18
  have D18 : Df K mg "_law_are_args" s_l_are_args p_l_are_args := ⟨_, _, F18, PySem.W.mg_of X G a18, F18.binds (ps := p_l_are_args) fun _ _ _ _ _ _ us hl => match us, hl with | [_], _ => rfl⟩
  have F19 := fun_mk (st := s_l_is_term) l19 c19 k19
  have D19 : Df K mg "_law_is_term" s_l_is_term p_l_is_term := ⟨_, _, F19, PySem.W.mg_of X G a19, F19.binds (ps := p_l_is_term) fun _ _ _ _ _ _ us hl => match us, hl with | [_], _ => rfl⟩
  have F20 := fun_mk (st := s_l_is_told) l20 c20 k20
  have D20 : Df K mg "_law_is_told" s_l_is_told p_l_is_told := ⟨_, _, F20, PySem.W.mg_of X G a20, F20.binds (ps := p_l_is_told) fun _ _ _ _ _ _ us hl => match us, hl with | [_], _ => rfl⟩
  have F21 := fun_mk (st := s_l_right) l21 c21 k21
  have D21 : Df K mg "_law_right" s_l_right p_l_right := ⟨_, _, F21, PySem.W.mg_of X G a21, F21.binds (ps := p_l_right) fun _ _ _ _ _ _ us hl => match us, hl with | [_], _ => rfl⟩
  have F22 := fun_mk (st := s_law) l22 c22 k22
  have D22 : Df K mg "law" s_law p_law := ⟨_, _, F22, PySem.W.mg_of X G a22, F22.binds (ps := p_law) fun _ _ _ _ _ _ us hl => match us, hl with | [_], _ => rfl⟩
  have T : Tp K mg := { d_is_number := D0, d_is_name := D1, d_is_form_name := D2, d_are_args := D3, d_is_term := D4, d_is_statement := D5, d_l_draw := D6, d_l_state := D7, d_l_name := D8, d_l_form_name := D9, d_l_pool := D10, d_l_leaf := D11, d_l_term := D12, d_l_told := D13, d_l_any_told := D14, d_l_odd := D15, d_l_spoilt := D16, d_l_is_named := D17, d_l_are_args := D18, d_l_is_term := D19, d_l_is_told := D20, d_l_right := D21, n_all := PySem.W.mg_none_of X G z_all, n_bool := PySem.W.mg_none_of X G z_bool, n_enumerate := PySem.W.mg_none_of X G z_enumerate, n_int := PySem.W.mg_none_of X G z_int, n_isinstance := PySem.W.mg_none_of X G z_isinstance, n_len := PySem.W.mg_none_of X G z_len, n_list := PySem.W.mg_none_of X G z_list, n_range := PySem.W.mg_none_of X G z_range, n_str := PySem.W.mg_none_of X G z_str, n_tuple := PySem.W.mg_none_of X G z_tuple, g_LETTERS := ⟨_, PySem.W.mg_of X G e_LETTERS, ⟨_, rfl⟩⟩, g_MOST_LETTERS := ⟨_, PySem.W.mg_of X G e_MOST, ⟨_, rfl⟩⟩, g_MOST_ARGS := ⟨_, PySem.W.mg_of X G e_ARGS, ⟨_, rfl⟩⟩, g_KEPT := ⟨a_KEPT, ⟨_, PySem.W.mg_of X G e_KEPT, rfl⟩, fun H => .tup (xs := [.str "false", .str "all", .str "some", .str "and", .str "or"]) (.inr ⟨_, _, _, o_KEPT, rfl, rfl, by show 5 ≤ sizeLine; decide, .cons ⟨_, rfl⟩ (.cons ⟨_, rfl⟩ (.cons ⟨_, rfl⟩ (.cons ⟨_, rfl⟩ (.cons ⟨_, rfl⟩ .nil))))⟩) (.cons (.str _) (.cons (.str _) (.cons (.str _) (.cons (.str _) (.cons (.str _) .nil)))))⟩, g_BINDERS := ⟨a_BINDERS, ⟨_, PySem.W.mg_of X G e_BINDERS, rfl⟩, fun H => .tup (xs := [.str "all", .str "some"]) (.inr ⟨_, _, _, o_BINDERS, rfl, rfl, by show 2 ≤ sizeLine; decide, .cons ⟨_, rfl⟩ (.cons ⟨_, rfl⟩ .nil)⟩) (.cons (.str _) (.cons (.str _) .nil))⟩ }
  exact ⟨PySem.W.fnOf "law" "law" (defArgs s_law) (defBody s_law) (defScope s_law) .none kV22 dc22 pm22 an22 cd22 ct22, fun s v => .of_eq rfl, fun base _ _ => ok_law F22 T⟩

theorem walk {l : PySem.W.OpenLaw} {q : Program} {loose : List Str} {XP : (Str → Option Value) → Heap → Prop} {YP : World → Heap → Prop} {d : DefRec} {K : Params → PySem.W.Frag} (hn : l.most = some 63) (hdf : d.params.defaults = [])
    (hY : ∀ (w : World) (h : Heap), YP w h → (K w.params).In h)
    (F : ∀ (w : World) (mg : Str → Option Value) (fa : Addr) (h : Heap), (K w.params).In h → h.Ns mainGlobals mg → mg d.name = some (.ref fa) →
      ∃ fd : FuncData, (∀ (s : Shared) (u : Value), BindsTo s fd ⟨[u], []⟩ [("_law_script", u)]) ∧ ∀ base : Heap, (K w.params).In base → base.Ns mainGlobals mg → FnOk l.prog w (K w.params) mg base CX0 200 fa fd ["_law_script"] (spLaw (K w.params))) :
    PySem.W.WalkO q loose XP YP l.row.toRowW d [] (fun f vs => PySem.call f vs) :=
  L2.walk_of (n := 63) (k := 200) (x := "_law_script") (CX := fun _ => CX0) (sp := fun w => spLaw (K w.params)) hn (by decide) hdf ⟨rfl, by decide, by decide⟩ hY F (fun _ _ a ns hl _ hS => ⟨a, ns, rfl, hS, hl, fun _ => rfl⟩) fun _ _ _ _ _ z => z
end G
open PySem PySem.W PyProof.Rows
set_option maxRecDepth 100000 in
set_option maxHeartbeats 0 in
theorem PySem.Challenge.cw_tacticwright_k03_statements_known_holds : PySem.Challenge.rw_tacticwright_k03_statements_known.Holds := by
  w_on; o_law; k_head; (case hw => w_witness2)
  k_fill
  refine G.walk (l := PySem.Challenge.rw_tacticwright_k03_statements_known) rfl rfl (fun w h Y => PySem.W.kIn_of Y) ?F
  case F =>
    intro w mg fa h KX HG hmg
    refine' G.all_mk KX HG hmg ?a0 ?l0 ?c0 ?k0 ?a1 ?l1 ?c1 ?k1 ?a2 ?l2 ?c2 ?k2 ?a3 ?l3 ?c3 ?k3 ?a4 ?l4 ?c4 ?k4 ?a5 ?l5 ?c5 ?k5 ?a6 ?l6 ?c6 ?k6 ?a7 ?l7 ?c7 ?k7 ?a8 ?l8 ?c8 ?k8 ?a9 ?l9 ?c9 ?k9 ?a10 ?l10 ?c10 ?k10 ?a11 ?l11 ?c11 ?k11 ?a12 ?l12 ?c12 ?k12 ?a13 ?l13 ?c13 ?k13 ?a14 ?l14 ?c14 ?k14 ?a15 ?l15 ?c15 ?k15 ?a16 ?l16 ?c16 ?k16 ?a17 ?l17 ?c17 ?k17 ?a18 ?l18 ?c18 ?k18 ?a19 ?l19 ?c19 ?k19 ?a20 ?l20 ?c20 ?k20 ?a21 ?l21 ?c21 ?k21 ?a22 ?l22 ?c22 ?k22 ?e_LETTERS ?e_MOST ?e_ARGS ?e_KEPT ?o_KEPT ?e_BINDERS ?o_BINDERS ?z_all ?z_bool ?z_enumerate ?z_int ?z_isinstance ?z_len ?z_list ?z_range ?z_str ?z_tuple
    (case a0 => k_is)
    (case l0 => k_is)
    (case c0 => k_is)
    (case k0 => k_is)
    (case a1 => k_is)
    (case l1 => k_is)
    (case c1 => k_is)
    (case k1 => k_is)
    (case a2 => k_is)
    (case l2 => k_is)
    (case c2 => k_is)
    (case k2 => k_is)
    (case a3 => k_is)
    (case l3 => k_is)
    (case c3 => k_is)
    (case k3 => k_is)
    (case a4 => k_is)
    (case l4 => k_is)
    (case c4 => k_is)
    (case k4 => k_is)
    (case a5 => k_is)
    (case l5 => k_is)
    (case c5 => k_is)
    (case k5 => k_is)
    (case a6 => k_is)
    (case l6 => k_is)
    (case c6 => k_is)
    (case k6 => k_is)
    (case a7 => k_is)
    (case l7 => k_is)
    (case c7 => k_is)
    (case k7 => k_is)
    (case a8 => k_is)
    (case l8 => k_is)
    (case c8 => k_is)
    (case k8 => k_is)
    (case a9 => k_is)
    (case l9 => k_is)
    (case c9 => k_is)
    (case k9 => k_is)
    (case a10 => k_is)
    (case l10 => k_is)
    (case c10 => k_is)
    (case k10 => k_is)
    (case a11 => k_is)
    (case l11 => k_is)
    (case c11 => k_is)
    (case k11 => k_is)
    (case a12 => k_is)
    (case l12 => k_is)
    (case c12 => k_is)
    (case k12 => k_is)
    (case a13 => k_is)
    (case l13 => k_is)
    (case c13 => k_is)
    (case k13 => k_is)
    (case a14 => k_is)
    (case l14 => k_is)
    (case c14 => k_is)
    (case k14 => k_is)
    (case a15 => k_is)
    (case l15 => k_is)
    (case c15 => k_is)
    (case k15 => k_is)
    (case a16 => k_is)
    (case l16 => k_is)
    (case c16 => k_is)
    (case k16 => k_is)
    (case a17 => k_is)
    (case l17 => k_is)
    (case c17 => k_is)
    (case k17 => k_is)
    (case a18 => k_is)
    (case l18 => k_is)
    (case c18 => k_is)
    (case k18 => k_is)
    (case a19 => k_is)
    (case l19 => k_is)
    (case c19 => k_is)
    (case k19 => k_is)
    (case a20 => k_is)
    (case l20 => k_is)
    (case c20 => k_is)
    (case k20 => k_is)
    (case a21 => k_is)
    (case l21 => k_is)
    (case c21 => k_is)
    (case k21 => k_is)
    (case a22 => k_is)
    (case l22 => k_is)
    (case c22 => k_is)
    (case k22 => k_is)
    (case e_LETTERS => k_is)
    (case e_MOST => k_is)
    (case e_ARGS => k_is)
    (case e_KEPT => k_is)
    (case o_KEPT => k_is)
    (case e_BINDERS => k_is)
    (case o_BINDERS => k_is)
    (case z_all => k_is)
    (case z_bool => k_is)
    (case z_enumerate => k_is)
    (case z_int => k_is)
    (case z_isinstance => k_is)
    (case z_len => k_is)
    (case z_list => k_is)
    (case z_range => k_is)
    (case z_str => k_is)
    (case z_tuple => k_is)

