import PyProof.Rows.All
import Wide.All
import OpenK.AllK
import Wide.FinOn
import HandS.ForMost
import HandS.IsInst
import HandS.Flow
import HandS.Walk
import HandS.TupAny
import HandS.Conv
import HandS.Steps
import HandS.Style
import PyProof.NeData
import KE.GoesMore
import HandS.Small
import HandS.More
import HandS.TryOnly
import HandS.RevRange
import HandS.Replace
import HandS.Exc
import HandS.Zip
import KE.GoesEnum
import HandS.ClsMeth
import PySem.Challenge.RW_tacticwright_k21_steps_found
set_option Elab.async false
set_option linter.all false
set_option maxRecDepth 100000
set_option maxHeartbeats 4000000
namespace G
open PySem PySem.Spec PyProof.Rows L2

/-! ### data and what stands for it -/
mutual
inductive R (K : PySem.W.Frag) (H : Hp) : V → PyData → Prop
  | non : R K H .non .none
  | bl (b : Bool) : R K H (.bl b) (.bool b)
  | int (i : Int) : R K H (.int i) (.int i)
  | str (x : Str) : R K H (.str x) (.str x)
  | lst {a : Addr} {xs : List V} {ds : List PyData} : H a = some (.lst xs) → RA K H xs ds → R K H (.ref a) (.list ds)
  | tup {a : Addr} {xs : List V} {ds : List PyData} : SqT K H a xs → RA K H xs ds → R K H (.ref a) (.tuple ds)
  | dct {a : Addr} {kvs : List (Key × V)} : H a = some (.dK kvs) → R K H (.ref a) (.dict [])
inductive RA (K : PySem.W.Frag) (H : Hp) : List V → List PyData → Prop
  | nil : RA K H [] []
  | cons {v : V} {vs : List V} {d : PyData} {ds : List PyData} : R K H v d → RA K H vs ds → RA K H (v :: vs) (d :: ds)
end
section
variable {K : PySem.W.Frag} {H H' : Hp}
theorem _root_.L2.Same.tup {a : Addr} {xs : List V} (e : Same H H') (h : SqT K H a xs) : SqT K H' a xs := by
  rcases h with (h | ⟨o, h⟩) | h
  · exact .inl (.inl (e _ _ h))
  · exact .inl (.inr ⟨o, e _ _ h⟩)
  · exact .inr h
mutual
theorem R.mono (e : Same H H') : ∀ {v : V} {d : PyData}, R K H v d → R K H' v d
  | _, _, .non => .non
  | _, _, .bl b => .bl b
  | _, _, .int i => .int i
  | _, _, .str x => .str x
  | _, _, .lst h r => .lst (e _ _ h) (RA.mono e r)
  | _, _, .tup h r => .tup (e.tup h) (RA.mono e r)
  | _, _, .dct h => .dct (e _ _ h)
theorem RA.mono (e : Same H H') : ∀ {vs : List V} {ds : List PyData}, RA K H vs ds → RA K H' vs ds
  | _, _, .nil => .nil
  | _, _, .cons h r => .cons (R.mono e h) (RA.mono e r)
end
theorem RA.length : ∀ {vs : List V} {ds : List PyData}, RA K H vs ds → vs.length = ds.length
  | _, _, .nil => rfl
  | _, _, .cons _ r => by simp [RA.length r]
theorem RA.get : ∀ {vs : List V} {ds : List PyData} {i : Nat} {d : PyData}, RA K H vs ds → ds[i]? = some d → ∃ v, vs[i]? = some v ∧ R K H v d
  | _, _, i, _, .nil, e => by simp at e
  | _, _, 0, _, .cons h _, e => by simp at e; subst e; exact ⟨_, rfl, h⟩
  | _, _, i + 1, _, .cons _ r, e => by
    obtain ⟨v, h1, h2⟩ := RA.get (i := i) r (by simpa using e)
    exact ⟨v, by simpa using h1, h2⟩
theorem RA.getV : ∀ {vs : List V} {ds : List PyData} {i : Nat} {v : V}, RA K H vs ds → vs[i]? = some v → ∃ d, ds[i]? = some d ∧ R K H v d
  | _, _, i, _, .nil, e => by simp at e
  | _, _, 0, _, .cons h _, e => by simp at e; subst e; exact ⟨_, rfl, h⟩
  | _, _, i + 1, _, .cons _ r, e => by
    obtain ⟨v, h1, h2⟩ := RA.getV (i := i) r (by simpa using e)
    exact ⟨v, by simpa using h1, h2⟩
theorem RA.append : ∀ {vs ws : List V} {ds es : List PyData}, RA K H vs ds → RA K H ws es → RA K H (vs ++ ws) (ds ++ es)
  | _, _, _, _, .nil, s => s
  | _, _, _, _, .cons h r, s => .cons h (RA.append r s)
theorem RA.drop : ∀ (n : Nat) {vs : List V} {ds : List PyData}, RA K H vs ds → RA K H (vs.drop n) (ds.drop n)
  | 0, _, _, r => r
  | _ + 1, _, _, .nil => .nil
  | n + 1, _, _, .cons _ r => RA.drop n r
theorem RA.take : ∀ (n : Nat) {vs : List V} {ds : List PyData}, RA K H vs ds → RA K H (vs.take n) (ds.take n)
  | 0, _, _, _ => .nil
  | _ + 1, _, _, .nil => .nil
  | n + 1, _, _, .cons h r => .cons h (RA.take n r)
theorem RA.bools : ∀ {vs : List V} {bs : List Bool}, RA K H vs (bs.map PyData.bool) → vs = bs.map V.bl
  | _, [], .nil => rfl
  | _, _ :: _, .cons h r => by cases h; rw [RA.bools r]; rfl
theorem RA.ints : ∀ {vs : List V} {bs : List Int}, RA K H vs (bs.map PyData.int) → vs = bs.map V.int
  | _, [], .nil => rfl
  | _, _ :: _, .cons h r => by cases h; rw [RA.ints r]; rfl
theorem RA.strs : ∀ {vs : List V} {bs : List Str}, RA K H vs (bs.map PyData.str) → vs = bs.map V.str
  | _, [], .nil => rfl
  | _, _ :: _, .cons h r => by cases h; rw [RA.strs r]; rfl
theorem R.inv_str {v : V} {x : Str} (h : R K H v (.str x)) : v = .str x := by cases h; rfl
theorem R.inv_int {v : V} {x : Int} (h : R K H v (.int x)) : v = .int x := by cases h; rfl
theorem R.inv_bl {v : V} {x : Bool} (h : R K H v (.bool x)) : v = .bl x := by cases h; rfl
theorem R.inv_non {v : V} (h : R K H v .none) : v = .non := by cases h; rfl
theorem R.inv_tup {v : V} {ds : List PyData} (h : R K H v (.tuple ds)) : ∃ a xs, v = .ref a ∧ SqT K H a xs ∧ RA K H xs ds := by cases h; exact ⟨_, _, rfl, ‹_›, ‹_›⟩
theorem R.inv_lst {v : V} {ds : List PyData} (h : R K H v (.list ds)) : ∃ a xs, v = .ref a ∧ H a = some (.lst xs) ∧ RA K H xs ds := by cases h; exact ⟨_, _, rfl, ‹_›, ‹_›⟩
theorem RA.inv_cons {vs : List V} {d : PyData} {ds : List PyData} (h : RA K H vs (d :: ds)) : ∃ v ws, vs = v :: ws ∧ R K H v d ∧ RA K H ws ds := by cases h; exact ⟨_, _, rfl, ‹_›, ‹_›⟩
theorem RA.inv_nil {vs : List V} (h : RA K H vs []) : vs = [] := by cases h; rfl
/-- a new object -/
theorem same_new {p : Addr} (h : H p = none) (o : HO) : Same H (upd H p o) := fun b u q => by rw [upd_ne (ne_of_none q h)]; exact q
mutual
theorem R.dp : ∀ {v : V} {d : PyData}, R K H v d → d.canLay0 = true → Dp K H v d
  | _, _, .non, _ => .non
  | _, _, .bl b, _ => .bl b
  | _, _, .int i, _ => .int i
  | _, _, .str x, _ => .str x
  | _, _, .lst h r, c => .lst (.inl (.inl h)) (RA.dp r (by simpa [PyData.canLay0] using c))
  | _, _, .tup h r, c => .tup h (RA.dp r (by simpa [PyData.canLay0] using c))
  | _, _, .dct h, c => by simp [PyData.canLay0] at c
theorem RA.dp : ∀ {vs : List V} {ds : List PyData}, RA K H vs ds → PyData.canLayAll0 ds = true → DpAll K H vs ds
  | _, _, .nil, _ => .nil
  | _, _, .cons h r, c => by
    simp only [PyData.canLayAll0, Bool.and_eq_true] at c
    exact .cons (R.dp h c.1) (RA.dp r c.2)
end
end

/-! ### calls of defs -/
structure Cal (P : Program) (w : World) (K : PySem.W.Frag) (mg : Str → Option Value) (base : Heap) (k : Nat) (x : Str) (sp : Sp) : Prop where
  ex : ∃ (f : Addr) (fd : FuncData) (ps : List Str), FnOk P w K mg base CX0 k f fd ps sp ∧ mg x = some (.ref f) ∧ PySem.W.keepIn K (.ref f) = true ∧ Binds K fd ps []
structure Df (K : PySem.W.Frag) (mg : Str → Option Value) (x : Str) (st : Stmt) (ps : List Str) : Prop where
  ex : ∃ f fd, Fun K x x st f fd ∧ mg x = some (.ref f) ∧ Binds K fd ps []
section
variable {X : Cx}
theorem pe_c {j k : Nat} {x : Str} {sp : Sp} {e : Expr} {es : List Expr} {t : TA} {p pos : Pos} (c : Cal X.prog X.w X.K X.mg X.base k x sp) (hr : Room j X.A) (hk : k ≤ j) (hg : Gl X x) (ha : PA X (e :: es) t)
    (hdb : (x == ("__debug__" : Str)) = false := by decide) (he : starEach (e :: es) X.env = (false, eval e X.env) :: starEach es X.env := by rfl) (hpl : (backTo pos (starEach es X.env)).any (·.1) = false := by rfl) :
    PE X (.Call (.Name x p) (e :: es) [] pos) (tCall sp [] E0 t) := by
  obtain ⟨f, fd, ps, F, hm, kp, b⟩ := c.ex
  exact pe_call F (hr.mono hk) hg hm kp b .nil pass0 ha hdb he hpl
theorem Df.cal {P : Program} {w : World} {K : PySem.W.Frag} {mg : Str → Option Value} {base : Heap} {x : Str} {st : Stmt} {N ps : List Str} {k : Nat} {sp : Sp} (D : Df K mg x st ps) (S : FnScope N ps (defScope st)) (len : ∀ vs H Q E, sp vs H Q E → vs.length = ps.length)
    (hbody : ∀ (f : Addr) (cdv : Value) (A : Around) (outer : List Env) (s : Shared) (H : Hp) (vs : List V) (Q : VK) (E : XK), Room k (A.deeper (envOfC x (defScope st) s.heap.objs.size f cdv)) → sp vs H Q E →
      ∃ t, PSs (cxOf CX0 P w K mg base N x (defScope st) f cdv A outer s H E).nox (defBody st) t ∧ t { nx := fun _ H' => Q .non H', rt := Q } (start N vs) H) : Cal P w K mg base (k + 1) x sp := by
  obtain ⟨f, fd, F, hm, b⟩ := D.ex
  exact ⟨f, fd, ps, F.ok S len (hbody f), hm, F.kp, b⟩
theorem Cal.mono {P : Program} {w : World} {K : PySem.W.Frag} {mg : Str → Option Value} {base : Heap} {k : Nat} {x : Str} {sp sp' : Sp} (c : Cal P w K mg base k x sp) (h : ∀ vs H Q E, sp' vs H Q E → sp vs H Q E) : Cal P w K mg base k x sp' := by
  obtain ⟨f, fd, ps, F, hm, kp, b⟩ := c.ex
  exact ⟨f, fd, ps, ⟨fun vs H Q E q => F.1 vs H Q E (h vs H Q E q), fun A outer s H args us vs Q E a1 a2 a3 a4 q => F.2 A outer s H args us vs Q E a1 a2 a3 a4 (h vs H Q E q)⟩, hm, kp, b⟩

/-! ### redescribing a thing -/
theorem redesc {pins : List (Addr × Obj)} {σ : L2.St} {H : Hp} {s : Shared} {d : Addr} {u o : HO} (I : Inv X pins σ H s) (h : H d = some u) (mu : Mut (some u)) (new : ObjOk X.prog X.w (upd H d o) s.heap d o) : Inv X pins σ (upd H d o) s :=
  I.write (x := d) (e := d) (t' := s.toks) (h' := s.heap) (by rw [h]; exact mu) (.inl rfl) (fun b v _ q => q) (by
    have x := I.hok d u h
    cases u with
    | lst xs => obtain ⟨_, _, _, _, e⟩ := x; exact ⟨_, e⟩
    | dK kvs => obtain ⟨_, _, _, _, o, _, _, e, _⟩ := x; exact ⟨o, e⟩
    | dT kvs => obtain ⟨_, _, _, _, o, _, _, e, _⟩ := x; exact ⟨o, e⟩
    | set S n => obtain ⟨o, _, _, _, e, _⟩ := x; exact ⟨o, e⟩
    | ins C dx fs => obtain ⟨_, _, _, e, _⟩ := x; exact ⟨_, e⟩
    | ext φ => obtain ⟨_, ⟨_, e⟩, _⟩ := x; exact ⟨_, e⟩
    | _ => exact False.elim mu) new
end
/-! ### the state: a list of two ints, told by no more -/
def StP (p : Addr) (h : Heap) : Prop := ∃ (a b : Int) (t u : Tok) (n : Nat), h.get? p = some { cls := .type "list", data := .seq #[.int a t, .int b u] n }
def Stt (p : Addr) : HO := .ext (StP p)
theorem st_open {X : Cx} {pins : List (Addr × Obj)} {σ : L2.St} {H : Hp} {s : Shared} {p : Addr} (I : Inv X pins σ H s) (h : H p = some (Stt p)) : ∃ a b : Int, Inv X pins σ (upd H p (.lst [.int a, .int b])) s := by
  obtain ⟨⟨a, b, t, u, n, e⟩, _, _⟩ := I.hok p _ h
  refine ⟨a, b, redesc I h True.intro ?_⟩
  exact ⟨by show 2 ≤ sizeLine; decide, [.int a t, .int b u], n, .cons ⟨_, rfl⟩ (.cons ⟨_, rfl⟩ .nil), e⟩
theorem st_close {X : Cx} {pins : List (Addr × Obj)} {σ : L2.St} {H : Hp} {s : Shared} {p : Addr} {a b : Int} (I : Inv X pins σ H s) (h : H p = some (.lst [.int a, .int b])) : Inv X pins σ (upd H p (Stt p)) s := by
  obtain ⟨_, its, n, r, e⟩ := I.hok p _ h
  refine redesc I h True.intro ?_
  have z : StP p s.heap := by
    cases r with
    | cons r1 r =>
      cases r with
      | cons r2 r =>
        cases r
        obtain ⟨t, rfl⟩ := r1
        obtain ⟨u, rfl⟩ := r2
        exact ⟨a, b, t, u, n, e⟩
  exact ⟨z, ⟨_, e⟩, fun h1 h2 ⟨a, b, t, u, n, e⟩ k => ⟨a, b, t, u, n, k _ e⟩⟩
/-- a block that has the state's two ints open -/
def tOpen (t : TS) : TS := fun D σ H => ∃ p, H p = some (Stt p) ∧ ∀ a b : Int,
  t ⟨fun σ' H' => ∃ a b : Int, H' p = some (.lst [.int a, .int b]) ∧ D.nx σ' (upd H' p (Stt p)), fun v H' => ∃ a b : Int, H' p = some (.lst [.int a, .int b]) ∧ D.rt v (upd H' p (Stt p)), fun _ _ => False, fun _ _ => False⟩ σ (upd H p (.lst [.int a, .int b]))
theorem pss_open {X : Cx} {st : List Stmt} {t : TS} (h : PSs X st t) : PSs X st (tOpen t) := by
  refine ⟨fun pins s σ H D I hw => ?_⟩
  obtain ⟨p, hp, hw⟩ := hw
  obtain ⟨a, b, I1⟩ := st_open I hp
  refine thn (h.run pins s σ _ _ I1 (hw a b)) fun f s1 q => ?_
  cases f with
  | next => obtain ⟨σ', H', I2, a, b, e, q⟩ := q; exact ⟨σ', _, st_close I2 e, q⟩
  | brk => obtain ⟨σ', H', I2, q⟩ := q; exact q.elim
  | cont => obtain ⟨σ', H', I2, q⟩ := q; exact q.elim
  | ret v => obtain ⟨x, σ', H', I2, r, a, b, e, q⟩ := q; exact ⟨x, σ', _, st_close I2 e, r, q⟩
/-- a block that hands back a new list of two ints: told as a state -/
def tShut (t : TS) : TS := fun D σ H => t { D with rt := fun v H' => ∃ (p : Addr) (a b : Int), v = .ref p ∧ H' p = some (.lst [.int a, .int b]) ∧ D.rt v (upd H' p (Stt p)) } σ H
theorem pss_shut {X : Cx} {st : List Stmt} {t : TS} (h : PSs X st t) : PSs X st (tShut t) := by
  refine ⟨fun pins s σ H D I hw => ?_⟩
  refine thn (h.run pins s σ _ _ I hw) fun f s1 q => ?_
  cases f with
  | next => exact q
  | brk => exact q
  | cont => exact q
  | ret v => obtain ⟨x, σ', H', I2, r, p, a, b, e1, e, q⟩ := q; exact ⟨x, σ', _, st_close I2 e, r, q⟩
end G

namespace G
open PySem PySem.Spec PyProof.Rows L2

theorem big_le {n : Nat} (h : n ≤ 1000000) : n ≤ sizeLine := Nat.le_trans h (by decide)

def NewT (_K : PySem.W.Frag) (xs : List V) (H : Hp) (Q : VK) : Prop := xs.length ≤ sizeLine ∧ ∀ p, H p = none → Q (.ref p) (upd H p (.tup xs))
def NewL (_K : PySem.W.Frag) (xs : List V) (H : Hp) (Q : VK) : Prop := xs.length ≤ sizeLine ∧ ∀ p, H p = none → Q (.ref p) (upd H p (.lst xs))
def tTupK (_K : PySem.W.Frag) (t : TA) : TE := tTup t
def tLstK (_K : PySem.W.Frag) (t : TA) : TE := tLst t
theorem pe_tupK (K : PySem.W.Frag) {X : Cx} {es : List Expr} {t : TA} {pos : Pos} {x1 : Nat} (h : PA X es t) : PE X (.Tuple es x1 pos) (tTupK K t) := pe_tup h
theorem pe_lstK (K : PySem.W.Frag) {X : Cx} {es : List Expr} {t : TA} {pos : Pos} (h : PA X es t) : PE X (.List es pos) (tLstK K t) := pe_lst h
/-! ### control: what a reading asks next -/
section
variable {K : PySem.W.Frag} {σ : L2.St} {H : Hp} {nx : L2.St → Hp → Prop} {rt : VK} {bk ct : L2.St → Hp → Prop} {t u : TS} {te ta tb : TE} {c d : TT} {Q : VK} {QB : Bool → Hp → Prop} {v : V} {i : Nat}
theorem st_seq (h : t ⟨fun σ H => u ⟨nx, rt, bk, ct⟩ σ H, rt, bk, ct⟩ σ H) : tSeq t u ⟨nx, rt, bk, ct⟩ σ H := h
theorem st_next (h : nx σ H) : tNext ⟨nx, rt, bk, ct⟩ σ H := h
theorem st_break (h : bk σ H) : tBreak ⟨nx, rt, bk, ct⟩ σ H := h
theorem st_cont (h : ct σ H) : tCont ⟨nx, rt, bk, ct⟩ σ H := h
theorem st_drop (h : te σ H fun _ H1 => nx σ H1) : tDrop te ⟨nx, rt, bk, ct⟩ σ H := h
theorem st_ret (h : te σ H rt) : tRet te ⟨nx, rt, bk, ct⟩ σ H := h
theorem st_retN (h : rt .non H) : tRetN ⟨nx, rt, bk, ct⟩ σ H := h
theorem st_if (h : c σ H fun b H1 => if b = true then t ⟨nx, rt, bk, ct⟩ σ H1 else u ⟨nx, rt, bk, ct⟩ σ H1) : tIfS c t u ⟨nx, rt, bk, ct⟩ σ H := h
theorem st_set (h : te σ H fun x H1 => nx (σ.set i (some x)) H1) : tAsg te (gName i) ⟨nx, rt, bk, ct⟩ σ H := h
theorem st_var (hv : σ[i]? = some (some v)) (h : Q v H) : tVar i σ H Q := ⟨v, hv, h⟩
theorem st_c (h : Q v H) : tC v σ H Q := h
theorem st_tB (h : te σ H fun x H1 => ∃ k, x = .bl k ∧ QB k H1) : tB te σ H QB := h
theorem st_tTest (h : te σ H fun x H1 => ∃ k, x = .bl k ∧ QB k H1) : tTest te σ H QB := h
theorem st_bl {b : Bool} {P : Bool → Prop} (h : P b) : ∃ k, V.bl b = .bl k ∧ P k := ⟨b, rfl, h⟩
theorem st_and (h : c σ H fun b H1 => if b = true then d σ H1 QB else QB false H1) : tAnd c d σ H QB := h
theorem st_or (h : c σ H fun b H1 => if b = true then QB true H1 else d σ H1 QB) : tOr c d σ H QB := h
theorem st_not (h : c σ H fun b H1 => QB (!b) H1) : tNot c σ H QB := h
theorem st_andV (h : ta σ H fun x H1 => ∃ k, x = .bl k ∧ if k = true then tb σ H1 Q else Q (.bl false) H1) : tAndV ta tb σ H Q := h
theorem st_orV (h : ta σ H fun x H1 => ∃ k, x = .bl k ∧ if k = true then Q (.bl true) H1 else tb σ H1 Q) : tOrV ta tb σ H Q := h
theorem st_notV (h : ta σ H fun x H1 => ∃ k, x = .bl k ∧ Q (.bl (!k)) H1) : tNotV ta σ H Q := h
theorem st_tIf (h : c σ H fun b H1 => if b = true then ta σ H1 Q else tb σ H1 Q) : tIf c ta tb σ H Q := h
theorem st_op {r : R2} (h : ta σ H fun x H1 => tb σ H1 fun y H2 => r x y H2 Q) : tOp r ta tb σ H Q := h
theorem st_un {r : V → Hp → VK → Prop} (h : ta σ H fun x H1 => r x H1 Q) : tUn r ta σ H Q := h
theorem st_chain {r r' : R2} {tc : TE} (h : ta σ H fun x H1 => tb σ H1 fun y H2 => r x y H2 fun z H3 => ∃ k, z = .bl k ∧ if k = true then tc σ H3 fun w H4 => r' y w H4 Q else Q (.bl false) H3) : tChain r r' ta tb tc σ H Q := by
  unfold tChain
  exact h
theorem st_nil {QA : List V → Hp → Prop} (h : QA [] H) : tNil σ H QA := h
theorem st_cons {QA : List V → Hp → Prop} {tr : TA} (h : te σ H fun x H1 => tr σ H1 fun xs H2 => QA (x :: xs) H2) : tCons te tr σ H QA := h
theorem st_call {sp : Sp} {E : XK} {a : TA} (h : a σ H fun vs H1 => sp vs H1 Q E) : tCall sp [] E a σ H Q := by
  unfold tCall
  simp only [List.append_nil]
  exact h
theorem st_CB {r : List V → Hp → VK → Prop} {a : TA} (h : a σ H fun vs H1 => r vs H1 Q) : tCB r a σ H Q := h
theorem st_ite {b : Bool} {A B : Prop} (h1 : b = true → A) (h2 : b = false → B) : if b = true then A else B := by
  cases b with
  | true => rw [if_pos rfl]; exact h1 rfl
  | false => rw [if_neg Bool.false_ne_true]; exact h2 rfl
theorem st_slice {r : V → Option Int → Option Int → Hp → VK → Prop} {tl th : TO} (h : te σ H fun x H1 => tl σ H1 fun l H2 => th σ H2 fun u H3 => r x l u H3 Q) : tSl r te tl th σ H Q := h
theorem st_noPart {QO : Option Int → Hp → Prop} (h : QO none H) : tNoPart σ H QO := h
theorem st_part {QO : Option Int → Hp → Prop} (h : te σ H fun x H1 => ∃ i, x = .int i ∧ QO (some i) H1) : tPart te σ H QO := h
theorem st_exInt {P : Int → Prop} {j : Int} (h : P j) : ∃ i, V.int j = .int i ∧ P i := ⟨j, rfl, h⟩
/-- a new tuple | list -/
theorem st_tup {a : TA} (h : a σ H fun xs H1 => NewT K xs H1 Q) : tTupK K a σ H Q := h
theorem st_lst {a : TA} (h : a σ H fun xs H1 => NewL K xs H1 Q) : tLstK K a σ H Q := h
theorem st_newT {xs : List V} {ds : List PyData} (r : RA K H xs ds) (hl : xs.length ≤ 1000000) (h : ∀ v H', Same H H' → R K H' v (.tuple ds) → Q v H') : NewT K xs H Q :=
  ⟨big_le hl, fun p hp => h _ _ (same_new hp _) (.tup (.inl (.inl upd_same)) (r.mono (same_new hp _)))⟩
theorem st_newL {xs : List V} {ds : List PyData} (r : RA K H xs ds) (hl : xs.length ≤ 1000000) (h : ∀ v H', Same H H' → R K H' v (.list ds) → Q v H') : NewL K xs H Q :=
  ⟨big_le hl, fun p hp => h _ _ (same_new hp _) (.lst upd_same (r.mono (same_new hp _)))⟩
end

/-! ### operators, by what they are given -/
section
variable {X : Cx}
abbrev rI2 (g : Int → Int → V) : R2 := rI0 g
def rAddS2 : R2 := fun x y H Q => ∃ i j, x = .str i ∧ y = .str j ∧ i.length + j.length ≤ sizeLine ∧ Q (.str (i ++ j)) H
def rAddU (K : PySem.W.Frag) : R2 := fun x y H Q => rI0 (fun i j => .int (i + j)) x y H Q ∨ rAddS2 x y H Q ∨ rCat x y H Q ∨ rCatA K x y H Q
theorem op_addU : OpR X (binaryOp .Add) (rAddU X.K) := OpR.or op_add (OpR.or op_add_str (OpR.or op_cat op_catA))
def rEqX (K : PySem.W.Frag) : R2 := fun x y H Q => ∃ d e, Dp K H x d ∧ Dp K H y e ∧ d.canLay0 = true ∧ e.canLay0 = true ∧ min d.depth e.depth ≤ 190 ∧ Q (.bl (PyData.eqv d e)) H
def rNeX (K : PySem.W.Frag) : R2 := fun x y H Q => ∃ d e, Dp K H x d ∧ Dp K H y e ∧ d.canLay0 = true ∧ e.canLay0 = true ∧ min d.depth e.depth ≤ 190 ∧ Q (.bl (!PyData.eqv d e)) H
theorem op_eqX {k : Nat} (hr : Room k X.A) : OpR X (compareOp .Eq) (rEqX X.K) := by
  intro pins s σ H x y v u Q I rx ry h
  obtain ⟨d, e, hd, he, sd, se, hm, q⟩ := h
  obtain ⟨as, r1⟩ := Dp.reads I d x v hd rx
  obtain ⟨bs, r2⟩ := Dp.reads I e y u he ry
  exact SeqAt.compareEq_reads r1 r2 sd se (by have := hr.un; omega) ⟨.bl _, H, I, rfl, q⟩
theorem op_neX {k : Nat} (hr : Room k X.A) : OpR X (compareOp .NotEq) (rNeX X.K) := by
  intro pins s σ H x y v u Q I rx ry h
  obtain ⟨d, e, hd, he, sd, se, hm, q⟩ := h
  obtain ⟨as, r1⟩ := Dp.reads I d x v hd rx
  obtain ⟨bs, r2⟩ := Dp.reads I e y u he ry
  exact SeqAt.compareNe_reads r1 r2 sd se (by have := hr.un; omega) ⟨.bl _, H, I, rfl, q⟩
def rEqU (K : PySem.W.Frag) : R2 := fun x y H Q => rEq x y H Q ∨ rEqX K x y H Q
def rNeU (K : PySem.W.Frag) : R2 := fun x y H Q => rNe x y H Q ∨ rNeX K x y H Q
theorem op_eqU {k : Nat} (hr : Room k X.A) : OpR X (compareOp .Eq) (rEqU X.K) := OpR.or op_eq (op_eqX hr)
theorem op_neU {k : Nat} (hr : Room k X.A) : OpR X (compareOp .NotEq) (rNeU X.K) := OpR.or op_ne (op_neX hr)
def rIsU : R2 := fun x y H Q => rIsN x y H Q ∨ rIsB x y H Q
def rNisU : R2 := fun x y H Q => rNotN x y H Q ∨ rNotB x y H Q
theorem op_isU : OpR X (compareOp .Is) rIsU := OpR.or op_isN1 op_isBl
theorem op_nisU : OpR X (compareOp .IsNot) rNisU := OpR.or op_notN1 op_notBl
def rInU (K : PySem.W.Frag) : R2 := fun x y H Q => rInS x y H Q ∨ rIn K false x y H Q
def rNinU (K : PySem.W.Frag) : R2 := fun x y H Q => rNotInS x y H Q ∨ rIn K true x y H Q
theorem op_inU : OpR X (compareOp .In) (rInU X.K) := OpR.or op_inS op_in_seq
theorem op_ninU : OpR X (compareOp .NotIn) (rNinU X.K) := OpR.or op_notInS op_notIn_seq
def rSlU (K : PySem.W.Frag) : V → Option Int → Option Int → Hp → VK → Prop := fun x lo hi H Q => rSlS x lo hi H Q ∨ rSlL K x lo hi H Q ∨ rSlA K x lo hi H Q
theorem sl_U : SlR X (rSlU X.K) := SlR.or sl_str (SlR.or sl_list sl_tupA)
end

/-! ### what they give, by data -/
def inS (w : Str) : List PyData → Bool
  | [] => false
  | .str z :: ds => decide (z = w) || inS w ds
  | _ :: ds => inS w ds
def allS : List PyData → Bool
  | [] => true
  | .str _ :: ds => allS ds
  | _ :: _ => false
def inI (w : Int) : List PyData → Bool
  | [] => false
  | .int z :: ds => decide (z = w) || inI w ds
  | _ :: ds => inI w ds
def allI : List PyData → Bool
  | [] => true
  | .int _ :: ds => allI ds
  | _ :: _ => false
def isNone : PyData → Bool
  | .none => true
  | _ => false
def cutD (xs : List PyData) (lo hi : Option Int) : List PyData := (xs.drop (HT.sIx xs.length 0 lo)).take (HT.sIx xs.length xs.length hi - HT.sIx xs.length 0 lo)
section
variable {K : PySem.W.Frag} {σ : L2.St} {H : Hp} {Q : VK} {x y : V}
theorem add_int {i j : Int} (h : Q (.int (i + j)) H) : rAddU K (.int i) (.int j) H Q := .inl ⟨i, j, rfl, rfl, h⟩
theorem add_str {i j : Str} (hl : i.length + j.length ≤ 1000000) (h : Q (.str (i ++ j)) H) : rAddU K (.str i) (.str j) H Q := .inr (.inl ⟨i, j, rfl, rfl, big_le hl, h⟩)
theorem add_lst {ds es : List PyData} (r : R K H x (.list ds)) (s : R K H y (.list es)) (hl : ds.length + es.length ≤ 1000000) (h : ∀ v H', Same H H' → R K H' v (.list (ds ++ es)) → Q v H') : rAddU K x y H Q := by
  obtain ⟨a, xs, rfl, ha, ra⟩ := r.inv_lst
  obtain ⟨b, ys, rfl, hb, rb⟩ := s.inv_lst
  refine .inr (.inr (.inl ⟨a, b, xs, ys, rfl, rfl, ha, hb, big_le (by rw [ra.length, rb.length]; exact hl), fun p hp => ?_⟩))
  exact h _ _ (same_new hp _) (.lst upd_same ((ra.append rb).mono (same_new hp _)))
theorem add_tup {ds es : List PyData} (r : R K H x (.tuple ds)) (s : R K H y (.tuple es)) (hl : ds.length + es.length ≤ 1000000) (h : ∀ v H', Same H H' → R K H' v (.tuple (ds ++ es)) → Q v H') : rAddU K x y H Q := by
  obtain ⟨a, xs, rfl, ha, ra⟩ := r.inv_tup
  obtain ⟨b, ys, rfl, hb, rb⟩ := s.inv_tup
  refine .inr (.inr (.inr ⟨a, b, xs, ys, rfl, rfl, ha, hb, big_le (by rw [ra.length, rb.length]; exact hl), fun e => ?_, fun e1 e2 => ?_, fun e1 e2 p hp => ?_⟩))
  · subst e
    cases ra
    exact h _ _ (Same.refl _) (.tup hb rb)
  · subst e2
    cases rb
    exact h _ _ (Same.refl _) (by rw [List.append_nil]; exact .tup ha ra)
  · exact h _ _ (same_new hp _) (.tup (.inl (.inl upd_same)) ((ra.append rb).mono (same_new hp _)))
theorem i0 {g : Int → Int → V} {i j : Int} (h : Q (g i j) H) : rI0 g (.int i) (.int j) H Q := ⟨i, j, rfl, rfl, h⟩
theorem iC {C : Int → Int → Prop} {g : Int → Int → V} {i j : Int} (hc : C i j) (h : Q (g i j) H) : rI C g (.int i) (.int j) H Q := ⟨i, j, rfl, rfl, hc, h⟩
theorem eq_str {i j : Str} (h : Q (.bl (decide (i = j))) H) : rEqU K (.str i) (.str j) H Q := .inl ⟨rfl, by
  have e : decide (V.str i = V.str j) = decide (i = j) := by simp
  rw [e]; exact h⟩
theorem eq_int {i j : Int} (h : Q (.bl (decide (i = j))) H) : rEqU K (.int i) (.int j) H Q := .inl ⟨rfl, by
  have e : decide (V.int i = V.int j) = decide (i = j) := by simp
  rw [e]; exact h⟩
theorem eq_bl {i j : Bool} (h : Q (.bl (i == j)) H) : rEqU K (.bl i) (.bl j) H Q := .inl ⟨rfl, by
  have e : decide (V.bl i = V.bl j) = (i == j) := by cases i <;> cases j <;> rfl
  rw [e]; exact h⟩
theorem ne_str {i j : Str} (h : Q (.bl (!decide (i = j))) H) : rNeU K (.str i) (.str j) H Q := .inl ⟨rfl, by
  have e : decide (V.str i = V.str j) = decide (i = j) := by simp
  rw [e]; exact h⟩
theorem ne_int {i j : Int} (h : Q (.bl (!decide (i = j))) H) : rNeU K (.int i) (.int j) H Q := .inl ⟨rfl, by
  have e : decide (V.int i = V.int j) = decide (i = j) := by simp
  rw [e]; exact h⟩
theorem eq_R {d e : PyData} (r : R K H x d) (s : R K H y e) (c : d.canLay0 = true) (c' : e.canLay0 = true) (hm : min d.depth e.depth ≤ 190) (h : Q (.bl (PyData.eqv d e)) H) : rEqU K x y H Q := .inr ⟨d, e, r.dp c, s.dp c', c, c', hm, h⟩
theorem ne_R {d e : PyData} (r : R K H x d) (s : R K H y e) (c : d.canLay0 = true) (c' : e.canLay0 = true) (hm : min d.depth e.depth ≤ 190) (h : Q (.bl (!PyData.eqv d e)) H) : rNeU K x y H Q := .inr ⟨d, e, r.dp c, s.dp c', c, c', hm, h⟩
theorem is_none {d : PyData} (r : R K H x d) (h : Q (.bl (isNone d)) H) : rIsU x .non H Q := .inl ⟨rfl, by
  have e : decide (x = V.non) = isNone d := by cases r <;> simp [isNone]
  rw [e]; exact h⟩
theorem isnt_none {d : PyData} (r : R K H x d) (h : Q (.bl (!isNone d)) H) : rNisU x .non H Q := .inl ⟨rfl, by
  have e : decide (x = V.non) = isNone d := by cases r <;> simp [isNone]
  rw [e]; exact h⟩
theorem is_bl {a b : Bool} (h : Q (.bl (a == b)) H) : rIsU (.bl a) (.bl b) H Q := .inr ⟨a, b, rfl, rfl, by
  have e : decide (a = b) = (a == b) := by cases a <;> cases b <;> rfl
  rw [e]; exact h⟩
theorem isnt_bl {a b : Bool} (h : Q (.bl (!(a == b))) H) : rNisU (.bl a) (.bl b) H Q := .inr ⟨a, b, rfl, rfl, by
  have e : decide (a = b) = (a == b) := by cases a <;> cases b <;> rfl
  rw [e]; exact h⟩
theorem in_sign {c : Nat} {z : Str} (h : Q (.bl (decide (c ∈ z.cps.toList))) H) : rInU K (.str ⟨#[c]⟩) (.str z) H Q := .inl ⟨c, z, rfl, rfl, h⟩
theorem nin_sign {c : Nat} {z : Str} (h : Q (.bl (!decide (c ∈ z.cps.toList))) H) : rNinU K (.str ⟨#[c]⟩) (.str z) H Q := .inl ⟨c, z, rfl, rfl, h⟩
theorem flat_S : ∀ {xs : List V} {ds : List PyData}, RA K H xs ds → allS ds = true → xs.all flatV = true ∧ ∀ w, inV (.str w) xs = inS w ds
  | _, [], .nil, _ => ⟨rfl, fun _ => rfl⟩
  | _, .str z :: ds, .cons h r, c => by
    have e := h.inv_str
    subst e
    obtain ⟨q1, q2⟩ := flat_S r c
    refine ⟨by simpa [flatV] using q1, fun w => ?_⟩
    show (eqV (.str z) (.str w) || inV (.str w) _) = (decide (z = w) || inS w ds)
    rw [q2]
    congr 1
  | _, .none :: _, _, c => by simp [allS] at c
  | _, .bool _ :: _, _, c => by simp [allS] at c
  | _, .int _ :: _, _, c => by simp [allS] at c
  | _, .list _ :: _, _, c => by simp [allS] at c
  | _, .tuple _ :: _, _, c => by simp [allS] at c
  | _, .dict _ :: _, _, c => by simp [allS] at c
theorem flat_I : ∀ {xs : List V} {ds : List PyData}, RA K H xs ds → allI ds = true → xs.all flatV = true ∧ ∀ w, inV (.int w) xs = inI w ds
  | _, [], .nil, _ => ⟨rfl, fun _ => rfl⟩
  | _, .int z :: ds, .cons h r, c => by
    have e := h.inv_int
    subst e
    obtain ⟨q1, q2⟩ := flat_I r c
    refine ⟨by simpa [flatV] using q1, fun w => ?_⟩
    show (eqV (.int z) (.int w) || inV (.int w) _) = (decide (z = w) || inI w ds)
    rw [q2]
    congr 1
  | _, .none :: _, _, c => by simp [allI] at c
  | _, .bool _ :: _, _, c => by simp [allI] at c
  | _, .str _ :: _, _, c => by simp [allI] at c
  | _, .list _ :: _, _, c => by simp [allI] at c
  | _, .tuple _ :: _, _, c => by simp [allI] at c
  | _, .dict _ :: _, _, c => by simp [allI] at c
theorem in_strsT {w : Str} {ds : List PyData} (r : R K H y (.tuple ds)) (c : allS ds = true) (h : Q (.bl (inS w ds)) H) : rInU K (.str w) y H Q := by
  obtain ⟨a, xs, rfl, ha, ra⟩ := r.inv_tup
  obtain ⟨q1, q2⟩ := flat_S ra c
  exact .inr ⟨a, xs, rfl, .inr ha, rfl, q1, by rw [if_neg Bool.false_ne_true, q2]; exact h⟩
theorem nin_strsT {w : Str} {ds : List PyData} (r : R K H y (.tuple ds)) (c : allS ds = true) (h : Q (.bl (!inS w ds)) H) : rNinU K (.str w) y H Q := by
  obtain ⟨a, xs, rfl, ha, ra⟩ := r.inv_tup
  obtain ⟨q1, q2⟩ := flat_S ra c
  exact .inr ⟨a, xs, rfl, .inr ha, rfl, q1, by rw [if_pos rfl, q2]; exact h⟩
theorem in_strsL {w : Str} {ds : List PyData} (r : R K H y (.list ds)) (c : allS ds = true) (h : Q (.bl (inS w ds)) H) : rInU K (.str w) y H Q := by
  obtain ⟨a, xs, rfl, ha, ra⟩ := r.inv_lst
  obtain ⟨q1, q2⟩ := flat_S ra c
  exact .inr ⟨a, xs, rfl, .inl (.inl (.inl ha)), rfl, q1, by rw [if_neg Bool.false_ne_true, q2]; exact h⟩
theorem nin_strsL {w : Str} {ds : List PyData} (r : R K H y (.list ds)) (c : allS ds = true) (h : Q (.bl (!inS w ds)) H) : rNinU K (.str w) y H Q := by
  obtain ⟨a, xs, rfl, ha, ra⟩ := r.inv_lst
  obtain ⟨q1, q2⟩ := flat_S ra c
  exact .inr ⟨a, xs, rfl, .inl (.inl (.inl ha)), rfl, q1, by rw [if_pos rfl, q2]; exact h⟩
theorem in_intsT {w : Int} {ds : List PyData} (r : R K H y (.tuple ds)) (c : allI ds = true) (h : Q (.bl (inI w ds)) H) : rInU K (.int w) y H Q := by
  obtain ⟨a, xs, rfl, ha, ra⟩ := r.inv_tup
  obtain ⟨q1, q2⟩ := flat_I ra c
  exact .inr ⟨a, xs, rfl, .inr ha, rfl, q1, by rw [if_neg Bool.false_ne_true, q2]; exact h⟩
theorem nin_intsT {w : Int} {ds : List PyData} (r : R K H y (.tuple ds)) (c : allI ds = true) (h : Q (.bl (!inI w ds)) H) : rNinU K (.int w) y H Q := by
  obtain ⟨a, xs, rfl, ha, ra⟩ := r.inv_tup
  obtain ⟨q1, q2⟩ := flat_I ra c
  exact .inr ⟨a, xs, rfl, .inr ha, rfl, q1, by rw [if_pos rfl, q2]; exact h⟩
theorem atI_pos {α : Type} {xs : List α} {i : Int} {v : α} (h0 : 0 ≤ i) (h : xs[i.toNat]? = some v) : atI xs i = some v := by
  have e := atI_nat h
  rwa [show ((i.toNat : Nat) : Int) = i by omega] at e
theorem ix_tupR {ds : List PyData} {i : Int} {d : PyData} (r : R K H x (.tuple ds)) (h0 : 0 ≤ i) (hd : ds[i.toNat]? = some d) (h : ∀ v, R K H v d → Q v H) : rIx K x (.int i) H Q := by
  obtain ⟨a, xs, rfl, ha, ra⟩ := r.inv_tup
  obtain ⟨v, e, rv⟩ := ra.get hd
  exact .inr (.inl ⟨a, xs, i, v, rfl, rfl, ha, atI_pos h0 e, h v rv⟩)
theorem ix_lstR {ds : List PyData} {i : Int} {d : PyData} (r : R K H x (.list ds)) (h0 : 0 ≤ i) (hd : ds[i.toNat]? = some d) (h : ∀ v, R K H v d → Q v H) : rIx K x (.int i) H Q := by
  obtain ⟨a, xs, rfl, ha, ra⟩ := r.inv_lst
  obtain ⟨v, e, rv⟩ := ra.get hd
  exact .inl ⟨a, xs, i, v, rfl, rfl, .inl (.inl ha), atI_pos h0 e, h v rv⟩
/-- any of them -/
theorem ix_tupM {ds : List PyData} {i : Int} (r : R K H x (.tuple ds)) (h0 : 0 ≤ i) (h1 : i < (ds.length : Int)) (h : ∀ v d, d ∈ ds → R K H v d → Q v H) : rIx K x (.int i) H Q :=
  ix_tupR r h0 (List.getElem?_eq_getElem (by omega)) fun v rv => h v _ (List.getElem_mem (by omega)) rv
theorem ix_lstM {ds : List PyData} {i : Int} (r : R K H x (.list ds)) (h0 : 0 ≤ i) (h1 : i < (ds.length : Int)) (h : ∀ v d, d ∈ ds → R K H v d → Q v H) : rIx K x (.int i) H Q :=
  ix_lstR r h0 (List.getElem?_eq_getElem (by omega)) fun v rv => h v _ (List.getElem_mem (by omega)) rv
theorem ix_strR {z : Str} {i : Int} {c : Nat} (hl : z.length ≤ 1000000) (h0 : 0 ≤ i) (hc : z.cps.toList[i.toNat]? = some c) (h : Q (.str ⟨#[c]⟩) H) : rIx K (.str z) (.int i) H Q :=
  .inr (.inr ⟨z, i, c, rfl, rfl, big_le hl, atI_pos h0 hc, h⟩)
theorem ix_strM {z : Str} {i : Int} (hl : z.length ≤ 1000000) (h0 : 0 ≤ i) (h1 : i < (z.length : Int)) (h : ∀ c, c ∈ z.cps.toList → Q (.str ⟨#[c]⟩) H) : rIx K (.str z) (.int i) H Q := by
  have e : z.length = z.cps.toList.length := by simp [Str.length]
  have hi : i.toNat < z.cps.toList.length := by omega
  exact ix_strR hl h0 (List.getElem?_eq_getElem hi) (h _ (List.getElem_mem hi))
theorem cut_RA {xs : List V} {ds : List PyData} (r : RA K H xs ds) (lo hi : Option Int) : RA K H (cutV xs lo hi) (cutD ds lo hi) := by
  unfold cutV cutD
  rw [r.length]
  exact (r.drop _).take _
theorem sl_strR {z : Str} {lo hi : Option Int} (hl : z.length ≤ 1000000) (h : Q (.str (cutS z lo hi)) H) : rSlU K (.str z) lo hi H Q := .inl ⟨z, rfl, big_le hl, h⟩
theorem sl_lstR {ds : List PyData} {lo hi : Option Int} (r : R K H x (.list ds)) (h : ∀ v H', Same H H' → R K H' v (.list (cutD ds lo hi)) → Q v H') : rSlU K x lo hi H Q := by
  obtain ⟨a, xs, rfl, ha, ra⟩ := r.inv_lst
  exact .inr (.inl ⟨a, xs, rfl, .inl (.inl ha), fun p hp => h _ _ (same_new hp _) (.lst upd_same ((cut_RA ra lo hi).mono (same_new hp _)))⟩)
theorem cutV_whole {xs : List V} {lo hi : Option Int} (h : HT.sIx xs.length 0 lo = 0 ∧ HT.sIx xs.length xs.length hi = xs.length) : cutV xs lo hi = xs := by
  unfold cutV
  rw [h.1, h.2]
  simp
theorem sl_tupR {ds : List PyData} {lo hi : Option Int} (r : R K H x (.tuple ds)) (h : ∀ v H', Same H H' → R K H' v (.tuple (cutD ds lo hi)) → Q v H') : rSlU K x lo hi H Q := by
  obtain ⟨a, xs, rfl, ha, ra⟩ := r.inv_tup
  refine .inr (.inr ⟨a, xs, rfl, ha, fun e => ?_, fun e p hp => ?_⟩)
  · have q := cut_RA ra lo hi
    rw [cutV_whole e] at q
    exact h _ _ (Same.refl _) (.tup ha q)
  · exact h _ _ (same_new hp _) (.tup (.inl (.inl upd_same)) ((cut_RA ra lo hi).mono (same_new hp _)))
end
end G

namespace G
open PySem PySem.Spec PyProof.Rows L2

/-! ### a list that is put aside while an expression runs -/
def hide (H : Hp) (d : Addr) : Hp := fun b => if b = d then none else H b
theorem hide_same {H : Hp} {d : Addr} : hide H d d = none := by unfold hide; rw [if_pos rfl]
theorem hide_ne {H : Hp} {b d : Addr} (h : b ≠ d) : hide H d b = H b := by unfold hide; rw [if_neg h]
theorem hide_upd {H : Hp} {d : Addr} {o : HO} (h : H d = none) : hide (upd H d o) d = H := by
  funext b
  by_cases e : b = d
  · rw [e, hide_same, h]
  · rw [hide_ne e, upd_ne e]
section
variable {X : Cx} {pins : List (Addr × Obj)} {σ : L2.St} {H : Hp} {s : Shared} {d : Addr} {xs : List V}
theorem inv_hide (I : Inv X pins σ H s) (h : H d = some (.lst xs)) : ∃ ob, s.heap.get? d = some ob ∧ Inv X ((d, ob) :: pins) σ (hide H d) s := by
  obtain ⟨hz, its, n, r, e⟩ := I.hok d _ h
  have nof : d ∉ X.fs := fun hb => by
    have h0 := I.ok.frf d hb
    obtain ⟨_, o, ho, _⟩ := I.ok.funs.mem hb
    have q := I.base.free d o ho h0 (fun hx => I.ok.exfs d hx hb)
    rw [h] at q; cases q
  have neN : ∀ b, H b = none → b ≠ d := fun b e z => by rw [z, h] at e; cases e
  refine ⟨_, e, ⟨I.ok, I.os, I.bare, ⟨I.base.keep, I.base.slot, fun b o e n hx => ?_, I.base.there, fun b ys e => ?_, fun b o x e => ?_, fun b ps e => ?_⟩, I.loc, I.cell, ?_, fun x c e => ?_, fun p hp => ?_, fun b o q => ?_, I.len⟩⟩
  · rw [hide_ne (neN b (I.base.free b o e n hx))]; exact I.base.free b o e n hx
  · have q := I.base.tups b ys e
    rw [hide_ne (fun z => by rw [z, h] at q; cases q)]; exact q
  · have q := I.base.frzs b o x e
    rw [hide_ne (fun z => by rw [z, h] at q; cases q)]; exact q
  · obtain ⟨m, q⟩ := I.base.tbls b ps e
    exact ⟨m, by rw [hide_ne (fun z => by rw [z, h] at q; cases q)]; exact q⟩
  · rw [hide_ne (neN _ I.free)]; exact I.free
  · rw [hide_ne (neN c (I.freeC x c e))]; exact I.freeC x c e
  · have hp' : p = (d, { cls := Value.type "list", data := Data.seq its.toArray n }) ∨ p ∈ X.pn ++ pins := by
      simp only [List.mem_append, List.mem_cons] at hp ⊢
      rcases hp with hp | hp | hp
      · exact .inr (.inl hp)
      · exact .inl hp
      · exact .inr (.inr hp)
    rcases hp' with hp' | hp'
    · rw [hp']
      exact ⟨e, hide_same, fun z => neN _ I.free z.symm, nof, fun v z => by cases z⟩
    · obtain ⟨e, n, q⟩ := I.pin p hp'
      exact ⟨e, by rw [hide_ne (neN _ n)]; exact n, q⟩
  · by_cases hb : b = d
    · rw [hb, hide_same] at q; cases q
    · rw [hide_ne hb] at q
      refine (I.hok b o q).stay (fun c v _ q => q) (fun c q => ?_) fun c ys q => ?_
      · rw [hide_ne (fun z => by rw [z, h] at q; cases q)]; exact q
      · rw [hide_ne (fun z => by rw [z, h] at q; cases q)]; exact q
theorem inv_show {σ' : L2.St} {H' : Hp} {s' : Shared} {ob : Obj} (I : Inv X pins σ H s) (h : H d = some (.lst xs)) (e : s.heap.get? d = some ob) (J : Inv X ((d, ob) :: pins) σ' H' s') : H' d = none ∧ Inv X pins σ' (upd H' d (.lst xs)) s' := by
  obtain ⟨e', n', nl, nf, nc⟩ := J.pin (d, ob) (by simp)
  refine ⟨n', ?_⟩
  have neN : ∀ b, H b = none → b ≠ d := fun b e z => by rw [z, h] at e; cases e
  have neS : ∀ b o, H' b = some o → b ≠ d := fun b o e z => by rw [z] at e; rw [show H' d = none from n'] at e; cases e
  refine ⟨J.ok, J.os, J.bare, ⟨J.base.keep, J.base.slot, fun b o e n hx => ?_, J.base.there, fun b ys e => ?_, fun b o x e => ?_, fun b ps e => ?_⟩, J.loc, J.cell, ?_, fun x c e => ?_, fun p hp => ?_, fun b o q => ?_, J.len⟩
  · rw [upd_ne (neN b (I.base.free b o e n hx))]; exact J.base.free b o e n hx
  · have q := J.base.tups b ys e
    rw [upd_ne (neS _ _ q)]; exact q
  · have q := J.base.frzs b o x e
    rw [upd_ne (neS _ _ q)]; exact q
  · obtain ⟨m, q⟩ := J.base.tbls b ps e
    exact ⟨m, by rw [upd_ne (neS _ _ q)]; exact q⟩
  · rw [upd_ne (fun z => nl z.symm)]; exact J.free
  · rw [upd_ne (neN c (I.freeC x c (by exact e)))]; exact J.freeC x c e
  · obtain ⟨e, n, q⟩ := J.pin p (by simp only [List.mem_append, List.mem_cons] at hp ⊢; rcases hp with hp | hp; exact .inl hp; exact .inr (.inr hp))
    have n0 := (I.pin p hp).2.1
    exact ⟨e, by rw [upd_ne (neN _ n0)]; exact n, q⟩
  · by_cases hb : b = d
    · rw [hb, upd_same] at q
      cases q
      rw [hb]
      obtain ⟨hz, its, n, r, e2⟩ := I.hok d _ h
      have z : ob = _ := Option.some.inj (e.symm.trans e2)
      exact ⟨hz, its, n, r, by rw [← z]; exact e'⟩
    · rw [upd_ne hb] at q
      refine (J.hok b o q).stay (fun c v _ q => q) (fun c q => ?_) fun c ys q => ?_
      · rw [upd_ne (neS _ _ q)]; exact q
      · rw [upd_ne (neS _ _ q)]; exact q
def tHide (t : TE) : TE := fun σ H Q => ∃ D xs, H D = some (.lst xs) ∧ t σ (hide H D) fun v H' => H' D = none → Q v (upd H' D (.lst xs))
theorem pe_hide {e : Expr} {t : TE} (h : PE X e t) : PE X e (tHide t) := by
  refine ⟨fun pins s σ H Q I hw => ?_⟩
  obtain ⟨d, xs, hd, hw⟩ := hw
  obtain ⟨ob, e1, I1⟩ := inv_hide I hd
  refine thn (h.run _ s σ _ _ I1 hw) fun v s1 ⟨x, H1, I2, r, q⟩ => ?_
  obtain ⟨n, I3⟩ := inv_show I hd e1 I2
  exact ⟨x, _, I3, r, q n⟩
end

/-! ### list comprehensions over anything that walks; the list that grows is put aside at each turn -/
section
variable {K : PySem.W.Frag} {J : It} {n : Nat} {G : Hp → Prop} {Y : Nat → Hp → V → Hp → Prop} {te : TE} {vs : List Nat} {σ : L2.St} {H : Hp} {Q : VK} {j : Nat}
theorem lc_gen (w : L2.Walk J n G Y) (It : Nat → V → Prop) (hY : ∀ i H x H', Y i H x H' → H' = H ∧ It i x) (hG : ∀ H', Same H H' → G H') (hn : n ≤ 1000000) (hw : ∀ x, wipe ((wipe σ vs).set j (some x)) vs = wipe σ vs)
    (P : Nat → PyData → Prop)
    (he : ∀ i x H1, i < n → It i x → Same H H1 → ∀ Qt : VK, (∀ y H2 e, Same H1 H2 → R K H2 y e → P i e → Qt y H2) → te ((wipe σ vs).set j (some x)) H1 Qt)
    (hq : ∀ v H1 es, Same H H1 → R K H1 v (.list es) → es.length = n → (∀ i e, es[i]? = some e → P i e) → Q v H1) :
    ∀ D, H D = none → ∃ W : Nat → Nat → Hp → Prop, (∃ m, W 0 m (upd H D (.lst []))) ∧ ∀ i m H, W i m H →
      (J.stop i H ∧ Q (.ref D) H) ∨ (J.go i H ∧ ∃ Nx : Hp → Prop, (∀ H', Nx H' → ∃ m', m' < m ∧ W (i + 1) m' H') ∧ ∀ x H', J.yld i H x H' → gName j x (wipe σ vs) H' fun σ2 H2 => wipe σ2 vs = wipe σ vs ∧ tYes σ2 H2 fun b H3 =>
        if b = true then (tHide te) σ2 H3 fun y H4 => ∃ acc, H4 D = some (.lst acc) ∧ acc.length < sizeLine ∧ Nx (upd H4 D (.lst (acc ++ [y]))) else Nx H3) := by
  intro D hD
  let Pv : Nat → Hp → Prop := fun i H' => ∃ Hb xs es, H' = upd Hb D (.lst xs) ∧ Hb D = none ∧ Same H Hb ∧ RA K Hb xs es ∧ es.length = i ∧ ∀ i e, es[i]? = some e → P i e
  refine L2.lc_it w Pv ?_ ?_ ?_ ?_
  · exact ⟨H, [], [], rfl, hD, Same.refl _, .nil, rfl, fun i e h => by simp at h⟩
  · rintro i H' hi ⟨Hb, xs, es, rfl, hb, sm, _⟩
    exact hG _ (sm.trans (same_new hb _))
  · rintro i x H' H'' hi ⟨Hb, xs, es, rfl, hb, sm, ra, hl, hP⟩ y
    obtain ⟨rfl, hit⟩ := hY _ _ _ _ y
    refine ⟨hw x, ?_⟩
    unfold tYes
    dsimp only
    rw [if_pos rfl]
    refine ⟨D, xs, upd_same, ?_⟩
    rw [hide_upd hb]
    have hxl : xs.length = i := by rw [ra.length, hl]
    refine he i x Hb hi hit sm _ fun y H2 e s2 re pe n2 => ⟨xs, upd_same, ?_, ?_⟩
    · exact Nat.lt_of_le_of_lt (by omega : xs.length ≤ 1000000) (by decide)
    · rw [upd_upd]
      refine ⟨H2, xs ++ [y], es ++ [e], rfl, n2, sm.trans s2, (ra.mono s2).append (.cons re .nil), by simp [hl], fun i' e' h' => ?_⟩
      rw [List.getElem?_append] at h'
      split at h'
      · exact hP _ _ h'
      · have h1 : i' - es.length = 0 := by
          rcases Nat.eq_zero_or_pos (i' - es.length) with z | z
          · exact z
          · rw [List.getElem?_eq_none (by simp; omega)] at h'; cases h'
        rw [h1] at h'
        simp at h'
        have h2 : i' = i := by omega
        rw [h2, ← h']
        exact pe
  · rintro H' ⟨Hb, xs, es, rfl, hb, sm, ra, hl, hP⟩
    exact hq _ _ es (sm.trans (same_new hb _)) (.lst upd_same (ra.mono (same_new hb _))) hl hP
/-- the same over the four things that are walked; l is what the iter's expression gives -/
def LcG (J : It) (j : Nat) (te : TE) (vs : List Nat) (σ : L2.St) (H : Hp) (Q : VK) : Prop :=
    ∀ D, H D = none → ∃ W : Nat → Nat → Hp → Prop, (∃ m, W 0 m (upd H D (.lst []))) ∧ ∀ i m H, W i m H →
      (J.stop i H ∧ Q (.ref D) H) ∨ (J.go i H ∧ ∃ Nx : Hp → Prop, (∀ H', Nx H' → ∃ m', m' < m ∧ W (i + 1) m' H') ∧ ∀ x H', J.yld i H x H' → gName j x (wipe σ vs) H' fun σ2 H2 => wipe σ2 vs = wipe σ vs ∧ tYes σ2 H2 fun b H3 =>
        if b = true then (tHide te) σ2 H3 fun y H4 => ∃ acc, H4 D = some (.lst acc) ∧ acc.length < sizeLine ∧ Nx (upd H4 D (.lst (acc ++ [y]))) else Nx H3)
def LcL (K : PySem.W.Frag) (j : Nat) (te : TE) (vs : List Nat) (σ : L2.St) (x : V) (H : Hp) (Q : VK) : Prop := ∃ a, x = .ref a ∧ (∃ xs, SqL K H a xs) ∧ LcG (Itl K a) j te vs σ H Q
def LcT (K : PySem.W.Frag) (j : Nat) (te : TE) (vs : List Nat) (σ : L2.St) (x : V) (H : Hp) (Q : VK) : Prop := ∃ a, x = .ref a ∧ (∃ xs, SqT K H a xs) ∧ LcG (Itt K a) j te vs σ H Q
def LcS (j : Nat) (te : TE) (vs : List Nat) (σ : L2.St) (x : V) (H : Hp) (Q : VK) : Prop := ∃ z, x = .str z ∧ LcG (Its z) j te vs σ H Q
def LcR (j : Nat) (te : TE) (vs : List Nat) (σ : L2.St) (xs : List V) (H : Hp) (Q : VK) : Prop := ∃ i : Int, xs = [.int i] ∧ -(2 ^ 62) ≤ i ∧ i < 2 ^ 62 ∧ LcG (Itr 0 i.toNat) j te vs σ H Q
theorem st_lcL {tl : TE} (h : tl σ H fun x H1 => LcL K j te vs σ x H1 Q) : tLc (iList K tl) (gName j) tYes (tHide te) vs σ H Q := h
theorem st_lcT {tl : TE} (h : tl σ H fun x H1 => LcT K j te vs σ x H1 Q) : tLc (iTup K tl) (gName j) tYes (tHide te) vs σ H Q := h
theorem st_lcS {tl : TE} (h : tl σ H fun x H1 => LcS j te vs σ x H1 Q) : tLc (iStr tl) (gName j) tYes (tHide te) vs σ H Q := h
theorem st_lcR {ta : TA} (h : ta σ H fun x H1 => LcR j te vs σ x H1 Q) : tLc (iRng1 ta) (gName j) tYes (tHide te) vs σ H Q := h
theorem lc_R (P : Nat → PyData → Prop) {i : Int} (h0 : 0 ≤ i) (h1 : i ≤ 1000000) (hw : ∀ x, wipe ((wipe σ vs).set j (some x)) vs = wipe σ vs)
    (he : ∀ (k : Nat) H1, (k : Int) < i → Same H H1 → ∀ Qt : VK, (∀ y H2 e, Same H1 H2 → R K H2 y e → P k e → Qt y H2) → te ((wipe σ vs).set j (some (.int (k : Int)))) H1 Qt)
    (hq : ∀ v H1 es, Same H H1 → R K H1 v (.list es) → es.length = i.toNat → (∀ i e, es[i]? = some e → P i e) → Q v H1) : LcR j te vs σ [.int i] H Q := by
  refine ⟨i, rfl, by omega, by omega, ?_⟩
  refine lc_gen (K := K) (walk_range (lo := 0) (n := i.toNat)) (fun k x => x = .int (k : Int)) (fun k H x H' y => ⟨y.1, by rw [y.2]; show V.int (0 + (k : Int)) = _; rw [Int.zero_add]⟩) (fun _ _ => True.intro) (by show i.toNat ≤ 1000000; omega) hw P (fun k x H1 hk hx sm Qt hQ => ?_) hq
  subst hx
  exact he k H1 (by omega) sm Qt hQ
theorem lc_L (P : Nat → PyData → Prop) {x : V} {ds : List PyData} (r : R K H x (.list ds)) (hl : ds.length ≤ 1000000) (hw : ∀ x, wipe ((wipe σ vs).set j (some x)) vs = wipe σ vs)
    (he : ∀ k v d H1, ds[k]? = some d → R K H1 v d → Same H H1 → ∀ Qt : VK, (∀ y H2 e, Same H1 H2 → R K H2 y e → P k e → Qt y H2) → te ((wipe σ vs).set j (some v)) H1 Qt)
    (hq : ∀ v H1 es, Same H H1 → R K H1 v (.list es) → es.length = ds.length → (∀ i e, es[i]? = some e → P i e) → Q v H1) : LcL K j te vs σ x H Q := by
  obtain ⟨a, xs, rfl, ha, ra⟩ := r.inv_lst
  refine ⟨a, rfl, ⟨xs, .inl (.inl ha)⟩, ?_⟩
  rw [← ra.length] at hl hq
  refine lc_gen (K := K) (walk_list (K := K) (a := a) (xs := xs)) (fun k x => xs[k]? = some x) (fun k H x H' y => ⟨y.1, y.2⟩) (fun H' s => s.seq (.inl (.inl ha))) hl hw P (fun k x H1 hk hx sm Qt hQ => ?_) hq
  obtain ⟨d, e1, e2⟩ := ra.getV hx
  exact he k x d H1 e1 (e2.mono sm) sm Qt hQ
theorem lc_T (P : Nat → PyData → Prop) {x : V} {ds : List PyData} (r : R K H x (.tuple ds)) (hl : ds.length ≤ 1000000) (hw : ∀ x, wipe ((wipe σ vs).set j (some x)) vs = wipe σ vs)
    (he : ∀ k v d H1, ds[k]? = some d → R K H1 v d → Same H H1 → ∀ Qt : VK, (∀ y H2 e, Same H1 H2 → R K H2 y e → P k e → Qt y H2) → te ((wipe σ vs).set j (some v)) H1 Qt)
    (hq : ∀ v H1 es, Same H H1 → R K H1 v (.list es) → es.length = ds.length → (∀ i e, es[i]? = some e → P i e) → Q v H1) : LcT K j te vs σ x H Q := by
  obtain ⟨a, xs, rfl, ha, ra⟩ := r.inv_tup
  refine ⟨a, rfl, ⟨xs, ha⟩, ?_⟩
  rw [← ra.length] at hl hq
  refine lc_gen (K := K) (walk_tup (K := K) (a := a) (xs := xs)) (fun k x => xs[k]? = some x) (fun k H x H' y => ⟨y.1, y.2⟩) (fun H' s => s.tup ha) hl hw P (fun k x H1 hk hx sm Qt hQ => ?_) hq
  obtain ⟨d, e1, e2⟩ := ra.getV hx
  exact he k x d H1 e1 (e2.mono sm) sm Qt hQ
theorem lc_S (P : Nat → PyData → Prop) {z : Str} (hl : z.cps.toList.length ≤ 1000000) (hw : ∀ x, wipe ((wipe σ vs).set j (some x)) vs = wipe σ vs)
    (he : ∀ k c H1, z.cps.toList[k]? = some c → Same H H1 → ∀ Qt : VK, (∀ y H2 e, Same H1 H2 → R K H2 y e → P k e → Qt y H2) → te ((wipe σ vs).set j (some (.str ⟨#[c]⟩))) H1 Qt)
    (hq : ∀ v H1 es, Same H H1 → R K H1 v (.list es) → es.length = z.cps.toList.length → (∀ i e, es[i]? = some e → P i e) → Q v H1) : LcS j te vs σ (.str z) H Q := by
  refine ⟨z, rfl, ?_⟩
  have hs : z.cps.toList.length = z.cps.size := by simp
  rw [hs] at hl hq
  refine lc_gen (K := K) (walk_str (z := z)) (fun k x => ∃ c, z.cps[k]? = some c ∧ x = .str ⟨#[c]⟩) (fun k H x H' y => ⟨y.1, y.2⟩) (fun _ _ => True.intro) hl hw P (fun k x H1 hk hx sm Qt hQ => ?_) hq
  obtain ⟨c, e1, rfl⟩ := hx
  exact he k c H1 (by simpa using e1) sm Qt hQ
/-- exact: each the value of a function -/
theorem list_of_at {α β : Type} {f : α → β} {xs : List α} {es : List β} (hl : es.length = xs.length) (h : ∀ (i : Nat) (e : β), es[i]? = some e → ∃ x, xs[i]? = some x ∧ e = f x) : es = xs.map f := by
  apply List.ext_getElem?
  intro i
  rw [List.getElem?_map]
  cases e : es[i]? with
  | none =>
    have q : xs[i]? = none := List.getElem?_eq_none (by have := List.getElem?_eq_none_iff.mp e; omega)
    rw [q]; rfl
  | some v =>
    obtain ⟨x, h1, h2⟩ := h i v e
    rw [h1, h2]; rfl
end

/-! ### built-in calls by data -/
def lenD : PyData → Option Nat
  | .str z => some z.length
  | .tuple ds => some ds.length
  | .list ds => some ds.length
  | _ => none
def tyD : PyData → String
  | .none => "NoneType"
  | .bool _ => "bool"
  | .int _ => "int"
  | .str _ => "str"
  | .list _ => "list"
  | .tuple _ => "tuple"
  | .dict _ => "dict"
def isaD (T : String) (d : PyData) : Bool := decide (tyD d = T) || (decide (T = "int") && decide (tyD d = "bool"))
section
variable {K : PySem.W.Frag} {H : Hp} {Q : VK} {x y : V}
theorem R.ty {d : PyData} (r : R K H x d) : TyX K H x (.type (tyD d)) := by
  cases r with
  | non => exact .base .non
  | bl b => exact .base (.bl b)
  | int i => exact .base (.int i)
  | str z => exact .base (.str z)
  | lst h _ => exact .base (.lst h)
  | tup h _ =>
    rcases h with (h | ⟨o, h⟩) | ⟨o, its, n, h, c, _⟩
    · exact .base (.tup h)
    · exact .fTuple h
    · exact .kTuple h c
  | dct h => exact .base (.dK h)
theorem kit_tab : ∀ t ∈ ["NoneType", "bool", "int", "str", "list", "tuple", "dict"], ∀ T ∈ ["str", "int", "bool", "tuple", "list", "dict"], L2.kitB t T = some (decide (t = T) || (decide (T = "int") && decide (t = "bool"))) := by decide +kernel
theorem kit_all (d : PyData) (T : String) (h : T ∈ ["str", "int", "bool", "tuple", "list", "dict"]) : L2.kitB (tyD d) T = some (isaD T d) :=
  kit_tab (tyD d) (by cases d <;> simp [tyD]) T h
theorem isi_R {d : PyData} {T : String} (r : R K H x d) (hT : T ∈ ["str", "int", "bool", "tuple", "list", "dict"]) (h : Q (.bl (isaD T d)) H) : rIsi K [x, .ty T] H Q :=
  ⟨x, .ty T, .type (tyD d), .type T, isaD T d, rfl, .ty T, r.ty, kit_ty (kit_all d T hT), h⟩
def rLen (K : PySem.W.Frag) : List V → Hp → VK → Prop := fun xs H Q => ∃ x n, xs = [x] ∧ LenV K x H n ∧ Q (.int (n : Nat)) H
theorem len_str {z : Str} (hl : z.length ≤ 1000000) (h : Q (.int (z.length : Nat)) H) : rLen K [.str z] H Q := ⟨_, _, rfl, ⟨big_le hl, rfl⟩, h⟩
theorem len_tup {ds : List PyData} (r : R K H x (.tuple ds)) (h : Q (.int (ds.length : Nat)) H) : rLen K [x] H Q := by
  obtain ⟨a, xs, rfl, ha, ra⟩ := r.inv_tup
  exact ⟨_, _, rfl, .inr ⟨xs, ha, rfl⟩, by rw [ra.length]; exact h⟩
theorem len_lst {ds : List PyData} (r : R K H x (.list ds)) (h : Q (.int (ds.length : Nat)) H) : rLen K [x] H Q := by
  obtain ⟨a, xs, rfl, ha, ra⟩ := r.inv_lst
  exact ⟨_, _, rfl, .inl ⟨xs, .inl (.inl ha), rfl⟩, by rw [ra.length]; exact h⟩
theorem all_R {bs : List Bool} (r : R K H x (.list (bs.map PyData.bool))) (h : Q (.bl (bs.all id)) H) : rAll K [x] H Q := by
  obtain ⟨a, xs, rfl, ha, ra⟩ := r.inv_lst
  exact ⟨a, bs, rfl, .inl (.inl (by rw [ha, ra.bools])), h⟩
theorem any_R {bs : List Bool} (r : R K H x (.list (bs.map PyData.bool))) (h : Q (.bl (bs.any id)) H) : rAny K [x] H Q := by
  obtain ⟨a, xs, rfl, ha, ra⟩ := r.inv_lst
  exact ⟨a, bs, rfl, .inl (.inl (by rw [ha, ra.bools])), h⟩
theorem sum_R {ns : List Int} (r : R K H x (.list (ns.map PyData.int))) (h : Q (.int ns.sum) H) : rSum K [x] H Q := by
  obtain ⟨a, xs, rfl, ha, ra⟩ := r.inv_lst
  exact ⟨a, ns, rfl, .inl (.inl (by rw [ha, ra.ints])), h⟩
theorem tupOf_L {ds : List PyData} (r : R K H x (.list ds)) (h : ∀ v H', Same H H' → R K H' v (.tuple ds) → Q v H') : kTup K x H Q := by
  obtain ⟨a, xs, rfl, ha, ra⟩ := r.inv_lst
  exact .inl ⟨a, xs, rfl, .inl (.inl ha), fun q hq => h _ _ (same_new hq _) (.tup (.inl (.inl upd_same)) (ra.mono (same_new hq _)))⟩
theorem tupOf_T {ds : List PyData} (r : R K H x (.tuple ds)) (h : Q x H) : kTup K x H Q := by
  obtain ⟨a, xs, rfl, ha, ra⟩ := r.inv_tup
  exact .inr ⟨a, xs, rfl, ha, h⟩
theorem st_then {σ : L2.St} {ta : TE} {k : V → Hp → VK → Prop} (h : ta σ H fun x H1 => k x H1 Q) : tThen ta k σ H Q := h
def rListOf (K : PySem.W.Frag) : List V → Hp → VK → Prop := fun xs H Q => ∃ p ys, xs = [.ref p] ∧ (SqL K H p ys ∨ SqT K H p ys) ∧ ∀ l, H l = none → Q (.ref l) (upd H l (.lst ys))
theorem lstOf_T {ds : List PyData} (r : R K H x (.tuple ds)) (h : ∀ v H', Same H H' → R K H' v (.list ds) → Q v H') : rListOf K [x] H Q := by
  obtain ⟨a, xs, rfl, ha, ra⟩ := r.inv_tup
  exact ⟨a, xs, rfl, .inr ha, fun q hq => h _ _ (same_new hq _) (.lst upd_same (ra.mono (same_new hq _)))⟩
theorem lstOf_L {ds : List PyData} (r : R K H x (.list ds)) (h : ∀ v H', Same H H' → R K H' v (.list ds) → Q v H') : rListOf K [x] H Q := by
  obtain ⟨a, xs, rfl, ha, ra⟩ := r.inv_lst
  exact ⟨a, xs, rfl, .inl (.inl (.inl ha)), fun q hq => h _ _ (same_new hq _) (.lst upd_same (ra.mono (same_new hq _)))⟩
/-- methods of a text -/
theorem st_M0 {σ : L2.St} {r : V → List V → Hp → VK → Prop} {to : TE} (h : to σ H fun x H1 => (∃ a, x = .str a) ∧ r x [] H1 Q) : tM0 r to σ H Q := h
theorem st_M1 {σ : L2.St} {r : V → List V → Hp → VK → Prop} {to te : TE} (h : to σ H fun x H1 => (∃ a, x = .str a) ∧ te σ H1 fun y H2 => r x [y] H2 Q) : tM1 r to te σ H Q := h
def rJoin (K : PySem.W.Frag) : V → List V → Hp → VK → Prop := fun x xs H Q => ∃ a p, ∃ ys : List Str, x = .str a ∧ xs = [.ref p] ∧ (SqL K H p (ys.map V.str) ∨ SqT K H p (ys.map V.str)) ∧ (ys.map (·.length)).sum + ys.length * a.length ≤ 16777216 ∧ Q (.str (Txt.join a ys)) H
theorem join_R {a : Str} {ys : List Str} (r : R K H x (.list (ys.map PyData.str))) (hl : (ys.map (·.length)).sum + ys.length * a.length ≤ 16777216) (h : Q (.str (Txt.join a ys)) H) : rJoin K (.str a) [x] H Q := by
  obtain ⟨b, xs, rfl, ha, ra⟩ := r.inv_lst
  exact ⟨a, b, ys, rfl, rfl, .inl (.inl (.inl (by rw [ha, ra.strs]))), hl, h⟩
def rUpper : V → List V → Hp → VK → Prop := fun x xs H Q => ∃ a, x = .str a ∧ xs = [] ∧ a.length ≤ 5592405 ∧ Q (.str (Txt.upper a)) H
theorem upper_R {a : Str} (hl : a.length ≤ 1000000) (h : Q (.str (Txt.upper a)) H) : rUpper (.str a) [] H Q := ⟨a, rfl, rfl, Nat.le_trans hl (by decide), h⟩
end
end G

namespace G
open PySem PySem.Spec PyProof.Rows L2
section
variable {X : Cx}
theorem pe_gv {x : Str} {v : V} {pos : Pos} (hg : Gl X x) (h : ∃ u, X.mg x = some u ∧ RelV v u) (hdb : (x == ("__debug__" : Str)) = false := by decide) : PE X (.Name x pos) (tC v) := by
  obtain ⟨u, hm, r⟩ := h
  exact pe_glob hg hm r hdb
theorem call_lenR : CallR X (.builtin "len") (rLen X.K) := call_len
theorem call_listR : CallR X (.type "list") (rListOf X.K) := call_list_of
theorem pe_joinR {o e : Expr} {to te : TE} {apos pos : Pos} (ho : PE X o to) (he : PE X e te) (h1 : starEach [e] X.env = [(false, eval e X.env)] := by rfl)
    (h2 : attributeBase o (Str.ofString "join") X.env (eval o X.env) = eval o X.env := by rfl) (h3 : (apos.endLine == pos.line) = true := by rfl) : PE X (.Call (.Attribute o (Str.ofString "join") apos) [e] [] pos) (tM1 (rJoin X.K) to te) := pe_join ho he h1 h2 h3
theorem pe_upperR {o : Expr} {to : TE} {apos pos : Pos} (ho : PE X o to) (h2 : attributeBase o (Str.ofString "upper") X.env (eval o X.env) = eval o X.env := by rfl) (h3 : (apos.endLine == pos.line) = true := by rfl) :
    PE X (.Call (.Attribute o (Str.ofString "upper") apos) [] [] pos) (tM0 rUpper to) := pe_upper ho h2 h3
/-! the same, the written part named -/
variable {K : PySem.W.Frag}
theorem op_addK (K : PySem.W.Frag) (hK : X.K = K := by rfl) : OpR X (binaryOp .Add) (rAddU K) := hK ▸ op_addU
theorem op_eqK (K : PySem.W.Frag) {k : Nat} (hr : Room k X.A) (hK : X.K = K := by rfl) : OpR X (compareOp .Eq) (rEqU K) := hK ▸ op_eqU hr
theorem op_neK (K : PySem.W.Frag) {k : Nat} (hr : Room k X.A) (hK : X.K = K := by rfl) : OpR X (compareOp .NotEq) (rNeU K) := hK ▸ op_neU hr
theorem op_inK (K : PySem.W.Frag) (hK : X.K = K := by rfl) : OpR X (compareOp .In) (rInU K) := hK ▸ op_inU
theorem op_ninK (K : PySem.W.Frag) (hK : X.K = K := by rfl) : OpR X (compareOp .NotIn) (rNinU K) := hK ▸ op_ninU
theorem ix_K (K : PySem.W.Frag) (hK : X.K = K := by rfl) : IxR X (rIx K) := hK ▸ ix_seq
theorem sl_K (K : PySem.W.Frag) (hK : X.K = K := by rfl) : SlR X (rSlU K) := hK ▸ sl_U
theorem isi_K (K : PySem.W.Frag) (hK : X.K = K := by rfl) : CallR X (.builtin "isinstance") (rIsi K) := hK ▸ call_isi
theorem len_K (K : PySem.W.Frag) (hK : X.K = K := by rfl) : CallR X (.builtin "len") (rLen K) := hK ▸ call_lenR
theorem list_K (K : PySem.W.Frag) (hK : X.K = K := by rfl) : CallR X (.type "list") (rListOf K) := hK ▸ call_listR
theorem all_K (K : PySem.W.Frag) (hc : X.calm = true) (hK : X.K = K := by rfl) : CallR X (.builtin "all") (rAll K) := hK ▸ cr_all hc
theorem any_K (K : PySem.W.Frag) (hc : X.calm = true) (hK : X.K = K := by rfl) : CallR X (.builtin "any") (rAny K) := hK ▸ cr_any hc
theorem sum_K (K : PySem.W.Frag) (hc : X.calm = true) (hK : X.K = K := by rfl) : CallR X (.builtin "sum") (rSum K) := hK ▸ cr_sum hc
theorem pi_listK (K : PySem.W.Frag) {tg l : Expr} {tl : TE} (h : PE X l tl) (hK : X.K = K := by rfl) : PI X tg l (iList K tl) := hK ▸ pi_list h
theorem pi_tupK (K : PySem.W.Frag) {tg l : Expr} {tl : TE} (h : PE X l tl) (hK : X.K = K := by rfl) : PI X tg l (iTup K tl) := hK ▸ pi_tup h
theorem tupleOf_K (K : PySem.W.Frag) {a : Expr} {ta : TE} {p pos : Pos} (hg : Gl X "tuple") (hm : X.mg "tuple" = none) (ha : PE X a ta) (hK : X.K = K := by rfl) (na : starEach [a] X.env = (false, eval a X.env) :: starEach [] X.env := by rfl) :
    PE X (.Call (.Name "tuple" p) [a] [] pos) (tThen ta (kTup K)) := by
  subst hK
  exact pe_tupleOf hg hm ha na
theorem joinK (K : PySem.W.Frag) {o e : Expr} {to te : TE} {apos pos : Pos} (ho : PE X o to) (he : PE X e te) (hK : X.K = K := by rfl) (h1 : starEach [e] X.env = [(false, eval e X.env)] := by rfl)
    (h2 : attributeBase o (Str.ofString "join") X.env (eval o X.env) = eval o X.env := by rfl) (h3 : (apos.endLine == pos.line) = true := by rfl) : PE X (.Call (.Attribute o (Str.ofString "join") apos) [e] [] pos) (tM1 (rJoin K) to te) := by
  subst hK
  exact pe_joinR ho he h1 h2 h3
end
theorem bt_len : bootBuiltins "len" = some (.builtin "len") := PySem.boot_len
theorem bt_isinstance : bootBuiltins "isinstance" = some (.builtin "isinstance") := by decide +kernel
theorem bt_all : bootBuiltins "all" = some (.builtin "all") := by decide +kernel
theorem bt_any : bootBuiltins "any" = some (.builtin "any") := by decide +kernel
theorem bt_sum : bootBuiltins "sum" = some (.builtin "sum") := by decide +kernel
theorem bt_sorted : bootBuiltins "sorted" = some (.builtin "sorted") := by decide +kernel
theorem bt_max : bootBuiltins "max" = some (.builtin "max") := by decide +kernel
theorem bt_min : bootBuiltins "min" = some (.builtin "min") := by decide +kernel
theorem bt_str : bootBuiltins "str" = some (.type "str") := by decide +kernel
theorem bt_int : bootBuiltins "int" = some (.type "int") := by decide +kernel
theorem bt_bool : bootBuiltins "bool" = some (.type "bool") := by decide +kernel
theorem bt_tuple : bootBuiltins "tuple" = some (.type "tuple") := by decide +kernel
theorem bt_list : bootBuiltins "list" = some (.type "list") := by decide +kernel
theorem bt_dict : bootBuiltins "dict" = some (.type "dict") := by decide +kernel
theorem isi_1 {K : PySem.W.Frag} {H : Hp} {Q : VK} {x : V} {d : PyData} {T : String} (r : R K H x d) (e : isaD T d = true) (hT : T ∈ ["str", "int", "bool", "tuple", "list", "dict"]) (h : Q (.bl true) H) : rIsi K [x, .ty T] H Q := isi_R r hT (by rw [e]; exact h)
theorem isi_0 {K : PySem.W.Frag} {H : Hp} {Q : VK} {x : V} {d : PyData} {T : String} (r : R K H x d) (e : isaD T d = false) (hT : T ∈ ["str", "int", "bool", "tuple", "list", "dict"]) (h : Q (.bl false) H) : rIsi K [x, .ty T] H Q := isi_R r hT (by rw [e]; exact h)
theorem ite_nt {A B : Prop} (h : B) : if (!true) = true then A else B := h
theorem ite_nf {A B : Prop} (h : A) : if (!false) = true then A else B := h
theorem st_strAnd {z : Str} {A : Prop} (h : A) : (∃ a, V.str z = .str a) ∧ A := ⟨⟨z, rfl⟩, h⟩
theorem cmul_r {x j : Int} (h : -(2 ^ 64) < j ∧ j < 2 ^ 64) : CMul x j := .inr h
theorem cmul_l {x j : Int} (h : -(2 ^ 64) < x ∧ x < 2 ^ 64) : CMul x j := .inl h
theorem cdiv_r {x j : Int} (h : 0 < j ∧ j < 1073741824) : CDiv x j := h
theorem le_up {a b : Nat} (h : decide (a ≤ b) = true) : a ≤ b := of_decide_eq_true h
theorem sm_tr {H H1 H2 : Hp} (b : Same H1 H2) (a : Same H H1) : Same H H2 := a.trans b
theorem r_mono {K : PySem.W.Frag} {H H' : Hp} {v : V} {d : PyData} (r : R K H v d) (e : Same H H') : R K H' v d := r.mono e
theorem Cal.lift {P : Program} {w : World} {K : PySem.W.Frag} {mg : Str → Option Value} {base : Heap} {k k' : Nat} {x : Str} {sp : Sp} (c : Cal P w K mg base k x sp) (h : k ≤ k') : Cal P w K mg base k' x sp := by
  obtain ⟨f, fd, ps, F, hm, kp, b⟩ := c.ex
  exact ⟨f, fd, ps, ⟨F.1, fun A outer s H args us vs Q E a1 a2 a3 a4 q => F.2 A outer s H args us vs Q E (a1.mono h) a2 a3 a4 q⟩, hm, kp, b⟩
end G

namespace G
open PySem PySem.Spec PyProof.Rows L2
theorem upd_eta {H : Hp} {p : Addr} {o : HO} (h : H p = some o) : upd H p o = H := by
  funext b
  by_cases e : b = p
  · rw [e, upd_same, h]
  · rw [upd_ne e]
/-! cuts -/
theorem cutD_from (xs : List PyData) (k : Nat) : cutD xs (some (k : Int)) none = xs.drop k := by
  unfold cutD
  rw [HT.sIx_nat, HT.sIx_none]
  by_cases h : k ≤ xs.length
  · rw [Nat.min_eq_left h]
    exact List.take_of_length_le (by simp)
  · rw [Nat.min_eq_right (by omega), List.drop_length, List.take_nil, List.drop_eq_nil_of_le (by omega)]
theorem cutD_to (xs : List PyData) (k : Nat) : cutD xs none (some (k : Int)) = xs.take k := by
  unfold cutD
  rw [HT.sIx_nat, HT.sIx_none, List.drop_zero, Nat.sub_zero]
  by_cases h : k ≤ xs.length
  · rw [Nat.min_eq_left h]
  · rw [Nat.min_eq_right (by omega), List.take_length, List.take_of_length_le (by omega)]
theorem cutD_len (xs : List PyData) (lo hi : Option Int) : (cutD xs lo hi).length ≤ xs.length := by
  unfold cutD
  rw [List.length_take, List.length_drop]
  omega
theorem cutS_from (z : Str) (k : Nat) : cutS z (some (k : Int)) none = ⟨(z.cps.toList.drop k).toArray⟩ := by
  have e : z.length = z.cps.toList.length := by simp [Str.length]
  unfold cutS
  rw [HT.sIx_nat, HT.sIx_none, e]
  congr 2
  by_cases h : k ≤ z.cps.toList.length
  · rw [Nat.min_eq_left h]
    exact List.take_of_length_le (by simp)
  · rw [Nat.min_eq_right (by omega), List.drop_length, List.take_nil, List.drop_eq_nil_of_le (by omega)]
theorem cutS_to (z : Str) (k : Nat) : cutS z none (some (k : Int)) = ⟨(z.cps.toList.take k).toArray⟩ := by
  have e : z.length = z.cps.toList.length := by simp [Str.length]
  unfold cutS
  rw [HT.sIx_nat, HT.sIx_none, e, List.drop_zero, Nat.sub_zero]
  congr 2
  by_cases h : k ≤ z.cps.toList.length
  · rw [Nat.min_eq_left h]
  · rw [Nat.min_eq_right (by omega), List.take_length, List.take_of_length_le (by omega)]
theorem cutS_1 (z : Str) : (cutS z (some 1) none).cps.toList = z.cps.toList.drop 1 := by
  rw [show (1 : Int) = ((1 : Nat) : Int) from rfl, cutS_from]
theorem cutS_t1 (z : Str) : (cutS z none (some 1)).cps.toList = z.cps.toList.take 1 := by
  rw [show (1 : Int) = ((1 : Nat) : Int) from rfl, cutS_to]
theorem cutD_1 (xs : List PyData) : cutD xs (some 1) none = xs.drop 1 := cutD_from xs 1
theorem cutD_2 (xs : List PyData) : cutD xs (some 2) none = xs.drop 2 := cutD_from xs 2
theorem len_cps (z : Str) : z.length = z.cps.toList.length := by simp [Str.length]
section
variable {K : PySem.W.Frag} {σ : L2.St} {H : Hp} {Q : VK} {te ta : TE} {vs : List Nat} {j : Nat} {x : V}
/-! comprehensions: each the value of a function | each with a property -/
theorem lcS_f (f : Nat → PyData) {z : Str} (hl : z.cps.toList.length ≤ 1000000) (hw : ∀ x, wipe ((wipe σ vs).set j (some x)) vs = wipe σ vs)
    (he : ∀ c H1, c ∈ z.cps.toList → Same H H1 → ∀ Qt : VK, (∀ y H2, Same H1 H2 → R K H2 y (f c) → Qt y H2) → te ((wipe σ vs).set j (some (.str ⟨#[c]⟩))) H1 Qt)
    (hq : ∀ v H1, Same H H1 → R K H1 v (.list (z.cps.toList.map f)) → Q v H1) : LcS j te vs σ (.str z) H Q :=
  lc_S (K := K) (fun i e => ∃ c, z.cps.toList[i]? = some c ∧ e = f c) hl hw (fun k c H1 hc s1 Qt hQ => he c H1 (List.mem_of_getElem? hc) s1 Qt fun y H2 s2 r2 => hQ y H2 _ s2 r2 ⟨c, hc, rfl⟩)
    (fun v H1 es s1 r1 hl hP => hq v H1 s1 (by rw [← list_of_at hl hP]; exact r1))
theorem lcL_f (f : PyData → PyData) {ds : List PyData} (r : R K H x (.list ds)) (hl : ds.length ≤ 1000000) (hw : ∀ x, wipe ((wipe σ vs).set j (some x)) vs = wipe σ vs)
    (he : ∀ v d H1, d ∈ ds → R K H1 v d → Same H H1 → ∀ Qt : VK, (∀ y H2, Same H1 H2 → R K H2 y (f d) → Qt y H2) → te ((wipe σ vs).set j (some v)) H1 Qt)
    (hq : ∀ v H1, Same H H1 → R K H1 v (.list (ds.map f)) → Q v H1) : LcL K j te vs σ x H Q :=
  lc_L (fun i e => ∃ d, ds[i]? = some d ∧ e = f d) r hl hw (fun k v d H1 hd rv s1 Qt hQ => he v d H1 (List.mem_of_getElem? hd) rv s1 Qt fun y H2 s2 r2 => hQ y H2 _ s2 r2 ⟨d, hd, rfl⟩)
    (fun v H1 es s1 r1 hl hP => hq v H1 s1 (by rw [← list_of_at hl hP]; exact r1))
theorem lcT_f (f : PyData → PyData) {ds : List PyData} (r : R K H x (.tuple ds)) (hl : ds.length ≤ 1000000) (hw : ∀ x, wipe ((wipe σ vs).set j (some x)) vs = wipe σ vs)
    (he : ∀ v d H1, d ∈ ds → R K H1 v d → Same H H1 → ∀ Qt : VK, (∀ y H2, Same H1 H2 → R K H2 y (f d) → Qt y H2) → te ((wipe σ vs).set j (some v)) H1 Qt)
    (hq : ∀ v H1, Same H H1 → R K H1 v (.list (ds.map f)) → Q v H1) : LcT K j te vs σ x H Q :=
  lc_T (fun i e => ∃ d, ds[i]? = some d ∧ e = f d) r hl hw (fun k v d H1 hd rv s1 Qt hQ => he v d H1 (List.mem_of_getElem? hd) rv s1 Qt fun y H2 s2 r2 => hQ y H2 _ s2 r2 ⟨d, hd, rfl⟩)
    (fun v H1 es s1 r1 hl hP => hq v H1 s1 (by rw [← list_of_at hl hP]; exact r1))
theorem lcR_p (P : PyData → Prop) {i : Int} (h0 : 0 ≤ i) (h1 : i ≤ 1000000) (hw : ∀ x, wipe ((wipe σ vs).set j (some x)) vs = wipe σ vs)
    (he : ∀ (k : Nat) H1, (k : Int) < i → Same H H1 → ∀ Qt : VK, (∀ y H2 e, Same H1 H2 → R K H2 y e → P e → Qt y H2) → te ((wipe σ vs).set j (some (.int (k : Int)))) H1 Qt)
    (hq : ∀ v H1 es, Same H H1 → R K H1 v (.list es) → es.length = i.toNat → (∀ e ∈ es, P e) → Q v H1) : LcR j te vs σ [.int i] H Q :=
  lc_R (K := K) (fun _ e => P e) h0 h1 hw he fun v H1 es s1 r1 hl hP => hq v H1 es s1 r1 hl fun e he => by
    obtain ⟨i, hi⟩ := List.getElem?_of_mem he
    exact hP i e hi
/-! for over range -/
def ForR (j : Nat) (tb : TS) (nx : L2.St → Hp → Prop) (rt : VK) (σ : L2.St) (xs : List V) (H : Hp) : Prop := ∃ i : Int, xs = [.int i] ∧ -(2 ^ 62) ≤ i ∧ i < 2 ^ 62 ∧
  ∃ W : Nat → Nat → L2.St → Hp → Prop, (∃ m, W 0 m σ H) ∧ ∀ i' m σ H, W i' m σ H → ((Itr 0 i.toNat).stop i' H ∧ nx σ H) ∨ ((Itr 0 i.toNat).go i' H ∧ ∃ N : L2.St → Hp → Prop, (∀ σ' H', N σ' H' → ∃ m', m' < m ∧ W (i' + 1) m' σ' H') ∧ ∀ x H', (Itr 0 i.toNat).yld i' H x H' → gName j x σ H' fun σ2 H2 => tb ⟨N, rt, nx, N⟩ σ2 H2)
theorem st_forR {a : TA} {tb : TS} {nx bk ct : L2.St → Hp → Prop} {rt : VK} (h : a σ H fun xs H1 => ForR j tb nx rt σ xs H1) : tFor (iRng1 a) (gName j) tb ⟨nx, rt, bk, ct⟩ σ H := h
theorem for_R (Pv : Nat → L2.St → Hp → Prop) {i : Int} {tb : TS} {nx : L2.St → Hp → Prop} {rt : VK} (h0 : 0 ≤ i) (h1 : i ≤ 1000000) (start : Pv 0 σ H)
    (turn : ∀ (k : Nat) σ' H', (k : Int) < i → Pv k σ' H' → tb ⟨Pv (k + 1), rt, nx, Pv (k + 1)⟩ (σ'.set j (some (.int (k : Int)))) H') (fin : ∀ σ' H', Pv i.toNat σ' H' → nx σ' H') : ForR j tb nx rt σ [.int i] H := by
  refine ⟨i, rfl, by omega, by omega, for_range (lo := 0) (n := i.toNat) (g := gName j) (tb := tb) (D := ⟨nx, rt, nx, nx⟩) Pv start (fun k σ' H' hk p => ?_) fin⟩
  have q := turn k σ' H' (by omega) p
  show tb _ (σ'.set j (some (.int (0 + (k : Int))))) H'
  rw [Int.zero_add]
  exact q
/-! stores -/
theorem st_sub {to ti : TE} {t : TSet} {nx bk ct : L2.St → Hp → Prop} {rt : VK} (h : te σ H fun v H1 => to σ H1 fun o H2 => ti σ H2 fun i H3 => t o i v H3 fun H4 => nx σ H4) : tAsg te (gSub to ti t) ⟨nx, rt, bk, ct⟩ σ H := h
theorem set_at {p : Addr} {xs : List V} {k : Int} {i : Nat} {v : V} {QH : Hp → Prop} (hp : H p = some (.lst xs)) (hi : ixN xs.length k = some i) (h : QH (upd H p (.lst (xs.set i v)))) : rSetL (.ref p) (.int k) v H QH := ⟨p, xs, k, i, rfl, rfl, hp, hi, h⟩
theorem set_20 {p : Addr} {x y v : V} {QH : Hp → Prop} (hp : H p = some (.lst [x, y])) (h : QH (upd H p (.lst [v, y]))) : rSetL (.ref p) (.int 0) v H QH := set_at hp rfl h
theorem set_21 {p : Addr} {x y v : V} {QH : Hp → Prop} (hp : H p = some (.lst [x, y])) (h : QH (upd H p (.lst [x, v]))) : rSetL (.ref p) (.int 1) v H QH := set_at hp rfl h
/-! the script -/
theorem RA_ints {K : PySem.W.Frag} {H : Hp} : ∀ ns : List Int, RA K H (ns.map V.int) (ns.map PyData.int)
  | [] => .nil
  | n :: ns => .cons (.int n) (RA_ints ns)
theorem sl_scr {a : Addr} {ns : List Int} {lo hi : Option Int} (hs : SqL K H a (ns.map V.int)) (h : ∀ v H', Same H H' → R K H' v (.list (cutD (ns.map PyData.int) lo hi)) → Q v H') : rSlU K (.ref a) lo hi H Q := by
  refine .inr (.inl ⟨a, _, rfl, hs, fun p hp => h _ _ (same_new hp _) (.lst upd_same (RA.mono (same_new hp _) ?_))⟩)
  exact cut_RA (RA_ints ns) lo hi
theorem len_scr {a : Addr} {ns : List Int} (hs : SqL K H a (ns.map V.int)) (h : Q (.int (ns.length : Nat)) H) : rLen K [.ref a] H Q := ⟨_, _, rfl, .inl ⟨_, hs, rfl⟩, by rw [List.length_map]; exact h⟩
theorem seq_keep {a : Addr} {xs : List V} {H' : Hp} (h : SqL K H a xs) (s : Same H H') : SqL K H' a xs := s.seq h
def Lst2 (xs : List V) (H : Hp) (Q : VK) : Prop := xs.length ≤ sizeLine ∧ ∀ p, H p = none → Q (.ref p) (upd H p (.lst xs))
def tLst2 (t : TA) : TE := fun σ H Q => t σ H fun xs H1 => Lst2 xs H1 Q
theorem pe_lst2 {X : Cx} {es : List Expr} {t : TA} {pos : Pos} (h : PA X es t) : PE X (.List es pos) (tLst2 t) := pe_lst h
theorem st_lst2 {a : TA} (h : a σ H fun xs H1 => Lst2 xs H1 Q) : tLst2 a σ H Q := h
theorem st_shut {t : TS} {nx bk ct : L2.St → Hp → Prop} {rt : VK} (h : t ⟨nx, fun v H' => ∃ (p : Addr) (a b : Int), v = .ref p ∧ H' p = some (.lst [.int a, .int b]) ∧ rt v (upd H' p (Stt p)), bk, ct⟩ σ H) : tShut t ⟨nx, rt, bk, ct⟩ σ H := h
theorem cpow_c {i j : Int} (h : 0 ≤ j ∧ j ≤ 1000000 ∧ i.natAbs < 2 ^ 64) : CPow i j := h
theorem ix_scr {a : Addr} {ns : List Int} {i : Int} (hs : SqL K H a (ns.map V.int)) (h0 : 0 ≤ i) (h1 : i < (ns.length : Int)) (h : ∀ n : Int, Q (.int n) H) : rIx K (.ref a) (.int i) H Q := by
  have hi : i.toNat < ns.length := by omega
  exact .inl ⟨a, _, i, .int ns[i.toNat], rfl, rfl, hs, atI_pos h0 (by simp [hi]), h _⟩
/-! a dict of one pair, told as a dict -/
def tDispK (_K : PySem.W.Frag) (trs : List (TE × TE)) : TE := tDisp trs
theorem pe_dispK (K : PySem.W.Frag) {X : Cx} {pos : Pos} {keys : List (Option Expr)} {values : List Expr} {trs : List (TE × TE)} (h : PPs X pos keys values trs) (hall : keys.all (·.isSome) = true) (hl : keys.length = values.length) (h0 : keys ≠ []) (h15 : keys.length ≤ 15) : PE X (.Dict keys values pos) (tDispK K trs) := pe_disp h hall hl h0 h15
theorem st_disp1 {a : Str} {u : V} (h : ∀ v H', Same H H' → R K H' v (.dict []) → Q v H') : tDispK K [(tC (.str a), tC u)] σ H Q := by
  intro p hp
  refine ⟨upd_same, [(.inr a, u)], rfl, by simp, ?_⟩
  rw [upd_upd]
  exact h _ _ (same_new hp _) (.dct upd_same)
end
/-! texts -/
theorem cps_append (x y : Str) : (x ++ y).cps.toList = x.cps.toList ++ y.cps.toList := by
  show (x.cps ++ y.cps).toList = _
  simp
theorem str_ext {x y : Str} (h : x.cps.toList = y.cps.toList) : x = y := by
  cases x; cases y
  congr
  exact Array.toList_inj.mp h
theorem join_eq (sep : Str) (ys : List Str) : Txt.join sep ys = Str.join sep ys := StrLaws.glued_eq_join sep ys
theorem join_e : ∀ ys : List Str, (Txt.join "" ys).cps.toList = (ys.map fun y => y.cps.toList).flatten
  | [] => by rw [join_eq]; rfl
  | [x] => by
    rw [join_eq]
    show x.cps.toList = _
    simp
  | x :: y :: r => by
    have h := join_e (y :: r)
    rw [join_eq] at h ⊢
    show (x ++ "" ++ Str.join "" (y :: r)).cps.toList = _
    rw [cps_append, cps_append, h]
    have e : ("" : Str).cps.toList = [] := rfl
    rw [e]
    simp
/-- a list of texts, told one by one -/
theorem strs_of {P : Str → Prop} : ∀ {es : List PyData}, (∀ e ∈ es, ∃ z : Str, e = .str z ∧ P z) → ∃ ys : List Str, es = ys.map PyData.str ∧ ∀ y ∈ ys, P y
  | [], _ => ⟨[], rfl, by simp⟩
  | e :: es, h => by
    obtain ⟨z, rfl, hz⟩ := h e (by simp)
    obtain ⟨ys, rfl, hy⟩ := strs_of (es := es) (P := P) fun e he => h e (by simp [he])
    exact ⟨z :: ys, rfl, fun y hy' => by rcases List.mem_cons.mp hy' with rfl | q; exact hz; exact hy y q⟩
theorem one_len (c : Nat) : (⟨#[c]⟩ : Str).length = 1 := rfl
theorem sum_ones : ∀ ys : List Str, (∀ y ∈ ys, y.length = 1) → (ys.map (·.length)).sum = ys.length
  | [], _ => rfl
  | y :: ys, h => by
    simp only [List.map_cons, List.sum_cons, List.length_cons]
    rw [h y (by simp), sum_ones ys fun z hz => h z (by simp [hz])]
    omega
theorem join_len (ys : List Str) : (Txt.join "" ys).length = (ys.map (·.length)).sum := by
  rw [len_cps, join_e]
  induction ys with
  | nil => rfl
  | cons y ys ih => simp only [List.map_cons, List.flatten_cons, List.length_append, List.sum_cons, ih, len_cps]
theorem pos_of_ne {z : Str} (h : ¬ z = "") : 0 < z.length := by
  rcases Nat.eq_zero_or_pos z.length with e | e
  · rw [len_cps] at e
    exact absurd (str_ext (y := "") (by rw [List.length_eq_zero_iff.mp e]; rfl)) h
  · exact e
theorem keep_at {H H' : Hp} {a : Addr} {o : HO} (h : H a = some o) (s : Same H H') : H' a = some o := s _ _ h
/-! the state's defs: what they promise -/
def spDraw : Sp := fun vs H Q _ => ∃ (p : Addr) (n : Int), vs = [.ref p, .int n] ∧ H p = some (Stt p) ∧ 0 < n ∧ n < 1000000000 ∧ ∀ r : Int, 0 ≤ r → r < n → Q (.int r) H
def spState (K : PySem.W.Frag) : Sp := fun vs H Q _ => ∃ (a : Addr) (ns : List Int) (k : Int), vs = [.ref a, .int k] ∧ SqL K H a (ns.map V.int) ∧ 0 ≤ k ∧ k ≤ 1000 ∧ ∀ p H', Same H H' → H' p = some (Stt p) → Q (.ref p) H'
def spLaw (K : PySem.W.Frag) : Sp := fun vs H Q _ => ∃ (a : Addr) (ns : List Int), vs = [.ref a] ∧ SqL K H a (ns.map V.int) ∧ ns.length ≤ 63 ∧ ∀ H', Q (.bl true) H'
theorem upper_one {H : Hp} {Q : VK} {c : Nat} (h : (Txt.upper ⟨#[c]⟩).length ≤ 3 → Q (.str (Txt.upper ⟨#[c]⟩)) H) : rUpper (.str ⟨#[c]⟩) [] H Q :=
  upper_R (by show 1 ≤ 1000000; decide) (h (PyProof.Rows.len_upper ⟨#[c]⟩))
theorem imod2 {H : Hp} {Q : VK} {C : Int → Int → Prop} {i : Int} (hc : C i 2) (h0 : i % 2 = 0 → Q (.int 0) H) (h1 : i % 2 = 1 → Q (.int 1) H) : rI C (fun i j => .int (i % j)) (.int i) (.int 2) H Q := by
  refine ⟨i, 2, rfl, rfl, hc, ?_⟩
  show Q (.int (i % 2)) H
  rcases (by omega : i % 2 = 0 ∨ i % 2 = 1) with e | e
  · rw [e]; exact h0 e
  · rw [e]; exact h1 e
theorem imod3 {H : Hp} {Q : VK} {C : Int → Int → Prop} {i : Int} (hc : C i 3) (h0 : i % 3 = 0 → Q (.int 0) H) (h1 : i % 3 = 1 → Q (.int 1) H) (h2 : i % 3 = 2 → Q (.int 2) H) : rI C (fun i j => .int (i % j)) (.int i) (.int 3) H Q := by
  refine ⟨i, 3, rfl, rfl, hc, ?_⟩
  show Q (.int (i % 3)) H
  rcases (by omega : i % 3 = 0 ∨ i % 3 = 1 ∨ i % 3 = 2) with e | e | e
  · rw [e]; exact h0 e
  · rw [e]; exact h1 e
  · rw [e]; exact h2 e
theorem ix_lstS {K : PySem.W.Frag} {H : Hp} {Q : VK} {x : V} {zs : List Str} {i : Int} (r : R K H x (.list (zs.map PyData.str))) (h0 : 0 ≤ i) (h1 : i < (zs.length : Int)) (h : ∀ z, z ∈ zs → Q (.str z) H) : rIx K x (.int i) H Q := by
  refine ix_lstM r h0 (by rw [List.length_map]; exact h1) fun v d hd rv => ?_
  obtain ⟨z, hz, rfl⟩ := List.mem_map.mp hd
  rw [rv.inv_str]
  exact h z hz
theorem Df.none {P : Program} {w : World} {K : PySem.W.Frag} {mg : Str → Option Value} {base : Heap} {x : Str} {st : Stmt} {ps : List Str} {k : Nat} {sp : Sp} (D : Df K mg x st ps) (h : ∀ vs H Q E, ¬ sp vs H Q E) : Cal P w K mg base k x sp := by
  obtain ⟨f, fd, F, hm, b⟩ := D.ex
  exact ⟨f, fd, ps, ⟨fun vs H Q E q => absurd q (h vs H Q E), fun A outer s H args us vs Q E _ _ _ _ q => absurd q (h vs H Q E)⟩, hm, F.kp, b⟩
section
variable {K : PySem.W.Frag} {H : Hp} {Q : VK} {y : V}
theorem eq_str1 {i j : Str} (e : i = j) (h : Q (.bl true) H) : rEqU K (.str i) (.str j) H Q := eq_str (by rw [decide_eq_true e]; exact h)
theorem eq_str0 {i j : Str} (e : decide (i = j) = false) (h : Q (.bl false) H) : rEqU K (.str i) (.str j) H Q := eq_str (by rw [e]; exact h)
theorem in_strsT1 {w : Str} {ds : List PyData} (r : R K H y (.tuple ds)) (c : allS ds = true) (e : inS w ds = true) (h : Q (.bl true) H) : rInU K (.str w) y H Q := in_strsT r c (by rw [e]; exact h)
theorem in_strsT0 {w : Str} {ds : List PyData} (r : R K H y (.tuple ds)) (c : allS ds = true) (e : inS w ds = false) (h : Q (.bl false) H) : rInU K (.str w) y H Q := in_strsT r c (by rw [e]; exact h)
theorem eq_int1 {i j : Int} (e : decide (i = j) = true) (h : Q (.bl true) H) : rEqU K (.int i) (.int j) H Q := eq_int (by rw [e]; exact h)
theorem eq_int0 {i j : Int} (e : decide (i = j) = false) (h : Q (.bl false) H) : rEqU K (.int i) (.int j) H Q := eq_int (by rw [e]; exact h)
end
theorem use_state {K : PySem.W.Frag} {H : Hp} {Q : VK} {E : XK} {a : Addr} {ns : List Int} {k : Int} (hs : SqL K H a (ns.map V.int)) (h0 : 0 ≤ k) (h1 : k ≤ 1000) (h : ∀ p H', Same H H' → H' p = some (Stt p) → Q (.ref p) H') : spState K [.ref a, .int k] H Q E := ⟨a, ns, k, rfl, hs, h0, h1, h⟩
theorem use_draw {H : Hp} {Q : VK} {E : XK} {p : Addr} {n : Int} (hp : H p = some (Stt p)) (h0 : 0 < n) (h1 : n < 1000000000) (h : ∀ r : Int, 0 ≤ r → r < n → Q (.int r) H) : spDraw [.ref p, .int n] H Q E := ⟨p, n, rfl, hp, h0, h1, h⟩
end G

namespace G
open PySem PySem.Spec PyProof.Rows L2
/-! names -/
def abc : Str := "abcdefghijklmnopqrstuvwxyz"
def ABC : Str := "ABCDEFGHIJKLMNOPQRSTUVWXYZ"
def kept : List PyData := [.str "false", .str "all", .str "some", .str "and", .str "or"]
def low (c : Nat) : Bool := decide (c ∈ abc.cps.toList)
def great (c : Nat) : Bool := decide (c ∈ ABC.cps.toList)
def isNameS (z : Str) : Bool := decide (1 ≤ z.length) && decide (z.length ≤ 8) && !inS z kept && z.cps.toList.all low
def isName : PyData → Bool
  | .str z => isNameS z
  | _ => false
def isFormS (z : Str) : Bool := decide (1 ≤ z.length) && decide (z.length ≤ 8) && (match z.cps.toList with | [] => false | c :: cs => great c && cs.all low)
def isForm : PyData → Bool
  | .str z => isFormS z
  | _ => false
theorem all_low (xs : List Nat) : (xs.map low).all id = xs.all low := by simp [List.all_map]
theorem upper_abc : Txt.upper abc = ABC := by decide +kernel
theorem low_great {c : Nat} (h : low c = true) : great c = false := by
  have a : ∀ c ∈ abc.cps.toList, great c = false := by decide +kernel
  exact a c (of_decide_eq_true h)
theorem isNameS_len {z : Str} (h : isNameS z = true) : 1 ≤ z.length ∧ z.length ≤ 8 := by
  unfold isNameS at h
  simp only [Bool.and_eq_true, decide_eq_true_eq] at h
  exact h.1.1
theorem isFormS_len {z : Str} (h : isFormS z = true) : 1 ≤ z.length ∧ z.length ≤ 8 := by
  unfold isFormS at h
  simp only [Bool.and_eq_true, decide_eq_true_eq] at h
  exact h.1
def sign (c : Nat) : Str := ⟨#[c]⟩
theorem signs_of {P : Nat → Prop} : ∀ {es : List PyData}, (∀ e ∈ es, ∃ c : Nat, e = .str ⟨#[c]⟩ ∧ P c) → ∃ cs : List Nat, es = (cs.map sign).map PyData.str ∧ ∀ c ∈ cs, P c
  | [], _ => ⟨[], rfl, by simp⟩
  | e :: es, h => by
    obtain ⟨c, rfl, hc⟩ := h e (by simp)
    obtain ⟨cs, rfl, hs⟩ := signs_of (es := es) (P := P) fun e he => h e (by simp [he])
    exact ⟨c :: cs, rfl, fun y hy' => by rcases List.mem_cons.mp hy' with rfl | q; exact hc; exact hs y q⟩
theorem join_signs (cs : List Nat) : (Txt.join "" (cs.map sign)).cps.toList = cs := by
  rw [join_e]
  induction cs with
  | nil => rfl
  | cons c cs ih =>
    simp only [List.map_cons, List.flatten_cons] at ih ⊢
    rw [ih]
    rfl
theorem sum_signs (cs : List Nat) : ((cs.map sign).map (·.length)).sum = cs.length := by
  rw [sum_ones]
  · simp
  · intro y hy
    obtain ⟨c, _, rfl⟩ := List.mem_map.mp hy
    rfl
/-- a text of one to eight small letters that is not kept *)-/
theorem name_of {z : Str} (h1 : 1 ≤ z.length) (h2 : z.length ≤ 8) (h3 : inS z kept = false) (h4 : ∀ c ∈ z.cps.toList, low c = true) : isNameS z = true := by
  unfold isNameS
  rw [decide_eq_true h1, decide_eq_true h2, h3, List.all_eq_true.mpr h4]
  rfl
theorem one_name {z : Str} {c : Nat} (h : z.cps.toList = [c]) (hc : low c = true) : isNameS z = true := by
  have e : z = sign c := str_ext h
  have hz : z.length = 1 := by rw [len_cps, h]; rfl
  refine name_of (by omega) (by omega) ?_ (by rw [h]; simpa using hc)
  have a : ∀ w ∈ (["false", "all", "some", "and", "or"] : List Str), w.length ≠ 1 := by decide +kernel
  have n : ∀ w : Str, w.length ≠ 1 → decide (w = z) = false := fun w hw => decide_eq_false fun q => hw (by rw [q, hz])
  unfold kept inS
  simp only [inS, n _ (a "false" (by simp)), n _ (a "all" (by simp)), n _ (a "some" (by simp)), n _ (a "and" (by simp)), n _ (a "or" (by simp)), Bool.or_self]
theorem upper_low {c : Nat} (h : low c = true) : Txt.upper ⟨#[c]⟩ = ⟨#[c - 32]⟩ ∧ great (c - 32) = true := by
  have a : ∀ c ∈ abc.cps.toList, Txt.upper ⟨#[c]⟩ = ⟨#[c - 32]⟩ ∧ great (c - 32) = true := by decide +kernel
  exact a c (of_decide_eq_true h)
theorem isNameS_low {z : Str} (h : isNameS z = true) : ∀ c ∈ z.cps.toList, low c = true := by
  unfold isNameS at h
  simp only [Bool.and_eq_true] at h
  exact List.all_eq_true.mp h.2
theorem form_of {z : Str} (h : isNameS z = true) : isFormS (Txt.upper (cutS z none (some 1)) ++ cutS z (some 1) none) = true := by
  have hl := isNameS_len h
  have hc := len_cps z
  have lw := isNameS_low h
  rcases hcs : z.cps.toList with _ | ⟨c, cs⟩
  · rw [hcs, List.length_nil] at hc; omega
  · have e1 : cutS z none (some 1) = ⟨#[c]⟩ := str_ext (by rw [cutS_t1, hcs]; rfl)
    have e2 : (cutS z (some 1) none).cps.toList = cs := by rw [cutS_1, hcs]; rfl
    rw [hcs] at lw hc
    obtain ⟨u1, u2⟩ := upper_low (lw c (by simp))
    have e3 : (Txt.upper (cutS z none (some 1)) ++ cutS z (some 1) none).cps.toList = (c - 32) :: cs := by
      rw [cps_append, e1, u1, e2]; rfl
    have e4 : (Txt.upper (cutS z none (some 1)) ++ cutS z (some 1) none).length = cs.length + 1 := by rw [len_cps, e3]; rfl
    unfold isFormS
    rw [e3, e4]
    rw [List.length_cons] at hc
    rw [decide_eq_true (by omega), decide_eq_true (by omega)]
    simp only [u2, Bool.true_and]
    exact List.all_eq_true.mpr fun x hx => lw x (by simp [hx])
theorem nm_a {z : Str} (h : isNameS z = true) : z.length ≤ 1000000 := by have := isNameS_len h; omega
theorem fm_a {z : Str} (h : isFormS z = true) : z.length ≤ 1000000 := by have := isFormS_len h; omega
theorem nm_b {z : Str} {lo hi : Option Int} (h : isNameS z = true) : (cutS z lo hi).length ≤ 1000000 := by have := isNameS_len h; have := cutS_length z lo hi; omega
theorem nm_c {z : Str} {lo hi lo' hi' : Option Int} (h : isNameS z = true) : (Txt.upper (cutS z lo hi)).length + (cutS z lo' hi').length ≤ 1000000 := by
  have := isNameS_len h; have := cutS_length z lo hi; have := cutS_length z lo' hi'; have := PyProof.Rows.len_upper (cutS z lo hi); omega
/-! terms and statements, one kind of tree -/
inductive AW | form | call | atom deriving DecidableEq
inductive QW | all | some deriving DecidableEq
inductive BW | same | and | or | iff deriving DecidableEq
def AW.s : AW → Str
  | .form => "form"
  | .call => "call"
  | .atom => "atom"
def QW.s : QW → Str
  | .all => "all"
  | .some => "some"
def BW.s : BW → Str
  | .same => "same"
  | .and => "and"
  | .or => "or"
  | .iff => "if"
inductive Th where
  | free (x : Str)
  | bnd (k : Nat)
  | fls
  | app (w : AW) (c : Str) (args : List Th)
  | qua (w : QW) (k : Str) (a : Th)
  | two (w : BW) (a b : Th)
mutual
def Th.d : Th → PyData
  | .free x => .tuple [.str "free", .str x]
  | .bnd k => .tuple [.str "bound", .int k]
  | .fls => .tuple [.str "false"]
  | .app w c args => .tuple [.str w.s, .str c, .tuple (Th.ds args)]
  | .qua w k a => .tuple [.str w.s, .str k, a.d]
  | .two w a b => .tuple [.str w.s, a.d, b.d]
def Th.ds : List Th → List PyData
  | [] => []
  | t :: ts => t.d :: Th.ds ts
end
theorem Th.ds_map : ∀ ts : List Th, Th.ds ts = ts.map Th.d
  | [] => rfl
  | t :: ts => by rw [Th.ds, Th.ds_map ts]; rfl
mutual
def Th.dep : Th → Nat
  | .app _ _ args => Th.deps args + 1
  | .qua _ _ a => a.dep + 1
  | .two _ a b => max a.dep b.dep + 1
  | _ => 1
def Th.deps : List Th → Nat
  | [] => 0
  | t :: ts => max t.dep (Th.deps ts)
end
mutual
def Th.sz : Th → Nat
  | .app _ _ args => Th.szs args + 1
  | .qua _ _ a => a.sz + 1
  | .two _ a b => a.sz + b.sz + 1
  | _ => 1
def Th.szs : List Th → Nat
  | [] => 0
  | t :: ts => t.sz + Th.szs ts
end
mutual
/-- a term all of whose bounds are below n -/
def Th.isT (F : List Str) (n : Nat) : Th → Prop
  | .free x => isNameS x = true ∧ x ∈ F
  | .bnd k => k < n
  | .app .form c args => isFormS c = true ∧ args.length ≤ 4 ∧ Th.areT F n args
  | .app .call c args => isNameS c = true ∧ args.length ≤ 4 ∧ Th.areT F n args
  | _ => False
def Th.areT (F : List Str) (n : Nat) : List Th → Prop
  | [] => True
  | t :: ts => t.isT F n ∧ Th.areT F n ts
end
def Th.isS (F : List Str) (n : Nat) : Th → Prop
  | .fls => True
  | .two .same a b => a.isT F n ∧ b.isT F n
  | .app .atom c args => isNameS c = true ∧ args.length ≤ 4 ∧ Th.areT F n args
  | .two _ a b => a.isS F n ∧ b.isS F n
  | .qua _ k a => isNameS k = true ∧ a.isS F (n + 1)
  | _ => False
theorem Th.areT_all {F : List Str} {n : Nat} : ∀ {ts : List Th}, Th.areT F n ts ↔ ∀ t ∈ ts, t.isT F n
  | [] => by simp [Th.areT]
  | t :: ts => by simp [Th.areT, Th.areT_all (ts := ts)]
mutual
theorem Th.isT_mono {F : List Str} {n m : Nat} (h : n ≤ m) : ∀ {t : Th}, t.isT F n → t.isT F m
  | .free x, q => q
  | .bnd k, q => Nat.lt_of_lt_of_le q h
  | .app .form c args, q => ⟨q.1, q.2.1, Th.areT_mono h q.2.2⟩
  | .app .call c args, q => ⟨q.1, q.2.1, Th.areT_mono h q.2.2⟩
theorem Th.areT_mono {F : List Str} {n m : Nat} (h : n ≤ m) : ∀ {ts : List Th}, Th.areT F n ts → Th.areT F m ts
  | [], _ => True.intro
  | t :: ts, q => ⟨Th.isT_mono h q.1, Th.areT_mono h q.2⟩
end
theorem Th.deps_le {m : Nat} : ∀ {ts : List Th}, Th.deps ts ≤ m ↔ ∀ t ∈ ts, t.dep ≤ m
  | [] => by simp [Th.deps]
  | t :: ts => by simp [Th.deps, Th.deps_le (ts := ts), Nat.max_le]
theorem Th.szs_le {m : Nat} : ∀ {ts : List Th}, (∀ t ∈ ts, t.sz ≤ m) → Th.szs ts ≤ ts.length * m
  | [], _ => Nat.zero_le _
  | t :: ts, h => by
    have h1 := h t (by simp)
    have h2 := Th.szs_le (ts := ts) (m := m) fun x hx => h x (by simp [hx])
    simp only [Th.szs, List.length_cons, Nat.succ_mul]
    omega
/-- data each of which is a tree of a kind -/
theorem ths_of {P : Th → Prop} : ∀ {es : List PyData}, (∀ e ∈ es, ∃ t : Th, e = t.d ∧ P t) → ∃ ts : List Th, es = Th.ds ts ∧ ∀ t ∈ ts, P t
  | [], _ => ⟨[], rfl, by simp⟩
  | e :: es, h => by
    obtain ⟨t, rfl, ht⟩ := h e (by simp)
    obtain ⟨ts, rfl, hs⟩ := ths_of (es := es) (P := P) fun e he => h e (by simp [he])
    exact ⟨t :: ts, rfl, fun y hy' => by rcases List.mem_cons.mp hy' with rfl | q; exact ht; exact hs y q⟩
theorem low_small {c : Nat} (h : low c = true) : c < 0x110000 := by
  have a : ∀ c ∈ abc.cps.toList, c < 0x110000 := by decide +kernel
  exact a c (of_decide_eq_true h)
theorem great_small {c : Nat} (h : great c = true) : c < 0x110000 := by
  have a : ∀ c ∈ ABC.cps.toList, c < 0x110000 := by decide +kernel
  exact a c (of_decide_eq_true h)
theorem strOk_of {z : Str} (h : ∀ c ∈ z.cps.toList, c < 0x110000) : PyData.strOk z = true := by
  unfold PyData.strOk
  rw [Array.all_eq_true']
  intro c hc
  exact decide_eq_true (h c (by simpa using hc))
theorem name_ok {z : Str} (h : isNameS z = true) : PyData.strOk z = true := strOk_of fun c hc => low_small (isNameS_low h c hc)
theorem form_ok {z : Str} (h : isFormS z = true) : PyData.strOk z = true := by
  refine strOk_of fun c hc => ?_
  unfold isFormS at h
  simp only [Bool.and_eq_true] at h
  obtain ⟨_, h⟩ := h
  split at h
  · rename_i e; rw [e] at hc; simp at hc
  · rename_i c0 cs e
    simp only [Bool.and_eq_true] at h
    rw [e] at hc
    rcases List.mem_cons.mp hc with rfl | hc
    · exact great_small h.1
    · exact low_small (List.all_eq_true.mp h.2 c hc)
theorem AW.ok (w : AW) : PyData.strOk w.s = true := by cases w <;> decide +kernel
theorem QW.ok (w : QW) : PyData.strOk w.s = true := by cases w <;> decide +kernel
theorem BW.ok (w : BW) : PyData.strOk w.s = true := by cases w <;> decide +kernel
theorem free_ok : PyData.strOk "free" = true := by decide +kernel
theorem bound_ok : PyData.strOk "bound" = true := by decide +kernel
theorem false_ok : PyData.strOk "false" = true := by decide +kernel
mutual
theorem Th.layT {F : List Str} {n : Nat} : ∀ t : Th, t.isT F n → t.d.canLay0 = true
  | .free x, h => by simp [Th.d, PyData.canLay0, PyData.canLayAll0, free_ok, name_ok (show isNameS x = true ∧ x ∈ F from h).1]
  | .bnd k, h => by simp [Th.d, PyData.canLay0, PyData.canLayAll0, bound_ok]
  | .app .form c args, h => by simp [Th.d, PyData.canLay0, PyData.canLayAll0, Th.layTs args h.2.2, AW.ok, form_ok h.1]
  | .app .call c args, h => by simp [Th.d, PyData.canLay0, PyData.canLayAll0, Th.layTs args h.2.2, AW.ok, name_ok h.1]
theorem Th.layTs {F : List Str} {n : Nat} : ∀ ts : List Th, Th.areT F n ts → PyData.canLayAll0 (Th.ds ts) = true
  | [], _ => rfl
  | t :: ts, h => by simp [Th.ds, PyData.canLayAll0, Th.layT t h.1, Th.layTs ts h.2]
end
theorem Th.layS {F : List Str} : ∀ (t : Th) {n : Nat}, t.isS F n → t.d.canLay0 = true
  | .fls, _, _ => by simp [Th.d, PyData.canLay0, PyData.canLayAll0, false_ok]
  | .two .same a b, _, h => by simp [Th.d, PyData.canLay0, PyData.canLayAll0, BW.ok, Th.layT a h.1, Th.layT b h.2]
  | .app .atom c args, _, h => by simp [Th.d, PyData.canLay0, PyData.canLayAll0, Th.layTs args h.2.2, AW.ok, name_ok h.1]
  | .two .and a b, _, h => by simp [Th.d, PyData.canLay0, PyData.canLayAll0, BW.ok, Th.layS a h.1, Th.layS b h.2]
  | .two .or a b, _, h => by simp [Th.d, PyData.canLay0, PyData.canLayAll0, BW.ok, Th.layS a h.1, Th.layS b h.2]
  | .two .iff a b, _, h => by simp [Th.d, PyData.canLay0, PyData.canLayAll0, BW.ok, Th.layS a h.1, Th.layS b h.2]
  | .qua w k a, _, h => by simp [Th.d, PyData.canLay0, PyData.canLayAll0, QW.ok, name_ok h.1, Th.layS a h.2]
mutual
theorem Th.depth_le : ∀ t : Th, t.d.depth ≤ 2 * t.dep
  | .free x => by simp [Th.d, PyData.depth, PyData.depthAll, Th.dep]
  | .bnd k => by simp [Th.d, PyData.depth, PyData.depthAll, Th.dep]
  | .fls => by simp [Th.d, PyData.depth, PyData.depthAll, Th.dep]
  | .app w c args => by
    have := Th.depths_le args
    simp only [Th.d, PyData.depth, PyData.depthAll, Th.dep]
    omega
  | .qua w k a => by
    have := Th.depth_le a
    simp only [Th.d, PyData.depth, PyData.depthAll, Th.dep]
    omega
  | .two w a b => by
    have := Th.depth_le a
    have := Th.depth_le b
    simp only [Th.d, PyData.depth, PyData.depthAll, Th.dep]
    omega
theorem Th.depths_le : ∀ ts : List Th, PyData.depthAll (Th.ds ts) ≤ 2 * Th.deps ts
  | [] => by simp [Th.ds, PyData.depthAll]
  | t :: ts => by
    have := Th.depth_le t
    have := Th.depths_le ts
    simp only [Th.ds, PyData.depthAll, Th.deps]
    omega
end
theorem Th.dep_pos : ∀ t : Th, 1 ≤ t.dep := by intro t; cases t <;> simp [Th.dep]
theorem Th.sz_pos : ∀ t : Th, 1 ≤ t.sz := by intro t; cases t <;> simp [Th.sz]

theorem Th.ds_append (xs : List Th) (t : Th) : Th.ds (xs ++ [t]) = Th.ds xs ++ [t.d] := by rw [Th.ds_map, Th.ds_map, List.map_append]; rfl
theorem Th.deps_append (xs : List Th) (t : Th) : Th.deps (xs ++ [t]) = max (Th.deps xs) t.dep := by
  induction xs with
  | nil => simp [Th.deps]
  | cons x xs ih => simp only [List.cons_append, Th.deps, ih]; omega
theorem Th.szs_append (xs : List Th) (t : Th) : Th.szs (xs ++ [t]) = Th.szs xs + t.sz := by
  induction xs with
  | nil => simp [Th.szs]
  | cons x xs ih => simp only [List.cons_append, Th.szs, ih]; omega
theorem tall_ok {F : List Str} {b : Nat} {ts : List Th} {t : Th} (hl : ts.length ≤ 2) (hts : ∀ t ∈ ts, t.isT F b ∧ t.dep = 1 ∧ t.sz = 1) (ht : t.isT F b) :
    (ts ++ [t]).length ≤ 4 ∧ Th.areT F b (ts ++ [t]) ∧ Th.deps (ts ++ [t]) + 1 ≤ t.dep + 1 ∧ Th.szs (ts ++ [t]) + 1 ≤ t.sz + 3 := by
  refine ⟨by simp; omega, Th.areT_all.mpr fun x hx => ?_, ?_, ?_⟩
  · rcases List.mem_append.mp hx with h | h
    · exact (hts x h).1
    · rw [List.mem_singleton.mp h]; exact ht
  · have h1 : Th.deps ts ≤ 1 := Th.deps_le.mpr fun x hx => Nat.le_of_eq (hts x hx).2.1
    have h2 := t.dep_pos
    rw [Th.deps_append]
    omega
  · have h1 := Th.szs_le (ts := ts) (m := 1) fun x hx => Nat.le_of_eq (hts x hx).2.2
    rw [Th.szs_append]
    omega
/-! what the makers of trees promise -/
def szT : Nat → Nat
  | 0 => 1
  | n + 1 => 1 + 4 * szT n
theorem szT_pos (n : Nat) : 1 ≤ szT n := by cases n <;> simp [szT]
abbrev poolD (fs gs ns : List Str) : PyData := .tuple [.list (fs.map PyData.str), .list (gs.map PyData.str), .list (ns.map PyData.str)]
structure PoolOk (fs gs ns : List Str) : Prop where
  lf : fs.length = 9
  lg : gs.length = 3
  ln : ns.length = 3
  hf : ∀ z ∈ fs, isNameS z = true
  hg : ∀ z ∈ gs, isFormS z = true
  hn : ∀ z ∈ ns, isNameS z = true
def spName : Sp := fun vs H Q _ => ∃ (p : Addr), vs = [.ref p] ∧ H p = some (Stt p) ∧ ∀ z H', Same H H' → isNameS z = true → Q (.str z) H'
def spForm : Sp := fun vs H Q _ => ∃ (p : Addr), vs = [.ref p] ∧ H p = some (Stt p) ∧ ∀ z H', Same H H' → isFormS z = true → Q (.str z) H'
def spPool (K : PySem.W.Frag) : Sp := fun vs H Q _ => ∃ (p : Addr), vs = [.ref p] ∧ H p = some (Stt p) ∧ ∀ v fs gs ns H', Same H H' → PoolOk fs gs ns → R K H' v (poolD fs gs ns) → Q v H'
def spLeaf (K : PySem.W.Frag) : Sp := fun vs H Q _ => ∃ (p : Addr) (v : V) (fs gs ns : List Str) (b : Int), vs = [.ref p, v, .int b] ∧ H p = some (Stt p) ∧ R K H v (poolD fs gs ns) ∧ PoolOk fs gs ns ∧ 0 ≤ b ∧ b ≤ 1000 ∧
  ∀ u t H', Same H H' → R K H' u (Th.d t) → t.isT fs b.toNat → t.dep = 1 → t.sz = 1 → Q u H'
def spTerm (K : PySem.W.Frag) (n : Nat) : Sp := fun vs H Q _ => ∃ (p : Addr) (v : V) (fs gs ns : List Str) (e b : Int), vs = [.ref p, v, .int e, .int b] ∧ H p = some (Stt p) ∧ R K H v (poolD fs gs ns) ∧ PoolOk fs gs ns ∧ 0 ≤ b ∧ b ≤ 1000 ∧ 0 ≤ e ∧ e < n ∧
  ∀ u t H', Same H H' → R K H' u (Th.d t) → t.isT fs b.toNat → t.dep ≤ e.toNat + 1 → t.sz ≤ szT e.toNat → Q u H'
def spTall (K : PySem.W.Frag) : Sp := fun vs H Q _ => ∃ (p : Addr) (v : V) (fs gs ns : List Str) (u : V) (t : Th) (b : Nat) (m : Int), vs = [.ref p, v, u, .int m] ∧ H p = some (Stt p) ∧ R K H v (poolD fs gs ns) ∧ PoolOk fs gs ns ∧ R K H u t.d ∧ t.isT fs b ∧ 0 ≤ m ∧ m ≤ 60 ∧
  ∀ u' t' H', Same H H' → R K H' u' (Th.d t') → t'.isT fs b → t'.dep ≤ t.dep + m.toNat → t'.sz ≤ t.sz + 3 * m.toNat → Q u' H'
def spAnyT (K : PySem.W.Frag) : Sp := fun vs H Q _ => ∃ (p : Addr) (v : V) (fs gs ns : List Str) (b : Int), vs = [.ref p, v, .int b] ∧ H p = some (Stt p) ∧ R K H v (poolD fs gs ns) ∧ PoolOk fs gs ns ∧ 0 ≤ b ∧ b ≤ 1000 ∧
  ∀ u t H', Same H H' → R K H' u (Th.d t) → t.isT fs b.toNat → t.dep ≤ 57 → t.sz ≤ 200 → Q u H'
section
variable {K : PySem.W.Frag} {H : Hp} {Q : VK} {E : XK} {p : Addr} {v u : V} {fs gs ns : List Str} {t : Th} {b e m : Int} {n nb : Nat}
theorem use_name (hp : H p = some (Stt p)) (h : ∀ z H', Same H H' → isNameS z = true → Q (.str z) H') : spName [.ref p] H Q E := ⟨p, rfl, hp, h⟩
theorem use_form (hp : H p = some (Stt p)) (h : ∀ z H', Same H H' → isFormS z = true → Q (.str z) H') : spForm [.ref p] H Q E := ⟨p, rfl, hp, h⟩
theorem use_pool (hp : H p = some (Stt p)) (h : ∀ v fs gs ns H', Same H H' → PoolOk fs gs ns → R K H' v (poolD fs gs ns) → Q v H') : spPool K [.ref p] H Q E := ⟨p, rfl, hp, h⟩
theorem use_leaf (hp : H p = some (Stt p)) (r : R K H v (poolD fs gs ns)) (ok : PoolOk fs gs ns) (h0 : 0 ≤ b) (h1 : b ≤ 1000) (h : ∀ u t H', Same H H' → R K H' u (Th.d t) → t.isT fs b.toNat → t.dep = 1 → t.sz = 1 → Q u H') : spLeaf K [.ref p, v, .int b] H Q E :=
  ⟨p, v, fs, gs, ns, b, rfl, hp, r, ok, h0, h1, h⟩
theorem use_term (hp : H p = some (Stt p)) (r : R K H v (poolD fs gs ns)) (ok : PoolOk fs gs ns) (h0 : 0 ≤ b) (h1 : b ≤ 1000) (e0 : 0 ≤ e) (e1 : e < n) (h : ∀ u t H', Same H H' → R K H' u (Th.d t) → t.isT fs b.toNat → t.dep ≤ e.toNat + 1 → t.sz ≤ szT e.toNat → Q u H') : spTerm K n [.ref p, v, .int e, .int b] H Q E :=
  ⟨p, v, fs, gs, ns, e, b, rfl, hp, r, ok, h0, h1, e0, e1, h⟩
theorem use_tall (hp : H p = some (Stt p)) (r : R K H v (poolD fs gs ns)) (ok : PoolOk fs gs ns) (rt : R K H u t.d) (ht : t.isT fs nb) (h0 : 0 ≤ m) (h1 : m ≤ 60) (h : ∀ u' t' H', Same H H' → R K H' u' (Th.d t') → t'.isT fs nb → t'.dep ≤ t.dep + m.toNat → t'.sz ≤ t.sz + 3 * m.toNat → Q u' H') : spTall K [.ref p, v, u, .int m] H Q E :=
  ⟨p, v, fs, gs, ns, u, t, nb, m, rfl, hp, r, ok, rt, ht, h0, h1, h⟩
theorem use_anyT (hp : H p = some (Stt p)) (r : R K H v (poolD fs gs ns)) (ok : PoolOk fs gs ns) (h0 : 0 ≤ b) (h1 : b ≤ 1000) (h : ∀ u t H', Same H H' → R K H' u (Th.d t) → t.isT fs b.toNat → t.dep ≤ 57 → t.sz ≤ 200 → Q u H') : spAnyT K [.ref p, v, .int b] H Q E :=
  ⟨p, v, fs, gs, ns, b, rfl, hp, r, ok, h0, h1, h⟩
end

/-! comprehensions over a row of trees -/
section
variable {K : PySem.W.Frag} {σ : L2.St} {H : Hp} {Q : VK} {te : TE} {vs : List Nat} {j : Nat} {x : V}
theorem ds_len (ts : List Th) : (Th.ds ts).length = ts.length := by rw [Th.ds_map, List.length_map]
theorem ds_get {ts : List Th} {i : Nat} {t : Th} (h : ts[i]? = some t) : (Th.ds ts)[i]? = some t.d := by rw [Th.ds_map, List.getElem?_map, h]; rfl
theorem lcT_th (f : Th → PyData) {ts : List Th} (r : R K H x (.tuple (Th.ds ts))) (hl : ts.length ≤ 1000000) (hw : ∀ x, wipe ((wipe σ vs).set j (some x)) vs = wipe σ vs)
    (he : ∀ v t H1, t ∈ ts → R K H1 v (Th.d t) → Same H H1 → ∀ Qt : VK, (∀ y H2, Same H1 H2 → R K H2 y (f t) → Qt y H2) → te ((wipe σ vs).set j (some v)) H1 Qt)
    (hq : ∀ v H1, Same H H1 → R K H1 v (.list (ts.map f)) → Q v H1) : LcT K j te vs σ x H Q := by
  refine lc_T (fun i e => ∃ t, ts[i]? = some t ∧ e = f t) r (by rw [ds_len]; exact hl) hw (fun k v d H1 hd rv s1 Qt hQ => ?_) (fun v H1 es s1 r1 hl hP => hq v H1 s1 (by rw [← list_of_at (by rw [hl, ds_len]) hP]; exact r1))
  rw [Th.ds_map, List.getElem?_map] at hd
  cases ht : ts[k]? with
  | none => rw [ht] at hd; cases hd
  | some t =>
    rw [ht] at hd
    cases hd
    exact he v t H1 (List.mem_of_getElem? ht) rv s1 Qt fun y H2 s2 r2 => hQ y H2 _ s2 r2 ⟨t, ht, rfl⟩
theorem lcL_th (f : Th → PyData) {ts : List Th} (r : R K H x (.list (Th.ds ts))) (hl : ts.length ≤ 1000000) (hw : ∀ x, wipe ((wipe σ vs).set j (some x)) vs = wipe σ vs)
    (he : ∀ v t H1, t ∈ ts → R K H1 v (Th.d t) → Same H H1 → ∀ Qt : VK, (∀ y H2, Same H1 H2 → R K H2 y (f t) → Qt y H2) → te ((wipe σ vs).set j (some v)) H1 Qt)
    (hq : ∀ v H1, Same H H1 → R K H1 v (.list (ts.map f)) → Q v H1) : LcL K j te vs σ x H Q := by
  refine lc_L (fun i e => ∃ t, ts[i]? = some t ∧ e = f t) r (by rw [ds_len]; exact hl) hw (fun k v d H1 hd rv s1 Qt hQ => ?_) (fun v H1 es s1 r1 hl hP => hq v H1 s1 (by rw [← list_of_at (by rw [hl, ds_len]) hP]; exact r1))
  rw [Th.ds_map, List.getElem?_map] at hd
  cases ht : ts[k]? with
  | none => rw [ht] at hd; cases hd
  | some t =>
    rw [ht] at hd
    cases hd
    exact he v t H1 (List.mem_of_getElem? ht) rv s1 Qt fun y H2 s2 r2 => hQ y H2 _ s2 r2 ⟨t, ht, rfl⟩
end
end G

namespace G
open PySem PySem.Spec PyProof.Rows L2
/-! statements: what their makers promise -/
def szS : Nat → Nat
  | 0 => 85
  | n + 1 => 1 + 2 * szS n
theorem szS_ge : ∀ n : Nat, 85 ≤ szS n
  | 0 => Nat.le_refl _
  | n + 1 => by have := szS_ge n; simp only [szS]; omega
def spTold (K : PySem.W.Frag) (n : Nat) : Sp := fun vs H Q _ => ∃ (p : Addr) (v : V) (fs gs ns : List Str) (e b : Int), vs = [.ref p, v, .int e, .int b] ∧ H p = some (Stt p) ∧ R K H v (poolD fs gs ns) ∧ PoolOk fs gs ns ∧ 0 ≤ b ∧ b + e ≤ 1000 ∧ 0 ≤ e ∧ e < n ∧
  ∀ u t H', Same H H' → R K H' u (Th.d t) → t.isS fs b.toNat → t.dep ≤ e.toNat + 4 → t.sz ≤ szS e.toNat → Q u H'
def spAnyS (K : PySem.W.Frag) : Sp := fun vs H Q _ => ∃ (p : Addr) (v : V) (fs gs ns : List Str) (e b : Int), vs = [.ref p, v, .int e, .int b] ∧ H p = some (Stt p) ∧ R K H v (poolD fs gs ns) ∧ PoolOk fs gs ns ∧ 0 ≤ b ∧ b ≤ 900 ∧ 0 ≤ e ∧ e < 5 ∧
  ∀ u t H', Same H H' → R K H' u (Th.d t) → t.isS fs b.toNat → t.dep ≤ 28 → t.sz ≤ 1500 → Q u H'
section
variable {K : PySem.W.Frag} {H : Hp} {Q : VK} {E : XK} {p : Addr} {v u : V} {fs gs ns : List Str} {t : Th} {b e m : Int} {n nb : Nat}
theorem use_told (hp : H p = some (Stt p)) (r : R K H v (poolD fs gs ns)) (ok : PoolOk fs gs ns) (h0 : 0 ≤ b) (h1 : b + e ≤ 1000) (e0 : 0 ≤ e) (e1 : e < n) (h : ∀ u t H', Same H H' → R K H' u (Th.d t) → t.isS fs b.toNat → t.dep ≤ e.toNat + 4 → t.sz ≤ szS e.toNat → Q u H') : spTold K n [.ref p, v, .int e, .int b] H Q E :=
  ⟨p, v, fs, gs, ns, e, b, rfl, hp, r, ok, h0, h1, e0, e1, h⟩
theorem use_anyS (hp : H p = some (Stt p)) (r : R K H v (poolD fs gs ns)) (ok : PoolOk fs gs ns) (h0 : 0 ≤ b) (h1 : b ≤ 900) (e0 : 0 ≤ e) (e1 : e < 5) (h : ∀ u t H', Same H H' → R K H' u (Th.d t) → t.isS fs b.toNat → t.dep ≤ 28 → t.sz ≤ 1500 → Q u H') : spAnyS K [.ref p, v, .int e, .int b] H Q E :=
  ⟨p, v, fs, gs, ns, e, b, rfl, hp, r, ok, h0, h1, e0, e1, h⟩
end
end G

namespace G
open PySem PySem.Spec PyProof.Rows L2
/-! lists of one's own that change: what else stands, and data without lists and dicts in it -/
def SameX (l : Addr) (H H' : Hp) : Prop := ∀ a o, a ≠ l → H a = some o → H' a = some o
mutual
def noL : PyData → Bool
  | .list _ => false
  | .dict _ => false
  | .tuple ds => noLs ds
  | _ => true
def noLs : List PyData → Bool
  | [] => true
  | d :: ds => noL d && noLs ds
end
theorem SameX.refl {l : Addr} (H : Hp) : SameX l H H := fun _ _ _ h => h
theorem SameX.of {l : Addr} {H H' : Hp} (s : Same H H') : SameX l H H' := fun a o _ h => s a o h
theorem SameX.trans {l : Addr} {H H1 H2 : Hp} (a : SameX l H H1) (b : SameX l H1 H2) : SameX l H H2 := fun c o n h => b c o n (a c o n h)
theorem SameX.upd {l : Addr} {H : Hp} {o : HO} : SameX l H (upd H l o) := fun a u n h => by rw [upd_ne n]; exact h
theorem SameX.same {l : Addr} {H0 H H' : Hp} (s : Same H0 H) (x : SameX l H H') (h : H0 l = none) : Same H0 H' := fun a o q => x a o (ne_of_none q h) (s a o q)
section
variable {K : PySem.W.Frag} {H H' : Hp} {l : Addr} {xs : List V}
theorem SameX.tupX (x : SameX l H H') (hl : H l = some (.lst xs)) {a : Addr} {ys : List V} (h : SqT K H a ys) : SqT K H' a ys := by
  rcases h with (h | ⟨o, h⟩) | h
  · exact .inl (.inl (x a _ (fun e => by rw [e, hl] at h; cases h) h))
  · exact .inl (.inr ⟨o, x a _ (fun e => by rw [e, hl] at h; cases h) h⟩)
  · exact .inr h
mutual
theorem R.monoX (x : SameX l H H') (hl : H l = some (.lst xs)) : ∀ {v : V} {d : PyData}, noL d = true → R K H v d → R K H' v d
  | _, _, _, .non => .non
  | _, _, _, .bl b => .bl b
  | _, _, _, .int i => .int i
  | _, _, _, .str z => .str z
  | _, _, n, .lst _ _ => by simp [noL] at n
  | _, _, n, .tup h r => .tup (x.tupX hl h) (RA.monoX x hl (by simpa [noL] using n) r)
  | _, _, n, .dct _ => by simp [noL] at n
theorem RA.monoX (x : SameX l H H') (hl : H l = some (.lst xs)) : ∀ {vs : List V} {ds : List PyData}, noLs ds = true → RA K H vs ds → RA K H' vs ds
  | _, _, _, .nil => .nil
  | _, _, n, .cons h r => by
    simp only [noLs, Bool.and_eq_true] at n
    exact .cons (R.monoX x hl n.1 h) (RA.monoX x hl n.2 r)
end
end
theorem noLs_append : ∀ {xs ys : List PyData}, noLs (xs ++ ys) = (noLs xs && noLs ys)
  | [], ys => by simp [noLs]
  | x :: xs, ys => by simp [noLs, noLs_append (xs := xs), Bool.and_assoc]
mutual
theorem Th.noL : ∀ t : Th, noL t.d = true
  | .free x => rfl
  | .bnd k => rfl
  | .fls => rfl
  | .app w c args => by simp [Th.d, G.noL, G.noLs, Th.noLs args]
  | .qua w k a => by simp [Th.d, G.noL, G.noLs, Th.noL a]
  | .two w a b => by simp [Th.d, G.noL, G.noLs, Th.noL a, Th.noL b]
theorem Th.noLs : ∀ ts : List Th, noLs (Th.ds ts) = true
  | [] => rfl
  | t :: ts => by simp [Th.ds, G.noLs, Th.noL t, Th.noLs ts]
end
/-! while -/
def WhN (W : Nat → L2.St → Hp → Prop) (m : Nat) : L2.St → Hp → Prop := fun σ' H' => ∃ m', m' < m ∧ W m' σ' H'
def WhB (W : Nat → L2.St → Hp → Prop) (m : Nat) (tb : TS) (nx : L2.St → Hp → Prop) (rt : VK) (σ : L2.St) (H : Hp) : Prop :=
  ∃ N : L2.St → Hp → Prop, (∀ σ' H', N σ' H' → ∃ m', m' < m ∧ W m' σ' H') ∧ tb ⟨N, rt, nx, N⟩ σ H
theorem st_while {c : TT} {tb : TS} {nx bk ct : L2.St → Hp → Prop} {rt : VK} {σ : L2.St} {H : Hp} (W : Nat → L2.St → Hp → Prop) (m : Nat) (h0 : W m σ H)
    (hs : ∀ m σ H, W m σ H → c σ H fun b H1 => if b = true then WhB W m tb nx rt σ H1 else nx σ H1) : tWhile c tb ⟨nx, rt, bk, ct⟩ σ H := ⟨W, ⟨m, h0⟩, hs⟩
theorem whB {W : Nat → L2.St → Hp → Prop} {m : Nat} {tb : TS} {nx : L2.St → Hp → Prop} {rt : VK} {σ : L2.St} {H : Hp} (h : tb ⟨WhN W m, rt, nx, WhN W m⟩ σ H) : WhB W m tb nx rt σ H := ⟨_, fun _ _ q => q, h⟩
theorem eqv_nilL (ds : List PyData) : PyData.eqv (.list ds) (.list []) = ds.isEmpty := by
  cases ds <;> simp [PyData.eqv, PyData.eqvAll]
/-! methods of such lists -/
section
variable {X : Cx} {o : Expr} {to : TE} {apos cpos : Pos}
theorem bm0K (K : PySem.W.Frag) {e : Expr} {T : String} {r : V → List V → Hp → VK → Prop} (h : PE X e (tBM0 X.K T r to)) (hK : X.K = K := by rfl) : PE X e (tBM0 K T r to) := hK ▸ h
theorem bmK (K : PySem.W.Frag) {e : Expr} {T : String} {t : TA} {r : V → List V → Hp → VK → Prop} (h : PE X e (tBM X.K T r to t)) (hK : X.K = K := by rfl) : PE X e (tBM K T r to t) := hK ▸ h
theorem gtK (K : PySem.W.Frag) {tg : Expr} {n : Nat} {t : TGs} (h : PG X tg (gTup X.K n t)) (hK : X.K = K := by rfl) : PG X tg (gTup K n t) := hK ▸ h
end
section
variable {K : PySem.W.Frag} {σ : L2.St} {H : Hp} {Q : VK} {to : TE} {t : TA} {r : V → List V → Hp → VK → Prop} {l : Addr} {xs : List V} {ds es : List PyData} {d : PyData} {y : V}
theorem st_BM0 (h : to σ H fun x H1 => tyV K "list" x H1 ∧ r x [] H1 Q) : tBM0 K "list" r to σ H Q := h
theorem st_BM (h : to σ H fun x H1 => tyV K "list" x H1 ∧ t σ H1 fun xs H2 => r x xs H2 Q) : tBM K "list" r to t σ H Q := h
theorem st_tyl {A : Prop} (hl : H l = some (.lst xs)) (h : A) : tyV K "list" (.ref l) H ∧ A := ⟨Or.inl ⟨rfl, _, Or.inl (Or.inl hl)⟩, h⟩
theorem RA.split {vs : List V} {ds : List PyData} {d : PyData} (r : RA K H vs (ds ++ [d])) : ∃ ws v, vs = ws ++ [v] ∧ RA K H ws ds ∧ R K H v d := by
  have h1 := r.length
  rw [List.length_append, List.length_singleton] at h1
  have h2 := RA.take ds.length r
  have h3 := RA.drop ds.length r
  rw [List.take_left'] at h2
  rw [List.drop_left'] at h3
  · obtain ⟨v, ws, e, rv, rw0⟩ := h3.inv_cons
    have := rw0.inv_nil
    subst this
    exact ⟨vs.take ds.length, v, by rw [← e, List.take_append_drop], h2, rv⟩
  · rfl
  · rfl
theorem popR (hl : H l = some (.lst xs)) (ra : RA K H xs (ds ++ [d])) (hn : noLs (ds ++ [d]) = true) (h : ∀ v ws H', SameX l H H' → H' l = some (.lst ws) → RA K H' ws ds → R K H' v d → Q v H') : rPop (.ref l) [] H Q := by
  obtain ⟨ws, v, rfl, rw1, rv⟩ := ra.split
  rw [noLs_append] at hn
  simp only [Bool.and_eq_true, noLs, Bool.and_true] at hn
  refine ⟨l, ws ++ [v], v, rfl, rfl, hl, by simp, ?_⟩
  rw [List.dropLast_concat]
  exact h v ws _ .upd upd_same (rw1.monoX .upd hl hn.1) (rv.monoX .upd hl hn.2)
theorem extR (hl : H l = some (.lst xs)) (ra : RA K H xs ds) (r : R K H y (.list es)) (hz : ds.length + es.length ≤ 1000000) (hn : noLs ds = true) (hn' : noLs es = true) (h : ∀ ws H', SameX l H H' → H' l = some (.lst ws) → RA K H' ws (ds ++ es) → Q .non H') : rExtend (.ref l) [y] H Q := by
  obtain ⟨b, zs, rfl, hb, rz⟩ := r.inv_lst
  refine ⟨l, b, xs, zs, rfl, rfl, hl, hb, big_le (by rw [ra.length, rz.length]; exact hz), ?_⟩
  exact h _ _ .upd upd_same ((ra.monoX .upd hl hn).append (rz.monoX .upd hl hn'))
theorem appR (hl : H l = some (.lst xs)) (ra : RA K H xs ds) (r : R K H y d) (hz : ds.length + 1 ≤ 1000000) (hn : noLs ds = true) (hn' : noL d = true) (h : ∀ ws H', SameX l H H' → H' l = some (.lst ws) → RA K H' ws (ds ++ [d]) → Q .non H') : rAppend (.ref l) [y] H Q := by
  refine ⟨l, xs, y, rfl, rfl, hl, Nat.lt_of_lt_of_le (by rw [ra.length]; omega : xs.length < 1000000) (by decide), ?_⟩
  exact h _ _ .upd upd_same ((ra.monoX .upd hl hn).append (.cons (r.monoX .upd hl hn') .nil))
/-! a tuple of two taken apart -/
theorem st_asgT {te : TE} {g : TG} {nx bk ct : L2.St → Hp → Prop} {rt : VK} (h : te σ H fun x H1 => g x σ H1 nx) : tAsg te g ⟨nx, rt, bk, ct⟩ σ H := h
theorem gtup2 {i j : Nat} {v : V} {d1 d2 : PyData} {QS : L2.St → Hp → Prop} (r : R K H v (.tuple [d1, d2])) (h : ∀ v1 v2, R K H v1 d1 → R K H v2 d2 → QS ((σ.set i (some v1)).set j (some v2)) H) : gTup K 2 (gCons (gName i) (gCons (gName j) gNil)) v σ H QS := by
  obtain ⟨a, xs, rfl, ha, ra⟩ := r.inv_tup
  obtain ⟨v1, ws, rfl, r1, ra⟩ := ra.inv_cons
  obtain ⟨v2, ws, rfl, r2, ra⟩ := ra.inv_cons
  have := ra.inv_nil
  subst this
  exact ⟨a, _, rfl, ha, rfl, v1, _, rfl, v2, _, rfl, rfl, h v1 v2 r1 r2⟩
/-! int(a truth), max of two, x += n -/
def rInt1 : List V → Hp → VK → Prop := fun xs H Q => (∃ i, xs = [.int i] ∧ Q (.int i) H) ∨ ∃ k, xs = [.bl k] ∧ Q (.int (if k then 1 else 0)) H
theorem call_int1R {X : Cx} : CallR X (.type "int") rInt1 := call_int1
theorem int_bl {b : Bool} (h : Q (.int (if b = true then 1 else 0)) H) : rInt1 [.bl b] H Q := .inr ⟨b, rfl, h⟩
theorem int_int {i : Int} (h : Q (.int i) H) : rInt1 [.int i] H Q := .inl ⟨i, rfl, h⟩
def rMax2 : List V → Hp → VK → Prop := fun xs H Q => ∃ i j, xs = [.int i, .int j] ∧ Q (.int (if j > i then j else i)) H
theorem call_max2R {X : Cx} (hc : X.calm = true) : CallR X (.builtin "max") rMax2 := call_max2 hc
theorem max_2 {i j : Int} (h : Q (.int (if j > i then j else i)) H) : rMax2 [.int i, .int j] H Q := ⟨i, j, rfl, h⟩
theorem st_aug {i : Nat} {te : TE} {f : Int → Int → Int} {a : Int} {nx bk ct : L2.St → Hp → Prop} {rt : VK} (hx : σ[i]? = some (some (.int a))) (h : te σ H fun y H1 => ipI f (.int a) y H1 fun z H2 => nx (σ.set i (some z)) H2) : tAug i te (ipI f) ⟨nx, rt, bk, ct⟩ σ H := ⟨.int a, hx, h⟩
theorem ipI_int {f : Int → Int → Int} {a b : Int} (h : Q (.int (f a b)) H) : ipI f (.int a) (.int b) H Q := ⟨a, b, rfl, rfl, h⟩
end
/-! a new list, told as new -/
def NewLF (_K : PySem.W.Frag) (xs : List V) (H : Hp) (Q : VK) : Prop := xs.length ≤ sizeLine ∧ ∀ p, H p = none → Q (.ref p) (upd H p (.lst xs))
def tLstF (_K : PySem.W.Frag) (t : TA) : TE := tLst t
theorem pe_lstF (K : PySem.W.Frag) {X : Cx} {es : List Expr} {t : TA} {pos : Pos} (h : PA X es t) : PE X (.List es pos) (tLstF K t) := pe_lst h
theorem st_lstF {K : PySem.W.Frag} {σ : L2.St} {H : Hp} {Q : VK} {a : TA} (h : a σ H fun xs H1 => NewLF K xs H1 Q) : tLstF K a σ H Q := h
theorem st_newLF {K : PySem.W.Frag} {H : Hp} {Q : VK} {xs : List V} {ds : List PyData} (r : RA K H xs ds) (hl : xs.length ≤ 1000000) (h : ∀ p H', H p = none → Same H H' → H' p = some (.lst xs) → RA K H' xs ds → Q (.ref p) H') : NewLF K xs H Q :=
  ⟨big_le hl, fun p hp => h p _ hp (same_new hp _) upd_same (r.mono (same_new hp _))⟩
theorem ra_mono {K : PySem.W.Frag} {H H' : Hp} {xs : List V} {ds : List PyData} (r : RA K H xs ds) (e : Same H H') : RA K H' xs ds := r.mono e
end G

namespace G
open PySem PySem.Spec PyProof.Rows L2
/-! parts -/
def Th.parts : Th → List Th
  | .app _ _ args => args
  | .qua _ _ a => [a]
  | .two _ a b => [a, b]
  | _ => []
def spParts (K : PySem.W.Frag) : Sp := fun vs H Q _ => ∃ (v : V) (t : Th), vs = [v] ∧ R K H v t.d ∧ ∀ u H', Same H H' → R K H' u (.list (Th.ds t.parts)) → Q u H'
theorem use_parts {K : PySem.W.Frag} {H : Hp} {Q : VK} {E : XK} {v : V} {t : Th} (r : R K H v t.d) (h : ∀ u H', Same H H' → R K H' u (.list (Th.ds t.parts)) → Q u H') : spParts K [v] H Q E := ⟨v, t, rfl, r, h⟩
theorem Th.szs_parts (t : Th) : Th.szs t.parts + 1 = t.sz := by cases t <;> simp [Th.parts, Th.szs, Th.sz]
theorem lays_mem : ∀ {ts : List Th}, PyData.canLayAll0 (Th.ds ts) = true ↔ ∀ t ∈ ts, t.d.canLay0 = true
  | [] => by simp [Th.ds, PyData.canLayAll0]
  | t :: ts => by simp [Th.ds, PyData.canLayAll0, lays_mem (ts := ts)]
theorem Th.lay_parts {t : Th} (h : t.d.canLay0 = true) : ∀ a ∈ t.parts, a.d.canLay0 = true := by
  cases t with
  | app w c args =>
    simp only [Th.d, PyData.canLay0, PyData.canLayAll0, Bool.and_eq_true] at h
    exact lays_mem.mp h.2.2.1
  | qua w k a =>
    simp only [Th.d, PyData.canLay0, PyData.canLayAll0, Bool.and_eq_true] at h
    intro x hx
    rw [List.mem_singleton.mp hx]
    exact h.2.2.1
  | two w a b =>
    simp only [Th.d, PyData.canLay0, PyData.canLayAll0, Bool.and_eq_true] at h
    intro x hx
    rcases List.mem_cons.mp hx with rfl | hx
    · exact h.2.1
    · rw [List.mem_singleton.mp hx]; exact h.2.2.1
  | _ => intro x hx; simp [Th.parts] at hx
/-! the word ahead, and what is behind -/
def Th.word : Th → Str
  | .free _ => "free"
  | .bnd _ => "bound"
  | .fls => "false"
  | .app w _ _ => w.s
  | .qua w _ _ => w.s
  | .two w _ _ => w.s
def Th.rest : Th → List PyData
  | .free x => [.str x]
  | .bnd k => [.int k]
  | .fls => []
  | .app _ c args => [.str c, .tuple (Th.ds args)]
  | .qua _ k a => [.str k, a.d]
  | .two _ a b => [a.d, b.d]
theorem Th.d_eq (t : Th) : t.d = .tuple (.str t.word :: t.rest) := by cases t <;> rfl
theorem Th.word_bound {t : Th} (h : t.word = "bound") : ∃ k, t = .bnd k := by
  cases t with
  | free k => exact absurd (show ("free" : Str) = "bound" from h) (by decide +kernel)
  | bnd k => exact ⟨k, rfl⟩
  | fls => exact absurd (show ("false" : Str) = "bound" from h) (by decide +kernel)
  | app w a b => exact absurd (show w.s = "bound" from h) (by cases w <;> decide +kernel)
  | qua w a b => exact absurd (show w.s = "bound" from h) (by cases w <;> decide +kernel)
  | two w a b => exact absurd (show w.s = "bound" from h) (by cases w <;> decide +kernel)
theorem Th.word_free {t : Th} (h : t.word = "free") : ∃ x, t = .free x := by
  cases t with
  | free k => exact ⟨k, rfl⟩
  | bnd k => exact absurd (show ("bound" : Str) = "free" from h) (by decide +kernel)
  | fls => exact absurd (show ("false" : Str) = "free" from h) (by decide +kernel)
  | app w a b => exact absurd (show w.s = "free" from h) (by cases w <;> decide +kernel)
  | qua w a b => exact absurd (show w.s = "free" from h) (by cases w <;> decide +kernel)
  | two w a b => exact absurd (show w.s = "free" from h) (by cases w <;> decide +kernel)
def Th.inner : Th → Nat
  | .qua _ _ _ => 1
  | _ => 0
theorem Th.inner_eq (t : Th) : (if inS t.word [.str "all", .str "some"] = true then (1 : Int) else 0) = (t.inner : Nat) := by
  cases t with
  | app w c args => show (if inS w.s [.str "all", .str "some"] = true then (1 : Int) else 0) = 0; cases w <;> decide +kernel
  | qua w c args => show (if inS w.s [.str "all", .str "some"] = true then (1 : Int) else 0) = 1; cases w <;> decide +kernel
  | two w c args => show (if inS w.s [.str "all", .str "some"] = true then (1 : Int) else 0) = 0; cases w <;> decide +kernel
  | free x => show (if inS "free" [.str "all", .str "some"] = true then (1 : Int) else 0) = 0; decide +kernel
  | bnd x => show (if inS "bound" [.str "all", .str "some"] = true then (1 : Int) else 0) = 0; decide +kernel
  | fls => show (if inS "false" [.str "all", .str "some"] = true then (1 : Int) else 0) = 0; decide +kernel
mutual
def Th.whole (n : Nat) : Th → Bool
  | .bnd k => decide (k < n)
  | .app _ _ args => Th.wholes n args
  | .qua _ _ a => a.whole (n + 1)
  | .two _ a b => a.whole n && b.whole n
  | _ => true
def Th.wholes (n : Nat) : List Th → Bool
  | [] => true
  | t :: ts => t.whole n && Th.wholes n ts
end
theorem Th.wholes_all (n : Nat) : ∀ ts : List Th, Th.wholes n ts = ts.all fun t => t.whole n
  | [] => rfl
  | t :: ts => by rw [Th.wholes, Th.wholes_all n ts]; rfl
theorem Th.whole_step {t : Th} (n : Nat) (h : ¬ t.word = "bound") : t.whole n = t.parts.all fun a => a.whole (n + t.inner) := by
  cases t with
  | bnd k => exact absurd rfl h
  | app w c args => simp [Th.whole, Th.parts, Th.inner, Th.wholes_all]
  | qua w c a => simp [Th.whole, Th.parts, Th.inner]
  | two w a b => simp [Th.whole, Th.parts, Th.inner]
  | _ => rfl
/-- pairs of a tree and a number *)-/
abbrev pairD (p : Th × Nat) : PyData := .tuple [p.1.d, .int (p.2 : Nat)]
def psz (ps : List (Th × Nat)) : Nat := (ps.map fun p => p.1.sz).sum
theorem psz_append (ps qs : List (Th × Nat)) : psz (ps ++ qs) = psz ps + psz qs := by simp [psz]
theorem psz_map (n : Nat) : ∀ ts : List Th, psz (ts.map fun a => (a, n)) = Th.szs ts
  | [] => rfl
  | t :: ts => by
    have := psz_map n ts
    simp only [psz, List.map_cons, List.sum_cons, Th.szs] at this ⊢
    omega
theorem noL_pairs : ∀ ps : List (Th × Nat), noLs (ps.map pairD) = true
  | [] => rfl
  | p :: ps => by simp [noLs, pairD, G.noL, Th.noL, noL_pairs ps]
theorem len_psz : ∀ ps : List (Th × Nat), ps.length ≤ psz ps
  | [] => Nat.zero_le _
  | p :: ps => by
    have := len_psz ps
    have := p.1.sz_pos
    simp only [psz, List.map_cons, List.sum_cons, List.length_cons] at this ⊢
    simp only [psz] at *
    omega
theorem len_szs : ∀ ts : List Th, ts.length ≤ Th.szs ts
  | [] => Nat.zero_le _
  | t :: ts => by
    have := len_szs ts
    have := t.sz_pos
    simp only [Th.szs, List.length_cons]
    omega
theorem lay_pairs : ∀ {ps : List (Th × Nat)}, (∀ p ∈ ps, p.1.d.canLay0 = true) → (PyData.list (ps.map pairD)).canLay0 = true
  | [], _ => rfl
  | p :: ps, h => by
    have h1 := h p (by simp)
    have h2 := lay_pairs (ps := ps) fun q hq => h q (by simp [hq])
    simp only [PyData.canLay0] at h2
    simp [PyData.canLay0, PyData.canLayAll0, pairD, h1, h2]
def spWhole (K : PySem.W.Frag) : Sp := fun vs H Q _ => ∃ (v : V) (t : Th), vs = [v] ∧ R K H v t.d ∧ t.d.canLay0 = true ∧ t.sz ≤ 100000 ∧ ∀ H', Same H H' → Q (.bl (t.whole 0)) H'
theorem use_whole {K : PySem.W.Frag} {H : Hp} {Q : VK} {E : XK} {v : V} {t : Th} (r : R K H v t.d) (l : t.d.canLay0 = true) (z : t.sz ≤ 100000) (h : ∀ H', Same H H' → Q (.bl (t.whole 0)) H') : spWhole K [v] H Q E := ⟨v, t, rfl, r, l, z, h⟩
theorem ends_of {α : Type} {xs : List α} (h : xs.isEmpty = false) : ∃ ys y, xs = ys ++ [y] := by
  rcases List.eq_nil_or_concat xs with rfl | ⟨ys, y, rfl⟩
  · simp at h
  · exact ⟨ys, y, by simp⟩
theorem whole_push {ps : List (Th × Nat)} {p : Th × Nat} {W : Bool} (hn : ¬ p.1.word = "bound" ∨ (∃ k, p.1 = .bnd k ∧ k < p.2)) (h : ((ps ++ [p]).all fun p => p.1.whole p.2) = W) :
    ((ps ++ p.1.parts.map fun a => (a, p.2 + p.1.inner)).all fun p => p.1.whole p.2) = W := by
  rw [List.all_append] at h ⊢
  rw [← h]
  congr 1
  rw [List.all_map]
  rcases hn with hn | ⟨k, hk, hlt⟩
  · have e := Th.whole_step p.2 hn
    simp only [List.all_cons, List.all_nil, Bool.and_true]
    rw [e]
    rfl
  · obtain ⟨t, n⟩ := p
    simp only at hk hlt
    subst hk
    simp [Th.parts, Th.whole, hlt]
theorem psz_push {ps : List (Th × Nat)} {p : Th × Nat} (n : Nat) : psz (ps ++ p.1.parts.map fun a => (a, n)) + 1 = psz (ps ++ [p]) := by
  have h := Th.szs_parts p.1
  rw [psz_append, psz_append, psz_map]
  simp only [psz, List.map_cons, List.map_nil, List.sum_cons, List.sum_nil]
  omega
theorem lay_push {ps : List (Th × Nat)} {p : Th × Nat} (n : Nat) (h : ∀ q ∈ ps ++ [p], q.1.d.canLay0 = true) : ∀ q ∈ (ps ++ p.1.parts.map fun a => (a, n)), q.1.d.canLay0 = true := by
  intro q hq
  rcases List.mem_append.mp hq with hq | hq
  · exact h q (List.mem_append_left _ hq)
  · obtain ⟨a, ha, rfl⟩ := List.mem_map.mp hq
    exact Th.lay_parts (h p (List.mem_append_right _ (List.mem_singleton.mpr rfl))) a ha
theorem sz_mem {t : Th} : ∀ {ts : List Th}, t ∈ ts → t.sz ≤ Th.szs ts
  | x :: xs, h => by
    rcases List.mem_cons.mp h with rfl | h
    · exact Nat.le_add_right _ _
    · exact Nat.le_trans (sz_mem h) (Nat.le_add_left _ _)
end G

namespace G
open PySem PySem.Spec PyProof.Rows L2
def optD : Option Th → PyData
  | none => .none
  | some t => t.d
def leafP (old new : Option Th) (u : Nat) (t : Th) : Th := if PyData.eqv t.d (old.getD (.bnd u)).d = true then new.getD (.bnd u) else t
mutual
def Th.lput (old new : Option Th) (u : Nat) : Th → Th
  | .free x => leafP old new u (.free x)
  | .bnd k => leafP old new u (.bnd k)
  | .fls => .fls
  | .app w c args => .app w c (Th.lputs old new u args)
  | .qua w k a => .qua w k (a.lput old new (u + 1))
  | .two w a b => .two w (a.lput old new u) (b.lput old new u)
def Th.lputs (old new : Option Th) (u : Nat) : List Th → List Th
  | [] => []
  | t :: ts => t.lput old new u :: Th.lputs old new u ts
end
theorem Th.ds_lputs (old new : Option Th) (u : Nat) : ∀ ts : List Th, Th.ds (Th.lputs old new u ts) = ts.map fun t => (t.lput old new u).d
  | [] => rfl
  | t :: ts => by rw [Th.lputs, Th.ds, Th.ds_lputs old new u ts]; rfl
theorem Th.lputs_len (old new : Option Th) (u : Nat) : ∀ ts : List Th, (Th.lputs old new u ts).length = ts.length
  | [] => rfl
  | t :: ts => by rw [Th.lputs, List.length_cons, List.length_cons, Th.lputs_len old new u ts]
def orB (u : Nat) (d : PyData) : PyData := if isNone d = true then .tuple [.str "bound", .int (u : Nat)] else d
theorem isNone_d (t : Th) : isNone t.d = false := by cases t <;> rfl
theorem orB_opt (u : Nat) (o : Option Th) : orB u (optD o) = (o.getD (.bnd u)).d := by
  cases o with
  | none => rfl
  | some t => show (if isNone t.d = true then _ else t.d) = t.d; rw [isNone_d]; rfl
def LayO (o : Option Th) : Prop := ∀ t, o = some t → t.d.canLay0 = true
theorem LayO.get {o : Option Th} (h : LayO o) (u : Nat) : (o.getD (.bnd u)).d.canLay0 = true := by
  cases o with
  | none => exact Th.layT (F := []) (n := u + 1) (.bnd u) (Nat.lt_succ_self u)
  | some t => exact h t rfl
/-- rebuilt of other parts -/
def Th.rb (ts : List Th) : Th → Th
  | .app w c _ => .app w c ts
  | .qua w k a => .qua w k (ts.getD 0 a)
  | .two w a b => .two w (ts.getD 0 a) (ts.getD 1 b)
  | t => t
def spLput (K : PySem.W.Frag) (m : Nat) : Sp := fun vs H Q _ => ∃ (v vo vn : V) (t : Th) (old new : Option Th) (u : Nat), vs = [v, .int (u : Nat), vo, vn] ∧ R K H v t.d ∧ R K H vo (optD old) ∧ R K H vn (optD new) ∧ t.d.canLay0 = true ∧ LayO old ∧ t.dep ≤ m ∧ t.sz ≤ 100000 ∧
  ∀ x H', Same H H' → R K H' x (t.lput old new u).d → Q x H'
def spRb (K : PySem.W.Frag) : Sp := fun vs H Q _ => ∃ (v l : V) (t : Th) (ts : List Th), vs = [v, l] ∧ R K H v t.d ∧ R K H l (.list (Th.ds ts)) ∧ ts.length = t.parts.length ∧ ts.length ≤ 100000 ∧ 0 < t.rest.length - 1 ∧ ∀ x H', Same H H' → R K H' x (t.rb ts).d → Q x H'
theorem use_rb {K : PySem.W.Frag} {H : Hp} {Q : VK} {E : XK} {v l : V} {t : Th} {ts : List Th} (r : R K H v t.d) (rl : R K H l (.list (Th.ds ts))) (h1 : ts.length = t.parts.length) (h2 : ts.length ≤ 100000) (h3 : 0 < t.rest.length - 1) (h : ∀ x H', Same H H' → R K H' x (t.rb ts).d → Q x H') : spRb K [v, l] H Q E := ⟨v, l, t, ts, rfl, r, rl, h1, h2, h3, h⟩
theorem use_lput {K : PySem.W.Frag} {m : Nat} {H : Hp} {Q : VK} {E : XK} {v vo vn : V} {t : Th} {old new : Option Th} {u : Nat} (r : R K H v t.d) (ro : R K H vo (optD old)) (rn : R K H vn (optD new)) (l : t.d.canLay0 = true) (lo : LayO old) (hd : t.dep ≤ m) (hz : t.sz ≤ 100000)
    (h : ∀ x H', Same H H' → R K H' x (t.lput old new u).d → Q x H') : spLput K m [v, .int (u : Nat), vo, vn] H Q E := ⟨v, vo, vn, t, old, new, u, rfl, r, ro, rn, l, lo, hd, hz, h⟩
theorem int_bl1 {H : Hp} {Q : VK} (h : Q (.int 1) H) : rInt1 [.bl true] H Q := int_bl h
theorem int_bl0 {H : Hp} {Q : VK} (h : Q (.int 0) H) : rInt1 [.bl false] H Q := int_bl h
theorem int_bl2 {H : Hp} {Q : VK} {b : Bool} (h1 : b = true → Q (.int 1) H) (h0 : b = false → Q (.int 0) H) : rInt1 [.bl b] H Q := by
  cases b
  · exact int_bl (h0 rfl)
  · exact int_bl (h1 rfl)
theorem no_none {t : Th} (h : isNone t.d = true) : False := by rw [isNone_d] at h; cases h
/-- opened | closed | free_put: what they promise, of one kind: old and new given -/
def spOpen (K : PySem.W.Frag) : Sp := fun vs H Q _ => ∃ (v w : V) (b t : Th), vs = [v, w] ∧ R K H v b.d ∧ R K H w t.d ∧ b.d.canLay0 = true ∧ b.dep ≤ 90 ∧ b.sz ≤ 100000 ∧ ∀ x H', Same H H' → R K H' x (b.lput none (some t) 0).d → Q x H'
def spClose (K : PySem.W.Frag) : Sp := fun vs H Q _ => ∃ (v : V) (b : Th) (x : Str), vs = [v, .str x] ∧ R K H v b.d ∧ isNameS x = true ∧ b.d.canLay0 = true ∧ b.dep ≤ 90 ∧ b.sz ≤ 100000 ∧ ∀ u H', Same H H' → R K H' u (b.lput (some (.free x)) none 0).d → Q u H'
def spFPut (K : PySem.W.Frag) : Sp := fun vs H Q _ => ∃ (v w : V) (b t : Th) (x : Str), vs = [v, .str x, w] ∧ R K H v b.d ∧ R K H w t.d ∧ isNameS x = true ∧ b.d.canLay0 = true ∧ b.dep ≤ 90 ∧ b.sz ≤ 100000 ∧ ∀ u H', Same H H' → R K H' u (b.lput (some (.free x)) (some t) 0).d → Q u H'
theorem layO_none : LayO none := fun t h => by cases h
theorem layO_free {x : Str} (h : isNameS x = true) : LayO (some (.free x)) := fun t e => by
  cases e
  exact Th.layT (F := [x]) (n := 0) (.free x) ⟨h, by simp⟩
theorem layO_some {t : Th} (h : t.d.canLay0 = true) : LayO (some t) := fun t' e => by cases e; exact h
end G

namespace G
open PySem PySem.Spec PyProof.Rows L2
theorem eqv_ff (x y : Str) : PyData.eqv (Th.free x).d (Th.free y).d = decide (x = y) := by
  rw [Bool.eq_iff_iff]
  simp [Th.d, PyData.eqv, PyData.eqvAll]
theorem eqv_bb (i j : Nat) : PyData.eqv (Th.bnd i).d (Th.bnd j).d = decide (i = j) := by
  rw [Bool.eq_iff_iff]
  simp [Th.d, PyData.eqv, PyData.eqvAll]
  try omega
theorem eqv_fb (x : Str) (j : Nat) : PyData.eqv (Th.free x).d (Th.bnd j).d = false := by
  have e : ((Str.ofString "free" : Str) = Str.ofString "bound") = False := eq_false (by decide +kernel)
  simp [Th.d, PyData.eqv, PyData.eqvAll, e]
theorem eqv_bf (x : Str) (j : Nat) : PyData.eqv (Th.bnd j).d (Th.free x).d = false := by
  have e : ((Str.ofString "bound" : Str) = Str.ofString "free") = False := eq_false (by decide +kernel)
  simp [Th.d, PyData.eqv, PyData.eqvAll, e]
theorem leafP_dep {old new : Option Th} {u m : Nat} {t : Th} (h : (new.getD (.bnd u)).dep ≤ m) (ht : t.dep ≤ 1) : (leafP old new u t).dep ≤ 1 + m := by
  unfold leafP; split <;> omega
mutual
theorem Th.dep_lput {old new : Option Th} {m : Nat} (h : ∀ u, (new.getD (.bnd u)).dep ≤ m) : ∀ (t : Th) (u : Nat), (t.lput old new u).dep ≤ t.dep + m
  | .free x, u => by have := leafP_dep (old := old) (h u) (t := .free x) (Nat.le_refl 1); simp only [Th.lput, Th.dep] at *; omega
  | .bnd k, u => by have := leafP_dep (old := old) (h u) (t := .bnd k) (Nat.le_refl 1); simp only [Th.lput, Th.dep] at *; omega
  | .fls, u => by simp only [Th.lput, Th.dep]; omega
  | .app w c args, u => by have := Th.deps_lput h (old := old) args u; simp only [Th.lput, Th.dep]; omega
  | .qua w k a, u => by have := Th.dep_lput h (old := old) a (u + 1); simp only [Th.lput, Th.dep]; omega
  | .two w a b, u => by have := Th.dep_lput h (old := old) a u; have := Th.dep_lput h (old := old) b u; simp only [Th.lput, Th.dep]; omega
theorem Th.deps_lput {old new : Option Th} {m : Nat} (h : ∀ u, (new.getD (.bnd u)).dep ≤ m) : ∀ (ts : List Th) (u : Nat), Th.deps (Th.lputs old new u ts) ≤ Th.deps ts + m
  | [], u => by simp [Th.lputs, Th.deps]
  | t :: ts, u => by have := Th.dep_lput h (old := old) t u; have := Th.deps_lput h (old := old) ts u; simp only [Th.lputs, Th.deps]; omega
end
theorem leafP_sz {old new : Option Th} {u : Nat} {t : Th} (h : (new.getD (.bnd u)).sz = 1) (ht : t.sz = 1) : (leafP old new u t).sz = 1 := by
  unfold leafP; split <;> omega
mutual
theorem Th.sz_lput {old new : Option Th} (h : ∀ u, (new.getD (.bnd u)).sz = 1) : ∀ (t : Th) (u : Nat), (t.lput old new u).sz = t.sz
  | .free x, u => by have := leafP_sz (old := old) (h u) (t := .free x) rfl; simp only [Th.lput, Th.sz] at *; omega
  | .bnd k, u => by have := leafP_sz (old := old) (h u) (t := .bnd k) rfl; simp only [Th.lput, Th.sz] at *; omega
  | .fls, u => by simp only [Th.lput, Th.sz]
  | .app w c args, u => by have := Th.szs_lput h (old := old) args u; simp only [Th.lput, Th.sz]; omega
  | .qua w k a, u => by have := Th.sz_lput h (old := old) a (u + 1); simp only [Th.lput, Th.sz]; omega
  | .two w a b, u => by have := Th.sz_lput h (old := old) a u; have := Th.sz_lput h (old := old) b u; simp only [Th.lput, Th.sz]; omega
theorem Th.szs_lput {old new : Option Th} (h : ∀ u, (new.getD (.bnd u)).sz = 1) : ∀ (ts : List Th) (u : Nat), Th.szs (Th.lputs old new u ts) = Th.szs ts
  | [], u => by simp [Th.lputs, Th.szs]
  | t :: ts, u => by have := Th.sz_lput h (old := old) t u; have := Th.szs_lput h (old := old) ts u; simp only [Th.lputs, Th.szs]; omega
end
theorem leafP_lay {old new : Option Th} {u : Nat} {t : Th} (h : LayO new) (ht : t.d.canLay0 = true) : (leafP old new u t).d.canLay0 = true := by
  unfold leafP; split
  · exact h.get u
  · exact ht
mutual
theorem Th.lay_lput {old new : Option Th} (h : LayO new) : ∀ (t : Th) (u : Nat), t.d.canLay0 = true → (t.lput old new u).d.canLay0 = true
  | .free x, u, l => leafP_lay h l
  | .bnd k, u, l => leafP_lay h l
  | .fls, u, l => l
  | .app w c args, u, l => by
    have hl : PyData.canLayAll0 (Th.ds args) = true := by simp only [Th.d, PyData.canLay0, PyData.canLayAll0, Bool.and_eq_true] at l; exact l.2.2.1
    have := Th.lays_lput h (old := old) args u hl
    simp only [Th.lput, Th.d, PyData.canLay0, PyData.canLayAll0, Bool.and_eq_true] at l ⊢
    exact ⟨l.1, l.2.1, this, l.2.2.2⟩
  | .qua w k a, u, l => by
    have hl : a.d.canLay0 = true := by simp only [Th.d, PyData.canLay0, PyData.canLayAll0, Bool.and_eq_true] at l; exact l.2.2.1
    have := Th.lay_lput h (old := old) a (u + 1) hl
    simp only [Th.lput, Th.d, PyData.canLay0, PyData.canLayAll0, Bool.and_eq_true] at l ⊢
    exact ⟨l.1, l.2.1, this, l.2.2.2⟩
  | .two w a b, u, l => by
    have hl : a.d.canLay0 = true ∧ b.d.canLay0 = true := by simp only [Th.d, PyData.canLay0, PyData.canLayAll0, Bool.and_eq_true] at l; exact ⟨l.2.1, l.2.2.1⟩
    have := Th.lay_lput h (old := old) a u hl.1
    have := Th.lay_lput h (old := old) b u hl.2
    simp only [Th.lput, Th.d, PyData.canLay0, PyData.canLayAll0, Bool.and_eq_true] at l ⊢
    exact ⟨l.1, by assumption, by assumption, l.2.2.2⟩
theorem Th.lays_lput {old new : Option Th} (h : LayO new) : ∀ (ts : List Th) (u : Nat), PyData.canLayAll0 (Th.ds ts) = true → PyData.canLayAll0 (Th.ds (Th.lputs old new u ts)) = true
  | [], u, l => rfl
  | t :: ts, u, l => by
    have hl : t.d.canLay0 = true ∧ PyData.canLayAll0 (Th.ds ts) = true := by simpa only [Th.ds, PyData.canLayAll0, Bool.and_eq_true] using l
    have := Th.lay_lput h (old := old) t u hl.1
    have := Th.lays_lput h (old := old) ts u hl.2
    simp only [Th.lputs, Th.ds, PyData.canLayAll0, Bool.and_eq_true]
    exact ⟨by assumption, by assumption⟩
end
/-- what two puttings one after the other leave as it is -/
structure Back (F : List Str) (c : Nat) (o1 n1 o2 n2 : Option Th) : Prop where
  hf : ∀ u x, x ∈ F → ((Th.free x).lput o1 n1 u).lput o2 n2 u = .free x
  hb : ∀ u k, k < u + c → ((Th.bnd k).lput o1 n1 u).lput o2 n2 u = .bnd k
section
variable {F : List Str} {c : Nat} {o1 n1 o2 n2 : Option Th}
mutual
theorem Th.backT (h : Back F c o1 n1 o2 n2) : ∀ (t : Th) (u : Nat), t.isT F (u + c) → (t.lput o1 n1 u).lput o2 n2 u = t
  | .free x, u, q => h.hf u x (show isNameS x = true ∧ x ∈ F from q).2
  | .bnd k, u, q => h.hb u k q
  | .app .form s args, u, q => by simp only [Th.lput, Th.backTs h args u q.2.2]
  | .app .call s args, u, q => by simp only [Th.lput, Th.backTs h args u q.2.2]
theorem Th.backTs (h : Back F c o1 n1 o2 n2) : ∀ (ts : List Th) (u : Nat), Th.areT F (u + c) ts → Th.lputs o2 n2 u (Th.lputs o1 n1 u ts) = ts
  | [], u, q => rfl
  | t :: ts, u, q => by simp only [Th.lputs, Th.backT h t u q.1, Th.backTs h ts u q.2]
end
theorem Th.backS (h : Back F c o1 n1 o2 n2) : ∀ (t : Th) (u : Nat), t.isS F (u + c) → (t.lput o1 n1 u).lput o2 n2 u = t
  | .fls, u, q => rfl
  | .two .same a b, u, q => by simp only [Th.lput, Th.backT h a u q.1, Th.backT h b u q.2]
  | .app .atom s args, u, q => by simp only [Th.lput, Th.backTs h args u q.2.2]
  | .two .and a b, u, q => by simp only [Th.lput, Th.backS h a u q.1, Th.backS h b u q.2]
  | .two .or a b, u, q => by simp only [Th.lput, Th.backS h a u q.1, Th.backS h b u q.2]
  | .two .iff a b, u, q => by simp only [Th.lput, Th.backS h a u q.1, Th.backS h b u q.2]
  | .qua w s a, u, q => by
    have := Th.backS h a (u + 1) (by rw [show u + 1 + c = u + c + 1 by omega]; exact q.2)
    simp only [Th.lput, this]
mutual
theorem Th.idT {n : Option Th} : ∀ (t : Th) (u : Nat), t.isT F u → t.lput none n u = t
  | .free x, u, q => by
    show leafP none n u (.free x) = _
    unfold leafP
    rw [if_neg (by show ¬ PyData.eqv (Th.free x).d (Th.bnd u).d = true; rw [eqv_fb]; decide)]
  | .bnd k, u, q => by
    show leafP none n u (.bnd k) = _
    unfold leafP
    have hk : k < u := q
    rw [if_neg (by show ¬ PyData.eqv (Th.bnd k).d (Th.bnd u).d = true; rw [eqv_bb, decide_eq_true_eq]; omega)]
  | .app .form s args, u, q => by simp only [Th.lput, Th.idTs args u q.2.2]
  | .app .call s args, u, q => by simp only [Th.lput, Th.idTs args u q.2.2]
theorem Th.idTs {n : Option Th} : ∀ (ts : List Th) (u : Nat), Th.areT F u ts → Th.lputs none n u ts = ts
  | [], u, q => rfl
  | t :: ts, u, q => by simp only [Th.lputs, Th.idT t u q.1, Th.idTs ts u q.2]
end
theorem Th.idS {n : Option Th} : ∀ (t : Th) (u : Nat), t.isS F u → t.lput none n u = t
  | .fls, u, q => rfl
  | .two .same a b, u, q => by simp only [Th.lput, Th.idT a u q.1, Th.idT b u q.2]
  | .app .atom s args, u, q => by simp only [Th.lput, Th.idTs args u q.2.2]
  | .two .and a b, u, q => by simp only [Th.lput, Th.idS a u q.1, Th.idS b u q.2]
  | .two .or a b, u, q => by simp only [Th.lput, Th.idS a u q.1, Th.idS b u q.2]
  | .two .iff a b, u, q => by simp only [Th.lput, Th.idS a u q.1, Th.idS b u q.2]
  | .qua w s a, u, q => by simp only [Th.lput, Th.idS a (u + 1) q.2]
end
theorem leafP_yes {old new : Option Th} {u : Nat} {t : Th} (h : PyData.eqv t.d (old.getD (.bnd u)).d = true) : leafP old new u t = new.getD (.bnd u) := if_pos h
theorem leafP_no {old new : Option Th} {u : Nat} {t : Th} (h : PyData.eqv t.d (old.getD (.bnd u)).d = false) : leafP old new u t = t := if_neg (by rw [h]; decide)
/-- closed, then opened -/
theorem back_co (F : List Str) (x : Str) : Back F 0 (some (.free x)) none none (some (.free x)) where
  hf u y _ := by
    show Th.lput none (some (.free x)) u (leafP (some (.free x)) none u (.free y)) = _
    by_cases e : y = x
    · subst e
      rw [leafP_yes (by show PyData.eqv (Th.free y).d (Th.free y).d = true; rw [eqv_ff]; exact decide_eq_true rfl)]
      show leafP none (some (.free y)) u (.bnd u) = _
      exact leafP_yes (by show PyData.eqv (Th.bnd u).d (Th.bnd u).d = true; rw [eqv_bb]; exact decide_eq_true rfl)
    · rw [leafP_no (by show PyData.eqv (Th.free y).d (Th.free x).d = false; rw [eqv_ff]; exact decide_eq_false e)]
      exact leafP_no (by exact eqv_fb y u)
  hb u k hk := by
    show Th.lput none (some (.free x)) u (leafP (some (.free x)) none u (.bnd k)) = _
    rw [leafP_no (by exact eqv_bf x k)]
    exact leafP_no (by show PyData.eqv (Th.bnd k).d (Th.bnd u).d = false; rw [eqv_bb]; exact decide_eq_false (by omega))
/-- opened, then closed -/
theorem back_oc {F : List Str} {x : Str} (hx : x ∉ F) : Back F 1 none (some (.free x)) (some (.free x)) none where
  hf u y hy := by
    show Th.lput (some (.free x)) none u (leafP none (some (.free x)) u (.free y)) = _
    rw [leafP_no (by exact eqv_fb y u)]
    exact leafP_no (by show PyData.eqv (Th.free y).d (Th.free x).d = false; rw [eqv_ff]; exact decide_eq_false fun e => hx (e ▸ hy))
  hb u k hk := by
    show Th.lput (some (.free x)) none u (leafP none (some (.free x)) u (.bnd k)) = _
    by_cases e : k = u
    · subst e
      rw [leafP_yes (by show PyData.eqv (Th.bnd k).d (Th.bnd k).d = true; rw [eqv_bb]; exact decide_eq_true rfl)]
      show leafP (some (.free x)) none k (.free x) = _
      exact leafP_yes (by show PyData.eqv (Th.free x).d (Th.free x).d = true; rw [eqv_ff]; exact decide_eq_true rfl)
    · rw [leafP_no (by show PyData.eqv (Th.bnd k).d (Th.bnd u).d = false; rw [eqv_bb]; exact decide_eq_false e)]
      exact leafP_no (by exact eqv_bf x k)
end G

namespace G
open PySem PySem.Spec PyProof.Rows L2
/-! enumerate over a tuple -/
theorem meets_enumT (l : Addr) (items : Array Value) (n : Nat) (dct : Option Addr) (sl : Array (Option Value)) :
    Meets (Builtin.«enumerate.__new__» ⟨[.type "enumerate", .ref l], []⟩) (fun _ R s => s.heap.get? l = some { cls := .type "tuple", dict := dct, data := .seq items n, slots := sl } ∧
      R (.ok (.ret (.ref (s.heap.push { cls := .type "tuple_iterator", data := .fields #[.ref l, .int 0 0] }).objs.size)))
        { s with heap := (s.heap.push { cls := .type "tuple_iterator", data := .fields #[.ref l, .int 0 0] }).push { cls := .type "enumerate", data := .fields #[.none, .bool false, .ref s.heap.objs.size, rawInt 0, .none, .none] } }) :=
  .of_wp fun prog w A R s h => by
    obtain ⟨hp, g, d, tk, os⟩ := s; obtain ⟨hl, h⟩ := h
    have hsub := sub_enumerate
    have hL : Heap.IsTuple (Shared.heap ⟨hp, g, d, tk, os⟩) l items := ⟨_, hl, rfl, n, rfl⟩
    wp_walk using PySem.AutoSeq1.wpAny_loadPart' hl
    refine wpAny_stack_any fun st => wpAny_pure ?_
    split
    · rename_i c _ _ _ _ _
      cases (c == Value.type "enumerate") <;>
      · wp_walk using PySem.AutoSeq1.wpAny_loadPart' hl, wpAny_pyIter_tuple hL
        exact ⟨_, rfl, h⟩
    · wp_walk using PySem.AutoSeq1.wpAny_loadPart' hl, wpAny_pyIter_tuple hL
      exact ⟨_, rfl, h⟩
section
variable {prog : Program} {w : World} {A : Around} {E : Value → Shared → Prop} {s : Shared}
theorem call_enumT {l : Addr} {items : Array Value} {Q : Value → Shared → Prop} (hL : s.heap.IsTuple l items)
    (h : ∀ h', IsEnum h' (s.heap.objs.size + 1) s.heap.objs.size 0 .none → h'.IsTupleIter s.heap.objs.size l 0 → h'.objs.size = s.heap.objs.size + 2 →
      (∀ b o, s.heap.get? b = some o → h'.get? b = some o) → Q (.ref (s.heap.objs.size + 1)) { s with heap := h' }) :
    wpAny (model prog w) A (call (.type "enumerate") [.ref l]) Q E s := by
  obtain ⟨⟨c, dct, dt, sl⟩, hl, hc, n, hd⟩ := hL
  replace hc : c = .type "tuple" := hc
  replace hd : dt = .seq items n := hd
  subst hc hd
  refine callType_new F.called_enumerate (by decide) (F.typeCall_enumerate_1 _) (F.newCall_enumerate_1 _) (fun obj => F.args_object_init_2 obj _) F.entry_enumerate_new
    (meets_enumT l items n dct sl) ⟨hl, ?_⟩
  have hz : (s.heap.push { cls := .type "tuple_iterator", data := .fields #[.ref l, .int 0 0] }).objs.size = s.heap.objs.size + 1 := Heap.size_push ..
  show _ ∧ _
  rw [hz]
  have he : IsEnum ((s.heap.push { cls := .type "tuple_iterator", data := .fields #[.ref l, .int 0 0] }).push
      { cls := .type "enumerate", data := .fields #[.none, .bool false, .ref s.heap.objs.size, rawInt 0, .none, .none] }) (s.heap.objs.size + 1) s.heap.objs.size 0 .none := by
    have := Heap.get?_push_size (s.heap.push { cls := .type "tuple_iterator", data := .fields #[.ref l, .int 0 0] })
      (o := { cls := .type "enumerate", data := .fields #[.none, .bool false, .ref s.heap.objs.size, rawInt 0, .none, .none] }) rfl
    rw [hz] at this; exact this
  exact ⟨⟨_, he, rfl⟩, h _ he ⟨_, Heap.get?_push_of_some _ (Heap.get?_push_size _ rfl), rfl, rfl⟩ (by rw [Heap.size_push, hz]) fun b o x => Heap.get?_push_of_some _ (Heap.get?_push_of_some _ x)⟩
end
/-- the tuple at a, each item in a new pair -/
def IteT (K : PySem.W.Frag) (a : Addr) : It :=
  ⟨fun i H => ∃ (xs : List V) (x : V), SqT K H a xs ∧ xs[i]? = some x, fun i H v H' => ∃ T x, v = .ref T ∧ H T = none ∧ H' = upd H T (.tup [.int (i : Nat), x]) ∧ ∀ xs, SqT K H a xs → xs[i]? = some x, fun i H => ∃ xs : List V, SqT K H a xs ∧ xs.length ≤ i⟩
theorem turn_enumT {P : Program} {w : World} {K : PySem.W.Frag} {elts : List Expr} {kk : Nat} {tpos : Pos} (a e it : Addr) :
    Turn P w K (.Tuple elts kk tpos) (IteT K a) [e, it] e (fun i h => (∃ old, IsEnum h e it ((i : Nat) : Int) old) ∧ h.IsTupleIter it a i ∧ e ≠ it) where
  mem := by simp
  obj := fun i h st b hb => by
    obtain ⟨⟨old, he⟩, ⟨o, ho, hc, hd⟩, _⟩ := st
    have e' : b = e ∨ b = it := by simpa using hb
    rcases e' with z | z
    · rw [z]; exact ⟨_, he, fun v q => nomatch q⟩
    · rw [z]; exact ⟨o, ho, fun v q => by rw [hd] at q; cases q⟩
  keep := fun i h h' st k => let ⟨⟨old, he⟩, hi, hne⟩ := st; ⟨⟨old, k e (by simp) _ he⟩, hi.at fun o q => k it (by simp) o q, hne⟩
  item := by
    intro X hP hw hK hc i pins s σ H E I hf st hg
    subst hP hw hK
    obtain ⟨⟨old, he⟩, hit, hne⟩ := st
    obtain ⟨xs, x, hq, hx⟩ := hg
    obtain ⟨its, rv, p, hz⟩ := I.tuple hq
    obtain ⟨u, hu, ru⟩ := rv.get hx
    have p' : s.heap.IsTuple a its.toArray := p
    have hel : e < s.heap.objs.size := Heap.lt_size he
    have hil : it < s.heap.objs.size := by obtain ⟨_, q, _⟩ := hit; exact Heap.lt_size q
    have hai : a ≠ it := by
      rintro rfl
      obtain ⟨o1, q1, c1, _⟩ := hit
      obtain ⟨o2, q2, c2, _⟩ := p'
      rw [q1] at q2
      cases q2
      rw [c1] at c2
      exact absurd c2 (by decide)
    have hea : e ∉ [it, a] := by
      intro hm
      rcases List.mem_cons.mp hm with z | hm
      · exact hne z
      · obtain rfl := List.mem_singleton.mp hm
        obtain ⟨o2, q2, c2, _⟩ := p'
        have he' : s.heap.get? e = _ := he
        rw [he'] at q2
        cases q2
        have c3 : (Value.type "enumerate" : Value) = .type "tuple" := c2
        exact absurd c3 (by decide)
    have hlt : i < its.toArray.size := by
      have := (List.getElem?_eq_some_iff.mp hu).1
      simpa using this
    refine wpAny_pyNext_enum_itemD (Draws.tuple (by exact (I.ok.hd hc)) it a hai its.toArray) he ⟨hit, p'⟩ hlt hne hea fun x' h' tk hP ho hst' hT hsz hk => ?_
    have hxu : x' = u := by
      have h1 : its.toArray[i]? = some x' := hP
      have h2 : its.toArray[i]? = some u := by simpa using hu
      rw [h1] at h2
      exact Option.some.inj h2
    subst hxu
    refine ⟨_, rfl, wpAny_letOwnedTupleGo_enum (s := { s with heap := h', toks := tk + 1 }) ho fun h'' he' sb => ?_⟩
    have hT2 : h''.get? s.heap.objs.size = some { cls := .type "tuple", data := .seq #[.int i tk, x'] } := (sb.2 _ (Nat.ne_of_gt hel)).trans hT
    have new : ObjOk X.prog X.w (upd H s.heap.objs.size (.tup [.int (i : Nat), x])) h'' s.heap.objs.size (.tup [.int (i : Nat), x]) :=
      ⟨by show 2 ≤ sizeLine; decide, [.int i tk, x'], .cons ⟨_, rfl⟩ (.cons ru .nil), ⟨_, hT2, rfl, _, rfl⟩⟩
    have I1 : Inv X pins σ (upd H s.heap.objs.size (.tup [.int (i : Nat), x])) { s with heap := h'', toks := tk + 1 } :=
      I.turnedNew (ch := [e, it]) (fun b ob hb q => (sb.2 b (fun z => hb (by simp [z]))).trans (hk b ob (fun z => hb (by simp [z])) (fun z => hb (by simp [z])) q)) hf (Nat.le_refl _) new
    refine ⟨.ref s.heap.objs.size, _, I1, rfl, ⟨_, x, rfl, I.hok.fresh (Nat.le_refl _), rfl, fun ys hy => by rw [I.tuple_inj hy hq]; exact hx⟩, ⟨⟨x', ?_⟩, hst'.1.at fun o q => (sb.2 it (Ne.symm hne)).trans q, hne⟩, fun b hb => ?_⟩
    · have e1 : ((i + 1 : Nat) : Int) = (i : Int) + 1 := by omega
      rw [e1]; exact he'
    · have hb' : b < s.heap.objs.size := by
        have e' : b = e ∨ b = it := by simpa using hb
        rcases e' with z | z
        · rw [z]; exact hel
        · rw [z]; exact hil
      rw [upd_ne (Nat.ne_of_lt hb')]
      exact (hf b hb).1
  done := by
    intro X hP hw hK hc i pins s σ H E I hf st hg
    subst hP hw hK
    obtain ⟨⟨old, he⟩, hit, hne⟩ := st
    obtain ⟨xs, hq, hx⟩ := hg
    obtain ⟨its, rv, p, hz⟩ := I.tuple hq
    obtain ⟨f0, f1, f2, f3, f4, f5⟩ := hf it (by simp)
    have hl := rv.length
    have p' : s.heap.IsTuple a its.toArray := p
    have hea : e ≠ a := by
      rintro rfl
      obtain ⟨o2, q2, c2, _⟩ := p'
      have he' : s.heap.get? e = _ := he
      rw [he'] at q2
      cases q2
      have c3 : (Value.type "enumerate" : Value) = .type "tuple" := c2
      exact absurd c3 (by decide)
    have D : Draws X.prog X.w X.A.in1 it [it, a] i (fun _ _ => True) (fun j h => j = i ∧ h.IsTupleIter it a i ∧ h.IsTuple a its.toArray) :=
      { live := fun _ _ st => let ⟨o, ho, _⟩ := st.2.1; ⟨o, ho⟩
        frame := fun _ _ _ st hk => ⟨st.1, st.2.1.at fun o q => hk it (by simp) o q, st.2.2.at fun o q => hk a (by simp) o q⟩
        item := fun j s' Q E' hj st _ => absurd st.1 (Nat.ne_of_lt hj)
        done := fun s' Q E' st hE => wpAny_nextOf_tuple_end (by exact (I.ok.hd hc)) st.2.1 st.2.2 (by simp; omega) hE }
    exact wpAny_pyNext_enum_endD D he ⟨rfl, hit, p'⟩ fun h' eb => ⟨rfl, I.turned (t' := s.toks) (fun b o hb q => eb b o hb q) f0 f1 f3 f4 f5⟩
  self := fun A i s Q E st h => let ⟨⟨_, he⟩, _⟩ := st; wpAny_pyIter_enum he h
def iEnumT (K : PySem.W.Frag) (ta : TA) : TI := fun σ H R => ta σ H fun vs H1 => ∃ a xs, vs = [.ref a] ∧ SqT K H1 a xs ∧ R (IteT K a) H1
theorem pi_enumT {X : Cx} {e : Expr} {ta : TA} {p pos tpos : Pos} {elts : List Expr} {kk : Nat} (hg : Gl X "enumerate") (hm : X.mg "enumerate" = none) (ha : PA X [e] ta) (hs : starEach [e] X.env = [(false, eval e X.env)] := by rfl) :
    PI X (.Tuple elts kk tpos) (.Call (.Name "enumerate" p) [e] [] pos) (iEnumT X.K ta) := by
  refine ⟨fun pins s σ H R I h => ?_⟩
  refine Call_ (ld_blt I hg hm boot_enumerate (PyProof.Rows.callWith_type1 (thn (ha.run pos pins s σ H _ I h) fun us s1 ⟨vs, H1, I1, r1, q1⟩ => ?_) hs rfl))
  obtain ⟨a, xs, ex, hq, q⟩ := q1
  subst ex
  cases r1 with
  | cons r rr =>
    cases rr
    cases r
    obtain ⟨its, rv, p', hz⟩ := I1.tuple hq
    refine call_enumT (show s1.heap.IsTuple a its.toArray from p') fun h' he hit hsz hk => wpAny_pyIter_enum he ?_
    have I2 : Inv X pins σ H1 { s1 with heap := h' } := I1.kept (t' := s1.toks) hk
    refine ⟨s1.heap.objs.size + 1, [s1.heap.objs.size + 1, s1.heap.objs.size], _, _, H1, rfl, I2, turn_enumT a (s1.heap.objs.size + 1) s1.heap.objs.size, ⟨⟨.none, he⟩, hit, Nat.succ_ne_self _⟩, fun b hb => ?_, q⟩
    have e' : b = s1.heap.objs.size + 1 ∨ b = s1.heap.objs.size := by simpa using hb
    have hle : s1.heap.objs.size ≤ b := by
      rcases e' with z | z
      · rw [z]; exact Nat.le_add_right _ _
      · rw [z]; exact Nat.le_refl _
    exact I1.fpOk hle (I1.hok.fresh hle)
section
variable {K : PySem.W.Frag} {a : Addr} {xs : List V}
theorem walk_enumT : Walk (IteT K a) xs.length (fun H => SqT K H a xs) (YPair (fun i => some (.int (i : Nat))) (fun i => xs[i]?)) := by
  refine ⟨fun i _ hi q => ⟨xs, xs[i], q, by simp [hi]⟩, fun _ q => ⟨xs, q, Nat.le_refl _⟩, fun i H v H' _ q y => ?_⟩
  obtain ⟨T, x, h1, h2, h3, h4⟩ := y
  exact ⟨T, .int (i : Nat), x, h1, h2, h3, rfl, h4 xs q⟩
end
end G

namespace G
open PySem PySem.Spec PyProof.Rows L2
theorem pi_enumTK (K : PySem.W.Frag) {X : Cx} {e : Expr} {ta : TA} {p pos tpos : Pos} {elts : List Expr} {kk : Nat} (hg : Gl X "enumerate") (hm : X.mg "enumerate" = none) (ha : PA X [e] ta) (hs : starEach [e] X.env = [(false, eval e X.env)] := by rfl) (hK : X.K = K := by rfl) :
    PI X (.Tuple elts kk tpos) (.Call (.Name "enumerate" p) [e] [] pos) (iEnumT K ta) := hK ▸ pi_enumT hg hm ha hs
abbrev g2 (K : PySem.W.Frag) (i j : Nat) : TG := gTup K 2 (gCons (gName i) (gCons (gName j) gNil))
/-! for -/
def ForG (J : It) (g : TG) (tb : TS) (D : Ends) (σ : L2.St) (H : Hp) : Prop := ∃ W : Nat → Nat → L2.St → Hp → Prop, (∃ m, W 0 m σ H) ∧ ∀ i m σ H, W i m σ H →
  (J.stop i H ∧ D.nx σ H) ∨ (J.go i H ∧ ∃ N : L2.St → Hp → Prop, (∀ σ' H', N σ' H' → ∃ m', m' < m ∧ W (i + 1) m' σ' H') ∧ ∀ x H', J.yld i H x H' → g x σ H' fun σ2 H2 => tb { D with nx := N, ct := N, bk := D.nx } σ2 H2)
def ForT (K : PySem.W.Frag) (g : TG) (tb : TS) (D : Ends) (σ : L2.St) (x : V) (H : Hp) : Prop := ∃ a, x = .ref a ∧ (∃ xs, SqT K H a xs) ∧ ForG (Itt K a) g tb D σ H
def ForL (K : PySem.W.Frag) (g : TG) (tb : TS) (D : Ends) (σ : L2.St) (x : V) (H : Hp) : Prop := ∃ a, x = .ref a ∧ (∃ xs, SqL K H a xs) ∧ ForG (Itl K a) g tb D σ H
def ForE (K : PySem.W.Frag) (g : TG) (tb : TS) (D : Ends) (σ : L2.St) (vs : List V) (H : Hp) : Prop := ∃ a xs, vs = [.ref a] ∧ SqT K H a xs ∧ ForG (IteT K a) g tb D σ H
section
variable {K : PySem.W.Frag} {te : TE} {ta : TA} {g : TG} {tb : TS} {D : Ends} {σ : L2.St} {H : Hp} {x : V} {ds : List PyData} {i j : Nat} {nx bk ct : L2.St → Hp → Prop} {rt : VK}
theorem st_forT (h : te σ H fun x H1 => ForT K g tb D σ x H1) : tFor (iTup K te) g tb D σ H := h
theorem st_forL (h : te σ H fun x H1 => ForL K g tb D σ x H1) : tFor (iList K te) g tb D σ H := h
theorem st_forE (h : ta σ H fun vs H1 => ForE K g tb D σ vs H1) : tFor (iEnumT K ta) g tb D σ H := by
  exact h
theorem for_T (Pv : Nat → L2.St → Hp → Prop) (r : R K H x (.tuple ds)) (start : Pv 0 σ H) (keep : ∀ k σ' H', Pv k σ' H' → Same H H')
    (turn : ∀ k d v σ' H', ds[k]? = some d → R K H' v d → Pv k σ' H' → tb ⟨Pv (k + 1), rt, nx, Pv (k + 1)⟩ (σ'.set j (some v)) H') (fin : ∀ σ' H', Pv ds.length σ' H' → nx σ' H') : ForT K (gName j) tb ⟨nx, rt, bk, ct⟩ σ x H := by
  obtain ⟨a, xs, rfl, ha, ra⟩ := r.inv_tup
  refine ⟨a, rfl, ⟨xs, ha⟩, ?_⟩
  rw [← ra.length] at fin
  refine for_it (walk_tup (K := K) (a := a) (xs := xs)) (g := gName j) (tb := tb) (D := ⟨nx, rt, bk, ct⟩) Pv start (fun k σ' H' _ p => (keep _ _ _ p).tup ha) (fun k y σ' H' H'' hk p q => ?_) fin
  obtain ⟨rfl, hy⟩ := q
  obtain ⟨d, e1, e2⟩ := ra.getV hy
  exact turn k d y σ' _ e1 (e2.mono (keep _ _ _ p)) p
theorem for_L2 (Pv : Nat → L2.St → Hp → Prop) (r : R K H x (.list ds)) (start : Pv 0 σ H) (keep : ∀ k σ' H', Pv k σ' H' → Same H H') (hp : ∀ d ∈ ds, ∃ d1 d2, d = .tuple [d1, d2])
    (turn : ∀ k d1 d2 v1 v2 σ' H', ds[k]? = some (.tuple [d1, d2]) → R K H' v1 d1 → R K H' v2 d2 → Pv k σ' H' → tb ⟨Pv (k + 1), rt, nx, Pv (k + 1)⟩ ((σ'.set i (some v1)).set j (some v2)) H') (fin : ∀ σ' H', Pv ds.length σ' H' → nx σ' H') : ForL K (g2 K i j) tb ⟨nx, rt, bk, ct⟩ σ x H := by
  obtain ⟨a, xs, rfl, ha, ra⟩ := r.inv_lst
  refine ⟨a, rfl, ⟨xs, .inl (.inl ha)⟩, ?_⟩
  rw [← ra.length] at fin
  refine for_it (walk_list (K := K) (a := a) (xs := xs)) (g := g2 K i j) (tb := tb) (D := ⟨nx, rt, bk, ct⟩) Pv start (fun k σ' H' _ p => (keep _ _ _ p).seq (.inl (.inl ha))) (fun k y σ' H' H'' hk p q => ?_) fin
  obtain ⟨rfl, hy⟩ := q
  obtain ⟨d, e1, e2⟩ := ra.getV hy
  obtain ⟨d1, d2, rfl⟩ := hp d (List.mem_of_getElem? e1)
  exact gtup2 (e2.mono (keep _ _ _ p)) fun v1 v2 r1 r2 => turn k d1 d2 v1 v2 σ' _ e1 r1 r2 p
theorem for_E (Pv : Nat → L2.St → Hp → Prop) (r : R K H x (.tuple ds)) (start : Pv 0 σ H) (keep : ∀ k σ' H', Pv k σ' H' → Same H H') (mono : ∀ k σ' H' H'', Pv k σ' H' → Same H' H'' → Pv k σ' H'')
    (turn : ∀ (k : Nat) d v σ' H', ds[k]? = some d → R K H' v d → Pv k σ' H' → tb ⟨Pv (k + 1), rt, nx, Pv (k + 1)⟩ ((σ'.set i (some (.int (k : Int)))).set j (some v)) H') (fin : ∀ σ' H', Pv ds.length σ' H' → nx σ' H') : ForE K (g2 K i j) tb ⟨nx, rt, bk, ct⟩ σ [x] H := by
  obtain ⟨a, xs, rfl, ha, ra⟩ := r.inv_tup
  refine ⟨a, xs, rfl, ha, ?_⟩
  rw [← ra.length] at fin
  refine for_it (walk_enumT (K := K) (a := a) (xs := xs)) (g := g2 K i j) (tb := tb) (D := ⟨nx, rt, bk, ct⟩) Pv start (fun k σ' H' _ p => (keep _ _ _ p).tup ha) (fun k y σ' H' H'' hk p q => ?_) fin
  obtain ⟨T, y1, y2, rfl, hT, rfl, h1, h2⟩ := q
  cases h1
  obtain ⟨d, e1, e2⟩ := ra.getV h2
  have s0 : Same H' (upd H' T (.tup [.int (k : Int), y2])) := same_new hT _
  have r2 : R K (upd H' T (.tup [.int (k : Int), y2])) y2 d := (e2.mono (keep _ _ _ p)).mono s0
  exact ⟨T, _, rfl, .inl (.inl upd_same), rfl, _, _, rfl, _, _, rfl, rfl, turn k d y2 σ' _ e1 r2 (mono _ _ _ _ p s0)⟩
end
/-! a comprehension over a list of pairs taken apart -/
def LcL2 (K : PySem.W.Frag) (i j : Nat) (te : TE) (vs : List Nat) (σ : L2.St) (x : V) (H : Hp) (Q : VK) : Prop := ∃ a, x = .ref a ∧ (∃ xs, SqL K H a xs) ∧
    ∀ D, H D = none → ∃ W : Nat → Nat → Hp → Prop, (∃ m, W 0 m (upd H D (.lst []))) ∧ ∀ k m H, W k m H →
      ((Itl K a).stop k H ∧ Q (.ref D) H) ∨ ((Itl K a).go k H ∧ ∃ Nx : Hp → Prop, (∀ H', Nx H' → ∃ m', m' < m ∧ W (k + 1) m' H') ∧ ∀ x H', (Itl K a).yld k H x H' → g2 K i j x (wipe σ vs) H' fun σ2 H2 => wipe σ2 vs = wipe σ vs ∧ tYes σ2 H2 fun b H3 =>
        if b = true then (tHide te) σ2 H3 fun y H4 => ∃ acc, H4 D = some (.lst acc) ∧ acc.length < sizeLine ∧ Nx (upd H4 D (.lst (acc ++ [y]))) else Nx H3)
section
variable {K : PySem.W.Frag} {te : TE} {vs : List Nat} {σ : L2.St} {H : Hp} {Q : VK} {i j : Nat}
theorem st_lcL2 {tl : TE} (h : tl σ H fun x H1 => LcL2 K i j te vs σ x H1 Q) : tLc (iList K tl) (g2 K i j) tYes (tHide te) vs σ H Q := h
theorem lcL2_f (f : PyData → PyData) {x : V} {ds : List PyData} (r : R K H x (.list ds)) (hn : ds.length ≤ 1000000) (hw : ∀ x y, wipe (((wipe σ vs).set i (some x)).set j (some y)) vs = wipe σ vs) (hp : ∀ d ∈ ds, ∃ d1 d2, d = .tuple [d1, d2])
    (he : ∀ v1 v2 d1 d2 H1, .tuple [d1, d2] ∈ ds → R K H1 v1 d1 → R K H1 v2 d2 → Same H H1 → ∀ Qt : VK, (∀ y H2, Same H1 H2 → R K H2 y (f (.tuple [d1, d2])) → Qt y H2) → te (((wipe σ vs).set i (some v1)).set j (some v2)) H1 Qt)
    (hq : ∀ v H1, Same H H1 → R K H1 v (.list (ds.map f)) → Q v H1) : LcL2 K i j te vs σ x H Q := by
  obtain ⟨a, ws, rfl, ha, rds⟩ := r.inv_lst
  refine ⟨a, rfl, ⟨ws, .inl (.inl ha)⟩, ?_⟩
  have hlen := rds.length
  intro D hD
  let Pv : Nat → Hp → Prop := fun k H' => ∃ Hb xs, H' = upd Hb D (.lst xs) ∧ Hb D = none ∧ Same H Hb ∧ k ≤ ds.length ∧ RA K Hb xs ((ds.take k).map f)
  refine L2.lc_it (walk_list (K := K) (a := a) (xs := ws)) Pv ?_ ?_ ?_ ?_
  · exact ⟨H, [], rfl, hD, Same.refl _, Nat.zero_le _, .nil⟩
  · rintro k H' hi ⟨Hb, xs, rfl, hb, sm, _⟩
    exact (sm.trans (same_new hb _)).seq (.inl (.inl ha))
  · rintro k x H' H'' hi ⟨Hb, xs, rfl, hb, sm, hk, ra⟩ y
    obtain ⟨rfl, hx⟩ := y
    obtain ⟨d, e1, e2⟩ := rds.getV hx
    obtain ⟨d1, d2, rfl⟩ := hp d (List.mem_of_getElem? e1)
    obtain ⟨b, zs, rfl, hb2, rb⟩ := (e2.mono sm).inv_tup
    obtain ⟨v1, zs, rfl, r1, rb⟩ := rb.inv_cons
    obtain ⟨v2, zs, rfl, r2, rb⟩ := rb.inv_cons
    have := rb.inv_nil
    subst this
    refine ⟨b, _, rfl, (same_new hb _).tup hb2, rfl, v1, _, rfl, v2, _, rfl, rfl, hw _ _, ?_⟩
    unfold tYes
    dsimp only
    rw [if_pos rfl]
    refine ⟨D, xs, upd_same, ?_⟩
    rw [hide_upd hb]
    have hxl : xs.length = k := by rw [ra.length, List.length_map, List.length_take]; omega
    refine he v1 v2 d1 d2 Hb (List.mem_of_getElem? e1) r1 r2 sm _ fun y H2 s2 re n2 => ⟨xs, upd_same, ?_, ?_⟩
    · exact Nat.lt_of_le_of_lt (by omega : xs.length ≤ 1000000) (by decide)
    · rw [upd_upd]
      have hkl : k < ds.length := (List.getElem?_eq_some_iff.mp e1).1
      refine ⟨H2, xs ++ [y], rfl, n2, sm.trans s2, hkl, ?_⟩
      have e3 : (ds.take (k + 1)).map f = (ds.take k).map f ++ [f (.tuple [d1, d2])] := by
        rw [List.take_add_one, e1, List.map_append]; rfl
      rw [e3]
      exact (ra.mono s2).append (.cons re .nil)
  · rintro H' ⟨Hb, xs, rfl, hb, sm, hk, ra⟩
    rw [hlen, List.take_length] at ra
    exact hq _ _ (sm.trans (same_new hb _)) (.lst upd_same (ra.mono (same_new hb _)))
end
theorem ix_lstN {K : PySem.W.Frag} {H : Hp} {Q : VK} {x : V} {ds : List PyData} {i : Int} (r : R K H x (.list ds)) (h0 : 0 ≤ i) (h1 : i < (ds.length : Int)) (h : ∀ v d, ds[i.toNat]? = some d → R K H v d → Q v H) : rIx K x (.int i) H Q :=
  ix_lstR r h0 (List.getElem?_eq_getElem (by omega)) fun v rv => h v _ (List.getElem?_eq_getElem (by omega)) rv
theorem ix_tupN {K : PySem.W.Frag} {H : Hp} {Q : VK} {x : V} {ds : List PyData} {i : Int} (r : R K H x (.tuple ds)) (h0 : 0 ≤ i) (h1 : i < (ds.length : Int)) (h : ∀ v d, ds[i.toNat]? = some d → R K H v d → Q v H) : rIx K x (.int i) H Q :=
  ix_tupR r h0 (List.getElem?_eq_getElem (by omega)) fun v rv => h v _ (List.getElem?_eq_getElem (by omega)) rv
/-! a list of one's own, stored into -/
def rListF (K : PySem.W.Frag) : List V → Hp → VK → Prop := rListOf K
theorem list_KF (K : PySem.W.Frag) {X : Cx} (hK : X.K = K := by rfl) : CallR X (.type "list") (rListF K) := list_K K hK
theorem listF {K : PySem.W.Frag} {H : Hp} {Q : VK} {x : V} {ds : List PyData} (r : R K H x (.tuple ds)) (h : ∀ p xs H', H p = none → Same H H' → H' p = some (.lst xs) → RA K H' xs ds → Q (.ref p) H') : rListF K [x] H Q := by
  obtain ⟨a, ys, rfl, ha, ra⟩ := r.inv_tup
  exact ⟨a, ys, rfl, .inr ha, fun l hl => h l ys _ hl (same_new hl _) upd_same (ra.mono (same_new hl _))⟩
theorem RA.set {K : PySem.W.Frag} {H : Hp} {v : V} {d : PyData} (r : R K H v d) : ∀ {vs : List V} {ds : List PyData} (i : Nat), RA K H vs ds → RA K H (vs.set i v) (ds.set i d)
  | _, _, _, .nil => .nil
  | _, _, 0, .cons _ t => .cons r t
  | _, _, i + 1, .cons a t => .cons a (RA.set r i t)
theorem setR {K : PySem.W.Frag} {H : Hp} {QH : Hp → Prop} {l : Addr} {xs : List V} {ds : List PyData} {v : V} {d : PyData} {i : Nat} (hl : H l = some (.lst xs)) (ra : RA K H xs ds) (r : R K H v d) (hi : i < ds.length) (hz : ds.length ≤ 1000000) (hn : noLs ds = true) (hn' : noL d = true)
    (h : ∀ ws H', SameX l H H' → H' l = some (.lst ws) → RA K H' ws (ds.set i d) → QH H') : rSetL (.ref l) (.int (i : Nat)) v H QH := by
  refine set_at (i := i) hl ?_ ?_
  · have := ra.length
    unfold ixN
    simp
    omega
  · exact h _ _ .upd upd_same (RA.set (r.monoX .upd hl hn') i (ra.monoX .upd hl hn))
end G

namespace G
open PySem PySem.Spec PyProof.Rows L2
/-! enumerate over a text: each sign in a new pair -/
def IteS (z : Str) : It :=
  ⟨fun i _ => i < z.cps.size, fun i H v H' => ∃ T c, v = .ref T ∧ H T = none ∧ H' = upd H T (.tup [.int (i : Nat), .str ⟨#[c]⟩]) ∧ z.cps[i]? = some c, fun i _ => z.cps.size ≤ i⟩
theorem turn_enumS {P : Program} {w : World} {K : PySem.W.Frag} {elts : List Expr} {kk : Nat} {tpos : Pos} (z : Str) (t : Tok) (e it : Addr) :
    Turn P w K (.Tuple elts kk tpos) (IteS z) [e, it] e (fun i h => (∃ old, IsEnum h e it ((i : Nat) : Int) old) ∧ h.IsStrIter it (strIterType z) z t i ∧ e ≠ it) where
  mem := by simp
  obj := fun i h st b hb => by
    obtain ⟨⟨old, he⟩, ⟨o, ho, hc, hd⟩, _⟩ := st
    have e' : b = e ∨ b = it := by simpa using hb
    rcases e' with z | z
    · rw [z]; exact ⟨_, he, fun v q => nomatch q⟩
    · rw [z]; exact ⟨o, ho, fun v q => by rw [hd] at q; cases q⟩
  keep := fun i h h' st k => let ⟨⟨old, he⟩, hi, hne⟩ := st; ⟨⟨old, k e (by simp) _ he⟩, (let ⟨o, ho, r⟩ := hi; ⟨o, k it (by simp) o ho, r⟩), hne⟩
  item := by
    intro X hP hw hK hc i pins s σ H E I hf st hg
    subst hP hw hK
    obtain ⟨⟨old, he⟩, hit, hne⟩ := st
    have hlt : i < z.cps.size := hg
    have hel : e < s.heap.objs.size := Heap.lt_size he
    have hil : it < s.heap.objs.size := by obtain ⟨_, q, _⟩ := hit; exact Heap.lt_size q
    have hea : e ∉ [it] := by
      intro hm
      exact hne (List.mem_singleton.mp hm)
    refine wpAny_pyNext_enum_itemD (Draws.text (by exact (I.ok.hd hc)) it z t) he hit hlt hne hea fun x' h' tk hP ho hst' hT hsz hk => ?_
    obtain ⟨c, u, hcx, rfl⟩ := hP
    refine ⟨_, rfl, wpAny_letOwnedTupleGo_enum (s := { s with heap := h', toks := tk + 1 }) ho fun h'' he' sb => ?_⟩
    have hT2 : h''.get? s.heap.objs.size = some { cls := .type "tuple", data := .seq #[.int i tk, .str ⟨#[c]⟩ u] } := (sb.2 _ (Nat.ne_of_gt hel)).trans hT
    have new : ObjOk X.prog X.w (upd H s.heap.objs.size (.tup [.int (i : Nat), .str ⟨#[c]⟩])) h'' s.heap.objs.size (.tup [.int (i : Nat), .str ⟨#[c]⟩]) :=
      ⟨by show 2 ≤ sizeLine; decide, [.int i tk, .str ⟨#[c]⟩ u], .cons ⟨_, rfl⟩ (.cons ⟨_, rfl⟩ .nil), ⟨_, hT2, rfl, _, rfl⟩⟩
    have I1 : Inv X pins σ (upd H s.heap.objs.size (.tup [.int (i : Nat), .str ⟨#[c]⟩])) { s with heap := h'', toks := tk + 1 } :=
      I.turnedNew (ch := [e, it]) (fun b ob hb q => (sb.2 b (fun z => hb (by simp [z]))).trans (hk b ob (fun z => hb (by simp [z])) (fun z => hb (by simp [z])) q)) hf (Nat.le_refl _) new
    refine ⟨.ref s.heap.objs.size, _, I1, rfl, ⟨_, c, rfl, I.hok.fresh (Nat.le_refl _), rfl, hcx⟩, ⟨⟨.str ⟨#[c]⟩ u, ?_⟩, (let ⟨o, ho2, r⟩ := hst'; ⟨o, (sb.2 it (Ne.symm hne)).trans ho2, r⟩), hne⟩, fun b hb => ?_⟩
    · have e1 : ((i + 1 : Nat) : Int) = (i : Int) + 1 := by omega
      rw [e1]; exact he'
    · have hb' : b < s.heap.objs.size := by
        have e' : b = e ∨ b = it := by simpa using hb
        rcases e' with z | z
        · rw [z]; exact hel
        · rw [z]; exact hil
      rw [upd_ne (Nat.ne_of_lt hb')]
      exact (hf b hb).1
  done := by
    intro X hP hw hK hc i pins s σ H E I hf st hg
    subst hP hw hK
    obtain ⟨⟨old, he⟩, hit, hne⟩ := st
    obtain ⟨f0, f1, f2, f3, f4, f5⟩ := hf it (by simp)
    have hx : z.cps[i]? = none := Array.getElem?_eq_none hg
    have D : Draws X.prog X.w X.A.in1 it [it] i (fun _ _ => True) (fun j h => j = i ∧ h.IsStrIter it (strIterType z) z t i) := by
      refine
      { live := fun _ _ st => let ⟨o, ho, _⟩ := st.2; ⟨o, ho⟩
        frame := fun _ _ _ st hk => ⟨st.1, (let ⟨o, ho, r⟩ := st.2; ⟨o, hk it (by simp) o ho, r⟩)⟩
        item := fun j s' Q E' hj st _ => absurd st.1 (Nat.ne_of_lt hj)
        done := fun s' Q E' st hE => ?_ }
      have h2 := st.2
      cases ha : z.cps.all (· < 128)
      · simp only [strIterType, ha, Bool.false_eq_true, if_false] at h2
        exact wpAny_nextOf_wide_end (by exact (I.ok.hd hc)) h2 hx hE
      · simp only [strIterType, ha, if_true] at h2
        exact wpAny_nextOf_ascii_end (by exact (I.ok.hd hc)) h2 hx hE
    exact wpAny_pyNext_enum_endD D he ⟨rfl, hit⟩ fun h' eb => ⟨rfl, I.turned (t' := s.toks) (fun b o hb q => eb b o hb q) f0 f1 f3 f4 f5⟩
  self := fun A i s Q E st h => let ⟨⟨_, he⟩, _⟩ := st; wpAny_pyIter_enum he h
def iEnumS (ta : TA) : TI := fun σ H R => ta σ H fun vs H1 => ∃ z, vs = [.str z] ∧ R (IteS z) H1
theorem pi_enumS {X : Cx} {e : Expr} {ta : TA} {p pos tpos : Pos} {elts : List Expr} {kk : Nat} (hg : Gl X "enumerate") (hm : X.mg "enumerate" = none) (ha : PA X [e] ta) (hs : starEach [e] X.env = [(false, eval e X.env)] := by rfl) :
    PI X (.Tuple elts kk tpos) (.Call (.Name "enumerate" p) [e] [] pos) (iEnumS ta) := by
  refine ⟨fun pins s σ H R I h => ?_⟩
  refine Call_ (ld_blt I hg hm boot_enumerate (PyProof.Rows.callWith_type1 (thn (ha.run pos pins s σ H _ I h) fun us s1 ⟨vs, H1, I1, r1, q1⟩ => ?_) hs rfl))
  obtain ⟨z, ex, q⟩ := q1
  subst ex
  cases r1 with
  | cons r rr =>
    cases rr
    obtain ⟨t, rfl⟩ := r
    refine call_enumerate_str fun h' he hit hsz hk => wpAny_pyIter_enum he ?_
    have I2 : Inv X pins σ H1 { s1 with heap := h' } := I1.kept (t' := s1.toks) hk
    refine ⟨s1.heap.objs.size + 1, [s1.heap.objs.size + 1, s1.heap.objs.size], _, _, H1, rfl, I2, turn_enumS z t (s1.heap.objs.size + 1) s1.heap.objs.size, ⟨⟨.none, he⟩, hit, Nat.succ_ne_self _⟩, fun b hb => ?_, q⟩
    have e' : b = s1.heap.objs.size + 1 ∨ b = s1.heap.objs.size := by simpa using hb
    have hle : s1.heap.objs.size ≤ b := by
      rcases e' with z | z
      · rw [z]; exact Nat.le_add_right _ _
      · rw [z]; exact Nat.le_refl _
    exact I1.fpOk hle (I1.hok.fresh hle)
theorem walk_enumS {z : Str} : Walk (IteS z) z.cps.size (fun _ => True) (YPair (fun i => some (.int (i : Nat))) (fun i => (z.cps[i]?).map fun c => .str ⟨#[c]⟩)) := by
  refine ⟨fun i _ hi _ => hi, fun _ _ => Nat.le_refl _, fun i H v H' _ _ y => ?_⟩
  obtain ⟨T, c, h1, h2, h3, h4⟩ := y
  exact ⟨T, .int (i : Nat), .str ⟨#[c]⟩, h1, h2, h3, rfl, by show (z.cps[i]?).map _ = _; rw [h4]; rfl⟩
def ForS (g : TG) (tb : TS) (D : Ends) (σ : L2.St) (vs : List V) (H : Hp) : Prop := ∃ z, vs = [.str z] ∧ ForG (IteS z) g tb D σ H
section
variable {K : PySem.W.Frag} {ta : TA} {g : TG} {tb : TS} {D : Ends} {σ : L2.St} {H : Hp} {z : Str} {i j : Nat} {nx bk ct : L2.St → Hp → Prop} {rt : VK}
theorem st_forS (h : ta σ H fun vs H1 => ForS g tb D σ vs H1) : tFor (iEnumS ta) g tb D σ H := by
  exact h
theorem for_S (Pv : Nat → L2.St → Hp → Prop) (start : Pv 0 σ H) (mono : ∀ k σ' H' H'', Pv k σ' H' → Same H' H'' → Pv k σ' H'')
    (turn : ∀ (k : Nat) c σ' H', z.cps.toList[k]? = some c → Pv k σ' H' → tb ⟨Pv (k + 1), rt, nx, Pv (k + 1)⟩ ((σ'.set i (some (.int (k : Int)))).set j (some (.str ⟨#[c]⟩))) H') (fin : ∀ σ' H', Pv z.length σ' H' → nx σ' H') : ForS (g2 K i j) tb ⟨nx, rt, bk, ct⟩ σ [.str z] H := by
  refine ⟨z, rfl, ?_⟩
  refine for_it (walk_enumS (z := z)) (g := g2 K i j) (tb := tb) (D := ⟨nx, rt, bk, ct⟩) Pv start (fun k σ' H' _ p => True.intro) (fun k y σ' H' H'' hk p q => ?_) fin
  obtain ⟨T, y1, y2, rfl, hT, rfl, h1, h2⟩ := q
  cases h1
  obtain ⟨c, hc, rfl⟩ := Option.map_eq_some_iff.mp h2
  have s0 : Same H' (upd H' T (.tup [.int (k : Int), .str ⟨#[c]⟩])) := same_new hT _
  exact ⟨T, _, rfl, .inl (.inl upd_same), rfl, _, _, rfl, _, _, rfl, rfl, turn k c σ' _ (by simpa using hc) (mono _ _ _ _ p s0)⟩
end
end G
namespace G
open PySem PySem.Spec PyProof.Rows L2
theorem neg_i {i : Int} {H : Hp} {Q : VK} (h : Q (.int (-i)) H) : rU (fun i => V.int (-i)) (.int i) H Q := ⟨i, rfl, h⟩
end G

namespace G
open PySem PySem.Spec PyProof.Rows L2
/-! a dict of one's own that changes: what else stands -/
section
variable {K : PySem.W.Frag} {H H' : Hp} {l : Addr} {kvs : List (Key × V)}
theorem SameX.tupD (x : SameX l H H') (hl : H l = some (.dK kvs)) {a : Addr} {ys : List V} (h : SqT K H a ys) : SqT K H' a ys := by
  rcases h with (h | ⟨o, h⟩) | h
  · exact .inl (.inl (x a _ (fun e => by rw [e, hl] at h; cases h) h))
  · exact .inl (.inr ⟨o, x a _ (fun e => by rw [e, hl] at h; cases h) h⟩)
  · exact .inr h
mutual
theorem R.monoD (x : SameX l H H') (hl : H l = some (.dK kvs)) : ∀ {v : V} {d : PyData}, noL d = true → R K H v d → R K H' v d
  | _, _, _, .non => .non
  | _, _, _, .bl b => .bl b
  | _, _, _, .int i => .int i
  | _, _, _, .str z => .str z
  | _, _, n, .lst _ _ => by simp [noL] at n
  | _, _, n, .tup h r => .tup (x.tupD hl h) (RA.monoD x hl (by simpa [noL] using n) r)
  | _, _, n, .dct _ => by simp [noL] at n
theorem RA.monoD (x : SameX l H H') (hl : H l = some (.dK kvs)) : ∀ {vs : List V} {ds : List PyData}, noLs ds = true → RA K H vs ds → RA K H' vs ds
  | _, _, _, .nil => .nil
  | _, _, n, .cons h r => by
    simp only [noLs, Bool.and_eq_true] at n
    exact .cons (R.monoD x hl n.1 h) (RA.monoD x hl n.2 r)
end
end
/-! a comprehension over a tuple whose body changes the dict at l, and tells ints -/
theorem lcT_D {K : PySem.W.Frag} {te : TE} {vs : List Nat} {σ : L2.St} {H : Hp} {Q : VK} {j : Nat} {l : Addr} {x : V} {ds : List PyData} (es : List Int) (J : Nat → List (Key × V)) (hes : es.length = ds.length) (hl : H l = some (.dK (J 0))) (r : R K H x (.tuple ds)) (hnl : noLs ds = true) (hn : ds.length ≤ 1000000)
    (hw : ∀ x, wipe ((wipe σ vs).set j (some x)) vs = wipe σ vs)
    (he : ∀ k v d e H1, ds[k]? = some d → es[k]? = some e → R K H1 v d → SameX l H H1 → H1 l = some (.dK (J k)) → ∀ Qt : VK, (∀ H2, SameX l H1 H2 → H2 l = some (.dK (J (k + 1))) → Qt (.int e) H2) → te ((wipe σ vs).set j (some v)) H1 Qt)
    (hq : ∀ v H1, SameX l H H1 → H1 l = some (.dK (J ds.length)) → R K H1 v (.list (es.map PyData.int)) → Q v H1) : LcT K j te vs σ x H Q := by
  obtain ⟨a, ws, rfl, ha, rds⟩ := r.inv_tup
  have hlen := rds.length
  refine ⟨a, rfl, ⟨ws, ha⟩, ?_⟩
  intro D hD
  have hDl : l ≠ D := fun e => by rw [← e, hl] at hD; cases hD
  let Pv : Nat → Hp → Prop := fun k H' => ∃ Hb xs, H' = upd Hb D (.lst xs) ∧ Hb D = none ∧ SameX l H Hb ∧ Hb l = some (.dK (J k)) ∧ k ≤ ds.length ∧ xs = (es.take k).map V.int
  refine L2.lc_it (walk_tup (K := K) (a := a) (xs := ws)) Pv ?_ ?_ ?_ ?_
  · exact ⟨H, [], rfl, hD, SameX.refl _, hl, Nat.zero_le _, rfl⟩
  · rintro k H' hi ⟨Hb, xs, rfl, hb, sm, _⟩
    exact (same_new hb _).tup (sm.tupD hl ha)
  · rintro k y H' H'' hi ⟨Hb, xs, rfl, hb, sm, hj, hk, hxs⟩ yy
    obtain ⟨rfl, hx⟩ := yy
    obtain ⟨d, e1, e2⟩ := rds.getV hx
    have hnd : noL d = true := by
      have : ∀ {es : List PyData}, noLs es = true → ∀ e ∈ es, noL e = true := by
        intro es
        induction es with
        | nil => intro _ e he; cases he
        | cons b bs ih =>
          intro h e he
          simp only [noLs, Bool.and_eq_true] at h
          rcases List.mem_cons.mp he with rfl | he
          · exact h.1
          · exact ih h.2 e he
      exact this hnl d (List.mem_of_getElem? e1)
    refine ⟨hw y, ?_⟩
    unfold tYes
    dsimp only
    rw [if_pos rfl]
    refine ⟨D, xs, upd_same, ?_⟩
    rw [hide_upd hb]
    have hkl : k < ds.length := (List.getElem?_eq_some_iff.mp e1).1
    have hxl : xs.length = k := by rw [hxs, List.length_map, List.length_take]; omega
    have hke : k < es.length := by omega
    have e3 : es[k]? = some es[k] := List.getElem?_eq_getElem hke
    refine he k y d es[k] Hb e1 e3 (e2.monoD sm hl hnd) sm hj _ fun H2 s2 hj2 n2 => ⟨xs, upd_same, ?_, ?_⟩
    · exact Nat.lt_of_le_of_lt (by omega : xs.length ≤ 1000000) (by decide)
    · rw [upd_upd]
      refine ⟨H2, xs ++ [.int es[k]], rfl, n2, sm.trans s2, hj2, hkl, ?_⟩
      rw [hxs, List.take_add_one, e3, List.map_append]; rfl
  · rintro H' ⟨Hb, xs, rfl, hb, sm, hj, hk, hxs⟩
    rw [hlen, ← hes, List.take_length] at hxs
    rw [hlen] at hj
    refine hq _ _ (sm.trans (SameX.of (same_new hb _))) ((upd_ne hDl).trans hj) (.lst upd_same ?_)
    rw [hxs]
    exact RA_ints es
end G

namespace G
open PySem PySem.Spec PyProof.Rows L2
/-! a dict of names, each to True -/
def dk (ns : List Str) : List (Key × V) := ns.map fun z => (Sum.inr z, V.bl true)
def putN (ns : List Str) (z : Str) : List Str := if z ∈ ns then ns else ns ++ [z]
theorem putK_dk (ns : List Str) (z : Str) : putK (dk ns) (Sum.inr z) (.bl true) = dk (putN ns z) := by
  unfold putK putN dk
  by_cases h : z ∈ ns
  · rw [if_pos h, if_pos (by rw [List.any_map, List.any_eq_true]; exact ⟨z, h, by simp⟩), List.map_map]
    refine List.map_congr_left fun a _ => ?_
    show (if (Sum.inr a : Key) = Sum.inr z then ((Sum.inr a : Key), V.bl true) else (Sum.inr a, V.bl true)) = _
    split <;> rfl
  · rw [if_neg h, if_neg, List.map_append]
    · rfl
    · intro c
      rw [List.any_map, List.any_eq_true] at c
      obtain ⟨a, ha, e⟩ := c
      have e' : (Sum.inr a : Key) = Sum.inr z := by simpa using e
      cases e'
      exact h ha
theorem putN_nodup {ns : List Str} {z : Str} (h : ns.Nodup) : (putN ns z).Nodup := by
  unfold putN
  split
  · exact h
  · rename_i hz
    rw [List.nodup_append]
    exact ⟨h, by simp, fun a ha b hb e => by rw [List.mem_singleton.mp hb] at e; exact hz (e ▸ ha)⟩
theorem putN_mem {ns : List Str} {z x : Str} : x ∈ putN ns z ↔ x ∈ ns ∨ x = z := by
  unfold putN
  split
  · rename_i h
    exact ⟨.inl, fun c => c.elim id fun e => e ▸ h⟩
  · rw [List.mem_append, List.mem_singleton]
def leS (a b : Str) : Prop := a.cps.toList ≤ b.cps.toList
theorem rising_pw : ∀ (xs : List Str) (p : Str), risingS p xs = true → (p :: xs).Pairwise leS
  | [], p, _ => List.pairwise_singleton _ _
  | x :: xs, p, h => by
    simp only [risingS, Bool.and_eq_true, ltCps_eq, Bool.not_eq_true', decide_eq_false_iff_not] at h
    have h1 : leS p x := List.not_lt.mp h.1
    have h2 := rising_pw xs x h.2
    rw [List.pairwise_cons]
    refine ⟨fun y hy => ?_, h2⟩
    rcases List.mem_cons.mp hy with rfl | hy
    · exact h1
    · exact List.le_trans h1 ((List.pairwise_cons.mp h2).1 y hy)
theorem sorted_pw {xs : List Str} (h : sortedS xs = true) : xs.Pairwise leS := by
  cases xs with
  | nil => exact .nil
  | cons x xs => exact rising_pw xs x h
theorem sortedS_uniq {xs ys : List Str} (hx : sortedS xs = true) (hy : sortedS ys = true) (h : xs.Perm ys) : xs = ys :=
  List.Perm.eq_of_pairwise (le := leS) (fun a b _ _ h1 h2 => by
    have e : a.cps.toList = b.cps.toList := List.le_antisymm h1 h2
    cases a; cases b
    congr 1
    exact Array.ext' e) (sorted_pw hx) (sorted_pw hy) h
theorem perm_of_same {xs ys : List Str} (hx : xs.Nodup) (hy : ys.Nodup) (h : ∀ z, z ∈ xs ↔ z ∈ ys) : xs.Perm ys :=
  (List.perm_ext_iff_of_nodup hx hy).mpr h
end G

namespace G
open PySem PySem.Spec PyProof.Rows L2
def rSetDK : TSet := rSetD
theorem set_dictK {X : Cx} {k : Nat} (hr : Room k X.A) : PSet X rSetDK := set_dict (by have := hr.units; omega)
theorem putR {H : Hp} {QH : Hp → Prop} {a : Addr} {ns : List Str} {z : Str} (ha : H a = some (.dK (dk ns))) (hz : ns.length ≤ 100000) (h : ∀ H', SameX a H H' → H' a = some (.dK (dk (putN ns z))) → QH H') : rSetDK (.ref a) (.str z) (.bl true) H QH := by
  refine ⟨a, _, rfl, DPut.k (k := Sum.inr z) ha (Nat.lt_of_le_of_lt (by rw [dk, List.length_map]; exact hz) (by decide)), ?_⟩
  rw [putK_dk]
  exact h _ .upd upd_same
def rSortedDK : List V → Hp → VK → Prop := fun xs H Q => ∃ (a : Addr) (kvs : List (Key × V)) (ks : List Str), xs = [.ref a] ∧ Rd H a (.dK kvs) ∧ kvs.map (·.1) = ks.map Sum.inr ∧ ks.length < 64 ∧
    ∀ ys p, ys.Perm ks → sortedS ys = true → H p = none → Q (.ref p) (upd H p (.lst (ys.map V.str)))
theorem sorted_DK {X : Cx} (hc : X.calm = true) : CallR X (.builtin "sorted") rSortedDK := call_sortedD hc
theorem RA_strs {K : PySem.W.Frag} {H : Hp} : ∀ ns : List Str, RA K H (ns.map V.str) (ns.map PyData.str)
  | [] => .nil
  | n :: ns => .cons (.str n) (RA_strs ns)
theorem sortedR {K : PySem.W.Frag} {H : Hp} {Q : VK} {a : Addr} {ns : List Str} (ha : H a = some (.dK (dk ns))) (h64 : ns.length < 64)
    (h : ∀ ys p H', ys.Perm ns → sortedS ys = true → H p = none → Same H H' → H' p = some (.lst (ys.map V.str)) → R K H' (.ref p) (.list (ys.map PyData.str)) → Q (.ref p) H') : rSortedDK [.ref a] H Q :=
  ⟨a, _, ns, rfl, .inl ha, by rw [dk, List.map_map]; rfl, h64, fun ys p hp hs hn => h ys p _ hp hs hn (same_new hn _) upd_same (.lst upd_same (RA_strs ys))⟩
/-- {} -/
def NewD (H : Hp) (Q : VK) : Prop := ∀ p, H p = none → Q (.ref p) (upd H p (.dK []))
theorem st_newD {K : PySem.W.Frag} {σ : L2.St} {H : Hp} {Q : VK} (h : ∀ p H', H p = none → Same H H' → H' p = some (.dK (dk [])) → Q (.ref p) H') : tDNewK σ H Q := fun p hp => h p _ hp (same_new hp _) upd_same
end G

namespace G
open PySem PySem.Spec PyProof.Rows L2
/-! comprehensions with a test: the list that grows is put aside for the test, too -/
def tHideT (t : TT) : TT := fun σ H Q => ∃ D xs, H D = some (.lst xs) ∧ t σ (hide H D) fun b H' => H' D = none → Q b (upd H' D (.lst xs))
theorem pt_hide {X : Cx} {c : Expr} {t : TT} (h : PT X c t) : PT X c (tHideT t) := by
  refine ⟨fun pins s σ H Q I hw => ?_⟩
  obtain ⟨d, xs, hd, hw⟩ := hw
  obtain ⟨ob, e1, I1⟩ := inv_hide I hd
  refine thn (h.run _ s σ _ _ I1 hw) fun b s1 ⟨H1, I2, q⟩ => ?_
  obtain ⟨n, I3⟩ := inv_show I hd e1 I2
  exact ⟨_, I3, q n⟩
theorem pts_hide {X : Cx} {c : Expr} {t : TT} (h : PT X c t) : PTs X [c] (tHideT t) := pts_one (pt_hide h)
def LcGT (J : It) (g : TG) (tt : TT) (te : TE) (vs : List Nat) (σ : L2.St) (H1 : Hp) (Q : VK) : Prop := ∀ D, H1 D = none → ∃ W : Nat → Nat → Hp → Prop, (∃ m, W 0 m (upd H1 D (.lst []))) ∧ ∀ i m H, W i m H →
  (J.stop i H ∧ Q (.ref D) H) ∨ (J.go i H ∧ ∃ Nx : Hp → Prop, (∀ H', Nx H' → ∃ m', m' < m ∧ W (i + 1) m' H') ∧ ∀ x H', J.yld i H x H' → g x (wipe σ vs) H' fun σ2 H2 => wipe σ2 vs = wipe σ vs ∧ tt σ2 H2 fun b H3 =>
    if b = true then te σ2 H3 fun y H4 => ∃ acc, H4 D = some (.lst acc) ∧ acc.length < sizeLine ∧ Nx (upd H4 D (.lst (acc ++ [y]))) else Nx H3)
section
variable {K : PySem.W.Frag} {J : It} {n : Nat} {G : Hp → Prop} {Y : Nat → Hp → V → Hp → Prop} {g : TG} {tt : TT} {te : TE} {vs : List Nat} {σ : L2.St} {H : Hp} {Q : VK}
theorem hide_of {Hb H' : Hp} {D : Addr} {xs : List V} (hb : Hb D = none) (s : Same (upd Hb D (.lst xs)) H') : H' D = some (.lst xs) ∧ Same Hb (hide H' D) := by
  refine ⟨s _ _ upd_same, fun b o h => ?_⟩
  have hne : b ≠ D := fun e => by rw [e, hb] at h; cases h
  rw [hide_ne hne]
  exact s _ _ (by rw [upd_ne hne]; exact h)
theorem upd_hide {H' : Hp} {D : Addr} {o : HO} (h : H' D = some o) : upd (hide H' D) D o = H' := by
  funext b
  by_cases e : b = D
  · rw [e, upd_same, h]
  · rw [upd_ne e, hide_ne e]
theorem lcg (w : L2.Walk J n G Y) (hn : n ≤ 1000000) (hG : ∀ H', Same H H' → G H') (I : Nat → List PyData → Prop) (h0 : I 0 []) (hI : ∀ i es, I i es → es.length ≤ i)
    (step : ∀ i x Hb D xs es Hy, i < n → Same H Hb → Hb D = none → I i es → Y i (upd Hb D (.lst xs)) x Hy → ∀ (Qy : V → Hp → Prop) (Qn : Hp → Prop),
      (∀ y Hc e, Hc D = none → Same Hb Hc → R K Hc y e → I (i + 1) (es ++ [e]) → Qy y (upd Hc D (.lst xs))) → (∀ Hc, Hc D = none → Same Hb Hc → I (i + 1) es → Qn (upd Hc D (.lst xs))) →
      g x (wipe σ vs) Hy fun σ2 H2 => wipe σ2 vs = wipe σ vs ∧ tt σ2 H2 fun b H3 => if b = true then tHide te σ2 H3 Qy else Qn H3)
    (hq : ∀ v H1 es, Same H H1 → R K H1 v (.list es) → I n es → Q v H1) : LcGT J g tt (tHide te) vs σ H Q := by
  intro D hD
  let Pv : Nat → Hp → Prop := fun i H' => ∃ Hb xs es, H' = upd Hb D (.lst xs) ∧ Hb D = none ∧ Same H Hb ∧ RA K Hb xs es ∧ I i es
  refine L2.lc_it w Pv ?_ ?_ ?_ ?_
  · exact ⟨H, [], [], rfl, hD, Same.refl _, .nil, h0⟩
  · rintro i H' hi ⟨Hb, xs, es, rfl, hb, sm, _⟩
    exact hG _ (sm.trans (same_new hb _))
  · rintro i x H' H'' hi ⟨Hb, xs, es, rfl, hb, sm, ra, hP⟩ y
    have hl := hI i es hP
    have hxl : xs.length = es.length := ra.length
    refine step i x Hb D xs es H'' hi sm hb hP y _ _ (fun y Hc e n2 s2 re i2 => ⟨xs, upd_same, Nat.lt_of_le_of_lt (by omega : xs.length ≤ 1000000) (by decide), ?_⟩) (fun Hc n2 s2 i2 => ?_)
    · rw [upd_upd]
      exact ⟨Hc, xs ++ [y], es ++ [e], rfl, n2, sm.trans s2, (ra.mono s2).append (.cons re .nil), i2⟩
    · exact ⟨Hc, xs, es, rfl, n2, sm.trans s2, ra.mono s2, i2⟩
  · rintro H' ⟨Hb, xs, es, rfl, hb, sm, ra, hP⟩
    exact hq _ _ es (sm.trans (same_new hb _)) (.lst upd_same (ra.mono (same_new hb _))) hP
end
def gNs : List Nat → TGs
  | [] => gNil
  | i :: is => gCons (gName i) (gNs is)
abbrev gN (K : PySem.W.Frag) (is : List Nat) : TG := gTup K is.length (gNs is)
def setAll : L2.St → List Nat → List V → L2.St
  | σ, i :: is, v :: vs => setAll (σ.set i (some v)) is vs
  | σ, _, _ => σ
theorem gNs_of {is : List Nat} : ∀ {vs : List V} {σ : L2.St} {H : Hp} {Q : L2.St → Hp → Prop}, vs.length = is.length → Q (setAll σ is vs) H → gNs is vs σ H Q := by
  induction is with
  | nil => intro vs σ H Q hl q; cases vs with | nil => exact ⟨rfl, q⟩ | cons => simp at hl
  | cons i is ih =>
    intro vs σ H Q hl q
    cases vs with
    | nil => simp at hl
    | cons v vs => exact ⟨v, vs, rfl, ih (by simpa using hl) q⟩
/-! the rule: a list of tuples taken apart, with a test -/
section
variable {K : PySem.W.Frag} {t : TT} {te : TE} {vs : List Nat} {σ : L2.St} {H : Hp} {Q : VK} {is : List Nat}
/-- what is asked of the test and of what is told, at one item with the parts ds -/
theorem lc_test {p : Bool} {fe : PyData} {σ2 : L2.St} {Hc : Hp} {H2 : Hp} {D : Addr} {xs : List V} {Qy : V → Hp → Prop} {Qn : Hp → Prop} (hH : H2 = upd Hc D (.lst xs)) (hb : Hc D = none)
    (ht : ∀ Qt : Bool → Hp → Prop, (∀ H2, Same Hc H2 → Qt p H2) → t σ2 Hc Qt) (he : p = true → ∀ H1, Same Hc H1 → ∀ Qt : VK, (∀ y H2, Same H1 H2 → R K H2 y fe → Qt y H2) → te σ2 H1 Qt)
    (qy : p = true → ∀ y Hd, Hd D = none → Same Hc Hd → R K Hd y fe → Qy y (upd Hd D (.lst xs))) (qn : p = false → ∀ Hd, Hd D = none → Same Hc Hd → Qn (upd Hd D (.lst xs))) :
    tHideT t σ2 H2 fun b H3 => if b = true then tHide te σ2 H3 Qy else Qn H3 := by
  subst hH
  refine ⟨D, xs, upd_same, ?_⟩
  rw [hide_upd hb]
  refine ht _ fun H2 s2 n2 => ?_
  cases hp : p with
  | false => rw [if_neg (by decide)]; exact qn hp _ n2 s2
  | true =>
    rw [if_pos rfl]
    refine ⟨D, xs, upd_same, ?_⟩
    rw [hide_upd n2]
    exact he hp H2 s2 _ fun y H3 s3 r3 n3 => qy hp y _ n3 (s2.trans s3) r3
def LcLT (K : PySem.W.Frag) (g : TG) (tt : TT) (te : TE) (vs : List Nat) (σ : L2.St) (x : V) (H : Hp) (Q : VK) : Prop := ∃ a, x = .ref a ∧ (∃ xs, SqL K H a xs) ∧ LcGT (Itl K a) g tt te vs σ H Q
theorem st_lcLT {g : TG} {tt : TT} {te : TE} {tl : TE} (h : tl σ H fun x H1 => LcLT K g tt te vs σ x H1 Q) : tLc (iList K tl) g tt te vs σ H Q := h
theorem lcLT (p : PyData → Bool) (f : PyData → PyData) {x : V} {ds : List PyData} (r : R K H x (.list ds)) (hn : ds.length ≤ 1000000) (hw : ∀ ws, wipe (setAll (wipe σ vs) is ws) vs = wipe σ vs)
    (hp : ∀ d ∈ ds, ∃ cs, d = .tuple cs ∧ cs.length = is.length)
    (ht : ∀ ws cs H1, .tuple cs ∈ ds → cs.length = is.length → RA K H1 ws cs → Same H H1 → ∀ Qt : Bool → Hp → Prop, (∀ H2, Same H1 H2 → Qt (p (.tuple cs)) H2) → t (setAll (wipe σ vs) is ws) H1 Qt)
    (he : ∀ ws cs H1, .tuple cs ∈ ds → cs.length = is.length → p (.tuple cs) = true → RA K H1 ws cs → Same H H1 → ∀ Qt : VK, (∀ y H2, Same H1 H2 → R K H2 y (f (.tuple cs)) → Qt y H2) → te (setAll (wipe σ vs) is ws) H1 Qt)
    (hq : ∀ v H1, Same H H1 → R K H1 v (.list ((ds.filter p).map f)) → Q v H1) : LcLT K (gN K is) (tHideT t) (tHide te) vs σ x H Q := by
  obtain ⟨a, ws, rfl, ha, rds⟩ := r.inv_lst
  refine ⟨a, rfl, ⟨ws, .inl (.inl ha)⟩, ?_⟩
  have hlen := rds.length
  refine lcg (K := K) (walk_list (K := K) (a := a) (xs := ws)) (by omega) (fun H' s => s.seq (.inl (.inl ha))) (fun k es => k ≤ ds.length ∧ es = ((ds.take k).filter p).map f) ⟨Nat.zero_le _, rfl⟩
    (fun i es h => by rw [h.2, List.length_map]; exact Nat.le_trans (List.length_filter_le _ _) (by rw [List.length_take]; exact Nat.min_le_left _ _)) ?_ fun v H1 es s1 r1 hi => hq v H1 s1 (by
      have := hi.2
      rw [hlen, List.take_length] at this
      rw [← this]; exact r1)
  rintro i x Hb D xs es Hy hi sm hb ⟨hk, rfl⟩ ⟨rfl, hx⟩ Qy Qn qy qn
  obtain ⟨d, e1, e2⟩ := rds.getV hx
  obtain ⟨cs, rfl, hcl⟩ := hp d (List.mem_of_getElem? e1)
  obtain ⟨b, zs, rfl, hb2, rb⟩ := (e2.mono sm).inv_tup
  have hzl := rb.length
  have hkl : i < ds.length := (List.getElem?_eq_some_iff.mp e1).1
  have e3 : ds.take (i + 1) = ds.take i ++ [.tuple cs] := by rw [List.take_add_one, e1]; rfl
  refine ⟨b, zs, rfl, (same_new hb _).tup hb2, by rw [hzl, hcl], gNs_of (by rw [hzl, hcl]) ⟨hw _, ?_⟩⟩
  refine lc_test (K := K) (p := p (.tuple cs)) (fe := f (.tuple cs)) rfl hb (ht zs cs Hb (List.mem_of_getElem? e1) hcl rb sm) (fun h H1 s1 => he zs cs H1 (List.mem_of_getElem? e1) hcl h (rb.mono s1) (sm.trans s1)) (fun h y Hd nd sd rd => qy y Hd _ nd sd rd ⟨hkl, ?_⟩) fun h Hd nd sd => qn Hd nd sd ⟨hkl, ?_⟩
  · rw [e3, List.filter_append, List.map_append, List.filter_cons_of_pos h, List.filter_nil]; rfl
  · rw [e3, List.filter_append, List.filter_cons_of_neg (by rw [h]; decide), List.filter_nil, List.append_nil]
/-! enumerate over a list or a tuple, with a test -/
def LcET (K : PySem.W.Frag) (g : TG) (tt : TT) (te : TE) (vs : List Nat) (σ : L2.St) (ys : List V) (H : Hp) (Q : VK) : Prop := ∃ a xs, ys = [.ref a] ∧ SqL K H a xs ∧ LcGT (Ite K a) g tt te vs σ H Q
def LcETT (K : PySem.W.Frag) (g : TG) (tt : TT) (te : TE) (vs : List Nat) (σ : L2.St) (ys : List V) (H : Hp) (Q : VK) : Prop := ∃ a xs, ys = [.ref a] ∧ SqT K H a xs ∧ LcGT (IteT K a) g tt te vs σ H Q
theorem st_lcET {g : TG} {tt : TT} {te : TE} {ta : TA} (h : ta σ H fun ys H1 => LcET K g tt te vs σ ys H1 Q) : tLc (iEnum K ta) g tt te vs σ H Q := by
  exact h
theorem st_lcETT {g : TG} {tt : TT} {te : TE} {ta : TA} (h : ta σ H fun ys H1 => LcETT K g tt te vs σ ys H1 Q) : tLc (iEnumT K ta) g tt te vs σ H Q := by
  exact h
theorem lcE_core {J : It} {i j : Nat} {ws : List V} {ds : List PyData} (p : Nat → PyData → Bool) (f : Nat → PyData → PyData) {Gp : Hp → Prop} (wk : L2.Walk J ws.length Gp (YPair (fun i => some (.int (i : Nat))) (fun i => ws[i]?))) (hG : ∀ H', Same H H' → Gp H')
    (rds : RA K H ws ds) (hn : ds.length ≤ 1000000) (hw : ∀ v1 v2, wipe (((wipe σ vs).set i (some v1)).set j (some v2)) vs = wipe σ vs)
    (ht : ∀ (k : Nat) v d H1, ds[k]? = some d → R K H1 v d → Same H H1 → ∀ Qt : Bool → Hp → Prop, (∀ H2, Same H1 H2 → Qt (p k d) H2) → t (((wipe σ vs).set i (some (.int (k : Int)))).set j (some v)) H1 Qt)
    (he : ∀ (k : Nat) v d H1, ds[k]? = some d → p k d = true → R K H1 v d → Same H H1 → ∀ Qt : VK, (∀ y H2, Same H1 H2 → R K H2 y (f k d) → Qt y H2) → te (((wipe σ vs).set i (some (.int (k : Int)))).set j (some v)) H1 Qt)
    (hq : ∀ v H1, Same H H1 → R K H1 v (.list ((ds.zipIdx.filter fun x => p x.2 x.1).map fun x => f x.2 x.1)) → Q v H1) : LcGT J (g2 K i j) (tHideT t) (tHide te) vs σ H Q := by
  have hlen := rds.length
  refine lcg (K := K) wk (by omega) hG (fun k es => k ≤ ds.length ∧ es = ((ds.zipIdx.take k).filter fun x => p x.2 x.1).map fun x => f x.2 x.1) ⟨Nat.zero_le _, rfl⟩
    (fun i es h => by rw [h.2, List.length_map]; exact Nat.le_trans (List.length_filter_le _ _) (by rw [List.length_take]; exact Nat.min_le_left _ _)) ?_ fun v H1 es s1 r1 hi => hq v H1 s1 (by
      have := hi.2
      rw [List.take_of_length_le (by rw [List.length_zipIdx, hlen]; exact Nat.le_refl _)] at this
      rw [← this]; exact r1)
  rintro k x Hb D xs es Hy hi sm hb ⟨hk, rfl⟩ ⟨T, x1, x2, rfl, hT, rfl, h1, h2⟩ Qy Qn qy qn
  cases h1
  obtain ⟨d, e1, e2⟩ := rds.getV h2
  have hTD : T ≠ D := fun e => by rw [e, upd_same] at hT; cases hT
  have hTb : Hb T = none := by rw [upd_ne hTD] at hT; exact hT
  have s1 : Same Hb (upd Hb T (.tup [.int (k : Int), x2])) := same_new hTb _
  have hD : (upd Hb T (.tup [.int (k : Int), x2])) D = none := by rw [upd_ne (Ne.symm hTD)]; exact hb
  have hH : upd (upd Hb D (.lst xs)) T (.tup [.int (k : Int), x2]) = upd (upd Hb T (.tup [.int (k : Int), x2])) D (.lst xs) := by
    funext b
    by_cases hbT : b = T
    · rw [hbT, upd_same, upd_ne hTD, upd_same]
    · rw [upd_ne hbT]
      by_cases hbD : b = D
      · rw [hbD, upd_same, upd_same]
      · rw [upd_ne hbD, upd_ne hbD, upd_ne hbT]
  have hkl : k < ds.length := (List.getElem?_eq_some_iff.mp e1).1
  have e3 : ds.zipIdx.take (k + 1) = ds.zipIdx.take k ++ [(d, k)] := by
    rw [List.take_add_one, List.getElem?_zipIdx, e1]; simp
  have r2 := (e2.mono sm).mono s1
  refine ⟨T, _, rfl, .inl (.inl upd_same), rfl, _, _, rfl, _, _, rfl, rfl, hw _ _, ?_⟩
  refine lc_test (K := K) (p := p k d) (fe := f k d) hH hD (ht k x2 d _ e1 r2 (sm.trans s1)) (fun h H1 sh => he k x2 d H1 e1 h (r2.mono sh) ((sm.trans s1).trans sh)) (fun h y Hd nd sd rd => qy y Hd _ nd (s1.trans sd) rd ⟨hkl, ?_⟩) fun h Hd nd sd => qn Hd nd (s1.trans sd) ⟨hkl, ?_⟩
  · have e4 : ([(d, k)] : List (PyData × Nat)).filter (fun x => p x.2 x.1) = [(d, k)] := by simp [h]
    rw [e3, List.filter_append, List.map_append, e4]; rfl
  · have e4 : ([(d, k)] : List (PyData × Nat)).filter (fun x => p x.2 x.1) = [] := by simp [h]
    rw [e3, List.filter_append, e4, List.append_nil]
theorem lcET {i j : Nat} (p : Nat → PyData → Bool) (f : Nat → PyData → PyData) {x : V} {ds : List PyData} (r : R K H x (.list ds)) (hn : ds.length ≤ 1000000) (hw : ∀ v1 v2, wipe (((wipe σ vs).set i (some v1)).set j (some v2)) vs = wipe σ vs)
    (ht : ∀ (k : Nat) v d H1, ds[k]? = some d → R K H1 v d → Same H H1 → ∀ Qt : Bool → Hp → Prop, (∀ H2, Same H1 H2 → Qt (p k d) H2) → t (((wipe σ vs).set i (some (.int (k : Int)))).set j (some v)) H1 Qt)
    (he : ∀ (k : Nat) v d H1, ds[k]? = some d → p k d = true → R K H1 v d → Same H H1 → ∀ Qt : VK, (∀ y H2, Same H1 H2 → R K H2 y (f k d) → Qt y H2) → te (((wipe σ vs).set i (some (.int (k : Int)))).set j (some v)) H1 Qt)
    (hq : ∀ v H1, Same H H1 → R K H1 v (.list ((ds.zipIdx.filter fun x => p x.2 x.1).map fun x => f x.2 x.1)) → Q v H1) : LcET K (g2 K i j) (tHideT t) (tHide te) vs σ [x] H Q := by
  obtain ⟨a, ws, rfl, ha, rds⟩ := r.inv_lst
  exact ⟨a, ws, rfl, .inl (.inl ha), lcE_core p f (walk_enum (K := K) (a := a) (xs := ws)) (fun H' s => s.seq (.inl (.inl ha))) rds hn hw ht he hq⟩
theorem lcETT {i j : Nat} (p : Nat → PyData → Bool) (f : Nat → PyData → PyData) {x : V} {ds : List PyData} (r : R K H x (.tuple ds)) (hn : ds.length ≤ 1000000) (hw : ∀ v1 v2, wipe (((wipe σ vs).set i (some v1)).set j (some v2)) vs = wipe σ vs)
    (ht : ∀ (k : Nat) v d H1, ds[k]? = some d → R K H1 v d → Same H H1 → ∀ Qt : Bool → Hp → Prop, (∀ H2, Same H1 H2 → Qt (p k d) H2) → t (((wipe σ vs).set i (some (.int (k : Int)))).set j (some v)) H1 Qt)
    (he : ∀ (k : Nat) v d H1, ds[k]? = some d → p k d = true → R K H1 v d → Same H H1 → ∀ Qt : VK, (∀ y H2, Same H1 H2 → R K H2 y (f k d) → Qt y H2) → te (((wipe σ vs).set i (some (.int (k : Int)))).set j (some v)) H1 Qt)
    (hq : ∀ v H1, Same H H1 → R K H1 v (.list ((ds.zipIdx.filter fun x => p x.2 x.1).map fun x => f x.2 x.1)) → Q v H1) : LcETT K (g2 K i j) (tHideT t) (tHide te) vs σ [x] H Q := by
  obtain ⟨a, ws, rfl, ha, rds⟩ := r.inv_tup
  exact ⟨a, ws, rfl, ha, lcE_core p f (walk_enumT (K := K) (a := a) (xs := ws)) (fun H' s => s.tup ha) rds hn hw ht he hq⟩
end
end G

namespace G
open PySem PySem.Spec PyProof.Rows L2
section
variable {X : Cx} {k : Nat} {o i e f : Expr} {td ty tx : TE} {pos apos cpos : Pos}
theorem pe_dgetH (hr : Room k X.A) (ho : PE X o td) (hi : PE X i ty) (hs : NoSl i) : PE X (.Subscript o i pos) (tDGet td ty) := pe_dget (by have := hr.units; omega) ho hi hs
theorem pe_dget1H (hr : Room k X.A) (ho : PE X o td) (he : PE X e ty) (m : M1 X o "get" apos e cpos) : PE X (.Call (.Attribute o "get" apos) [e] [] cpos) (tDGet1 td ty) := pe_dget1 (by have := hr.units; omega) ho he m
theorem pe_dget2H (hr : Room k X.A) (ho : PE X o td) (he : PE X e ty) (hf : PE X f tx) (m : M2 X o "get" apos e f cpos) : PE X (.Call (.Attribute o "get" apos) [e, f] [] cpos) (tDGet2 td ty tx) := pe_dget2 (by have := hr.units; omega) ho he hf m
theorem gtLK (K : PySem.W.Frag) {tg : Expr} {n : Nat} {t : TGs} (h : PG X tg (gLst X.K n t)) (hK : X.K = K := by rfl) : PG X tg (gLst K n t) := hK ▸ h
theorem pi_enumLK (K : PySem.W.Frag) {X : Cx} {e : Expr} {ta : TA} {p pos tpos : Pos} {elts : List Expr} {kk : Nat} (hg : Gl X "enumerate") (hm : X.mg "enumerate" = none) (ha : PA X [e] ta) (hs : starEach [e] X.env = [(false, eval e X.env)] := by rfl) (hK : X.K = K := by rfl) :
    PI X (.Tuple elts kk tpos) (.Call (.Name "enumerate" p) [e] [] pos) (iEnum K ta) := hK ▸ pi_enum hg hm ha hs
end
def rDivmod : List V → Hp → VK → Prop := fun xs H Q => ∃ i j, xs = [.int i, .int j] ∧ CDiv i j ∧ ∀ p, H p = none → Q (.ref p) (upd H p (.tup [.int (i / j), .int (i % j)]))
def rAbs : List V → Hp → VK → Prop := fun xs H Q => ∃ i, xs = [.int i] ∧ Q (.int (if i < 0 then -i else i)) H
theorem call_divmodR {X : Cx} : CallR X (.builtin "divmod") rDivmod := call_divmod
theorem call_absR {X : Cx} : CallR X (.builtin "abs") rAbs := call_abs
def rSIndex : V → List V → Hp → VK → Prop := fun x xs H Q => ∃ a b i rest, x = .str a ∧ xs = [.str b] ∧ Builtin.Str.occurrences a b 0 a.length 1 = i :: rest ∧ Q (.int (i : Nat)) H
theorem mt_sindexR {X : Cx} : MtR X "str.index" rSIndex := mt_sindex
theorem st_BMs {K : PySem.W.Frag} {σ : L2.St} {H : Hp} {Q : VK} {to : TE} {t : TA} {r : V → List V → Hp → VK → Prop} (h : to σ H fun x H1 => tyV K "str" x H1 ∧ t σ H1 fun xs H2 => r x xs H2 Q) : tBM K "str" r to t σ H Q := h
theorem st_tys {K : PySem.W.Frag} {H : Hp} {z : Str} {A : Prop} (h : A) : tyV K "str" (.str z) H ∧ A := ⟨rfl, h⟩
theorem bt_divmod : bootBuiltins "divmod" = some (.builtin "divmod") := by decide +kernel
theorem bt_abs : bootBuiltins "abs" = some (.builtin "abs") := by decide +kernel
section
variable {K : PySem.W.Frag} {H : Hp} {Q : VK} {QH : Hp → Prop} {σ : L2.St} {x : V} {a : Addr} {kvs : List (Key × V)} {z : Str}
theorem st_dget {td ty : TE} (h : td σ H fun x H1 => ty σ H1 fun y H2 => ∃ a v, x = .ref a ∧ DGet H2 a y (some v) ∧ Q v H2) : tDGet td ty σ H Q := h
theorem dget_at {F : V → Prop} {v : V} (ha : H a = some (.dK kvs)) (hv : valV kvs (Sum.inr z) = some v) (h : F v) : ∃ b w, V.ref a = .ref b ∧ DGet H b (.str z) (some w) ∧ F w :=
  ⟨a, v, rfl, by rw [← hv]; exact DGet.k (k := Sum.inr z) ha, h⟩
theorem st_dget2 {td ty tx : TE} (h : td σ H fun x H1 => ∃ a, x = .ref a ∧ IsD H1 a ∧ ty σ H1 fun y H2 => tx σ H2 fun z H3 => ∃ o, DGet H3 a y o ∧ Q (o.getD z) H3) : tDGet2 td ty tx σ H Q := h
theorem st_dget1 {td ty : TE} (h : td σ H fun x H1 => ∃ a, x = .ref a ∧ IsD H1 a ∧ ty σ H1 fun y H2 => ∃ o, DGet H2 a y o ∧ Q (o.getD .non) H2) : tDGet1 td ty σ H Q := h
theorem isD_k (ha : H a = some (.dK kvs)) : IsD H a := .inl ⟨kvs, .inl ha⟩
theorem dget_o {F : Option V → Prop} (ha : H a = some (.dK kvs)) (h : F (valV kvs (Sum.inr z))) : ∃ o, DGet H a (.str z) o ∧ F o := ⟨_, DGet.k (k := Sum.inr z) ha, h⟩
theorem divmodR {i j : Int} (h0 : 0 < j) (h1 : j < 1073741824) (h : ∀ p H', H p = none → H' = upd H p (.tup [.int (i / j), .int (i % j)]) → Q (.ref p) H') : rDivmod [.int i, .int j] H Q :=
  ⟨i, j, rfl, ⟨h0, h1⟩, fun p hp => h p _ hp rfl⟩
theorem absR {i : Int} (h : ∀ j : Int, Q (.int j) H) : rAbs [.int i] H Q := ⟨i, rfl, h _⟩
theorem ix_last {ds : List PyData} {d : PyData} (r : R K H x (.list (ds ++ [d]))) (h : ∀ v, R K H v d → Q v H) : rIx K x (.int (-1)) H Q := by
  obtain ⟨a, xs, rfl, ha, ra⟩ := r.inv_lst
  obtain ⟨ws, v, rfl, rw1, rv⟩ := ra.split
  refine .inl ⟨a, _, -1, v, rfl, rfl, .inl (.inl ha), ?_, h v rv⟩
  unfold atI ixN
  simp only [List.length_append, List.length_singleton]
  rw [if_neg (by decide), if_pos (by omega)]
  have : ((-1 : Int) + ((ws.length : Int) + 1)).toNat = ws.length := by omega
  simp [this]
theorem ix_scrLast {a : Addr} {ns : List Int} (hs : SqL K H a (ns.map V.int)) (h1 : 0 < ns.length) (h : ∀ n : Int, Q (.int n) H) : rIx K (.ref a) (.int (-1)) H Q := by
  refine .inl ⟨a, _, -1, .int ns[ns.length - 1], rfl, rfl, hs, ?_, h _⟩
  unfold atI ixN
  simp only [List.length_map]
  rw [if_neg (by decide), if_pos (by omega)]
  have : ((-1 : Int) + (ns.length : Int)).toNat = ns.length - 1 := by omega
  simp [this, h1]
theorem RA_rep {H : Hp} {xs : List V} {ds : List PyData} : ∀ n : Nat, RA K H xs ds → RA K H (List.replicate n xs).flatten (List.replicate n ds).flatten
  | 0, _ => .nil
  | n + 1, r => by rw [List.replicate_succ, List.replicate_succ, List.flatten_cons, List.flatten_cons]; exact r.append (RA_rep n r)
theorem repR {ds : List PyData} {k : Int} (r : R K H x (.list ds)) (h0 : 0 ≤ k) (hl : ds.length * k.toNat ≤ 1000000) (hk : k ≤ 1000) (h : ∀ v H', Same H H' → R K H' v (.list (List.replicate k.toNat ds).flatten) → Q v H') : rRep x (.int k) H Q := by
  obtain ⟨a, xs, rfl, ha, ra⟩ := r.inv_lst
  refine ⟨a, k, xs, rfl, rfl, ha, by omega, by omega, big_le (by rw [ra.length]; exact hl), fun p hp => h _ _ (same_new hp _) (.lst upd_same (RA_rep _ (ra.mono (same_new hp _))))⟩
end
section
variable {g : TG} {gs : TGs} {v : V} {ws : List V} {σ : L2.St} {H : Hp} {Qg : L2.St → Hp → Prop} {to ti : TE} {t : TSet} {i : Nat}
theorem st_gsub (h : to σ H fun o H2 => ti σ H2 fun i H3 => t o i v H3 fun H4 => Qg σ H4) : gSub to ti t v σ H Qg := h
theorem st_gcons (h : g v σ H fun σ' H' => gs ws σ' H' Qg) : gCons g gs (v :: ws) σ H Qg := ⟨v, ws, rfl, h⟩
theorem st_gnil (h : Qg σ H) : gNil [] σ H Qg := ⟨rfl, h⟩
theorem st_gname (h : Qg (σ.set i (some v)) H) : gName i v σ H Qg := h
end
/-! for over the script -/
section
variable {K : PySem.W.Frag} {g : TG} {tb : TS} {D : Ends} {σ : L2.St} {H : Hp} {j : Nat} {nx bk ct : L2.St → Hp → Prop} {rt : VK} {a : Addr} {ns : List Int}
theorem for_scr (Pv : Nat → L2.St → Hp → Prop) (hs : SqL K H a (ns.map V.int)) (start : Pv 0 σ H) (keep : ∀ k σ' H', Pv k σ' H' → Same H H')
    (turn : ∀ k (n : Int) σ' H', Pv k σ' H' → tb ⟨Pv (k + 1), rt, nx, Pv (k + 1)⟩ (σ'.set j (some (.int n))) H') (fin : ∀ σ' H', Pv ns.length σ' H' → nx σ' H') : ForL K (gName j) tb ⟨nx, rt, bk, ct⟩ σ (.ref a) H := by
  refine ⟨a, rfl, ⟨_, hs⟩, ?_⟩
  have hl : ns.length = (ns.map V.int).length := by simp
  rw [hl] at fin
  refine for_it (walk_list (K := K) (a := a) (xs := ns.map V.int)) (g := gName j) (tb := tb) (D := ⟨nx, rt, bk, ct⟩) Pv start (fun k σ' H' _ p => (keep _ _ _ p).seq hs) (fun k y σ' H' H'' hk p q => ?_) fin
  obtain ⟨rfl, hy⟩ := q
  rw [List.getElem?_map] at hy
  obtain ⟨n, _, rfl⟩ := Option.map_eq_some_iff.mp hy
  exact turn k n σ' _ p
/-- a list of data -/
theorem for_LD {x : V} {ds : List PyData} (Pv : Nat → L2.St → Hp → Prop) (r : R K H x (.list ds)) (start : Pv 0 σ H) (keep : ∀ k σ' H', Pv k σ' H' → Same H H')
    (turn : ∀ k d v σ' H', ds[k]? = some d → R K H' v d → Pv k σ' H' → tb ⟨Pv (k + 1), rt, nx, Pv (k + 1)⟩ (σ'.set j (some v)) H') (fin : ∀ σ' H', Pv ds.length σ' H' → nx σ' H') : ForL K (gName j) tb ⟨nx, rt, bk, ct⟩ σ x H := by
  obtain ⟨a, xs, rfl, ha, ra⟩ := r.inv_lst
  refine ⟨a, rfl, ⟨xs, .inl (.inl ha)⟩, ?_⟩
  rw [← ra.length] at fin
  refine for_it (walk_list (K := K) (a := a) (xs := xs)) (g := gName j) (tb := tb) (D := ⟨nx, rt, bk, ct⟩) Pv start (fun k σ' H' _ p => (keep _ _ _ p).seq (.inl (.inl ha))) (fun k y σ' H' H'' hk p q => ?_) fin
  obtain ⟨rfl, hy⟩ := q
  obtain ⟨d, e1, e2⟩ := ra.getV hy
  exact turn k d y σ' _ e1 (e2.mono (keep _ _ _ p)) p
end
end G

namespace G
open PySem PySem.Spec PyProof.Rows L2
def spBegin (K : PySem.W.Frag) : Sp := fun vs H Q _ => ∃ (a : Addr) (ns : List Int), vs = [.ref a] ∧ SqL K H a (ns.map V.int) ∧ ns.length ≤ 1000 ∧ ∀ p H', Same H H' → H' p = some (Stt p) → Q (.ref p) H'
def spNext : Sp := fun vs H Q _ => ∃ (p : Addr) (n : Int), vs = [.ref p, .int n] ∧ H p = some (Stt p) ∧ 0 < n ∧ n < 1000000000 ∧ ∀ (r : Int) H', Same H H' → 0 ≤ r → r < n → Q (.int r) H'
end G

namespace G
open PySem PySem.Spec PyProof.Rows L2
/-! names of consonants -/
def conS : Str := "bcdfghjklmnpqrstvwxyz"
def CON : Str := "BCDFGHJKLMNPQRSTVWXYZ"
def con (c : Nat) : Bool := decide (c ∈ conS.cps.toList)
def conZ (z : Str) : Prop := ∀ c ∈ z.cps.toList, con c = true
theorem con_low {c : Nat} (h : con c = true) : low c = true := by
  have a : ∀ c ∈ conS.cps.toList, low c = true := by decide +kernel
  exact a c (of_decide_eq_true h)
theorem cps_from (z : Str) (k : Nat) : (cutS z (some (k : Int)) none).cps.toList = z.cps.toList.drop k := by rw [cutS_from]
theorem cps_to (z : Str) (k : Nat) : (cutS z none (some (k : Int))).cps.toList = z.cps.toList.take k := by rw [cutS_to]
/-- what a drawn name is -/
structure Nm (z : Str) : Prop where
  ok : isNameS z = true
  hd : ∃ c cs, z.cps.toList = c :: cs ∧ con c = true
structure N21 (zs : List Str) : Prop where
  len : zs.length = 21
  nd : zs.Nodup
  con : ∀ z ∈ zs, conZ z
  l1 : ∀ z ∈ zs, 1 ≤ z.length ∧ z.length ≤ 7
structure N42 (zs : List Str) : Prop where
  len : zs.length = 42
  nd : zs.Nodup
  nm : ∀ z ∈ zs, Nm z
theorem kept_no {z : Str} (hk : inS z kept = true) : ∃ w ∈ (["false", "all", "some", "and", "or"] : List Str), z = w := by
  simp only [kept, inS, Bool.or_eq_true, decide_eq_true_eq, Bool.or_false] at hk
  rcases hk with h | h | h | h | h <;> exact ⟨_, by simp, h.symm⟩
theorem con_name {z : Str} (h : conZ z) (h1 : 1 ≤ z.length) (h8 : z.length ≤ 8) : Nm z := by
  have hc := len_cps z
  rcases hz : z.cps.toList with _ | ⟨c, cs⟩
  · rw [hz, List.length_nil] at hc; omega
  refine ⟨name_of h1 h8 ?_ fun c hc => con_low (h c hc), c, cs, hz, h c (by rw [hz]; simp)⟩
  rw [← Bool.not_eq_true]
  intro hk
  obtain ⟨w, hw, e⟩ := kept_no hk
  have all : ∀ w ∈ (["false", "all", "some", "and", "or"] : List Str), ¬ ∀ c ∈ w.cps.toList, con c = true := by decide +kernel
  exact all w hw (by rw [← e]; exact h)
def nameA (z : Str) : Str := cutS z none (some 1) ++ (Str.ofString "a") ++ cutS z (some 1) none
theorem nameA_cps {z : Str} {c : Nat} {cs : List Nat} (h : z.cps.toList = c :: cs) : (nameA z).cps.toList = c :: 97 :: cs := by
  unfold nameA
  rw [cps_append, cps_append, cutS_t1, cutS_1, h]
  rfl
theorem nameA_name {z : Str} (h : conZ z) (h1 : 1 ≤ z.length) (h7 : z.length ≤ 7) : Nm (nameA z) := by
  have hc := len_cps z
  rcases hz : z.cps.toList with _ | ⟨c, cs⟩
  · rw [hz, List.length_nil] at hc; omega
  have e := nameA_cps hz
  have hl : (nameA z).length = z.length + 1 := by rw [len_cps, e, hc, hz]; rfl
  refine ⟨name_of (by omega) (by omega) ?_ fun d hd => ?_, c, 97 :: cs, e, h c (by rw [hz]; simp)⟩
  · rw [← Bool.not_eq_true]
    intro hk
    obtain ⟨w, hw, e2⟩ := kept_no hk
    have hcs : ∀ d ∈ cs, con d = true := fun d hd => h d (by rw [hz]; exact List.mem_cons_of_mem _ hd)
    have hcc : con c = true := h c (by rw [hz]; simp)
    have all : ∀ w ∈ (["false", "all", "some", "and", "or"] : List Str), ¬ (con (w.cps.toList.headD 0) = true ∧ ∀ d ∈ w.cps.toList.drop 2, con d = true) ∨ w.cps.toList[1]? ≠ some 97 := by decide +kernel
    rcases all w hw with q | q
    · rw [← e2, e] at q
      exact q ⟨hcc, by simpa using hcs⟩
    · rw [← e2, e] at q
      exact q rfl
  · rw [e] at hd
    simp only [List.mem_cons] at hd
    rcases hd with rfl | rfl | hd
    · exact con_low (h _ (by rw [hz]; simp))
    · decide +kernel
    · exact con_low (h _ (by rw [hz]; exact List.mem_cons_of_mem _ hd))
theorem nodup_map {α β : Type} {f : α → β} {xs : List α} (h : xs.Nodup) (hf : ∀ a ∈ xs, ∀ b ∈ xs, f a = f b → a = b) : (xs.map f).Nodup := by
  induction xs with
  | nil => exact List.nodup_nil
  | cons x xs ih =>
    have h2 := List.nodup_cons.mp h
    refine List.nodup_cons.mpr ⟨fun hm => ?_, ih h2.2 fun a ha b hb => hf a (List.mem_cons_of_mem _ ha) b (List.mem_cons_of_mem _ hb)⟩
    obtain ⟨y, hy, e⟩ := List.mem_map.mp hm
    exact h2.1 (hf y (List.mem_cons_of_mem _ hy) x List.mem_cons_self e ▸ hy)
theorem nodup_of_map {α β : Type} {f : α → β} : ∀ {xs : List α}, (xs.map f).Nodup → xs.Nodup
  | [], _ => List.nodup_nil
  | x :: xs, h => by
    have h2 := List.nodup_cons.mp h
    exact List.nodup_cons.mpr ⟨fun hm => h2.1 (List.mem_map_of_mem hm), nodup_of_map h2.2⟩
theorem n42_of {zs : List Str} (h : N21 zs) : N42 (zs ++ zs.map nameA) := by
  have hd : ∀ z ∈ zs, ∃ c cs, z.cps.toList = c :: cs := fun z hz => by
    have hl := (h.l1 z hz).1
    rw [len_cps] at hl
    rcases e : z.cps.toList with _ | ⟨c, cs⟩
    · rw [e] at hl; simp at hl
    · exact ⟨c, cs, rfl⟩
  refine ⟨by rw [List.length_append, List.length_map, h.len], List.nodup_append.mpr ⟨h.nd, nodup_map h.nd fun a ha b hb e => ?_, fun a ha b hb e => ?_⟩, fun z hz => ?_⟩
  · obtain ⟨c, cs, e1⟩ := hd a ha
    obtain ⟨d, ds, e2⟩ := hd b hb
    have q := congrArg (fun z : Str => z.cps.toList) e
    simp only [nameA_cps e1, nameA_cps e2, List.cons.injEq, true_and] at q
    exact str_ext (by rw [e1, e2, q.1, q.2])
  · obtain ⟨y, hy, rfl⟩ := List.mem_map.mp hb
    obtain ⟨c, cs, e1⟩ := hd y hy
    have q := h.con a ha 97 (by rw [e, nameA_cps e1]; simp)
    exact absurd q (by decide +kernel)
  · rcases List.mem_append.mp hz with hz | hz
    · exact con_name (h.con z hz) (h.l1 z hz).1 (by have := (h.l1 z hz).2; omega)
    · obtain ⟨y, hy, rfl⟩ := List.mem_map.mp hz
      exact nameA_name (h.con y hy) (h.l1 y hy).1 (h.l1 y hy).2
/-- the twenty-one letters, turned -/
def turned (t : Nat) : List Nat := (List.range 21).map fun k => conS.cps.toList.getD ((t + 5 * k) % 21) 0
theorem turned_ok : ∀ t, t < 21 → (turned t).Nodup ∧ (∀ c ∈ turned t, con c = true) := by
  have : ∀ t ∈ List.range 21, (turned t).Nodup ∧ ∀ c ∈ turned t, con c = true := by decide +kernel
  exact fun t h => this t (List.mem_range.mpr h)
theorem turned_len (t : Nat) : (turned t).length = 21 := by simp [turned]
theorem n21_a {st : Str} (hs : conZ st) (hl : st.length ≤ 6) {t : Nat} (ht : t < 21) (a : Nat) : N21 ((turned t).map fun c => cutS st none (some (a : Int)) ++ sign c ++ cutS st (some (a : Int)) none) := by
  have ⟨nd, cn⟩ := turned_ok t ht
  have e : ∀ c, (cutS st none (some (a : Int)) ++ sign c ++ cutS st (some (a : Int)) none).cps.toList = st.cps.toList.take a ++ c :: st.cps.toList.drop a := fun c => by
    rw [cps_append, cps_append, cps_to, cps_from]; simp [sign]
  refine ⟨by rw [List.length_map, turned_len], nodup_map nd fun c _ d _ h => ?_, fun z hz => ?_, fun z hz => ?_⟩
  · have q := congrArg (fun z : Str => z.cps.toList) h
    simp only [e, List.append_cancel_left_eq, List.cons.injEq, and_true] at q
    exact q
  · obtain ⟨c, hc, rfl⟩ := List.mem_map.mp hz
    intro d hd
    rw [e] at hd
    rcases List.mem_append.mp hd with h | h
    · exact hs d (List.mem_of_mem_take h)
    · rcases List.mem_cons.mp h with rfl | h
      · exact cn _ hc
      · exact hs d (List.mem_of_mem_drop h)
  · obtain ⟨c, hc, rfl⟩ := List.mem_map.mp hz
    rw [len_cps, e]
    rw [len_cps] at hl
    simp only [List.length_append, List.length_cons, List.length_take, List.length_drop]
    omega
theorem n21_b {st : Str} (hs : conZ st) (hl : st.length ≤ 6) {t : Nat} (ht : t < 21) (f : Nat → Nat) : N21 ((turned t).zipIdx.map fun x => sign x.1 ++ cutS st none (some (f x.2 : Int))) := by
  have ⟨nd, cn⟩ := turned_ok t ht
  have e : ∀ c (k : Nat), (sign c ++ cutS st none (some (f k : Int))).cps.toList = c :: st.cps.toList.take (f k) := fun c k => by
    rw [cps_append, cps_to]; simp [sign]
  have nz : (turned t).zipIdx.Nodup := by
    have : ((turned t).zipIdx.map Prod.fst).Nodup := by rw [List.zipIdx_map_fst]; exact nd
    exact nodup_of_map this
  refine ⟨by rw [List.length_map, List.length_zipIdx, turned_len], nodup_map nz fun c hc d hd h => ?_, fun z hz => ?_, fun z hz => ?_⟩
  · have q := congrArg (fun z : Str => z.cps.toList) h
    simp only [e, List.cons.injEq] at q
    obtain ⟨c1, c2⟩ := c
    obtain ⟨d1, d2⟩ := d
    have hc' := List.mem_zipIdx hc
    have hd' := List.mem_zipIdx hd
    simp only at q hc' hd'
    have h1 := q.1
    have : c2 = d2 := by
      have a1 : (turned t)[c2]? = some c1 := by rw [List.getElem?_eq_getElem (by omega)]; simpa using hc'.2.2.symm
      have a2 : (turned t)[d2]? = some c1 := by rw [h1, List.getElem?_eq_getElem (by omega)]; simpa using hd'.2.2.symm
      have hlt : c2 < (turned t).length := (List.getElem?_eq_some_iff.mp a1).1
      exact (List.getElem?_inj hlt nd).mp (a1.trans a2.symm)
    rw [h1, this]
  · obtain ⟨⟨c, k⟩, hc, rfl⟩ := List.mem_map.mp hz
    intro d hd
    rw [e] at hd
    rcases List.mem_cons.mp hd with rfl | h
    · exact cn _ (by have := List.mem_zipIdx hc; simp only [Nat.zero_add, Nat.sub_zero] at this; rw [this.2.2]; exact List.getElem_mem _)
    · exact hs d (List.mem_of_mem_take h)
  · obtain ⟨⟨c, k⟩, hc, rfl⟩ := List.mem_map.mp hz
    rw [len_cps, e]
    rw [len_cps] at hl
    simp only [List.length_cons, List.length_take]
    omega
/-! a form's name of a name -/
def greatS (z : Str) : Str := sign ((z.cps.toList.headD 0) - 32) ++ cutS z (some 1) none
theorem greatS_ok {z : Str} (h : Nm z) : isFormS (greatS z) = true := by
  obtain ⟨c, cs, e, hc⟩ := h.hd
  have := form_of h.ok
  have e1 : cutS z none (some 1) = ⟨#[c]⟩ := str_ext (by rw [cutS_t1, e]; rfl)
  rw [e1, (upper_low (con_low hc)).1] at this
  have e2 : greatS z = (⟨#[c - 32]⟩ : Str) ++ cutS z (some 1) none := by unfold greatS; rw [e]; rfl
  rw [e2]; exact this
theorem greatS_inj {y z : Str} (hy : Nm y) (hz : Nm z) (h : greatS y = greatS z) : y = z := by
  obtain ⟨c, cs, e, hc⟩ := hy.hd
  obtain ⟨d, ds, f, hd⟩ := hz.hd
  have q := congrArg (fun z : Str => z.cps.toList) h
  simp only [greatS, cps_append, cutS_1, e, f, sign, List.headD_cons, List.drop_succ_cons, List.drop_zero, List.singleton_append, List.cons.injEq] at q
  have a : ∀ c ∈ conS.cps.toList, 97 < c := by decide +kernel
  have h1 := a c (of_decide_eq_true hc)
  have h2 := a d (of_decide_eq_true hd)
  refine str_ext ?_
  rw [e, f]
  rw [show c = d from by omega, q.2]
def chk (c : Nat) : Bool := match Builtin.Str.occurrences conS ⟨#[c]⟩ 0 conS.length 1 with
  | i :: _ => CON.cps.toList[i]? == some (c - 32)
  | [] => false
theorem great_at {c : Nat} (h : con c = true) : ∃ (i : Nat) (rest : List Nat), Builtin.Str.occurrences conS ⟨#[c]⟩ 0 conS.length 1 = i :: rest ∧ CON.cps.toList[i]? = some (c - 32) := by
  have a : ∀ c ∈ conS.cps.toList, chk c = true := by decide +kernel
  have q := a c (of_decide_eq_true h)
  unfold chk at q
  split at q
  · rename_i i rest e; exact ⟨i, rest, e, by simpa using q⟩
  · cases q
theorem es_range {f : Nat → PyData} {es : List PyData} {n : Nat} (hl : es.length = n) (h : ∀ (i : Nat) e, es[i]? = some e → e = f i) : es = (List.range n).map f :=
  list_of_at (by rw [hl, List.length_range]) fun i e q => ⟨i, by rw [List.getElem?_range (by have := (List.getElem?_eq_some_iff.mp q).1; omega)], h i e q⟩
theorem es_idx {α : Type} {xs : List α} {f : α × Nat → PyData} {es : List PyData} (hl : es.length = xs.length) (h : ∀ (i : Nat) e x, es[i]? = some e → xs[i]? = some x → e = f (x, i)) : es = xs.zipIdx.map f :=
  list_of_at (by rw [hl, List.length_zipIdx]) fun i e q => by
    have hi : i < xs.length := by have := (List.getElem?_eq_some_iff.mp q).1; omega
    exact ⟨(xs[i], i), by rw [List.getElem?_zipIdx, List.getElem?_eq_getElem hi]; simp, h i e xs[i] q (List.getElem?_eq_getElem hi)⟩
theorem turned_at {t k : Nat} (hk : k < 21) : (turned t)[k]? = some (conS.cps.toList.getD ((t + 5 * k) % 21) 0) := by
  unfold turned
  rw [List.getElem?_map, List.getElem?_range hk]; rfl
theorem con_at {t k : Nat} : conS.cps.toList[(t + 5 * k) % 21]? = some (conS.cps.toList.getD ((t + 5 * k) % 21) 0) := by
  have h : (t + 5 * k) % 21 < conS.cps.toList.length := Nat.lt_of_lt_of_le (Nat.mod_lt _ (by decide)) (by decide +kernel)
  rw [List.getD_eq_getElem?_getD, List.getElem?_eq_getElem h]; rfl
def spNames (K : PySem.W.Frag) : Sp := fun vs H Q _ => ∃ (p : Addr), vs = [.ref p] ∧ H p = some (Stt p) ∧ ∀ v zs H', Same H H' → N42 zs → R K H' v (.list (zs.map PyData.str)) → Q v H'
def spGreat : Sp := fun vs H Q _ => ∃ z, vs = [.str z] ∧ Nm z ∧ ∀ H', Same H H' → Q (.str (greatS z)) H'
theorem use_next {K : PySem.W.Frag} {H : Hp} {Q : VK} {E : XK} {p : Addr} {n : Int} (hp : H p = some (Stt p)) (h0 : 0 < n) (h1 : n < 1000000000) (h : ∀ (r : Int) H', Same H H' → 0 ≤ r → r < n → Q (.int r) H') : spNext [.ref p, .int n] H Q E := ⟨p, n, rfl, hp, h0, h1, h⟩
end G

namespace G
open PySem PySem.Spec PyProof.Rows L2
/-! a drawn book: an open kind a, made ones b and c, what is called, words -/
structure Bk where
  a : Str
  b : Str
  c : Str
  fb : List (Str × List Str)
  fc : List (Str × List Str)
  calls : List (Str × List Str × Str)
  words : List (Str × List Str)
def Bk.forms (g : Bk) (k : Str) : List (Str × List Str) := if k = g.b then g.fb else if k = g.c then g.fc else []
def Bk.kinds (g : Bk) : List Str := [g.a, g.b, g.c]
abbrev partsD (ps : List Str) : PyData := .tuple (ps.map PyData.str)
def formD (x : Str × List Str) : PyData := .tuple [.str x.1, partsD x.2]
def callD (x : Str × List Str × Str) : PyData := .tuple [.str x.1, partsD x.2.1, .str x.2.2]
def thingD (x : Str × Str) : PyData := .tuple [.str x.1, .str x.2]
abbrev Own := Str × List Str × Str × List Nat
def ownD : Option Own → PyData
  | none => .none
  | some (f, ks, k, js) => .tuple [.str f, partsD ks, .str k, .list (js.map fun j : Nat => PyData.int (j : Int))]
structure FormsOk (g : Bk) (fs : List (Str × List Str)) : Prop where
  len : fs.length ≤ 4
  nm : ∀ x ∈ fs, isFormS x.1 = true
  ps : ∀ x ∈ fs, x.2.length ≤ 4 ∧ ∀ k ∈ x.2, k ∈ g.kinds
structure BkOk (g : Bk) : Prop where
  ab : g.a ≠ g.b
  ac : g.a ≠ g.c
  bc : g.b ≠ g.c
  na : isNameS g.a = true
  nb : isNameS g.b = true
  nc : isNameS g.c = true
  okb : FormsOk g g.fb
  okc : FormsOk g g.fc
  fb0 : ∃ n r, g.fb = (n, []) :: r
  fc0 : ∃ n r, g.fc = (n, []) :: r ∨ g.fc = (n, [g.a, g.b]) :: r
  c0 : ∃ f r, g.calls = (f, [], g.a) :: r
  cl : g.calls.length ≤ 100
  cn : ∀ x ∈ g.calls, isNameS x.1 = true ∧ x.2.1.length ≤ 4 ∧ (∀ k ∈ x.2.1, k ∈ g.kinds) ∧ x.2.2 ∈ g.kinds
  wl : g.words.length ≤ 100
  wn : ∀ x ∈ g.words, isNameS x.1 = true ∧ x.2.length ≤ 4 ∧ ∀ k ∈ x.2, k ∈ g.kinds
/-- terms of a kind: things, bounds, forms, what is called -/
def Bk.sig (g : Bk) : Option Own → List (Str × List Str × Str)
  | none => g.calls
  | some (f, ks, k, _) => g.calls ++ [(f, ks, k)]
mutual
def Th.kd (g : Bk) (cs : List (Str × List Str × Str)) (xs : List (Str × Str)) (is : List Str) : Th → Str → Prop
  | .free x, k => (x, k) ∈ xs
  | .bnd j, k => is[j]? = some k
  | .app .form c args, k => ∃ ps, (c, ps) ∈ g.forms k ∧ Th.kds g cs xs is args ps
  | .app .call c args, k => ∃ ps, (c, ps, k) ∈ cs ∧ Th.kds g cs xs is args ps
  | _, _ => False
def Th.kds (g : Bk) (cs : List (Str × List Str × Str)) (xs : List (Str × Str)) (is : List Str) : List Th → List Str → Prop
  | [], [] => True
  | t :: ts, k :: ks => Th.kd g cs xs is t k ∧ Th.kds g cs xs is ts ks
  | _, _ => False
end
mutual
/-- each call of f has a part as its first arg -/
def Th.fall (f : Str) (ps : List Nat) : Th → Prop
  | .app .call c as => (c = f → ∃ j, as[0]? = some (.bnd j) ∧ j ∈ ps) ∧ Th.falls f ps as
  | .app .form c as => Th.falls f ps as
  | _ => True
def Th.falls (f : Str) (ps : List Nat) : List Th → Prop
  | [] => True
  | a :: as => a.fall f ps ∧ Th.falls f ps as
end
theorem Th.falls_all {f : Str} {ps : List Nat} : ∀ {as : List Th}, Th.falls f ps as ↔ ∀ a ∈ as, a.fall f ps
  | [] => by simp [Th.falls]
  | a :: as => by simp [Th.falls, Th.falls_all (as := as)]
def Th.fallO : Option Own → Th → Prop
  | none, _ => True
  | some (f, _, _, js), t => t.fall f js
structure OwnOk (g : Bk) (is : List Str) (o : Option Own) : Prop where
  ok : ∀ f ks k js, o = some (f, ks, k, js) → isNameS f = true ∧ 1 ≤ ks.length ∧ ks.length ≤ 4 ∧ (∀ x ∈ ks, x ∈ g.kinds) ∧ k ∈ g.kinds ∧ js.length ≤ 100 ∧ (∀ j ∈ js, is[j]? = ks[0]?) ∧ ∀ x ∈ g.calls, x.1 ≠ f
theorem forms_ok {g : Bk} (ok : BkOk g) (k : Str) : FormsOk g (g.forms k) := by
  unfold Bk.forms
  split
  · exact ok.okb
  · split
    · exact ok.okc
    · exact ⟨by decide, (fun _ h => by cases h), (fun _ h => by cases h)⟩
theorem sig_ok {g : Bk} (ok : BkOk g) {is : List Str} {o : Option Own} (oo : OwnOk g is o) : ∀ x ∈ g.sig o, isNameS x.1 = true ∧ x.2.1.length ≤ 4 := by
  intro x hx
  rcases o with _ | ⟨f, ks, k, js⟩
  · exact ⟨(ok.cn x hx).1, (ok.cn x hx).2.1⟩
  · have q := oo.ok f ks k js rfl
    rcases List.mem_append.mp hx with h | h
    · exact ⟨(ok.cn x h).1, (ok.cn x h).2.1⟩
    · rw [List.mem_singleton.mp h]; exact ⟨q.1, q.2.2.1⟩
theorem kds_len {g : Bk} {cs : List (Str × List Str × Str)} {xs : List (Str × Str)} {is : List Str} : ∀ {ts : List Th} {ks : List Str}, Th.kds g cs xs is ts ks → ts.length = ks.length
  | [], [], _ => rfl
  | t :: ts, k :: ks, h => by simp only [Th.kds] at h; simp [kds_len h.2]
  | [], _ :: _, h => by simp [Th.kds] at h
  | _ :: _, [], h => by simp [Th.kds] at h
mutual
theorem Th.kd_isT {g : Bk} {cs : List (Str × List Str × Str)} {xs : List (Str × Str)} {is : List Str} (ok : BkOk g) (hs : ∀ x ∈ cs, isNameS x.1 = true ∧ x.2.1.length ≤ 4) (hx : ∀ x ∈ xs, isNameS x.1 = true) : ∀ (t : Th) {k : Str}, t.kd g cs xs is k → t.isT (xs.map (·.1)) is.length
  | .free x, k, h => ⟨hx (x, k) h, List.mem_map.mpr ⟨(x, k), h, rfl⟩⟩
  | .bnd j, k, h => (List.getElem?_eq_some_iff.mp (show is[j]? = some k from h)).1
  | .app .form c args, k, h => by
    obtain ⟨ps, hm, hk⟩ := h
    have f := forms_ok ok k
    exact ⟨f.nm _ hm, by rw [kds_len hk]; exact (f.ps _ hm).1, Th.kds_areT ok hs hx args hk⟩
  | .app .call c args, k, h => by
    obtain ⟨ps, hm, hk⟩ := h
    exact ⟨(hs _ hm).1, by rw [kds_len hk]; exact (hs _ hm).2, Th.kds_areT ok hs hx args hk⟩
theorem Th.kds_areT {g : Bk} {cs : List (Str × List Str × Str)} {xs : List (Str × Str)} {is : List Str} (ok : BkOk g) (hs : ∀ x ∈ cs, isNameS x.1 = true ∧ x.2.1.length ≤ 4) (hx : ∀ x ∈ xs, isNameS x.1 = true) : ∀ (ts : List Th) {ks : List Str}, Th.kds g cs xs is ts ks → Th.areT (xs.map (·.1)) is.length ts
  | [], _, _ => True.intro
  | t :: ts, k :: ks, h => ⟨Th.kd_isT ok hs hx t h.1, Th.kds_areT ok hs hx ts h.2⟩
  | _ :: _, [], h => by simp [Th.kds] at h
end
/-! the book in the heap -/
structure BookAt (K : PySem.W.Frag) (H : Hp) (v : V) (g : Bk) : Prop where
  ex : ∃ x y0 af lb lc y2 y3 y4 y5, v = .ref x ∧ SqT K H x [y0, .ref af, y2, y3, y4, y5] ∧ H af = some (.dK [(Sum.inr g.b, lb), (Sum.inr g.c, lc)]) ∧ R K H lb (.list (g.fb.map formD)) ∧ R K H lc (.list (g.fc.map formD)) ∧
    R K H y2 (.list (g.calls.map callD)) ∧ R K H y3 (.list (g.kinds.map PyData.str)) ∧ R K H y5 (.list (g.words.map formD))
section
variable {K : PySem.W.Frag} {H H' : Hp} {Q : VK} {v : V} {g : Bk}
theorem BookAt.mono (s : Same H H') (h : BookAt K H v g) : BookAt K H' v g := by
  obtain ⟨x, y0, af, lb, lc, y2, y3, y4, y5, e, h1, h2, h3, h4, h5, h6, h7⟩ := h.ex
  exact ⟨x, y0, af, lb, lc, y2, y3, y4, y5, e, s.tup h1, s _ _ h2, h3.mono s, h4.mono s, h5.mono s, h6.mono s, h7.mono s⟩
theorem ix_b1 (h : BookAt K H v g) (q : ∀ af lb lc, H af = some (.dK [(Sum.inr g.b, lb), (Sum.inr g.c, lc)]) → R K H lb (.list (g.fb.map formD)) → R K H lc (.list (g.fc.map formD)) → Q (.ref af) H) : rIx K v (.int 1) H Q := by
  obtain ⟨x, y0, af, lb, lc, y2, y3, y4, y5, rfl, h1, h2, h3, h4, h5, h6, h7⟩ := h.ex
  exact .inr (.inl ⟨x, _, 1, .ref af, rfl, rfl, h1, atI_pos (by decide) rfl, q af lb lc h2 h3 h4⟩)
theorem ix_b2 (h : BookAt K H v g) (q : ∀ y, R K H y (.list (g.calls.map callD)) → Q y H) : rIx K v (.int 2) H Q := by
  obtain ⟨x, y0, af, lb, lc, y2, y3, y4, y5, rfl, h1, h2, h3, h4, h5, h6, h7⟩ := h.ex
  exact .inr (.inl ⟨x, _, 2, y2, rfl, rfl, h1, atI_pos (by decide) rfl, q _ h5⟩)
theorem ix_b3 (h : BookAt K H v g) (q : ∀ y, R K H y (.list (g.kinds.map PyData.str)) → Q y H) : rIx K v (.int 3) H Q := by
  obtain ⟨x, y0, af, lb, lc, y2, y3, y4, y5, rfl, h1, h2, h3, h4, h5, h6, h7⟩ := h.ex
  exact .inr (.inl ⟨x, _, 3, y3, rfl, rfl, h1, atI_pos (by decide) rfl, q _ h6⟩)
theorem ix_b5 (h : BookAt K H v g) (q : ∀ y, R K H y (.list (g.words.map formD)) → Q y H) : rIx K v (.int 5) H Q := by
  obtain ⟨x, y0, af, lb, lc, y2, y3, y4, y5, rfl, h1, h2, h3, h4, h5, h6, h7⟩ := h.ex
  exact .inr (.inl ⟨x, _, 5, y5, rfl, rfl, h1, atI_pos (by decide) rfl, q _ h7⟩)
theorem val_forms {lb lc : V} (ok : BkOk g) (rb : R K H lb (.list (g.fb.map formD))) (rc : R K H lc (.list (g.fc.map formD))) {k : Str} :
    (k = g.b ∨ k = g.c → ∃ w, valV ([(Sum.inr g.b, lb), (Sum.inr g.c, lc)] : List (Key × V)) (Sum.inr k) = some w ∧ R K H w (.list ((g.forms k).map formD))) ∧
    (k ≠ g.b → k ≠ g.c → valV ([(Sum.inr g.b, lb), (Sum.inr g.c, lc)] : List (Key × V)) (Sum.inr k) = none ∧ g.forms k = []) := by
  refine ⟨?_, ?_⟩
  · rintro (rfl | rfl)
    · exact ⟨lb, valV_pos rfl, by unfold Bk.forms; rw [if_pos rfl]; exact rb⟩
    · refine ⟨lc, by rw [valV_neg (by intro h; exact ok.bc (Sum.inr.inj h)), valV_pos rfl], ?_⟩
      unfold Bk.forms
      rw [if_neg (fun h => ok.bc h.symm), if_pos rfl]; exact rc
  · intro h1 h2
    refine ⟨by rw [valV_neg (fun h => h1 (Sum.inr.inj h).symm), valV_neg (fun h => h2 (Sum.inr.inj h).symm), valV_nil], ?_⟩
    unfold Bk.forms
    rw [if_neg h1, if_neg h2]
end
def szK : Nat → Nat
  | 0 => 3
  | n + 1 => 1 + 4 * szK n
theorem szK_pos (n : Nat) : 3 ≤ szK n := by cases n with | zero => decide | succ n => have := szK_pos n; simp only [szK]; omega
def spLeast (K : PySem.W.Frag) (n : Nat) : Sp := fun vs H Q _ => ∃ (v : V) (g : Bk) (k : Str), vs = [v, .str k] ∧ BookAt K H v g ∧ BkOk g ∧ k ∈ g.kinds ∧ (1 ≤ n) ∧ (k = g.c → 2 ≤ n) ∧
  ∀ u t H', Same H H' → R K H' u (Th.d t) → (∀ xs is o, t.kd g (g.sig o) xs is k) → t.dep ≤ 2 → t.sz ≤ 3 → (k ≠ g.c → t.dep ≤ 1 ∧ t.sz ≤ 1) → (∀ f js, (∀ x ∈ g.calls, x.1 ≠ f) → t.fall f js) → Q u H'
def spTermK (K : PySem.W.Frag) (n : Nat) : Sp := fun vs H Q _ => ∃ (p : Addr) (v vt vi vo : V) (g : Bk) (k : Str) (xs : List (Str × Str)) (is : List Str) (e : Int) (o : Option Own), vs = [.ref p, v, .str k, vt, vi, .int e, vo] ∧ H p = some (Stt p) ∧ BookAt K H v g ∧ BkOk g ∧ k ∈ g.kinds ∧
  R K H vt (.list (xs.map thingD)) ∧ R K H vi (.list (is.map PyData.str)) ∧ R K H vo (ownD o) ∧ OwnOk g is o ∧ xs.length ≤ 100 ∧ is.length ≤ 100 ∧ (∀ x ∈ xs, isNameS x.1 = true) ∧ 0 ≤ e ∧ e < n ∧
  ∀ u t H', Same H H' → R K H' u (Th.d t) → t.kd g (g.sig o) xs is k → t.dep ≤ e.toNat + 2 → t.sz ≤ szK e.toNat → Th.fallO o t → Q u H'
section
variable {K : PySem.W.Frag} {H : Hp} {Q : VK} {E : XK} {p : Addr} {v vt vi vo : V} {g : Bk} {k : Str} {xs : List (Str × Str)} {is : List Str} {e : Int} {o : Option Own} {n : Nat}
theorem use_least (hb : BookAt K H v g) (ok : BkOk g) (hk : k ∈ g.kinds) (h1 : 1 ≤ n) (h2 : k = g.c → 2 ≤ n) (q : ∀ u t H', Same H H' → R K H' u (Th.d t) → (∀ xs is o, t.kd g (g.sig o) xs is k) → t.dep ≤ 2 → t.sz ≤ 3 → (k ≠ g.c → t.dep ≤ 1 ∧ t.sz ≤ 1) → (∀ f js, (∀ x ∈ g.calls, x.1 ≠ f) → t.fall f js) → Q u H') : spLeast K n [v, .str k] H Q E := ⟨v, g, k, rfl, hb, ok, hk, h1, h2, q⟩
theorem use_termK (hp : H p = some (Stt p)) (hb : BookAt K H v g) (ok : BkOk g) (hk : k ∈ g.kinds) (rt : R K H vt (.list (xs.map thingD))) (ri : R K H vi (.list (is.map PyData.str))) (ro : R K H vo (ownD o)) (oo : OwnOk g is o) (lx : xs.length ≤ 100) (li : is.length ≤ 100) (nx : ∀ x ∈ xs, isNameS x.1 = true)
    (h0 : 0 ≤ e) (h1 : e < n) (q : ∀ u t H', Same H H' → R K H' u (Th.d t) → t.kd g (g.sig o) xs is k → t.dep ≤ e.toNat + 2 → t.sz ≤ szK e.toNat → Q u H') : spTermK K n [.ref p, v, .str k, vt, vi, .int e, vo] H Q E :=
  ⟨p, v, vt, vi, vo, g, k, xs, is, e, o, rfl, hp, hb, ok, hk, rt, ri, ro, oo, lx, li, nx, h0, h1, fun u t H' a1 a2 a3 a4 a5 _ => q u t H' a1 a2 a3 a4 a5⟩
theorem use_termKF (hp : H p = some (Stt p)) (hb : BookAt K H v g) (ok : BkOk g) (hk : k ∈ g.kinds) (rt : R K H vt (.list (xs.map thingD))) (ri : R K H vi (.list (is.map PyData.str))) (ro : R K H vo (ownD o)) (oo : OwnOk g is o) (lx : xs.length ≤ 100) (li : is.length ≤ 100) (nx : ∀ x ∈ xs, isNameS x.1 = true)
    (h0 : 0 ≤ e) (h1 : e < n) (q : ∀ u t H', Same H H' → R K H' u (Th.d t) → t.kd g (g.sig o) xs is k → t.dep ≤ e.toNat + 2 → t.sz ≤ szK e.toNat → Th.fallO o t → Q u H') : spTermK K n [.ref p, v, .str k, vt, vi, .int e, vo] H Q E :=
  ⟨p, v, vt, vi, vo, g, k, xs, is, e, o, rfl, hp, hb, ok, hk, rt, ri, ro, oo, lx, li, nx, h0, h1, q⟩
end
end G

namespace G
open PySem PySem.Spec PyProof.Rows L2
def thK (kk : Str) : PyData → Bool
  | .tuple [.str _, .str k] => decide (k = kk)
  | _ => false
def thF : PyData → PyData
  | .tuple [.str x, .str _] => .tuple [.str "free", .str x]
  | _ => .none
def inK (kk : Str) (_ : Nat) : PyData → Bool
  | .str k => decide (k = kk)
  | _ => false
def inF (j : Nat) (_ : PyData) : PyData := .tuple [.str "bound", .int (j : Int)]
def caK (kk : Str) : PyData → Bool
  | .tuple [.str _, .tuple _, .str k] => decide (k = kk)
  | _ => false
def caF : PyData → PyData
  | .tuple [.str f, .tuple ps, .str _] => .tuple [.str "call", .str f, .tuple ps]
  | _ => .none
def foF : PyData → PyData
  | .tuple [.str f, .tuple ps] => .tuple [.str "form", .str f, .tuple ps]
  | _ => .none
/-- a leaf of the kind -/
def IsLeaf (g : Bk) (cs : List (Str × List Str × Str)) (xs : List (Str × Str)) (is : List Str) (kk : Str) (d : PyData) : Prop := ∃ t : Th, d = t.d ∧ t.kd g cs xs is kk ∧ t.dep = 1 ∧ t.sz = 1 ∧ ∀ f js, t.fall f js
theorem leaf_th {g : Bk} {cs : List (Str × List Str × Str)} {xs : List (Str × Str)} {is : List Str} {kk : Str} : ∀ d ∈ ((xs.map thingD).filter (thK kk)).map thF, IsLeaf g cs xs is kk d := by
  intro d hd
  obtain ⟨e, he, rfl⟩ := List.mem_map.mp hd
  obtain ⟨h1, h2⟩ := List.mem_filter.mp he
  obtain ⟨⟨x, k⟩, hx, rfl⟩ := List.mem_map.mp h1
  have hk : k = kk := of_decide_eq_true h2
  subst hk
  exact ⟨.free x, rfl, hx, rfl, rfl, fun _ _ => True.intro⟩
theorem leaf_in {g : Bk} {cs : List (Str × List Str × Str)} {xs : List (Str × Str)} {is : List Str} {kk : Str} : ∀ d ∈ ((is.map PyData.str).zipIdx.filter fun x => inK kk x.2 x.1).map (fun x => inF x.2 x.1), IsLeaf g cs xs is kk d := by
  intro d hd
  obtain ⟨⟨e, j⟩, he, rfl⟩ := List.mem_map.mp hd
  obtain ⟨h1, h2⟩ := List.mem_filter.mp he
  have h3 := List.mem_zipIdx h1
  simp only [Nat.zero_add, Nat.sub_zero, List.length_map, List.getElem_map] at h3
  obtain ⟨_, hj, he2⟩ := h3
  have h2' : inK kk j e = true := h2
  rw [he2] at h2'
  have hk : is[j] = kk := of_decide_eq_true h2'
  exact ⟨.bnd j, rfl, by show is[j]? = some kk; rw [List.getElem?_eq_getElem hj, hk], rfl, rfl, fun _ _ => True.intro⟩
/-- a way to make a term: a form's or a call's name and parts -/
def IsWay (g : Bk) (cs : List (Str × List Str × Str)) (kk : Str) (d : PyData) : Prop := ∃ (w : AW) (c : Str) (ps : List Str), d = .tuple [.str w.s, .str c, partsD ps] ∧ ps.length ≤ 4 ∧ (∀ k ∈ ps, k ∈ g.kinds) ∧
  (∀ xs is (ts : List Th), Th.kds g cs xs is ts ps → (Th.app w c ts).kd g cs xs is kk) ∧ (w = .form ∨ (w = .call ∧ ∃ x ∈ g.calls, x.1 = c))
theorem way_form {g : Bk} {cs : List (Str × List Str × Str)} {kk : Str} (ok : BkOk g) : ∀ d ∈ ((g.forms kk).map formD).map foF, IsWay g cs kk d := by
  intro d hd
  obtain ⟨e, he, rfl⟩ := List.mem_map.mp hd
  obtain ⟨⟨c, ps⟩, hx, rfl⟩ := List.mem_map.mp he
  have f := (forms_ok ok kk).ps _ hx
  exact ⟨.form, c, ps, rfl, f.1, f.2, fun xs is ts h => ⟨ps, hx, h⟩, .inl rfl⟩
theorem sig_sub {g : Bk} {o : Option Own} : ∀ x ∈ g.calls, x ∈ g.sig o := by
  intro x hx
  rcases o with _ | ⟨f, ks, k, js⟩
  · exact hx
  · exact List.mem_append_left _ hx
theorem way_call {g : Bk} {o : Option Own} {kk : Str} (ok : BkOk g) : ∀ d ∈ ((g.calls.map callD).filter (caK kk)).map caF, IsWay g (g.sig o) kk d := by
  intro d hd
  obtain ⟨e, he, rfl⟩ := List.mem_map.mp hd
  obtain ⟨h1, h2⟩ := List.mem_filter.mp he
  obtain ⟨⟨c, ps, k⟩, hx, rfl⟩ := List.mem_map.mp h1
  have hk : k = kk := of_decide_eq_true h2
  subst hk
  have f := ok.cn _ hx
  exact ⟨.call, c, ps, rfl, f.2.1, f.2.2.1, fun xs is ts h => ⟨ps, sig_sub _ hx, h⟩, .inr ⟨rfl, _, hx, rfl⟩⟩
theorem ways_pos {g : Bk} {kk : Str} (ok : BkOk g) (hk : kk ∈ g.kinds) : 0 < (((g.forms kk).map formD).map foF ++ ((g.calls.map callD).filter (caK kk)).map caF).length := by
  simp only [Bk.kinds, List.mem_cons, List.not_mem_nil, or_false] at hk
  rcases hk with rfl | rfl | rfl
  · obtain ⟨f, r, e⟩ := ok.c0
    have : ((g.calls.map callD).filter (caK g.a)) ≠ [] := by
      rw [e]
      simp only [List.map_cons, List.filter_cons]
      have : caK g.a (callD (f, [], g.a)) = true := decide_eq_true rfl
      rw [if_pos this]; simp
    have := List.length_pos_iff.mpr this
    simp only [List.length_append, List.length_map]
    omega
  · obtain ⟨n, r, e⟩ := ok.fb0
    have e2 : g.forms g.b = g.fb := by unfold Bk.forms; rw [if_pos rfl]
    rw [e2, e]; simp
  · obtain ⟨n, r, e⟩ := ok.fc0
    have e2 : g.forms g.c = g.fc := by unfold Bk.forms; rw [if_neg (fun h => ok.bc h.symm), if_pos rfl]
    rw [e2]
    rcases e with e | e <;> (rw [e]; simp)
/-- terms told one by one, of the kinds ps -/
theorem terms_of {g : Bk} {cs : List (Str × List Str × Str)} {xs : List (Str × Str)} {is : List Str} {m z : Nat} : ∀ {ps : List Str} {es : List PyData}, es.length = ps.length → (∀ (i : Nat) e, es[i]? = some e → ∃ t : Th, e = t.d ∧ ∃ k, ps[i]? = some k ∧ t.kd g cs xs is k ∧ t.dep ≤ m ∧ t.sz ≤ z) →
    ∃ ts : List Th, es = Th.ds ts ∧ Th.kds g cs xs is ts ps ∧ Th.deps ts ≤ m ∧ Th.szs ts ≤ ps.length * z
  | [], [], _, _ => ⟨[], rfl, True.intro, by simp [Th.deps], by simp [Th.szs]⟩
  | k :: ps, e :: es, hl, h => by
    obtain ⟨t, rfl, k', hk, q, d, s⟩ := h 0 e rfl
    cases hk
    obtain ⟨ts, rfl, q2, d2, s2⟩ := terms_of (ps := ps) (es := es) (by simpa using hl) fun i e he => h (i + 1) e (by simpa using he)
    refine ⟨t :: ts, rfl, ⟨q, q2⟩, by simp only [Th.deps]; omega, ?_⟩
    simp only [Th.szs, List.length_cons, Nat.succ_mul]; omega
  | [], _ :: _, hl, _ => by simp at hl
  | _ :: _, [], hl, _ => by simp at hl
/-- the same, and what else holds of each -/
theorem terms_ofP {p : Th → Prop} {g : Bk} {cs : List (Str × List Str × Str)} {xs : List (Str × Str)} {is : List Str} {m z : Nat} : ∀ {ps : List Str} {es : List PyData}, es.length = ps.length → (∀ (i : Nat) e, es[i]? = some e → ∃ t : Th, e = t.d ∧ (∃ k, ps[i]? = some k ∧ t.kd g cs xs is k ∧ t.dep ≤ m ∧ t.sz ≤ z) ∧ p t) →
    ∃ ts : List Th, es = Th.ds ts ∧ Th.kds g cs xs is ts ps ∧ Th.deps ts ≤ m ∧ Th.szs ts ≤ ps.length * z ∧ ∀ t ∈ ts, p t
  | [], [], _, _ => ⟨[], rfl, True.intro, by simp [Th.deps], by simp [Th.szs], fun _ h => by cases h⟩
  | k :: ps, e :: es, hl, h => by
    obtain ⟨t, rfl, ⟨k', hk, q, d, s⟩, pt⟩ := h 0 e rfl
    cases hk
    obtain ⟨ts, rfl, q2, d2, s2, pts⟩ := terms_ofP (p := p) (ps := ps) (es := es) (by simpa using hl) fun i e he => h (i + 1) e (by simpa using he)
    refine ⟨t :: ts, rfl, ⟨q, q2⟩, by simp only [Th.deps]; omega, ?_, fun x hx => ?_⟩
    · simp only [Th.szs, List.length_cons, Nat.succ_mul]; omega
    · rcases List.mem_cons.mp hx with rfl | hx
      · exact pt
      · exact pts x hx
  | [], _ :: _, hl, _ => by simp at hl
  | _ :: _, [], hl, _ => by simp at hl
theorem layAll {L : List PyData} (h : ∀ d ∈ L, d.canLay0 = true) : PyData.canLayAll0 L = true := by
  induction L with
  | nil => rfl
  | cons d L ih => simp only [PyData.canLayAll0, Bool.and_eq_true]; exact ⟨h d List.mem_cons_self, ih fun e he => h e (List.mem_cons_of_mem _ he)⟩
theorem use_nextU {H : Hp} {Q : VK} {E : XK} {p : Addr} {n : Int} (hp : H p = some (Stt p)) (h0 : 0 < n) (h1 : n < 1000000000) (h : ∀ (r : Int) H', Same H H' → 0 ≤ r → r < n → Q (.int r) H') : spNext [.ref p, .int n] H Q E := ⟨p, n, rfl, hp, h0, h1, h⟩
theorem bk_keep {K : PySem.W.Frag} {H H' : Hp} {v : V} {g : Bk} (h : BookAt K H v g) (s : Same H H') : BookAt K H' v g := h.mono s
theorem forms_get {K : PySem.W.Frag} {H : Hp} {g : Bk} {lb lc w : V} {kk : Str} (ok : BkOk g) (rb : R K H lb (.list (g.fb.map formD))) (rc : R K H lc (.list (g.fc.map formD))) (rw0 : R K H w (.list [])) :
    R K H ((valV ([(Sum.inr g.b, lb), (Sum.inr g.c, lc)] : List (Key × V)) (Sum.inr kk)).getD w) (.list ((g.forms kk).map formD)) := by
  by_cases h : kk = g.b ∨ kk = g.c
  · obtain ⟨u, e, r⟩ := (val_forms ok rb rc).1 h
    rw [e]; exact r
  · obtain ⟨e, f⟩ := (val_forms (K := K) ok rb rc).2 (fun e => h (.inl e)) (fun e => h (.inr e))
    rw [e, f]; exact rw0
/-- the ways past an if, told once -/
theorem if_join {c : TT} {t : TS} {σ : L2.St} {H : Hp} {nx bk ct : L2.St → Hp → Prop} {rt : VK} (h1 : ∀ P : L2.St → Hp → Prop, (∀ H', Same H H' → P σ H') → tIfS c t tNext ⟨P, rt, bk, ct⟩ σ H) (h2 : ∀ H', Same H H' → nx σ H') : tIfS c t tNext ⟨nx, rt, bk, ct⟩ σ H := h1 nx h2
theorem if_joinA (A : Prop) {c : TT} {t : TS} {σ : L2.St} {H : Hp} {nx bk ct : L2.St → Hp → Prop} {rt : VK} (h1 : ∀ P : L2.St → Hp → Prop, (A → ∀ H', Same H H' → P σ H') → tIfS c t tNext ⟨P, rt, bk, ct⟩ σ H) (h2 : A → ∀ H', Same H H' → nx σ H') : tIfS c t tNext ⟨nx, rt, bk, ct⟩ σ H := h1 nx h2
theorem lcLY {K : PySem.W.Frag} {te : TE} {vs : List Nat} {σ : L2.St} {H : Hp} {Q : VK} {i j : Nat} (f : PyData → PyData) {x : V} {ds : List PyData} (r : R K H x (.list ds)) (hn : ds.length ≤ 1000000) (hw : ∀ x y, wipe (((wipe σ vs).set i (some x)).set j (some y)) vs = wipe σ vs) (hp : ∀ d ∈ ds, ∃ d1 d2, d = .tuple [d1, d2])
    (he : ∀ v1 v2 d1 d2 H1, .tuple [d1, d2] ∈ ds → R K H1 v1 d1 → R K H1 v2 d2 → Same H H1 → ∀ Qt : VK, (∀ y H2, Same H1 H2 → R K H2 y (f (.tuple [d1, d2])) → Qt y H2) → te (((wipe σ vs).set i (some v1)).set j (some v2)) H1 Qt)
    (hq : ∀ v H1, Same H H1 → R K H1 v (.list (ds.map f)) → Q v H1) : LcLT K (g2 K i j) tYes (tHide te) vs σ x H Q := lcL2_f f r hn hw hp he hq
theorem gtup3 {K : PySem.W.Frag} {σ : L2.St} {H : Hp} {Q : L2.St → Hp → Prop} {x : V} {d1 d2 d3 : PyData} {i j l : Nat} (r : R K H x (.tuple [d1, d2, d3])) (h : ∀ v1 v2 v3, R K H v1 d1 → R K H v2 d2 → R K H v3 d3 → Q (((σ.set i (some v1)).set j (some v2)).set l (some v3)) H) :
    gTup K 3 (gCons (gName i) (gCons (gName j) (gCons (gName l) gNil))) x σ H Q := by
  obtain ⟨a, xs, rfl, ha, ra⟩ := r.inv_tup
  obtain ⟨v1, ws, rfl, r1, ra⟩ := ra.inv_cons
  obtain ⟨v2, ws, rfl, r2, ra⟩ := ra.inv_cons
  obtain ⟨v3, ws, rfl, r3, ra⟩ := ra.inv_cons
  obtain rfl := ra.inv_nil
  exact ⟨a, _, rfl, ha, rfl, v1, _, rfl, v2, _, rfl, v3, _, rfl, rfl, h v1 v2 v3 r1 r2 r3⟩
end G

namespace G
open PySem PySem.Spec PyProof.Rows L2
/-- where a part is the first one's kind -/
def ownJs (ps : List Str) (k : Str) : List Nat := (ps.zipIdx.filter fun x => decide (x.1 = k)).map (·.2)
theorem ownJs_mem {ps : List Str} {k : Str} {j : Nat} (h : j ∈ ownJs ps k) : ps[j]? = some k := by
  obtain ⟨⟨x, i⟩, hx, rfl⟩ := List.mem_map.mp h
  obtain ⟨h1, h2⟩ := List.mem_filter.mp hx
  have h3 := List.mem_zipIdx h1
  simp only [Nat.zero_add, Nat.sub_zero] at h3
  have : x = k := of_decide_eq_true h2
  rw [List.getElem?_eq_getElem h3.2.1, ← h3.2.2, this]
theorem ownJs_len (ps : List Str) (k : Str) : (ownJs ps k).length ≤ ps.length := by
  unfold ownJs
  rw [List.length_map]; exact Nat.le_trans (List.length_filter_le _ _) (by rw [List.length_zipIdx]; exact Nat.le_refl _)
theorem ownJs_d (ps : List Str) (k : Str) : (((ps.map PyData.str).zipIdx.filter fun x => inK k x.2 x.1).map fun x => PyData.int ((x.2 : Nat) : Int)) = (ownJs ps k).map fun j : Nat => PyData.int (j : Int) := by
  have : ∀ n, ((((ps.map PyData.str).zipIdx n).filter fun x => inK k x.2 x.1).map fun x => PyData.int ((x.2 : Nat) : Int)) = (((ps.zipIdx n).filter fun x => decide (x.1 = k)).map (·.2)).map fun j : Nat => PyData.int (j : Int) := by
    induction ps with
    | nil => intro n; rfl
    | cons p ps ih =>
      intro n
      simp only [List.map_cons, List.zipIdx_cons, List.filter_cons]
      have e : inK k n (PyData.str p) = decide (p = k) := rfl
      rw [e]
      cases decide (p = k)
      · simpa using ih (n + 1)
      · simpa using ih (n + 1)
  exact this 0
/-- a drawn row: a short function, or a rule of terms, one a form -/
inductive RowOk (g : Bk) (f : Str) : PyData → Str × List Str × Str → Prop
  | short (ks : List Str) (k : Str) (t : Th) : ks.length ≤ 4 → (∀ x ∈ ks, x ∈ g.kinds) → k ∈ g.kinds → t.kd g g.calls [] ks k → t.dep ≤ 4 → t.sz ≤ 53 → RowOk g f (.tuple [.str "short", .str f, partsD ks, .str k, t.d]) (f, ks, k)
  | rule (k0 : Str) (ks : List Str) (k : Str) (ts : List Th) : (k0 = g.b ∨ k0 = g.c) → ks.length ≤ 3 → (∀ x ∈ ks, x ∈ g.kinds) → k ∈ g.kinds → ts.length = (g.forms k0).length →
      (∀ (i : Nat) t x, ts[i]? = some t → (g.forms k0)[i]? = some x → t.kd g (g.sig (some (f, k0 :: ks, k, ownJs x.2 k0))) [] (x.2 ++ ks) k ∧ t.dep ≤ 4 ∧ t.sz ≤ 53 ∧ t.fall f (ownJs x.2 k0)) →
      RowOk g f (.tuple [.str "rule", .str f, partsD (k0 :: ks), .str k, .tuple (Th.ds ts)]) (f, k0 :: ks, k)
def spFun (K : PySem.W.Frag) : Sp := fun vs H Q _ => ∃ (p : Addr) (v : V) (g : Bk) (f : Str), vs = [.ref p, v, .str f] ∧ H p = some (Stt p) ∧ BookAt K H v g ∧ BkOk g ∧ isNameS f = true ∧ (∀ x ∈ g.calls, x.1 ≠ f) ∧ ∀ u d c H', Same H H' → R K H' u d → RowOk g f d c → Q u H'
theorem use_fun {K : PySem.W.Frag} {H : Hp} {Q : VK} {E : XK} {p : Addr} {v : V} {g : Bk} {f : Str} (hp : H p = some (Stt p)) (hb : BookAt K H v g) (ok : BkOk g) (hf : isNameS f = true) (hfr : ∀ x ∈ g.calls, x.1 ≠ f) (q : ∀ u d c H', Same H H' → R K H' u d → RowOk g f d c → Q u H') : spFun K [.ref p, v, .str f] H Q E := ⟨p, v, g, f, rfl, hp, hb, ok, hf, hfr, q⟩
theorem kinds_of {g : Bk} : ∀ {es : List PyData}, (∀ (i : Nat) e, es[i]? = some e → ∃ z, e = .str z ∧ z ∈ g.kinds) → ∃ ks : List Str, es = ks.map PyData.str ∧ ∀ k ∈ ks, k ∈ g.kinds := fun {es} h =>
  strs_of (P := fun z => z ∈ g.kinds) fun e he => by
    obtain ⟨i, hi⟩ := List.getElem?_of_mem he
    exact h i e hi
theorem ix_bc {K : PySem.W.Frag} {H : Hp} {Q : VK} {x : V} {g : Bk} {i : Int} (r : R K H x (.list (g.kinds.map PyData.str))) (h0 : 1 ≤ i) (h1 : i < 3) (h : ∀ z, z = g.b ∨ z = g.c → Q (.str z) H) : rIx K x (.int i) H Q := by
  rcases (by omega : i = 1 ∨ i = 2) with rfl | rfl
  · exact ix_lstR (d := .str g.b) r (by decide) rfl fun v rv => by rw [rv.inv_str]; exact h _ (.inl rfl)
  · exact ix_lstR (d := .str g.c) r (by decide) rfl fun v rv => by rw [rv.inv_str]; exact h _ (.inr rfl)
section
variable {K : PySem.W.Frag} {te : TE} {ta : TA} {g : TG} {tb : TS} {D : Ends} {σ : L2.St} {H : Hp} {x : V} {ds : List PyData} {i j : Nat} {nx bk ct : L2.St → Hp → Prop} {rt : VK}
theorem for_L2b {Hb : Hp} (Pv : Nat → L2.St → Hp → Prop) (r : R K Hb x (.list ds)) (start : Pv 0 σ H) (keep : ∀ k σ' H', Pv k σ' H' → Same Hb H') (hp : ∀ d ∈ ds, ∃ d1 d2, d = .tuple [d1, d2])
    (turn : ∀ k d1 d2 v1 v2 σ' H', ds[k]? = some (.tuple [d1, d2]) → R K H' v1 d1 → R K H' v2 d2 → Pv k σ' H' → tb ⟨Pv (k + 1), rt, nx, Pv (k + 1)⟩ ((σ'.set i (some v1)).set j (some v2)) H') (fin : ∀ σ' H', Pv ds.length σ' H' → nx σ' H') : ForL K (g2 K i j) tb ⟨nx, rt, bk, ct⟩ σ x H := by
  obtain ⟨a, xs, rfl, ha, ra⟩ := r.inv_lst
  refine ⟨a, rfl, ⟨xs, (keep _ _ _ start).seq (.inl (.inl ha))⟩, ?_⟩
  rw [← ra.length] at fin
  refine for_it (walk_list (K := K) (a := a) (xs := xs)) (g := g2 K i j) (tb := tb) (D := ⟨nx, rt, bk, ct⟩) Pv start (fun k σ' H' _ p => (keep _ _ _ p).seq (.inl (.inl ha))) (fun k y σ' H' H'' hk p q => ?_) fin
  obtain ⟨rfl, hy⟩ := q
  obtain ⟨d, e1, e2⟩ := ra.getV hy
  obtain ⟨d1, d2, rfl⟩ := hp d (List.mem_of_getElem? e1)
  exact gtup2 (e2.mono (keep _ _ _ p)) fun v1 v2 r1 r2 => turn k d1 d2 v1 v2 σ' _ e1 r1 r2 p
end
theorem noLs_strs : ∀ ys : List Str, noLs (ys.map PyData.str) = true
  | [] => rfl
  | y :: ys => by simp [noLs, noL, noLs_strs ys]
end G

namespace G
open PySem PySem.Spec PyProof.Rows L2
/-! lists of one's own, in a heap -/
structure Lk (K : PySem.W.Frag) (H : Hp) (l : Addr) (ds : List PyData) : Prop where
  ex : ∃ xs, H l = some (.lst xs) ∧ RA K H xs ds
  no : noLs ds = true
section
variable {K : PySem.W.Frag} {H H' : Hp} {l m : Addr} {ds es : List PyData} {xs : List V} {kvs : List (Key × V)} {Q : VK} {QH : Hp → Prop} {x y : V} {d : PyData}
theorem Lk.mono (h : Lk K H l ds) (s : Same H H') : Lk K H' l ds := by
  obtain ⟨xs, h1, h2⟩ := h.ex
  exact ⟨⟨xs, s _ _ h1, h2.mono s⟩, h.no⟩
theorem Lk.lx (h : Lk K H l ds) (x : SameX m H H') (hm : Lk K H m es) (ne : l ≠ m) : Lk K H' l ds := by
  obtain ⟨xs, h1, h2⟩ := h.ex
  obtain ⟨ys, h3, _⟩ := hm.ex
  exact ⟨⟨xs, x _ _ ne h1, h2.monoX x h3 h.no⟩, h.no⟩
theorem Lk.dx (h : Lk K H l ds) (x : SameX m H H') (hm : H m = some (.dK kvs)) : Lk K H' l ds := by
  obtain ⟨xs, h1, h2⟩ := h.ex
  exact ⟨⟨xs, x _ _ (fun e => by rw [e, hm] at h1; cases h1) h1, h2.monoD x hm h.no⟩, h.no⟩
theorem Lk.R (h : Lk K H l ds) : R K H (.ref l) (.list ds) := by
  obtain ⟨xs, h1, h2⟩ := h.ex
  exact .lst h1 h2
theorem Lk.of {xs : List V} (h : H l = some (.lst xs)) (r : RA K H xs ds) (n : noLs ds = true) : Lk K H l ds := ⟨⟨xs, h, r⟩, n⟩
theorem Lk.ty (h : Lk K H l ds) {A : Prop} (a : A) : tyV K "list" (.ref l) H ∧ A := by
  obtain ⟨xs, h1, _⟩ := h.ex
  exact st_tyl h1 a
theorem app_L (h : Lk K H l ds) (r : G.R K H y d) (hz : ds.length + 1 ≤ 1000000) (n : noL d = true) (q : ∀ H', SameX l H H' → Lk K H' l (ds ++ [d]) → Q .non H') : rAppend (.ref l) [y] H Q := by
  obtain ⟨xs, h1, h2⟩ := h.ex
  exact appR (K := K) h1 h2 r hz h.no n fun ws H' x hl ra => q H' x ⟨⟨ws, hl, ra⟩, by rw [noLs_append, h.no]; simp [noLs, n]⟩
def rInsert : V → List V → Hp → VK → Prop := fun x vs H Q => ∃ (l : Addr) (xs : List V) (i : Int) (y : V), x = .ref l ∧ vs = [.int i, y] ∧ H l = some (.lst xs) ∧ xs.length < sizeLine ∧ 0 ≤ i ∧ i < 2 ^ 63 ∧ Q .non (upd H l (.lst (xs.take i.toNat ++ [y] ++ xs.drop i.toNat)))
theorem mt_insertR {X : Cx} : MtR X "list.insert" rInsert := mt_insert
theorem noLs_take {n : Nat} : ∀ {ds : List PyData}, noLs ds = true → noLs (ds.take n) = true := by
  induction n with
  | zero => intro ds _; rfl
  | succ n ih => intro ds h; cases ds with | nil => rfl | cons d ds => simp only [List.take_succ_cons, noLs, Bool.and_eq_true] at h ⊢; exact ⟨h.1, ih h.2⟩
theorem noLs_drop {n : Nat} : ∀ {ds : List PyData}, noLs ds = true → noLs (ds.drop n) = true := by
  induction n with
  | zero => intro ds h; exact h
  | succ n ih => intro ds h; cases ds with | nil => rfl | cons d ds => simp only [List.drop_succ_cons, noLs, Bool.and_eq_true] at h ⊢; exact ih h.2
theorem ins_L {i : Int} (h : Lk K H l ds) (r : G.R K H y d) (hz : ds.length ≤ 1000000) (h0 : 0 ≤ i) (h1 : i ≤ 1000000) (n : noL d = true) (q : ∀ H', SameX l H H' → Lk K H' l (ds.take i.toNat ++ [d] ++ ds.drop i.toNat) → Q .non H') : rInsert (.ref l) [.int i, y] H Q := by
  obtain ⟨xs, h2, h3⟩ := h.ex
  have sx : SameX l H (upd H l (.lst (xs.take i.toNat ++ [y] ++ xs.drop i.toNat))) := .upd
  have n2 : noLs (ds.take i.toNat ++ [d] ++ ds.drop i.toNat) = true := by
    rw [noLs_append, noLs_append, noLs_take h.no, noLs_drop h.no]; simp [noLs, n]
  exact ⟨l, xs, i, y, rfl, rfl, h2, Nat.lt_of_le_of_lt (by rw [h3.length]; exact hz) (by decide), h0, by omega, q _ sx ⟨⟨_, upd_same, (((h3.monoX sx h2 h.no).take _).append (.cons (r.monoX sx h2 n) .nil)).append ((h3.monoX sx h2 h.no).drop _)⟩, n2⟩⟩
theorem set0_L {e : PyData} (h : Lk K H l (e :: ds)) (r : G.R K H y d) (n : noL d = true) (q : ∀ H', SameX l H H' → Lk K H' l (d :: ds) → QH H') : rSetL (.ref l) (.int 0) y H QH := by
  obtain ⟨xs, h2, h3⟩ := h.ex
  obtain ⟨v, ws, rfl, r1, rw1⟩ := h3.inv_cons
  have nn := h.no
  simp only [noLs, Bool.and_eq_true] at nn
  have sx : SameX l H (upd H l (.lst (y :: ws))) := .upd
  exact set_at (i := 0) h2 (by simp [ixN]) (q _ sx ⟨⟨_, upd_same, .cons (r.monoX sx h2 n) (rw1.monoX sx h2 nn.2)⟩, by simp [noLs, n, nn.2]⟩)
theorem putG {a : Addr} {z : Str} {v : V} (ha : H a = some (.dK kvs)) (hz : kvs.length ≤ 1000000) (q : ∀ H', SameX a H H' → H' a = some (.dK (putK kvs (Sum.inr z) v)) → QH H') : rSetDK (.ref a) (.str z) v H QH :=
  ⟨a, _, rfl, .inl ⟨kvs, Sum.inr z, ha, rfl, Nat.lt_of_le_of_lt hz (by decide), rfl⟩, q _ .upd upd_same⟩
/-- xs + ys: a list of one's own -/
theorem add_lstF {ds es : List PyData} (r : G.R K H x (.list ds)) (s : G.R K H y (.list es)) (hl : ds.length + es.length ≤ 1000000) (n : noLs (ds ++ es) = true) (h : ∀ p H', H p = none → Same H H' → Lk K H' p (ds ++ es) → Q (.ref p) H') : rAddU K x y H Q := by
  obtain ⟨a, xs, rfl, ha, ra⟩ := r.inv_lst
  obtain ⟨b, ys, rfl, hb, rb⟩ := s.inv_lst
  refine .inr (.inr (.inl ⟨a, b, xs, ys, rfl, rfl, ha, hb, big_le (by rw [ra.length, rb.length]; exact hl), fun p hp => ?_⟩))
  exact h _ _ hp (same_new hp _) ⟨⟨_, upd_same, (ra.append rb).mono (same_new hp _)⟩, n⟩
theorem glst3 {σ : L2.St} {Qs : L2.St → Hp → Prop} {i j k : Nat} {d1 d2 d3 : PyData} (r : G.R K H x (.list [d1, d2, d3])) (h : ∀ v1 v2 v3, G.R K H v1 d1 → G.R K H v2 d2 → G.R K H v3 d3 → Qs (((σ.set i (some v1)).set j (some v2)).set k (some v3)) H) :
    gLst K 3 (gCons (gName i) (gCons (gName j) (gCons (gName k) gNil))) x σ H Qs := by
  obtain ⟨a, xs, rfl, ha, ra⟩ := r.inv_lst
  obtain ⟨v1, ws, rfl, r1, ra⟩ := ra.inv_cons
  obtain ⟨v2, ws, rfl, r2, ra⟩ := ra.inv_cons
  obtain ⟨v3, ws, rfl, r3, ra⟩ := ra.inv_cons
  obtain rfl := ra.inv_nil
  exact ⟨a, _, rfl, .inl (.inl ha), rfl, v1, _, rfl, v2, _, rfl, v3, _, rfl, rfl, h v1 v2 v3 r1 r2 r3⟩
end
theorem if_joinP (Post : Hp → Prop) {c : TT} {t : TS} {σ : L2.St} {H : Hp} {nx bk ct : L2.St → Hp → Prop} {rt : VK} (h1 : ∀ P : L2.St → Hp → Prop, (∀ H', Post H' → P σ H') → tIfS c t tNext ⟨P, rt, bk, ct⟩ σ H) (h2 : ∀ H', Post H' → nx σ H') : tIfS c t tNext ⟨nx, rt, bk, ct⟩ σ H := h1 nx h2
theorem cutD_mid (xs : List PyData) (a b : Nat) (hb : b ≤ xs.length) (hab : a ≤ b) : cutD xs (some (a : Int)) (some (b : Int)) = (xs.drop a).take (b - a) := by
  unfold cutD
  rw [HT.sIx_nat, HT.sIx_nat, Nat.min_eq_left hb, Nat.min_eq_left (Nat.le_trans hab hb)]
/-- the dict of forms: of b and c -/
structure FS (K : PySem.W.Frag) (H : Hp) (F lb lc : Addr) (b c : Str) (fb fc : List (Str × List Str)) : Prop where
  ne : lb ≠ lc
  hF : H F = some (.dK [(Sum.inr b, .ref lb), (Sum.inr c, .ref lc)])
  hb : Lk K H lb (fb.map formD)
  hc : Lk K H lc (fc.map formD)
section
variable {K : PySem.W.Frag} {H H' : Hp} {F lb lc m : Addr} {b c : Str} {fb fc fb' fc' : List (Str × List Str)} {es : List PyData} {kvs : List (Key × V)}
theorem FS.mono (h : FS K H F lb lc b c fb fc) (s : Same H H') : FS K H' F lb lc b c fb fc := ⟨h.ne, s _ _ h.hF, h.hb.mono s, h.hc.mono s⟩
theorem dne {l a : Addr} {H : Hp} (ha : H a = some (.dK kvs)) (h : Lk K H l es) : a ≠ l := fun e => by
  obtain ⟨xs, h1, _⟩ := h.ex
  rw [e, h1] at ha; cases ha
theorem FS.atB (h : FS K H F lb lc b c fb fc) (x : SameX lb H H') (hl : Lk K H' lb (fb'.map formD)) : FS K H' F lb lc b c fb' fc :=
  ⟨h.ne, x _ _ (dne h.hF h.hb) h.hF, hl, h.hc.lx x h.hb (Ne.symm h.ne)⟩
theorem FS.atC (h : FS K H F lb lc b c fb fc) (x : SameX lc H H') (hl : Lk K H' lc (fc'.map formD)) : FS K H' F lb lc b c fb fc' :=
  ⟨h.ne, x _ _ (dne h.hF h.hc) h.hF, h.hb.lx x h.hc h.ne, hl⟩
theorem FS.lx (h : FS K H F lb lc b c fb fc) (x : SameX m H H') (hm : Lk K H m es) (n1 : lb ≠ m) (n2 : lc ≠ m) : FS K H' F lb lc b c fb fc :=
  ⟨h.ne, x _ _ (dne h.hF hm) h.hF, h.hb.lx x hm n1, h.hc.lx x hm n2⟩
theorem FS.dx (h : FS K H F lb lc b c fb fc) (x : SameX m H H') (hm : H m = some (.dK kvs)) (n : F ≠ m) : FS K H' F lb lc b c fb fc :=
  ⟨h.ne, x _ _ n h.hF, h.hb.dx x hm, h.hc.dx x hm⟩
end
theorem noL_form (x : Str × List Str) : noL (formD x) = true := by
  simp [formD, noL, noLs, noLs_strs]
theorem noLs_forms : ∀ fs : List (Str × List Str), noLs (fs.map formD) = true
  | [] => rfl
  | f :: fs => by simp [noLs, noL_form f, noLs_forms fs]
theorem noLs_calls : ∀ cs : List (Str × List Str × Str), noLs (cs.map callD) = true
  | [] => rfl
  | c :: cs => by simp [noLs, callD, noL, noLs_strs, noLs_calls cs]
def spBook (K : PySem.W.Frag) : Sp := fun vs H Q _ => ∃ (p : Addr) (v : V) (zs : List Str), vs = [.ref p, v] ∧ H p = some (Stt p) ∧ R K H v (.list (zs.map PyData.str)) ∧ N42 zs ∧ ∀ u g H', Same H H' → BookAt K H' u g → BkOk g → g.a = zs.getD 0 "" → g.b = zs.getD 1 "" → g.c = zs.getD 2 "" → 1 ≤ g.words.length → Q u H'
theorem n42_at {zs : List Str} (h : N42 zs) {i : Nat} (hi : i < 42) : zs[i]? = some (zs.getD i "") := by
  have hl : i < zs.length := by rw [h.len]; exact hi
  rw [List.getD_eq_getElem?_getD, List.getElem?_eq_getElem hl]; rfl
theorem n42_nm {zs : List Str} (h : N42 zs) {i : Nat} (hi : i < 42) : Nm (zs.getD i "") := h.nm _ (List.mem_of_getElem? (n42_at h hi))
theorem n42_ne {zs : List Str} (h : N42 zs) {i j : Nat} (hi : i < 42) (hj : j < 42) (hij : i ≠ j) : zs.getD i "" ≠ zs.getD j "" := fun e => by
  have a1 := n42_at h hi
  have a2 := n42_at h hj
  rw [← e] at a2
  have hl : i < zs.length := by rw [h.len]; exact hi
  exact hij ((List.getElem?_inj hl h.nd).mp (a1.trans a2.symm))
theorem none_of {H H' : Hp} {a : Addr} (s : Same H H') (h : H' a = none) : H a = none := by
  cases e : H a with
  | none => rfl
  | some o => rw [s _ _ e] at h; cases h
def Disp2 (F : Addr) (x1 y1 x2 y2 : V) (H4 : Hp) (Q : VK) : Prop := H4 F = some (.dK []) ∧ ∃ kvs : List (Key × V), [(x1, y1), (x2, y2)] = kvs.map (fun kv => (kV kv.1, kv.2)) ∧ kvs.length ≤ 15 ∧ Q (.ref F) (upd H4 F (.dK (mergeK [] kvs)))
theorem st_disp2 {K : PySem.W.Frag} {σ : L2.St} {H : Hp} {Q : VK} {tk1 tv1 tk2 tv2 : TE} (h : ∀ F H0, H F = none → Same H H0 → H0 F = some (.dK []) → tk1 σ H0 fun x1 H1 => tv1 σ H1 fun y1 H2 => tk2 σ H2 fun x2 H3 => tv2 σ H3 fun y2 H4 => Disp2 F x1 y1 x2 y2 H4 Q) : tDispK K [(tk1, tv1), (tk2, tv2)] σ H Q :=
  fun F hF => h F _ hF (same_new hF (.dK [])) upd_same
theorem disp2R {F : Addr} {b c : Str} {y1 y2 : V} {H4 : Hp} {Q : VK} (h1 : H4 F = some (.dK [])) (hne : b ≠ c) (q : ∀ H5, SameX F H4 H5 → H5 F = some (.dK [(Sum.inr b, y1), (Sum.inr c, y2)]) → Q (.ref F) H5) : Disp2 F (.str b) y1 (.str c) y2 H4 Q := by
  refine ⟨h1, [(Sum.inr b, y1), (Sum.inr c, y2)], rfl, by simp, q _ .upd ?_⟩
  rw [upd_same]
  have : mergeK [] [(Sum.inr b, y1), (Sum.inr c, y2)] = ([(Sum.inr b, y1), (Sum.inr c, y2)] : List (Key × V)) := by
    simp [mergeK, putK, hne]
  rw [this]
theorem take3 {xs : List PyData} {a b c : PyData} (h0 : xs[0]? = some a) (h1 : xs[1]? = some b) (h2 : xs[2]? = some c) : xs.take 3 = [a, b, c] := by
  match xs, h0, h1, h2 with
  | x :: y :: z :: r, h0, h1, h2 => simp at h0 h1 h2; simp [h0, h1, h2]
  | [x, y], h0, h1, h2 => simp at h2
  | [x], h0, h1, h2 => simp at h1
  | [], h0, h1, h2 => simp at h0
def g0 (a b c : Str) : Bk := ⟨a, b, c, [], [], [], []⟩
structure FbP (a b c : Str) (fb : List (Str × List Str)) : Prop where
  ok : FormsOk (g0 a b c) fb
  hd : ∃ n r, fb = (n, []) :: r
structure FcP (a b c : Str) (fc : List (Str × List Str)) : Prop where
  ok : FormsOk (g0 a b c) fc
  hd : ∃ n r, fc = (n, []) :: r ∨ fc = (n, [a, b]) :: r
theorem fb_0 {a b c n1 n2 : Str} (h1 : isFormS n1 = true) (h2 : isFormS n2 = true) : FbP a b c [(n1, []), (n2, [b])] := by
  refine ⟨⟨by simp, fun x hx => ?_, fun x hx => ?_⟩, _, _, rfl⟩ <;>
  · simp only [List.mem_cons, List.not_mem_nil, or_false] at hx
    rcases hx with rfl | rfl <;> simp [h1, h2, g0, Bk.kinds]
theorem fb_1 {a b c n1 n2 n3 : Str} (h1 : isFormS n1 = true) (h2 : isFormS n2 = true) (h3 : isFormS n3 = true) : FbP a b c ([(n1, []), (n2, [b])] ++ [(n3, [b, b])]) := by
  refine ⟨⟨by simp, fun x hx => ?_, fun x hx => ?_⟩, _, _, rfl⟩ <;>
  · simp only [List.mem_cons, List.not_mem_nil, or_false, List.cons_append, List.nil_append] at hx
    rcases hx with rfl | rfl | rfl <;> simp [h1, h2, h3, g0, Bk.kinds]
theorem fc_mem {a b c n1 n2 n3 : Str} (h1 : isFormS n1 = true) (h2 : isFormS n2 = true) (h3 : isFormS n3 = true) {fc : List (Str × List Str)} (hl : fc.length ≤ 3) (hm : ∀ x ∈ fc, x ∈ [(n1, []), (n2, [b, c]), (n3, [c, a, b, c]), (n1, [a, b])]) : FormsOk (g0 a b c) fc := by
  refine ⟨by omega, fun x hx => ?_, fun x hx => ?_⟩ <;>
  · have hx := hm x hx
    simp only [List.mem_cons, List.not_mem_nil, or_false] at hx
    rcases hx with rfl | rfl | rfl | rfl <;> simp [h1, h2, h3, g0, Bk.kinds]
theorem lcLYn {K : PySem.W.Frag} {te : TE} {vs : List Nat} {σ : L2.St} {H : Hp} {Q : VK} {is : List Nat} (f : PyData → PyData) {x : V} {ds : List PyData} (r : R K H x (.list ds)) (hn : ds.length ≤ 1000000) (hw : ∀ ws, wipe (setAll (wipe σ vs) is ws) vs = wipe σ vs)
    (hp : ∀ d ∈ ds, ∃ cs, d = .tuple cs ∧ cs.length = is.length)
    (he : ∀ ws cs H1, .tuple cs ∈ ds → cs.length = is.length → RA K H1 ws cs → Same H H1 → ∀ Qt : VK, (∀ y H2, Same H1 H2 → R K H2 y (f (.tuple cs)) → Qt y H2) → te (setAll (wipe σ vs) is ws) H1 Qt)
    (hq : ∀ v H1, Same H H1 → R K H1 v (.list (ds.map f)) → Q v H1) : LcLT K (gN K is) tYes (tHide te) vs σ x H Q := by
  obtain ⟨a, ws, rfl, ha, rds⟩ := r.inv_lst
  refine ⟨a, rfl, ⟨ws, .inl (.inl ha)⟩, ?_⟩
  have hlen := rds.length
  refine lcg (K := K) (walk_list (K := K) (a := a) (xs := ws)) (by omega) (fun H' s => s.seq (.inl (.inl ha))) (fun k es => k ≤ ds.length ∧ es = (ds.take k).map f) ⟨Nat.zero_le _, rfl⟩
    (fun i es h => by rw [h.2, List.length_map, List.length_take]; exact Nat.min_le_left _ _) ?_ fun v H1 es s1 r1 hi => hq v H1 s1 (by
      have := hi.2
      rw [hlen, List.take_length] at this
      rw [← this]; exact r1)
  rintro i x Hb D xs es Hy hi sm hb ⟨hk, rfl⟩ ⟨rfl, hx⟩ Qy Qn qy qn
  obtain ⟨d, e1, e2⟩ := rds.getV hx
  obtain ⟨cs, rfl, hcl⟩ := hp d (List.mem_of_getElem? e1)
  obtain ⟨b, zs, rfl, hb2, rb⟩ := (e2.mono sm).inv_tup
  have hzl := rb.length
  have hkl : i < ds.length := (List.getElem?_eq_some_iff.mp e1).1
  have e3 : ds.take (i + 1) = ds.take i ++ [.tuple cs] := by rw [List.take_add_one, e1]; rfl
  refine ⟨b, zs, rfl, (same_new hb _).tup hb2, by rw [hzl, hcl], gNs_of (by rw [hzl, hcl]) ⟨hw _, ?_⟩⟩
  unfold tYes
  dsimp only
  rw [if_pos rfl]
  refine ⟨D, xs, upd_same, ?_⟩
  rw [hide_upd hb]
  exact he zs cs Hb (List.mem_of_getElem? e1) hcl rb sm _ fun y H3 s3 r3 n3 => qy y _ _ n3 s3 r3 ⟨hkl, by rw [e3, List.map_append]; rfl⟩
def giF : PyData → PyData
  | .tuple [.str f, .tuple ps, .str k] => .tuple [.str "given", .str f, .tuple ps, .str k]
  | _ => .none
theorem noLs_gi : ∀ cs : List (Str × List Str × Str), noLs ((cs.map callD).map giF) = true
  | [] => rfl
  | c :: cs => by
    have h := noLs_gi cs
    rw [List.map_cons, List.map_cons, noLs, h]
    simp [callD, giF, noL, noLs, noLs_strs]
theorem st_newTF {K : PySem.W.Frag} {H : Hp} {Q : VK} {xs : List V} (hl : xs.length ≤ 1000000) (h : ∀ p H', H p = none → Same H H' → SqT K H' p xs → Q (.ref p) H') : NewT K xs H Q :=
  ⟨big_le hl, fun p hp => h p _ hp (same_new hp _) (.inl (.inl upd_same))⟩
theorem wipe_in {σ : L2.St} {i : Nat} : ∀ {vs : List Nat}, i ∈ vs → (wipe σ vs)[i]? = (σ[i]?).map fun _ => none
  | v :: vs, h => by
    unfold wipe
    by_cases e : v = i
    · subst e
      rw [List.getElem?_set_self', ]
      by_cases hm : v ∈ vs
      · rw [wipe_in hm]; cases σ[v]? <;> rfl
      · rw [wipe_out hm]; cases σ[v]? <;> rfl
    · rw [List.getElem?_set_ne e]
      exact wipe_in ((List.mem_cons.mp h).resolve_left (Ne.symm e))
theorem setAll_len : ∀ (is : List Nat) (ws : List V) (σ : L2.St), (setAll σ is ws).length = σ.length
  | [], _, _ => by unfold setAll; rfl
  | i :: is, [], _ => by unfold setAll; rfl
  | i :: is, w :: ws, σ => by unfold setAll; rw [setAll_len is ws, List.length_set]
theorem setAll_out {j : Nat} : ∀ (is : List Nat) (ws : List V) (σ : L2.St), j ∉ is → (setAll σ is ws)[j]? = σ[j]?
  | [], _, _, _ => by unfold setAll; rfl
  | i :: is, [], _, _ => by unfold setAll; rfl
  | i :: is, w :: ws, σ, h => by
    unfold setAll
    rw [setAll_out is ws _ (fun e => h (List.mem_cons_of_mem _ e)), List.getElem?_set_ne (fun e => h (by rw [e]; exact List.mem_cons_self))]
theorem hw_all {σ : L2.St} {vs is : List Nat} (h : ∀ i ∈ is, i ∈ vs) (ws : List V) : wipe (setAll (wipe σ vs) is ws) vs = wipe σ vs := by
  apply List.ext_getElem?
  intro j
  by_cases hj : j ∈ vs
  · rw [wipe_in hj, wipe_in hj]
    have hl : (setAll (wipe σ vs) is ws).length = σ.length := by rw [setAll_len, wipe_length]
    by_cases hlt : j < σ.length
    · rw [List.getElem?_eq_getElem (by omega), List.getElem?_eq_getElem hlt]; rfl
    · rw [List.getElem?_eq_none (by omega), List.getElem?_eq_none (by omega)]
  · rw [wipe_out hj, wipe_out hj, setAll_out is ws _ (fun e => hj (h j e)), wipe_out hj]
/-- the book while it is made -/
structure BS (K : PySem.W.Frag) (Hb H : Hp) (x F lb lc C Rw Kd D W : Addr) (g : Bk) (rows : List PyData) (kvs : List (Key × V)) : Prop where
  same : Same Hb H
  tup : SqT K H x [.ref Rw, .ref F, .ref C, .ref Kd, .ref D, .ref W]
  fs : FS K H F lb lc g.b g.c g.fb g.fc
  kC : Lk K H C (g.calls.map callD)
  kR : Lk K H Rw rows
  kK : Lk K H Kd (g.kinds.map PyData.str)
  kD : H D = some (.dK kvs)
  kW : Lk K H W (g.words.map formD)
structure BN (Hb : Hp) (F lb lc C Rw Kd D W : Addr) : Prop where
  nd : [lb, lc, C, Rw, Kd, W].Nodup
  df : D ≠ F
  nC : Hb C = none
  nR : Hb Rw = none
  nD : Hb D = none
  nW : Hb W = none
section
variable {K : PySem.W.Frag} {Hb H H' : Hp} {x F lb lc C Rw Kd D W : Addr} {g : Bk} {rows rows' : List PyData} {kvs : List (Key × V)}
theorem BS.mono (b : BS K Hb H x F lb lc C Rw Kd D W g rows kvs) (s : Same H H') : BS K Hb H' x F lb lc C Rw Kd D W g rows kvs :=
  ⟨b.same.trans s, s.tup b.tup, b.fs.mono s, b.kC.mono s, b.kR.mono s, b.kK.mono s, s _ _ b.kD, b.kW.mono s⟩
theorem BS.at (b : BS K Hb H x F lb lc C Rw Kd D W g rows kvs) : BookAt K H (.ref x) g :=
  ⟨x, .ref Rw, F, .ref lb, .ref lc, .ref C, .ref Kd, .ref D, .ref W, rfl, b.tup, b.fs.hF, b.fs.hb.R, b.fs.hc.R, b.kC.R, b.kK.R, b.kW.R⟩
theorem SameX.tupL {l a : Addr} {ds : List PyData} {ys : List V} (s : SameX l H H') (hl : Lk K H l ds) (h : SqT K H a ys) : SqT K H' a ys := by
  obtain ⟨xs, hl, _⟩ := hl.ex
  rcases h with (h | ⟨o, h⟩) | h
  · exact .inl (.inl (s a _ (fun e => by rw [e, hl] at h; cases h) h))
  · exact .inl (.inr ⟨o, s a _ (fun e => by rw [e, hl] at h; cases h) h⟩)
  · exact .inr h
theorem BS.appC (n : BN Hb F lb lc C Rw Kd D W) (b : BS K Hb H x F lb lc C Rw Kd D W g rows kvs) (s : SameX C H H') {cs : List (Str × List Str × Str)} (h : Lk K H' C (cs.map callD)) : BS K Hb H' x F lb lc C Rw Kd D W { g with calls := cs } rows kvs := by
  have nd := n.nd
  simp only [List.nodup_cons, List.mem_cons, List.not_mem_nil, or_false, not_or] at nd
  exact ⟨SameX.same b.same s n.nC, SameX.tupL s b.kC b.tup, b.fs.lx s b.kC nd.1.2.1 nd.2.1.1, h, b.kR.lx s b.kC (Ne.symm nd.2.2.1.1), b.kK.lx s b.kC (Ne.symm nd.2.2.1.2.1), s _ _ (dne b.kD b.kC) b.kD, b.kW.lx s b.kC (Ne.symm nd.2.2.1.2.2)⟩
theorem BS.appR (n : BN Hb F lb lc C Rw Kd D W) (b : BS K Hb H x F lb lc C Rw Kd D W g rows kvs) (s : SameX Rw H H') (h : Lk K H' Rw rows') : BS K Hb H' x F lb lc C Rw Kd D W g rows' kvs := by
  have nd := n.nd
  simp only [List.nodup_cons, List.mem_cons, List.not_mem_nil, or_false, not_or] at nd
  exact ⟨SameX.same b.same s n.nR, SameX.tupL s b.kR b.tup, b.fs.lx s b.kR nd.1.2.2.1 nd.2.1.2.1, b.kC.lx s b.kR nd.2.2.1.1, h, b.kK.lx s b.kR (Ne.symm nd.2.2.2.1.1), s _ _ (dne b.kD b.kR) b.kD, b.kW.lx s b.kR (Ne.symm nd.2.2.2.1.2)⟩
theorem BS.appW (n : BN Hb F lb lc C Rw Kd D W) (b : BS K Hb H x F lb lc C Rw Kd D W g rows kvs) (s : SameX W H H') {ws : List (Str × List Str)} (h : Lk K H' W (ws.map formD)) : BS K Hb H' x F lb lc C Rw Kd D W { g with words := ws } rows kvs := by
  have nd := n.nd
  simp only [List.nodup_cons, List.mem_cons, List.not_mem_nil, or_false, not_or] at nd
  exact ⟨SameX.same b.same s n.nW, SameX.tupL s b.kW b.tup, b.fs.lx s b.kW nd.1.2.2.2.2 nd.2.1.2.2.2, b.kC.lx s b.kW nd.2.2.1.2.2, b.kR.lx s b.kW nd.2.2.2.1.2, b.kK.lx s b.kW nd.2.2.2.2.1, s _ _ (dne b.kD b.kW) b.kD, h⟩
theorem BS.putD (n : BN Hb F lb lc C Rw Kd D W) (b : BS K Hb H x F lb lc C Rw Kd D W g rows kvs) (s : SameX D H H') {kvs' : List (Key × V)} (h : H' D = some (.dK kvs')) : BS K Hb H' x F lb lc C Rw Kd D W g rows kvs' :=
  ⟨SameX.same b.same s n.nD, s.tupD b.kD b.tup, b.fs.dx s b.kD (Ne.symm n.df), b.kC.dx s b.kD, b.kR.dx s b.kD, b.kK.dx s b.kD, h, b.kW.dx s b.kD⟩
theorem fresh_ne {p l : Addr} {ds : List PyData} (hp : H p = none) (h : Lk K H l ds) : l ≠ p := fun e => by
  obtain ⟨xs, h1, _⟩ := h.ex
  rw [e, hp] at h1; cases h1
end
theorem int_any {b : Bool} {H : Hp} {Q : VK} (h : ∀ i : Int, 0 ≤ i → i ≤ 1 → Q (.int i) H) : rInt1 [.bl b] H Q := .inr ⟨b, rfl, by cases b; exact h 0 (by decide) (by decide); exact h 1 (by decide) (by decide)⟩
theorem noLs_mem {ds : List PyData} : noLs ds = true ↔ ∀ d ∈ ds, noL d = true := by
  induction ds with
  | nil => simp [noLs]
  | cons d ds ih => simp [noLs, ih]
theorem sl_lstF {K : PySem.W.Frag} {H : Hp} {Q : VK} {x : V} {ds : List PyData} {lo hi : Option Int} (r : R K H x (.list ds)) (n : noLs ds = true) (h : ∀ p H', H p = none → Same H H' → Lk K H' p (cutD ds lo hi) → Q (.ref p) H') : rSlU K x lo hi H Q := by
  obtain ⟨a, xs, rfl, ha, ra⟩ := r.inv_lst
  refine .inr (.inl ⟨a, xs, rfl, .inl (.inl ha), fun p hp => h p _ hp (same_new hp _) ⟨⟨_, upd_same, (cut_RA ra lo hi).mono (same_new hp _)⟩, ?_⟩⟩)
  exact noLs_mem.mpr fun d hd => noLs_mem.mp n d (List.mem_of_mem_drop (List.mem_of_mem_take hd))
section
variable {K : PySem.W.Frag} {g : TG} {tb : TS} {D : Ends} {σ : L2.St} {H : Hp} {j : Nat} {nx bk ct : L2.St → Hp → Prop} {rt : VK}
/-- a list that stands, whatever else changes -/
theorem for_LDl {l : Addr} {ds : List PyData} (Pv : Nat → L2.St → Hp → Prop) (start : Pv 0 σ H) (keep : ∀ k σ' H', Pv k σ' H' → Lk K H' l ds)
    (turn : ∀ k d v σ' H', ds[k]? = some d → R K H' v d → Pv k σ' H' → tb ⟨Pv (k + 1), rt, nx, Pv (k + 1)⟩ (σ'.set j (some v)) H') (fin : ∀ σ' H', Pv ds.length σ' H' → nx σ' H')
    (det : ∀ xs, H l = some (.lst xs) → ∀ k σ' H', Pv k σ' H' → H' l = some (.lst xs)) : ForL K (gName j) tb ⟨nx, rt, bk, ct⟩ σ (.ref l) H := by
  obtain ⟨xs, hl, ra⟩ := (keep 0 σ H start).ex
  refine ⟨l, rfl, ⟨xs, .inl (.inl hl)⟩, ?_⟩
  rw [← ra.length] at fin
  refine for_it (walk_list (K := K) (a := l) (xs := xs)) (g := gName j) (tb := tb) (D := ⟨nx, rt, bk, ct⟩) Pv start (fun k σ' H' _ p => .inl (.inl (det xs hl k σ' H' p))) (fun k y σ' H' H'' hk p q => ?_) fin
  obtain ⟨rfl, hy⟩ := q
  obtain ⟨ys, hl2, ra2⟩ := (keep k σ' _ p).ex
  have e := det xs hl k σ' _ p
  rw [e] at hl2
  cases hl2
  obtain ⟨d, e1, e2⟩ := ra2.getV hy
  exact turn k d y σ' _ e1 e2 p
end
theorem bk_call {g : Bk} {c : Str × List Str × Str} (ok : BkOk g) (hc : isNameS c.1 = true ∧ c.2.1.length ≤ 4 ∧ (∀ k ∈ c.2.1, k ∈ g.kinds) ∧ c.2.2 ∈ g.kinds) (hl : (g.calls ++ [c]).length ≤ 100) : BkOk { g with calls := g.calls ++ [c] } := by
  obtain ⟨f, r, e⟩ := ok.c0
  refine ⟨ok.ab, ok.ac, ok.bc, ok.na, ok.nb, ok.nc, ⟨ok.okb.len, ok.okb.nm, ok.okb.ps⟩, ⟨ok.okc.len, ok.okc.nm, ok.okc.ps⟩, ok.fb0, ok.fc0, ⟨f, r ++ [c], by show g.calls ++ [c] = _; rw [e]; rfl⟩, hl, fun x hx => ?_, ok.wl, ok.wn⟩
  rcases List.mem_append.mp hx with h | h
  · exact ok.cn x h
  · rw [List.mem_singleton.mp h]; exact hc
theorem bk_word {g : Bk} {c : Str × List Str} (ok : BkOk g) (hc : isNameS c.1 = true ∧ c.2.length ≤ 4 ∧ ∀ k ∈ c.2, k ∈ g.kinds) (hl : (g.words ++ [c]).length ≤ 100) : BkOk { g with words := g.words ++ [c] } := by
  refine ⟨ok.ab, ok.ac, ok.bc, ok.na, ok.nb, ok.nc, ⟨ok.okb.len, ok.okb.nm, ok.okb.ps⟩, ⟨ok.okc.len, ok.okc.nm, ok.okc.ps⟩, ok.fb0, ok.fc0, ok.c0, ok.cl, ok.cn, hl, fun x hx => ?_⟩
  rcases List.mem_append.mp hx with h | h
  · exact ok.wn x h
  · rw [List.mem_singleton.mp h]; exact hc
theorem row_is {g : Bk} {f : Str} {d : PyData} {c : Str × List Str × Str} (h : RowOk g f d c) : ∃ (w : Str) (ks : List Str) (k : Str) (X : PyData), d = .tuple [.str w, .str f, partsD ks, .str k, X] ∧ c = (f, ks, k) ∧ noL d = true ∧ ks.length ≤ 4 ∧ (∀ x ∈ ks, x ∈ g.kinds) ∧ k ∈ g.kinds := by
  cases h with
  | short ks k t h1 h2 h3 h4 h5 h6 => exact ⟨_, ks, k, _, rfl, rfl, by simp [noL, noLs, noLs_strs, Th.noL], h1, h2, h3⟩
  | rule k0 ks k ts h0 h1 h2 h3 h4 h5 =>
    refine ⟨_, k0 :: ks, k, _, rfl, rfl, by simp [noL, noLs, noLs_strs, Th.noLs], by simp; omega, fun x hx => ?_, h3⟩
    rcases List.mem_cons.mp hx with rfl | hx
    · rcases h0 with rfl | rfl <;> simp [Bk.kinds]
    · exact h2 x hx
/-- a row behind the third one: its word and its name -/
def TailOk (rows : List PyData) : Prop := 3 ≤ rows.length ∧ ∀ d ∈ rows.drop 3, ∃ (w z : Str) (cs : List PyData), d = .tuple (.str w :: .str z :: cs)
theorem tail_app {rows : List PyData} {w z : Str} {cs : List PyData} (h : TailOk rows) : TailOk (rows ++ [.tuple (.str w :: .str z :: cs)]) := by
  refine ⟨by simp; have := h.1; omega, fun d hd => ?_⟩
  rw [List.drop_append_of_le_length h.1] at hd
  rcases List.mem_append.mp hd with h1 | h1
  · exact h.2 d h1
  · rw [List.mem_singleton.mp h1]; exact ⟨w, z, cs, rfl⟩
theorem putK_len {kvs : List (Key × V)} {k : Key} {v : V} : (putK kvs k v).length ≤ kvs.length + 1 := by
  unfold putK
  split
  · rw [List.length_map]; omega
  · rw [List.length_append]; simp
end G

namespace G
open PySem PySem.Spec PyProof.Rows L2
/-- a statement of the book: things, bounds around -/
def Th.kS (g : Bk) (xs : List (Str × Str)) : List Str → Th → Prop
  | _, .fls => True
  | is, .two .same a b => ∃ k, k ∈ g.kinds ∧ a.kd g g.calls xs is k ∧ b.kd g g.calls xs is k
  | is, .app .atom c args => ∃ ps, (c, ps) ∈ g.words ∧ Th.kds g g.calls xs is args ps
  | is, .qua _ k a => k ∈ g.kinds ∧ a.kS g xs (k :: is)
  | is, .two .and a b => a.kS g xs is ∧ b.kS g xs is
  | is, .two .or a b => a.kS g xs is ∧ b.kS g xs is
  | is, .two .iff a b => a.kS g xs is ∧ b.kS g xs is
  | _, _ => False
theorem kinds_name {g : Bk} (ok : BkOk g) {k : Str} (h : k ∈ g.kinds) : isNameS k = true := by
  simp only [Bk.kinds, List.mem_cons, List.not_mem_nil, or_false] at h
  rcases h with rfl | rfl | rfl
  · exact ok.na
  · exact ok.nb
  · exact ok.nc
theorem calls_ok {g : Bk} (ok : BkOk g) : ∀ x ∈ g.calls, isNameS x.1 = true ∧ x.2.1.length ≤ 4 := fun x hx => ⟨(ok.cn x hx).1, (ok.cn x hx).2.1⟩
theorem Th.kS_isS {g : Bk} {xs : List (Str × Str)} (ok : BkOk g) (hx : ∀ x ∈ xs, isNameS x.1 = true) : ∀ (t : Th) {is : List Str}, t.kS g xs is → t.isS (xs.map (·.1)) is.length
  | .fls, _, _ => True.intro
  | .two .same a b, is, h => by
    obtain ⟨k, _, h1, h2⟩ := h
    exact ⟨Th.kd_isT ok (calls_ok ok) hx a h1, Th.kd_isT ok (calls_ok ok) hx b h2⟩
  | .app .atom c args, is, h => by
    obtain ⟨ps, h1, h2⟩ := h
    have q := ok.wn _ h1
    exact ⟨q.1, by rw [kds_len h2]; exact q.2.1, Th.kds_areT ok (calls_ok ok) hx args h2⟩
  | .qua w k a, is, h => ⟨kinds_name ok h.1, Th.kS_isS ok hx a h.2⟩
  | .two .and a b, is, h => ⟨Th.kS_isS ok hx a h.1, Th.kS_isS ok hx b h.2⟩
  | .two .or a b, is, h => ⟨Th.kS_isS ok hx a h.1, Th.kS_isS ok hx b h.2⟩
  | .two .iff a b, is, h => ⟨Th.kS_isS ok hx a h.1, Th.kS_isS ok hx b h.2⟩
def szD : Nat → Nat
  | 0 => 213
  | n + 1 => 1 + 2 * szD n
theorem szD_pos (n : Nat) : 213 ≤ szD n := by cases n with | zero => decide | succ n => have := szD_pos n; simp only [szD]; omega
def spSaid (K : PySem.W.Frag) (n : Nat) : Sp := fun vs H Q _ => ∃ (p : Addr) (v vt vi : V) (g : Bk) (xs : List (Str × Str)) (is : List Str) (e : Int), vs = [.ref p, v, vt, vi, .int e] ∧ H p = some (Stt p) ∧ BookAt K H v g ∧ BkOk g ∧ 1 ≤ g.words.length ∧
  R K H vt (.list (xs.map thingD)) ∧ R K H vi (.list (is.map PyData.str)) ∧ xs.length ≤ 100 ∧ is.length + e.toNat ≤ 100 ∧ (∀ x ∈ xs, isNameS x.1 = true) ∧ 0 ≤ e ∧ e < n ∧
  ∀ u t H', Same H H' → R K H' u (Th.d t) → t.kS g xs is → t.dep ≤ e.toNat + 5 → t.sz ≤ szD e.toNat → Q u H'
section
variable {K : PySem.W.Frag} {H : Hp} {Q : VK} {E : XK} {p : Addr} {v vt vi : V} {g : Bk} {xs : List (Str × Str)} {is : List Str} {e : Int} {n : Nat}
theorem use_said (hp : H p = some (Stt p)) (hb : BookAt K H v g) (ok : BkOk g) (hw : 1 ≤ g.words.length) (rt : R K H vt (.list (xs.map thingD))) (ri : R K H vi (.list (is.map PyData.str))) (lx : xs.length ≤ 100) (li : is.length + e.toNat ≤ 100) (nx : ∀ x ∈ xs, isNameS x.1 = true)
    (h0 : 0 ≤ e) (h1 : e < n) (q : ∀ u t H', Same H H' → R K H' u (Th.d t) → t.kS g xs is → t.dep ≤ e.toNat + 5 → t.sz ≤ szD e.toNat → Q u H') : spSaid K n [.ref p, v, vt, vi, .int e] H Q E :=
  ⟨p, v, vt, vi, g, xs, is, e, rfl, hp, hb, ok, hw, rt, ri, lx, li, nx, h0, h1, q⟩
end
def rMin2 : List V → Hp → VK → Prop := fun xs H Q => ∃ i j, xs = [.int i, .int j] ∧ Q (.int (if j < i then j else i)) H
theorem call_min2R {X : Cx} (hc : X.calm = true) : CallR X (.builtin "min") rMin2 := call_min2 hc
theorem minR {i j : Int} {H : Hp} {Q : VK} (h : ∀ m : Int, m ≤ i → m ≤ j → (m = i ∨ m = j) → Q (.int m) H) : rMin2 [.int i, .int j] H Q := ⟨i, j, rfl, h _ (by split <;> omega) (by split <;> omega) (by split <;> simp)⟩
theorem szK_mono {m n : Nat} (h : m ≤ n) : szK m ≤ szK n := by
  induction h with
  | refl => exact Nat.le_refl _
  | step _ ih => simp only [szK]; omega
end G

namespace G
open PySem PySem.Spec PyProof.Rows L2
mutual
/-- t in the place of each free x -/
def Th.plant : Th → Str → Th → Th
  | .free y, x, t => if y = x then t else .free y
  | .bnd k, _, _ => .bnd k
  | .fls, _, _ => .fls
  | .app w c args, x, t => .app w c (Th.plants args x t)
  | .qua w k a, x, t => .qua w k (a.plant x t)
  | .two w a b, x, t => .two w (a.plant x t) (b.plant x t)
def Th.plants : List Th → Str → Th → List Th
  | [], _, _ => []
  | a :: as, x, t => a.plant x t :: Th.plants as x t
end
theorem Th.plants_map (x : Str) (t : Th) : ∀ ts : List Th, Th.plants ts x t = ts.map fun u => u.plant x t
  | [] => rfl
  | a :: as => by rw [Th.plants, Th.plants_map x t as]; rfl
theorem eqv_free {x : Str} : ∀ u : Th, PyData.eqv u.d (Th.free x).d = (match u with | .free y => decide (y = x) | _ => false)
  | .free y => eqv_ff y x
  | .bnd k => eqv_bf x k
  | .fls => by simp [Th.d, PyData.eqv, PyData.eqvAll]
  | .app w c args => by simp [Th.d, PyData.eqv, PyData.eqvAll]
  | .qua w k a => by simp [Th.d, PyData.eqv, PyData.eqvAll]
  | .two w a b => by simp [Th.d, PyData.eqv, PyData.eqvAll]
mutual
theorem Th.plant_isT {F : List Str} {n : Nat} {x : Str} {t : Th} (ht : t.isT F n) : ∀ u : Th, u.isT (x :: F) n → (u.plant x t).isT F n
  | .free y, h => by
    unfold Th.plant
    by_cases e : y = x
    · rw [if_pos e]; exact ht
    · rw [if_neg e]; exact ⟨(show isNameS y = true ∧ y ∈ x :: F from h).1, (List.mem_cons.mp (show isNameS y = true ∧ y ∈ x :: F from h).2).resolve_left e⟩
  | .bnd k, h => h
  | .app .form c args, h => ⟨h.1, by rw [Th.plants_map, List.length_map]; exact h.2.1, Th.plants_areT ht args h.2.2⟩
  | .app .call c args, h => ⟨h.1, by rw [Th.plants_map, List.length_map]; exact h.2.1, Th.plants_areT ht args h.2.2⟩
theorem Th.plants_areT {F : List Str} {n : Nat} {x : Str} {t : Th} (ht : t.isT F n) : ∀ us : List Th, Th.areT (x :: F) n us → Th.areT F n (Th.plants us x t)
  | [], _ => True.intro
  | u :: us, h => ⟨Th.plant_isT ht u h.1, Th.plants_areT ht us h.2⟩
end
theorem Th.plant_isS {F : List Str} {x : Str} {t : Th} (ht : t.isT F 0) : ∀ (u : Th) {n : Nat}, u.isS (x :: F) n → (u.plant x t).isS F n
  | .fls, _, _ => True.intro
  | .two .same a b, n, h => ⟨Th.plant_isT (Th.isT_mono (Nat.zero_le n) ht) a h.1, Th.plant_isT (Th.isT_mono (Nat.zero_le n) ht) b h.2⟩
  | .app .atom c args, n, h => ⟨h.1, by rw [Th.plants_map, List.length_map]; exact h.2.1, Th.plants_areT (Th.isT_mono (Nat.zero_le n) ht) args h.2.2⟩
  | .two .and a b, n, h => ⟨Th.plant_isS ht a h.1, Th.plant_isS ht b h.2⟩
  | .two .or a b, n, h => ⟨Th.plant_isS ht a h.1, Th.plant_isS ht b h.2⟩
  | .two .iff a b, n, h => ⟨Th.plant_isS ht a h.1, Th.plant_isS ht b h.2⟩
  | .qua w k a, n, h => ⟨h.1, Th.plant_isS ht a h.2⟩
mutual
theorem Th.plant_dep (x : Str) (t : Th) : ∀ u : Th, (u.plant x t).dep ≤ u.dep + t.dep
  | .free y => by unfold Th.plant; split <;> simp [Th.dep]
  | .bnd k => by simp [Th.plant, Th.dep]
  | .fls => by simp [Th.plant, Th.dep]
  | .app w c args => by have := Th.plants_dep x t args; simp only [Th.plant, Th.dep]; omega
  | .qua w k a => by have := Th.plant_dep x t a; simp only [Th.plant, Th.dep]; omega
  | .two w a b => by have := Th.plant_dep x t a; have := Th.plant_dep x t b; simp only [Th.plant, Th.dep]; omega
theorem Th.plants_dep (x : Str) (t : Th) : ∀ us : List Th, Th.deps (Th.plants us x t) ≤ Th.deps us + t.dep
  | [] => by simp [Th.plants, Th.deps]
  | u :: us => by have := Th.plant_dep x t u; have := Th.plants_dep x t us; simp only [Th.plants, Th.deps]; omega
end
mutual
theorem Th.plant_sz (x : Str) (t : Th) : ∀ u : Th, (u.plant x t).sz ≤ u.sz * t.sz
  | .free y => by have := t.sz_pos; unfold Th.plant; split <;> simp [Th.sz]; omega
  | .bnd k => by have := t.sz_pos; simp [Th.plant, Th.sz]; omega
  | .fls => by have := t.sz_pos; simp [Th.plant, Th.sz]; omega
  | .app w c args => by have := t.sz_pos; have := Th.plants_sz x t args; simp only [Th.plant, Th.sz, Nat.add_mul]; omega
  | .qua w k a => by have := t.sz_pos; have := Th.plant_sz x t a; simp only [Th.plant, Th.sz, Nat.add_mul]; omega
  | .two w a b => by have := t.sz_pos; have := Th.plant_sz x t a; have := Th.plant_sz x t b; simp only [Th.plant, Th.sz, Nat.add_mul]; omega
theorem Th.plants_sz (x : Str) (t : Th) : ∀ us : List Th, Th.szs (Th.plants us x t) ≤ Th.szs us * t.sz
  | [] => by simp [Th.plants, Th.szs]
  | u :: us => by have := Th.plant_sz x t u; have := Th.plants_sz x t us; simp only [Th.plants, Th.szs, Nat.add_mul]; omega
end
def spPlant (K : PySem.W.Frag) (m : Nat) : Sp := fun vs H Q _ => ∃ (v vt : V) (u t : Th) (x : Str), vs = [v, .str x, vt] ∧ R K H v u.d ∧ R K H vt t.d ∧ isNameS x = true ∧ u.d.canLay0 = true ∧ u.dep ≤ m ∧ u.sz ≤ 100000 ∧ ∀ y H', Same H H' → R K H' y (u.plant x t).d → Q y H'
theorem use_plant {K : PySem.W.Frag} {m : Nat} {H : Hp} {Q : VK} {E : XK} {v vt : V} {u t : Th} {x : Str} (r : R K H v u.d) (rt : R K H vt t.d) (hx : isNameS x = true) (lay : u.d.canLay0 = true) (hd : u.dep ≤ m) (hz : u.sz ≤ 100000) (h : ∀ y H', Same H H' → R K H' y (u.plant x t).d → Q y H') : spPlant K m [v, .str x, vt] H Q E := ⟨v, vt, u, t, x, rfl, r, rt, hx, lay, hd, hz, h⟩
end G

namespace G
open PySem PySem.Spec PyProof.Rows L2
/-- the args of a form or a call -/
def Th.args : Th → List Th
  | .app .form _ as => as
  | .app .call _ as => as
  | _ => []
/-- the terms of a statement, from the left -/
def Th.termsOf : Th → List Th
  | .two .same a b => [a, b]
  | .app .atom _ args => args
  | .qua _ _ a => a.termsOf
  | .two .and a b => a.termsOf ++ b.termsOf
  | .two .or a b => a.termsOf ++ b.termsOf
  | .two .iff a b => a.termsOf ++ b.termsOf
  | _ => []
def spArgs (K : PySem.W.Frag) : Sp := fun vs H Q _ => ∃ (v : V) (t : Th) (F : List Str) (b : Nat), vs = [v] ∧ R K H v t.d ∧ t.isT F b ∧ ∀ y H', Same H H' → R K H' y (.tuple (Th.ds t.args)) → Q y H'
def spTermsOf (K : PySem.W.Frag) (m : Nat) : Sp := fun vs H Q _ => ∃ (v : V) (t : Th) (F : List Str) (b : Nat), vs = [v] ∧ R K H v t.d ∧ t.isS F b ∧ t.dep ≤ m ∧ t.sz ≤ 400000 ∧ ∀ p H', H p = none → Same H H' → Lk K H' p (Th.ds t.termsOf) → Q (.ref p) H'
theorem use_args {K : PySem.W.Frag} {H : Hp} {Q : VK} {E : XK} {v : V} {t : Th} {F : List Str} {b : Nat} (r : R K H v t.d) (ht : t.isT F b) (h : ∀ y H', Same H H' → R K H' y (.tuple (Th.ds t.args)) → Q y H') : spArgs K [v] H Q E := ⟨v, t, F, b, rfl, r, ht, h⟩
theorem use_termsOfF {K : PySem.W.Frag} {m : Nat} {H : Hp} {Q : VK} {E : XK} {v : V} {t : Th} {F : List Str} {b : Nat} (r : R K H v t.d) (ht : t.isS F b) (hd : t.dep ≤ m) (hz : t.sz ≤ 400000) (h : ∀ p H', H p = none → Same H H' → Lk K H' p (Th.ds t.termsOf) → Q (.ref p) H') : spTermsOf K m [v] H Q E := ⟨v, t, F, b, rfl, r, ht, hd, hz, h⟩
theorem use_termsOf {K : PySem.W.Frag} {m : Nat} {H : Hp} {Q : VK} {E : XK} {v : V} {t : Th} {F : List Str} {b : Nat} (r : R K H v t.d) (ht : t.isS F b) (hd : t.dep ≤ m) (hz : t.sz ≤ 400000) (h : ∀ y H', Same H H' → R K H' y (.list (Th.ds t.termsOf)) → Q y H') : spTermsOf K m [v] H Q E := ⟨v, t, F, b, rfl, r, ht, hd, hz, fun p H' _ s k => h _ H' s k.R⟩
theorem Th.termsOf_len {F : List Str} : ∀ (t : Th) {n : Nat}, t.isS F n → t.termsOf.length ≤ t.sz
  | .fls, _, _ => by simp [Th.termsOf]
  | .two .same a b, _, _ => by have := a.sz_pos; have := b.sz_pos; simp [Th.termsOf, Th.sz]; omega
  | .app .atom c args, _, _ => by have := len_szs args; simp [Th.termsOf, Th.sz]; omega
  | .qua w k a, _, h => by have := Th.termsOf_len a h.2; simp only [Th.termsOf, Th.sz]; omega
  | .two .and a b, _, h => by have := Th.termsOf_len a h.1; have := Th.termsOf_len b h.2; simp only [Th.termsOf, Th.sz, List.length_append]; omega
  | .two .or a b, _, h => by have := Th.termsOf_len a h.1; have := Th.termsOf_len b h.2; simp only [Th.termsOf, Th.sz, List.length_append]; omega
  | .two .iff a b, _, h => by have := Th.termsOf_len a h.1; have := Th.termsOf_len b h.2; simp only [Th.termsOf, Th.sz, List.length_append]; omega
theorem ds_app (xs ys : List Th) : Th.ds (xs ++ ys) = Th.ds xs ++ Th.ds ys := by rw [Th.ds_map, Th.ds_map, Th.ds_map, List.map_append]
end G

namespace G
open PySem PySem.Spec PyProof.Rows L2
/-- a statement with other terms -/
def Th.withTs : Th → List Th → Th
  | .two .same _ _, ts => .two .same (ts.getD 0 .fls) (ts.getD 1 .fls)
  | .app .atom c _, ts => .app .atom c ts
  | .qua w k a, ts => .qua w k (a.withTs ts)
  | .two .and a b, ts => .two .and (a.withTs (ts.take a.termsOf.length)) (b.withTs (ts.drop a.termsOf.length))
  | .two .or a b, ts => .two .or (a.withTs (ts.take a.termsOf.length)) (b.withTs (ts.drop a.termsOf.length))
  | .two .iff a b, ts => .two .iff (a.withTs (ts.take a.termsOf.length)) (b.withTs (ts.drop a.termsOf.length))
  | t, _ => t
def spWithTs (K : PySem.W.Frag) (m : Nat) : Sp := fun vs H Q _ => ∃ (v vl : V) (t : Th) (ts : List Th) (F : List Str) (b : Nat), vs = [v, vl] ∧ R K H v t.d ∧ R K H vl (.list (Th.ds ts)) ∧ t.isS F b ∧ ts.length = t.termsOf.length ∧ t.dep ≤ m ∧ t.sz ≤ 400000 ∧ ∀ y H', Same H H' → R K H' y (t.withTs ts).d → Q y H'
theorem use_withTs {K : PySem.W.Frag} {m : Nat} {H : Hp} {Q : VK} {E : XK} {v vl : V} {t : Th} {ts : List Th} {F : List Str} {b : Nat} (r : R K H v t.d) (rl : R K H vl (.list (Th.ds ts))) (ht : t.isS F b) (hl : ts.length = t.termsOf.length) (hd : t.dep ≤ m) (hz : t.sz ≤ 400000) (h : ∀ y H', Same H H' → R K H' y (t.withTs ts).d → Q y H') : spWithTs K m [v, vl] H Q E :=
  ⟨v, vl, t, ts, F, b, rfl, r, rl, ht, hl, hd, hz, h⟩
theorem cut_to_ds (ts : List Th) (n : Nat) : cutD (Th.ds ts) none (some (n : Int)) = Th.ds (ts.take n) := by rw [cutD_to, Th.ds_map, Th.ds_map, List.map_take]
theorem cut_from_ds (ts : List Th) (n : Nat) : cutD (Th.ds ts) (some (n : Int)) none = Th.ds (ts.drop n) := by rw [cutD_from, Th.ds_map, Th.ds_map, List.map_drop]
end G

namespace G
open PySem PySem.Spec PyProof.Rows L2
def pls (ks : List Nat) : PyData := .tuple (ks.map fun i => .int (i : Nat))
def Th.withP : Th → List Nat → Th → Th
  | _, [], o => o
  | .app w c args, k :: ks, o => .app w c (args.take k ++ [((args.getD k .fls).withP ks o)] ++ args.drop (k + 1))
  | t, _ :: _, _ => t
/-- a place that is there: whole by args -/
def Th.okP : Th → List Nat → Prop
  | _, [] => True
  | .app _ _ args, k :: ks => k < args.length ∧ (args.getD k .fls).okP ks
  | _, _ :: _ => False
theorem isT_app {F : List Str} {b : Nat} {w : AW} {c : Str} {args : List Th} (h : (Th.app w c args).isT F b) : args.length ≤ 4 ∧ ∀ a ∈ args, a.isT F b := by
  cases w with
  | form => exact ⟨h.2.1, Th.areT_all.mp h.2.2⟩
  | call => exact ⟨h.2.1, Th.areT_all.mp h.2.2⟩
  | atom => exact absurd h (by intro h; exact h)
def spWith (K : PySem.W.Frag) (m : Nat) : Sp := fun vs H Q _ => ∃ (v vp vo : V) (t o : Th) (ks : List Nat) (F : List Str) (b : Nat), vs = [v, vp, vo] ∧ R K H v t.d ∧ R K H vp (pls ks) ∧ R K H vo o.d ∧ t.okP ks ∧ ks.length < m ∧ ks.length ≤ 1000 ∧ t.isT F b ∧ ∀ x H', Same H H' → R K H' x (t.withP ks o).d → Q x H'
theorem use_with {K : PySem.W.Frag} {m : Nat} {H : Hp} {Q : VK} {E : XK} {v vp vo : V} {t o : Th} {ks : List Nat} {F : List Str} {b : Nat} (r : R K H v t.d) (rp : R K H vp (pls ks)) (ro : R K H vo o.d) (ok : t.okP ks) (hm : ks.length < m) (hm' : ks.length ≤ 1000) (hz : t.isT F b)
    (h : ∀ x H', Same H H' → R K H' x (t.withP ks o).d → Q x H') : spWith K m [v, vp, vo] H Q E := ⟨v, vp, vo, t, o, ks, F, b, rfl, r, rp, ro, ok, hm, hm', hz, h⟩
theorem Th.withP_okP : ∀ (ks : List Nat) (t o : Th), t.okP ks → (t.withP ks o).okP ks
  | [], t, o, h => True.intro
  | k :: ks, .app w c args, o, h => by
    obtain ⟨h1, h2⟩ := h
    have e : (args.take k ++ [(args.getD k .fls).withP ks o] ++ args.drop (k + 1)).getD k .fls = (args.getD k .fls).withP ks o := by
      rw [List.getD_eq_getElem?_getD, List.append_assoc, List.getElem?_append_right (by simp; omega)]
      simp [List.length_take, Nat.min_eq_left (Nat.le_of_lt h1)]
    refine ⟨by simp [List.length_take, List.length_drop]; omega, ?_⟩
    rw [e]
    exact Th.withP_okP ks _ o h2
theorem tkset {args : List Th} {k : Nat} {x : Th} (h : k < args.length) : args.take k ++ [x] ++ args.drop (k + 1) = args.set k x := by
  rw [List.set_eq_take_append_cons_drop, if_pos h, List.append_assoc]; rfl
theorem Th.withP_app {w : AW} {c : Str} {args : List Th} {k : Nat} {ks : List Nat} {o : Th} (h : k < args.length) : (Th.app w c args).withP (k :: ks) o = .app w c (args.set k ((args.getD k .fls).withP ks o)) := by
  rw [Th.withP, tkset h]
theorem deps_set {m : Nat} {ts : List Th} {k : Nat} {x : Th} (h : Th.deps ts ≤ m) (hx : x.dep ≤ m) : Th.deps (ts.set k x) ≤ m := Th.deps_le.mpr fun t ht => by
  rcases List.mem_or_eq_of_mem_set ht with h1 | h1
  · exact Th.deps_le.mp h t h1
  · rw [h1]; exact hx
theorem szs_set {x : Th} : ∀ (ts : List Th) (k : Nat), Th.szs (ts.set k x) ≤ Th.szs ts + x.sz
  | [], k => Nat.zero_le _
  | t :: ts, 0 => by simp only [List.set_cons_zero, Th.szs]; omega
  | t :: ts, k + 1 => by have := szs_set (x := x) ts k; simp only [List.set_cons_succ, Th.szs]; omega
theorem Th.withP_is {F : List Str} {b : Nat} {o : Th} (ho : o.isT F b) : ∀ (ks : List Nat) (t : Th), t.isT F b → t.okP ks → (t.withP ks o).isT F b
  | [], t, it, h => by rw [Th.withP]; exact ho
  | k :: ks, .app .form c args, it, h => by
    obtain ⟨h1, h2⟩ := h
    rw [Th.withP_app h1]
    have ha := Th.areT_all.mp it.2.2
    refine ⟨it.1, by rw [List.length_set]; exact it.2.1, Th.areT_all.mpr fun t ht => ?_⟩
    rcases List.mem_or_eq_of_mem_set ht with h3 | h3
    · exact ha t h3
    · rw [h3]
      exact Th.withP_is ho ks _ (ha _ (by rw [List.getD_eq_getElem?_getD, List.getElem?_eq_getElem h1]; exact List.getElem_mem h1)) h2
  | k :: ks, .app .call c args, it, h => by
    obtain ⟨h1, h2⟩ := h
    rw [Th.withP_app h1]
    have ha := Th.areT_all.mp it.2.2
    refine ⟨it.1, by rw [List.length_set]; exact it.2.1, Th.areT_all.mpr fun t ht => ?_⟩
    rcases List.mem_or_eq_of_mem_set ht with h3 | h3
    · exact ha t h3
    · rw [h3]
      exact Th.withP_is ho ks _ (ha _ (by rw [List.getD_eq_getElem?_getD, List.getElem?_eq_getElem h1]; exact List.getElem_mem h1)) h2
theorem Th.withP_dep {o : Th} : ∀ (ks : List Nat) (t : Th), t.okP ks → (t.withP ks o).dep ≤ t.dep + o.dep
  | [], t, h => by rw [Th.withP]; omega
  | k :: ks, .app w c args, h => by
    obtain ⟨h1, h2⟩ := h
    rw [Th.withP_app h1]
    have hm : args.getD k .fls ∈ args := by rw [List.getD_eq_getElem?_getD, List.getElem?_eq_getElem h1]; exact List.getElem_mem h1
    have h3 := Th.deps_le.mp (Nat.le_refl (Th.deps args)) _ hm
    have h4 := Th.withP_dep (o := o) ks _ h2
    have := deps_set (m := Th.deps args + o.dep) (ts := args) (k := k) (x := (args.getD k .fls).withP ks o) (by omega) (by omega)
    simp only [Th.dep]
    omega
theorem Th.withP_sz {o : Th} : ∀ (ks : List Nat) (t : Th), t.okP ks → (t.withP ks o).sz ≤ t.sz * (ks.length + 1) + o.sz
  | [], t, h => by rw [Th.withP]; omega
  | k :: ks, .app w c args, h => by
    obtain ⟨h1, h2⟩ := h
    rw [Th.withP_app h1]
    have hm : args.getD k .fls ∈ args := by rw [List.getD_eq_getElem?_getD, List.getElem?_eq_getElem h1]; exact List.getElem_mem h1
    have h3 := sz_mem hm
    have h4 := Th.withP_sz (o := o) ks _ h2
    have h5 := szs_set (x := (args.getD k .fls).withP ks o) args k
    have h6 := Nat.mul_le_mul_right (ks.length + 1) h3
    simp only [Th.sz, List.length_cons]
    rw [Nat.mul_succ, Nat.add_mul]
    omega
theorem pls_lay : ∀ ks : List Nat, (pls ks).canLay0 = true := fun ks => by
  have : ∀ ks : List Nat, PyData.canLayAll0 (ks.map fun i => .int (i : Nat)) = true := by
    intro ks
    induction ks with
    | nil => rfl
    | cons k ks ih => simp [PyData.canLayAll0, PyData.canLay0, ih]
  simpa [pls, PyData.canLay0] using this ks
theorem eqv_pls_cons (k : Nat) (ks : List Nat) : PyData.eqv (pls (k :: ks)) (.tuple []) = false := by simp [pls, PyData.eqv, PyData.eqvAll]
theorem sum_sz' (ts : List Th) : (ts.map fun p => ((p.sz : Nat) : Int)).sum = (Th.szs ts : Nat) := by
  induction ts with
  | nil => rfl
  | cons t ts ih => simp only [List.map_cons, List.sum_cons, Th.szs, ih]; omega
end G

namespace G
open PySem PySem.Spec PyProof.Rows L2
mutual
/-- where a term stands, from the left, none within another -/
def Th.spots : Th → Th → List (List Nat)
  | .app w c as, one => bif PyData.eqv (Th.app w c as).d one.d then [[]] else Th.spotsL as 0 one
  | t, one => bif PyData.eqv t.d one.d then [[]] else []
def Th.spotsL : List Th → Nat → Th → List (List Nat)
  | [], _, _ => []
  | a :: as, i, one => (a.spots one).map (i :: ·) ++ Th.spotsL as (i + 1) one
end
theorem Th.spotsL_snoc : ∀ (as : List Th) (i : Nat) (a one : Th), Th.spotsL (as ++ [a]) i one = Th.spotsL as i one ++ (a.spots one).map ((i + as.length) :: ·)
  | [], i, a, one => by simp [Th.spotsL]
  | b :: as, i, a, one => by
    rw [List.cons_append, Th.spotsL, Th.spotsL_snoc as (i + 1) a one, Th.spotsL, List.append_assoc]
    have : i + 1 + as.length = i + (b :: as).length := by simp; omega
    rw [this]
mutual
theorem Th.spots_len : ∀ (t one : Th), (t.spots one).length ≤ t.sz
  | .app w c as, one => by
    have h := Th.spotsL_len as 0 one
    unfold Th.spots
    cases PyData.eqv (Th.app w c as).d one.d
    · show (Th.spotsL as 0 one).length ≤ _; simp only [Th.sz]; omega
    · show 1 ≤ _; simp only [Th.sz]; omega
  | .free x, one => by unfold Th.spots; cases PyData.eqv (Th.free x).d one.d <;> simp [Th.sz]
  | .bnd x, one => by unfold Th.spots; cases PyData.eqv (Th.bnd x).d one.d <;> simp [Th.sz]
  | .fls, one => by unfold Th.spots; cases PyData.eqv Th.fls.d one.d <;> simp [Th.sz]
  | .qua w c a, one => by unfold Th.spots; cases PyData.eqv (Th.qua w c a).d one.d <;> simp [Th.sz]
  | .two w a b, one => by unfold Th.spots; cases PyData.eqv (Th.two w a b).d one.d <;> simp [Th.sz]
theorem Th.spotsL_len : ∀ (as : List Th) (i : Nat) (one : Th), (Th.spotsL as i one).length ≤ Th.szs as
  | [], _, _ => by simp [Th.spotsL]
  | a :: as, i, one => by
    have h1 := Th.spots_len a one
    have h2 := Th.spotsL_len as (i + 1) one
    rw [Th.spotsL, List.length_append, List.length_map, Th.szs]; omega
end
theorem Th.spots_args {F : List Str} {b : Nat} (t one : Th) (ht : t.isT F b) : t.spots one = bif PyData.eqv t.d one.d then [[]] else Th.spotsL t.args 0 one := by
  cases t with
  | app w c as => cases w with
    | atom => exact absurd ht (by intro h; exact h)
    | form | call => unfold Th.spots; rfl
  | free x => unfold Th.spots; cases PyData.eqv (Th.free x).d one.d <;> simp [Th.args, Th.spotsL]
  | bnd x => unfold Th.spots; cases PyData.eqv (Th.bnd x).d one.d <;> simp [Th.args, Th.spotsL]
  | fls => exact absurd ht (by intro h; exact h)
  | qua w c a => exact absurd ht (by intro h; exact h)
  | two w a b => exact absurd ht (by intro h; exact h)
def plD (pre : List Nat) (qs : List (List Nat)) : List PyData := qs.map fun q => pls (pre ++ q)
theorem noLs_pls (ks : List Nat) : noLs (ks.map fun i : Nat => PyData.int (i : Nat)) = true := by
  induction ks with
  | nil => rfl
  | cons k ks ih => simp [noLs, noL, ih]
theorem noL_pls (ks : List Nat) : noL (pls ks) = true := by simp [pls, noL, noLs_pls]
theorem noLs_plD (pre : List Nat) (qs : List (List Nat)) : noLs (plD pre qs) = true := noLs_mem.mpr fun d hd => by
  obtain ⟨q, _, rfl⟩ := List.mem_map.mp hd
  exact noL_pls _
def spSpots (K : PySem.W.Frag) (m : Nat) : Sp := fun vs H Q _ => ∃ (v vo vp : V) (t one : Th) (pre : List Nat) (F : List Str) (b : Nat), vs = [v, vo, vp] ∧ R K H v t.d ∧ R K H vo one.d ∧ R K H vp (pls pre) ∧ t.isT F b ∧ one.isT F b ∧ t.dep ≤ m ∧ one.dep ≤ 90 ∧ t.sz ≤ 400000 ∧ pre.length ≤ 1000 - m ∧ m ≤ 900 ∧
  ∀ p H', H p = none → Same H H' → Lk K H' p (plD pre (t.spots one)) → Q (.ref p) H'
theorem use_spots {K : PySem.W.Frag} {m : Nat} {H : Hp} {Q : VK} {E : XK} {v vo vp : V} {t one : Th} {pre : List Nat} {F : List Str} {b : Nat} (r : R K H v t.d) (ro : R K H vo one.d) (rp : R K H vp (pls pre)) (ht : t.isT F b) (ho : one.isT F b) (hd : t.dep ≤ m) (hd2 : one.dep ≤ 90) (hz : t.sz ≤ 400000) (hp : pre.length ≤ 1000 - m) (hm : m ≤ 900)
    (h : ∀ y H', Same H H' → R K H' y (.list (plD pre (t.spots one))) → Q y H') : spSpots K m [v, vo, vp] H Q E := ⟨v, vo, vp, t, one, pre, F, b, rfl, r, ro, rp, ht, ho, hd, hd2, hz, hp, hm, fun p H' _ s k => h _ _ s k.R⟩
theorem use_spotsF {K : PySem.W.Frag} {m : Nat} {H : Hp} {Q : VK} {E : XK} {v vo vp : V} {t one : Th} {pre : List Nat} {F : List Str} {b : Nat} (r : R K H v t.d) (ro : R K H vo one.d) (rp : R K H vp (pls pre)) (ht : t.isT F b) (ho : one.isT F b) (hd : t.dep ≤ m) (hd2 : one.dep ≤ 90) (hz : t.sz ≤ 400000) (hp : pre.length ≤ 1000 - m) (hm : m ≤ 900)
    (h : ∀ p H', H p = none → Same H H' → Lk K H' p (plD pre (t.spots one)) → Q (.ref p) H') : spSpots K m [v, vo, vp] H Q E := ⟨v, vo, vp, t, one, pre, F, b, rfl, r, ro, rp, ht, ho, hd, hd2, hz, hp, hm, h⟩
section
variable {K : PySem.W.Frag} {tb : TS} {σ : L2.St} {H : Hp} {i j : Nat} {nx bk ct : L2.St → Hp → Prop} {rt : VK}
/-- enumerate over a tuple that stands, whatever else changes -/
theorem for_Ex {a : Addr} {xs : List V} {ds : List PyData} (Pv : Nat → L2.St → Hp → Prop) (start : Pv 0 σ H) (keep : ∀ k σ' H', Pv k σ' H' → SqT K H' a xs ∧ RA K H' xs ds) (mono : ∀ k σ' H' H'', Pv k σ' H' → Same H' H'' → Pv k σ' H'')
    (turn : ∀ (k : Nat) d v σ' H', ds[k]? = some d → R K H' v d → Pv k σ' H' → tb ⟨Pv (k + 1), rt, nx, Pv (k + 1)⟩ ((σ'.set i (some (.int (k : Int)))).set j (some v)) H') (fin : ∀ σ' H', Pv ds.length σ' H' → nx σ' H') : ForE K (g2 K i j) tb ⟨nx, rt, bk, ct⟩ σ [.ref a] H := by
  obtain ⟨ha, ra⟩ := keep 0 σ H start
  refine ⟨a, xs, rfl, ha, ?_⟩
  rw [← ra.length] at fin
  refine for_it (walk_enumT (K := K) (a := a) (xs := xs)) (g := g2 K i j) (tb := tb) (D := ⟨nx, rt, bk, ct⟩) Pv start (fun k σ' H' _ p => (keep _ _ _ p).1) (fun k y σ' H' H'' hk p q => ?_) fin
  obtain ⟨T, y1, y2, rfl, hT, rfl, h1, h2⟩ := q
  cases h1
  obtain ⟨d, e1, e2⟩ := (keep _ _ _ p).2.getV h2
  have s0 : Same H' (upd H' T (.tup [.int (k : Int), y2])) := same_new hT _
  exact ⟨T, _, rfl, .inl (.inl upd_same), rfl, _, _, rfl, _, _, rfl, rfl, turn k d y2 σ' _ e1 (e2.mono s0) (mono _ _ _ _ p s0)⟩
end
theorem ext_L {K : PySem.W.Frag} {H : Hp} {Q : VK} {l : Addr} {ds es : List PyData} {y : V} (h : Lk K H l ds) (r : R K H y (.list es)) (hz : ds.length + es.length ≤ 1000000) (n : noLs es = true) (q : ∀ H', SameX l H H' → Lk K H' l (ds ++ es) → Q .non H') : rExtend (.ref l) [y] H Q := by
  obtain ⟨xs, h1, h2⟩ := h.ex
  exact extR (K := K) h1 h2 r hz h.no n fun ws H' x hl ra => q H' x ⟨⟨ws, hl, ra⟩, by rw [noLs_append, h.no, n]; rfl⟩
theorem szs_take'' (ts : List Th) (n : Nat) : Th.szs (ts.take n) ≤ Th.szs ts := by
  induction ts generalizing n with
  | nil => simp
  | cons t ts ih =>
    cases n with
    | zero => simp [Th.szs]
    | succ n => simp only [List.take_succ_cons, Th.szs]; have := ih n; omega
end G

namespace G
open PySem PySem.Spec PyProof.Rows L2
/-! a comprehension over reversed(range(n)) -/
def LcRv (n : Int) (j : Nat) (te : TE) (vs : List Nat) (σ : L2.St) (H1 : Hp) (Q : VK) : Prop := -(2 ^ 62) ≤ (0 : Int) ∧ (0 : Int) < 2 ^ 62 ∧ -(2 ^ 62) ≤ n ∧ n < 2 ^ 62 ∧ LcG (Itc (0 + (((n - 0).toNat : Nat) : Int) - 1) (-1) (n - 0).toNat) j te vs σ H1 Q
section
variable {K : PySem.W.Frag} {te : TE} {vs : List Nat} {σ : L2.St} {H : Hp} {Q : VK} {j : Nat}
theorem st_lcRv {ta : TE} (h : ta σ H fun x H1 => ∃ n, x = .int n ∧ LcRv n j te vs σ H1 Q) : tLc (iRevR (tRg1 ta)) (gName j) tYes (tHide te) vs σ H Q := h
theorem lcRv {n : Nat} (P : Nat → PyData → Prop) (hn : n ≤ 1000000) (hw : ∀ x, wipe ((wipe σ vs).set j (some x)) vs = wipe σ vs)
    (he : ∀ (i : Nat) H1, i < n → Same H H1 → ∀ Qt : VK, (∀ y H2 e, Same H1 H2 → R K H2 y e → P i e → Qt y H2) → te ((wipe σ vs).set j (some (.int (((n - 1 - i : Nat) : Nat) : Int)))) H1 Qt)
    (hq : ∀ v H1 es, Same H H1 → R K H1 v (.list es) → es.length = n → (∀ i e, es[i]? = some e → P i e) → Q v H1) : ∃ m, V.int (n : Int) = .int m ∧ LcRv m j te vs σ H Q := by
  refine ⟨n, rfl, by decide, by decide, by omega, by omega, ?_⟩
  have e : ((n : Int) - 0).toNat = n := by omega
  rw [e]
  refine lc_gen (K := K) (walk_rangeC (lo := 0 + (n : Int) - 1) (c := -1) (n := n)) (fun i x => i < n → x = .int (((n - 1 - i : Nat) : Nat) : Int)) (fun i H x H' y => ⟨y.1, fun hi => by rw [y.2]; show V.int (0 + (n : Int) - 1 + (i : Int) * (-1)) = _; rw [show (0 + (n : Int) - 1 + (i : Int) * (-1)) = (((n - 1 - i : Nat) : Nat) : Int) from by omega]⟩) (fun _ _ => True.intro) hn hw P (fun i x H1 hi hx sm Qt hQ => ?_) hq
  rw [hx hi]
  exact he i H1 hi sm Qt hQ
theorem lcRv0 {n : Nat} (P : Nat → PyData → Prop) (hn : n ≤ 1000000) (hw : ∀ x, wipe ((wipe σ vs).set j (some x)) vs = wipe σ vs)
    (he : ∀ (i : Nat) H1, i < n → Same H H1 → ∀ Qt : VK, (∀ y H2 e, Same H1 H2 → R K H2 y e → P i e → Qt y H2) → te ((wipe σ vs).set j (some (.int (((n - 1 - i : Nat) : Nat) : Int)))) H1 Qt)
    (hq : ∀ v H1 es, Same H H1 → R K H1 v (.list es) → es.length = n → (∀ i e, es[i]? = some e → P i e) → Q v H1) : LcRv (n : Int) j te vs σ H Q := by
  refine ⟨by decide, by decide, by omega, by omega, ?_⟩
  have e : ((n : Int) - 0).toNat = n := by omega
  rw [e]
  refine lc_gen (K := K) (walk_rangeC (lo := 0 + (n : Int) - 1) (c := -1) (n := n)) (fun i x => i < n → x = .int (((n - 1 - i : Nat) : Nat) : Int)) (fun i H x H' y => ⟨y.1, fun hi => by rw [y.2]; show V.int (0 + (n : Int) - 1 + (i : Int) * (-1)) = _; rw [show (0 + (n : Int) - 1 + (i : Int) * (-1)) = (((n - 1 - i : Nat) : Nat) : Int) from by omega]⟩) (fun _ _ => True.intro) hn hw P (fun i x H1 hi hx sm Qt hQ => ?_) hq
  rw [hx hi]
  exact he i H1 hi sm Qt hQ
end
/-! the stack of places still to be looked at: the last one on top -/
def wD (x : List Nat × Th) : PyData := .tuple [pls x.1, x.2.d]
def stk (one : Th) (ws : List (List Nat × Th)) : List (List Nat) := ws.reverse.flatMap fun x => (x.2.spots one).map (x.1 ++ ·)
theorem stk_snoc (one : Th) (ws : List (List Nat × Th)) (x : List Nat × Th) : stk one (ws ++ [x]) = (x.2.spots one).map (x.1 ++ ·) ++ stk one ws := by
  unfold stk
  rw [List.reverse_append]; rfl
/-- the args, the first one on top -/
def pushed (pl : List Nat) (as : List Th) : List (List Nat × Th) := (as.zipIdx.map fun x => (pl ++ [x.2], x.1)).reverse
theorem stk_push (one : Th) (pl : List Nat) (as : List Th) (ws : List (List Nat × Th)) : stk one (ws ++ pushed pl as) = (Th.spotsL as 0 one).map (pl ++ ·) ++ stk one ws := by
  unfold stk pushed
  rw [List.reverse_append, List.reverse_reverse, List.flatMap_append]
  congr 1
  have : ∀ (as : List Th) (i : Nat), ((as.zipIdx i).map fun x => (pl ++ [x.2], x.1)).flatMap (fun x : List Nat × Th => (x.2.spots one).map (x.1 ++ ·)) = (Th.spotsL as i one).map (pl ++ ·) := by
    intro as
    induction as with
    | nil => intro i; rfl
    | cons a as ih =>
      intro i
      rw [List.zipIdx_cons, List.map_cons, List.flatMap_cons, ih (i + 1), Th.spotsL, List.map_append, List.map_map]
      congr 1
      simp [Function.comp_def, List.append_assoc]
  exact this as 0
theorem pushed_at {pl : List Nat} {as : List Th} {i : Nat} (h : i < as.length) : (pushed pl as)[i]? = (as[as.length - 1 - i]?).map fun a => (pl ++ [as.length - 1 - i], a) := by
  unfold pushed
  have hl : i < (as.zipIdx.map fun x => (pl ++ [x.2], x.1)).length := by simpa using h
  rw [List.getElem?_reverse hl, List.length_map, List.length_zipIdx, List.getElem?_map, List.getElem?_zipIdx]
  have h2 : as.length - 1 - i < as.length := by omega
  rw [List.getElem?_eq_getElem h2]
  simp
def wsz (ws : List (List Nat × Th)) : Nat := Th.szs (ws.map (·.2))
theorem noLs_wD (ws : List (List Nat × Th)) : noLs (ws.map wD) = true := noLs_mem.mpr fun d hd => by
  obtain ⟨x, _, rfl⟩ := List.mem_map.mp hd
  simp [wD, noL, noLs, noL_pls, Th.noL]
def spWhere (K : PySem.W.Frag) : Sp := fun vs H Q _ => ∃ (v vo : V) (t one : Th) (F : List Str) (b : Nat), vs = [v, vo] ∧ R K H v t.d ∧ R K H vo one.d ∧ t.isT F b ∧ one.isT F b ∧ t.dep ≤ 90 ∧ one.dep ≤ 90 ∧ t.sz ≤ 400000 ∧ ∀ p H', H p = none → Same H H' → Lk K H' p ((t.spots one).map pls) → Q (.ref p) H'
theorem use_where {K : PySem.W.Frag} {H : Hp} {Q : VK} {E : XK} {v vo : V} {t one : Th} {F : List Str} {b : Nat} (r : R K H v t.d) (ro : R K H vo one.d) (ht : t.isT F b) (ho : one.isT F b) (hd : t.dep ≤ 90) (hd2 : one.dep ≤ 90) (hz : t.sz ≤ 400000) (h : ∀ p H', H p = none → Same H H' → Lk K H' p ((t.spots one).map pls) → Q (.ref p) H') : spWhere K [v, vo] H Q E :=
  ⟨v, vo, t, one, F, b, rfl, r, ro, ht, ho, hd, hd2, hz, h⟩
theorem pop_L {K : PySem.W.Frag} {H : Hp} {Q : VK} {l : Addr} {ds : List PyData} {d : PyData} (h : Lk K H l (ds ++ [d])) (q : ∀ v H', SameX l H H' → Lk K H' l ds → R K H' v d → Q v H') : rPop (.ref l) [] H Q := by
  obtain ⟨xs, h1, h2⟩ := h.ex
  have n := h.no
  exact popR (K := K) h1 h2 n fun v ws H' x hl ra rv => q v H' x ⟨⟨ws, hl, ra⟩, by rw [noLs_append] at n; simp only [Bool.and_eq_true] at n; exact n.1⟩ rv
theorem szs_app' : ∀ (xs ys : List Th), Th.szs (xs ++ ys) = Th.szs xs + Th.szs ys
  | [], ys => by simp [Th.szs]
  | x :: xs, ys => by rw [List.cons_append, Th.szs, szs_app' xs ys, Th.szs]; omega
theorem szs_rev : ∀ xs : List Th, Th.szs xs.reverse = Th.szs xs
  | [] => rfl
  | x :: xs => by rw [List.reverse_cons, szs_app', szs_rev xs]; simp [Th.szs]; omega
theorem wsz_snoc (ws : List (List Nat × Th)) (x : List Nat × Th) : wsz (ws ++ [x]) = wsz ws + x.2.sz := by
  unfold wsz; rw [List.map_append, szs_app']; simp [Th.szs]
theorem wsz_push (ws : List (List Nat × Th)) (pl : List Nat) (as : List Th) : wsz (ws ++ pushed pl as) = wsz ws + Th.szs as := by
  unfold wsz pushed
  rw [List.map_append, szs_app', List.map_reverse, szs_rev, List.map_map]
  congr 2
  have : ∀ (as : List Th) (i : Nat), (as.zipIdx i).map ((fun x : List Nat × Th => x.2) ∘ fun x : Th × Nat => (pl ++ [x.2], x.1)) = as := by
    intro as
    induction as with
    | nil => intro i; rfl
    | cons a as ih => intro i; rw [List.zipIdx_cons, List.map_cons, ih]; rfl
  exact this as 0
theorem Th.sz_args {F : List Str} {b : Nat} (t : Th) (ht : t.isT F b) : t.sz = 1 + Th.szs t.args := by
  cases t with
  | app w c args =>
    cases w with
    | atom => exact absurd ht (by intro h; exact h)
    | form | call => simp only [Th.sz, Th.args]; omega
  | free x => rfl
  | bnd j => rfl
  | fls => exact absurd ht (by intro h; exact h)
  | qua w c a => exact absurd ht (by intro h; exact h)
  | two w a b => exact absurd ht (by intro h; exact h)
theorem Th.args_ok {F : List Str} {b n : Nat} (t : Th) (ht : t.isT F b) (hd : t.dep ≤ n + 1) : ∀ a ∈ t.args, a.isT F b ∧ a.dep ≤ n := by
  intro a ha
  cases t with
  | app w c args =>
    cases w with
    | atom => exact absurd ht (by intro h; exact h)
    | form | call =>
      simp only [Th.dep] at hd
      have hda := Th.deps_le.mp (Nat.le_refl (Th.deps args)) a ha
      exact ⟨Th.areT_all.mp ht.2.2 a ha, by omega⟩
  | _ => cases ha
theorem wsz_len (ws : List (List Nat × Th)) : ws.length ≤ wsz ws := by
  have := len_szs (ws.map (·.2)); rw [List.length_map] at this; exact this
end G

namespace G
open PySem PySem.Spec PyProof.Rows L2
/-- two places neither of which is within the other -/
def apart : List Nat → List Nat → Prop
  | i :: r, j :: s => i ≠ j ∨ (i = j ∧ apart r s)
  | _, _ => False
theorem getD_set_ne {as : List Th} {i j : Nat} {x : Th} (h : i ≠ j) : (as.set i x).getD j .fls = as.getD j .fls := by
  rw [List.getD_eq_getElem?_getD, List.getD_eq_getElem?_getD, List.getElem?_set_ne h]
theorem getD_set_eq {as : List Th} {i : Nat} {x : Th} (h : i < as.length) : (as.set i x).getD i .fls = x := by
  rw [List.getD_eq_getElem?_getD, List.getElem?_set_self h]; rfl
theorem okP_apart {o : Th} : ∀ (p q : List Nat) (t : Th), apart p q → t.okP p → t.okP q → (t.withP p o).okP q
  | i :: r, j :: s, .app w c as, ha, h1, h2 => by
    obtain ⟨hi, hr⟩ := h1
    obtain ⟨hj, hs⟩ := h2
    rw [Th.withP_app hi]
    refine ⟨by rw [List.length_set]; exact hj, ?_⟩
    rcases ha with ha | ⟨rfl, ha⟩
    · rw [getD_set_ne ha]; exact hs
    · rw [getD_set_eq hi]; exact okP_apart r s _ ha hr hs
  | [], _, _, ha, _, _ => by simp [apart] at ha
  | _ :: _, [], _, ha, _, _ => by simp [apart] at ha
  | _ :: _, _ :: _, .free _, _, h1, _ => by simp [Th.okP] at h1
  | _ :: _, _ :: _, .bnd _, _, h1, _ => by simp [Th.okP] at h1
  | _ :: _, _ :: _, .fls, _, h1, _ => by simp [Th.okP] at h1
  | _ :: _, _ :: _, .qua _ _ _, _, h1, _ => by simp [Th.okP] at h1
  | _ :: _, _ :: _, .two _ _ _, _, h1, _ => by simp [Th.okP] at h1
theorem spots_leaf {t one : Th} (h : t.spots one = bif PyData.eqv t.d one.d then [[]] else []) : (∀ q ∈ t.spots one, t.okP q) ∧ (t.spots one).Pairwise apart := by
  rw [h]
  cases PyData.eqv t.d one.d
  · exact ⟨(fun q hq => by cases hq), .nil⟩
  · refine ⟨fun q hq => ?_, List.pairwise_singleton _ _⟩
    have hq : q ∈ [[]] := hq
    rw [List.mem_singleton.mp hq]
    cases t <;> exact True.intro
mutual
theorem Th.spots_ok : ∀ (t one : Th), (∀ q ∈ t.spots one, t.okP q) ∧ (t.spots one).Pairwise apart
  | .app w c as, one => by
    have h := Th.spotsL_ok as 0 one
    unfold Th.spots
    cases PyData.eqv (Th.app w c as).d one.d
    · refine ⟨fun q hq => ?_, h.2⟩
      obtain ⟨i, r, rfl, h1, h2, h3⟩ := h.1 q hq
      exact ⟨by omega, by simpa using h3⟩
    · refine ⟨fun q hq => ?_, List.pairwise_singleton _ _⟩
      have hq : q ∈ [[]] := hq
      rw [List.mem_singleton.mp hq]; exact True.intro
  | .free x, one => spots_leaf (by unfold Th.spots; rfl)
  | .bnd x, one => spots_leaf (by unfold Th.spots; rfl)
  | .fls, one => spots_leaf (by unfold Th.spots; rfl)
  | .qua w c a, one => spots_leaf (by unfold Th.spots; rfl)
  | .two w a b, one => spots_leaf (by unfold Th.spots; rfl)
theorem Th.spotsL_ok : ∀ (as : List Th) (n : Nat) (one : Th), (∀ q ∈ Th.spotsL as n one, ∃ i r, q = i :: r ∧ n ≤ i ∧ i < n + as.length ∧ (as.getD (i - n) .fls).okP r) ∧ (Th.spotsL as n one).Pairwise apart
  | [], n, one => ⟨(fun q hq => by simp [Th.spotsL] at hq), by simp [Th.spotsL]⟩
  | a :: as, n, one => by
    have h1 := Th.spots_ok a one
    have h2 := Th.spotsL_ok as (n + 1) one
    rw [Th.spotsL]
    refine ⟨fun q hq => ?_, List.pairwise_append.mpr ⟨?_, h2.2, fun q hq q' hq' => ?_⟩⟩
    · rcases List.mem_append.mp hq with hq | hq
      · obtain ⟨r, hr, rfl⟩ := List.mem_map.mp hq
        exact ⟨n, r, rfl, Nat.le_refl _, by simp, by simpa using h1.1 r hr⟩
      · obtain ⟨i, r, rfl, q1, q2, q3⟩ := h2.1 q hq
        refine ⟨i, r, rfl, by omega, by simp; omega, ?_⟩
        have e : i - n = (i - (n + 1)) + 1 := by omega
        rw [e]; simpa using q3
    · refine List.Pairwise.map _ (fun x y hxy => ?_) h1.2
      exact .inr ⟨rfl, hxy⟩
    · obtain ⟨r, hr, rfl⟩ := List.mem_map.mp hq
      obtain ⟨i, s, rfl, q1, q2, q3⟩ := h2.1 q' hq'
      exact .inl (by omega)
end
/-- the turns of a walk: the terms as they stand, and the statements told -/
def stepP (told other : Th) (k : Nat) (acc : List Th × List Th) (q : List Nat) : List Th × List Th :=
  (acc.1.set k ((acc.1.getD k .fls).withP q other), acc.2 ++ [told.withTs (acc.1.set k ((acc.1.getD k .fls).withP q other))])
def walkT (told one other : Th) : List Th := (told.termsOf.zipIdx.foldl (fun acc x => (x.1.spots one).foldl (stepP told other x.2) acc) (told.termsOf, [told])).2
end G

namespace G
open PySem PySem.Spec PyProof.Rows L2
theorem pop0_L {K : PySem.W.Frag} {H : Hp} {Q : VK} {l : Addr} {ds : List PyData} {d : PyData} (h : Lk K H l (d :: ds)) (hz : ds.length + 1 ≤ 1000000) (q : ∀ v H', SameX l H H' → Lk K H' l ds → R K H' v d → Q v H') : rPopAt (.ref l) [.int 0] H Q := by
  obtain ⟨xs, h1, h2⟩ := h.ex
  obtain ⟨v, ws, rfl, r1, rw1⟩ := h2.inv_cons
  have n := h.no
  simp only [noLs, Bool.and_eq_true] at n
  have sx : SameX l H (upd H l (.lst ws)) := .upd
  have fin := q v _ sx ⟨⟨ws, upd_same, rw1.monoX sx h1 n.2⟩, n.2⟩ (r1.monoX sx h1 n.1)
  exact ⟨l, v :: ws, 0, 0, v, rfl, rfl, h1, by decide, by decide, by unfold seqIndex?; simp, rfl, fin⟩
/-- a comprehension over a tuple whose body takes from the list at l -/
theorem lcT_P {K : PySem.W.Frag} {te : TE} {vs : List Nat} {σ : L2.St} {H : Hp} {Q : VK} {j : Nat} {l : Addr} {x : V} {ds : List PyData} (es : List PyData) (rest : Nat → List PyData) (hes : es.length = ds.length) (hen : noLs es = true) (hl : Lk K H l (rest 0)) (r : R K H x (.tuple ds)) (hnl : noLs ds = true) (hn : ds.length ≤ 1000000)
    (hw : ∀ x, wipe ((wipe σ vs).set j (some x)) vs = wipe σ vs)
    (he : ∀ k v d e H1, ds[k]? = some d → es[k]? = some e → R K H1 v d → SameX l H H1 → Lk K H1 l (rest k) → ∀ Qt : VK, (∀ y H2, SameX l H1 H2 → Lk K H2 l (rest (k + 1)) → R K H2 y e → Qt y H2) → te ((wipe σ vs).set j (some v)) H1 Qt)
    (hq : ∀ v H1, SameX l H H1 → Lk K H1 l (rest ds.length) → R K H1 v (.list es) → Q v H1) : LcT K j te vs σ x H Q := by
  obtain ⟨a, ws, rfl, ha, rds⟩ := r.inv_tup
  have hlen := rds.length
  obtain ⟨xl, hxl0, _⟩ := hl.ex
  refine ⟨a, rfl, ⟨ws, ha⟩, ?_⟩
  intro D hD
  have hDl : l ≠ D := fresh_ne hD hl
  let Pv : Nat → Hp → Prop := fun k H' => ∃ Hb xs, H' = upd Hb D (.lst xs) ∧ Hb D = none ∧ SameX l H Hb ∧ Lk K Hb l (rest k) ∧ k ≤ ds.length ∧ RA K Hb xs (es.take k)
  refine L2.lc_it (walk_tup (K := K) (a := a) (xs := ws)) Pv ?_ ?_ ?_ ?_
  · exact ⟨H, [], rfl, hD, SameX.refl _, hl, Nat.zero_le _, .nil⟩
  · rintro k H' hi ⟨Hb, xs, rfl, hb, sm, _⟩
    exact (same_new hb _).tup (SameX.tupL sm hl ha)
  · rintro k y H' H'' hi ⟨Hb, xs, rfl, hb, sm, hj, hk, hxs⟩ yy
    obtain ⟨rfl, hx⟩ := yy
    obtain ⟨d, e1, e2⟩ := rds.getV hx
    have hnd : noL d = true := noLs_mem.mp hnl d (List.mem_of_getElem? e1)
    refine ⟨hw y, ?_⟩
    unfold tYes
    dsimp only
    rw [if_pos rfl]
    refine ⟨D, xs, upd_same, ?_⟩
    rw [hide_upd hb]
    have hkl : k < ds.length := (List.getElem?_eq_some_iff.mp e1).1
    have hke : k < es.length := by omega
    have hxl : xs.length = k := by rw [hxs.length, List.length_take]; omega
    have e3 : es[k]? = some es[k] := List.getElem?_eq_getElem hke
    obtain ⟨xb, hxb, _⟩ := hj.ex
    refine he k y d es[k] Hb e1 e3 (e2.monoX sm hxl0 hnd) sm hj _ fun z H2 s2 hj2 rz n2 => ⟨xs, upd_same, ?_, ?_⟩
    · exact Nat.lt_of_le_of_lt (by omega : xs.length ≤ 1000000) (by decide)
    · rw [upd_upd]
      refine ⟨H2, xs ++ [z], rfl, n2, sm.trans s2, hj2, hkl, ?_⟩
      rw [List.take_add_one, e3]
      exact (hxs.monoX s2 hxb (noLs_take hen)).append (.cons rz .nil)
  · rintro H' ⟨Hb, xs, rfl, hb, sm, hj, hk, hxs⟩
    rw [hlen, ← hes, List.take_length] at hxs
    rw [hlen] at hj
    have sn : Same Hb (upd Hb D (.lst xs)) := same_new hb _
    exact hq _ _ (sm.trans (SameX.of sn)) (hj.mono sn) (.lst upd_same (hxs.mono sn))
def spWithL (K : PySem.W.Frag) (m : Nat) : Sp := fun vs H Q _ => ∃ (v : V) (l : Addr) (t : Th) (ts : List Th) (F : List Str) (b : Nat), vs = [v, .ref l] ∧ R K H v t.d ∧ Lk K H l (Th.ds ts) ∧ t.isS F b ∧ t.termsOf.length ≤ ts.length ∧ ts.length ≤ 400000 ∧ t.dep ≤ m ∧ t.sz ≤ 400000 ∧
  ∀ y H', SameX l H H' → Lk K H' l (Th.ds (ts.drop t.termsOf.length)) → R K H' y (t.withTs (ts.take t.termsOf.length)).d → Q y H'
theorem use_withL {K : PySem.W.Frag} {m : Nat} {H : Hp} {Q : VK} {E : XK} {v : V} {l : Addr} {t : Th} {ts : List Th} {F : List Str} {b : Nat} (r : R K H v t.d) (kl : Lk K H l (Th.ds ts)) (ht : t.isS F b) (hl : t.termsOf.length ≤ ts.length) (hl2 : ts.length ≤ 400000) (hd : t.dep ≤ m) (hz : t.sz ≤ 400000)
    (h : ∀ y H', SameX l H H' → Lk K H' l (Th.ds (ts.drop t.termsOf.length)) → R K H' y (t.withTs (ts.take t.termsOf.length)).d → Q y H') : spWithL K m [v, .ref l] H Q E := ⟨v, l, t, ts, F, b, rfl, r, kl, ht, hl, hl2, hd, hz, h⟩
end G

namespace G
open PySem PySem.Spec PyProof.Rows L2
/-! the list at l, each of its values known, and whatever changes elsewhere -/
structure Lx (K : PySem.W.Frag) (H : Hp) (l : Addr) (xs : List V) (ds : List PyData) : Prop where
  at_ : H l = some (.lst xs)
  ra : RA K H xs ds
  no : noLs ds = true
section
variable {K : PySem.W.Frag} {H H' : Hp} {l m : Addr} {xs : List V} {ds es : List PyData}
theorem Lx.mono (h : Lx K H l xs ds) (s : Same H H') : Lx K H' l xs ds := ⟨s _ _ h.at_, h.ra.mono s, h.no⟩
theorem Lx.lx (h : Lx K H l xs ds) (x : SameX m H H') (hm : Lk K H m es) (ne : l ≠ m) : Lx K H' l xs ds := by
  obtain ⟨ys, h1, h2⟩ := hm.ex
  exact ⟨x _ _ ne h.at_, h.ra.monoX x h1 h.no, h.no⟩
theorem Lk.xs_ex (h : Lk K H l ds) : ∃ xs, Lx K H l xs ds := by
  obtain ⟨ys, h1, h2⟩ := h.ex
  exact ⟨ys, h1, h2, h.no⟩
theorem Lx.k (h : Lx K H l xs ds) : Lk K H l ds := ⟨⟨xs, h.at_, h.ra⟩, h.no⟩
/-- a store into a list of one's own -/
theorem set_L {QH : Hp → Prop} {y : V} {d : PyData} {i : Nat} (h : Lk K H l ds) (r : G.R K H y d) (hi : i < ds.length) (hz : ds.length ≤ 1000000) (n : noL d = true) (q : ∀ H', SameX l H H' → Lk K H' l (ds.set i d) → QH H') : rSetL (.ref l) (.int (i : Nat)) y H QH := by
  obtain ⟨xs, h2, h3⟩ := h.ex
  exact setR h2 h3 r hi hz h.no n fun ws H' sx hl ra => q H' sx ⟨⟨ws, hl, ra⟩, noLs_mem.mpr fun e he => by
    rcases List.mem_or_eq_of_mem_set he with he | he
    · exact noLs_mem.mp h.no e he
    · rw [he]; exact n⟩
end
theorem listFL {K : PySem.W.Frag} {H : Hp} {Q : VK} {l : Addr} {ds : List PyData} (h : Lk K H l ds) (q : ∀ p H', H p = none → Same H H' → Lk K H' p ds → Q (.ref p) H') : rListF K [.ref l] H Q := by
  obtain ⟨ys, h1, h2⟩ := h.ex
  exact ⟨l, ys, rfl, .inl (.inl (.inl h1)), fun p hp => q p _ hp (same_new hp _) ⟨⟨ys, upd_same, h2.mono (same_new hp _)⟩, h.no⟩⟩
def ForEL (K : PySem.W.Frag) (g : TG) (tb : TS) (D : Ends) (σ : L2.St) (vs : List V) (H : Hp) : Prop := ∃ a xs, vs = [.ref a] ∧ SqL K H a xs ∧ ForG (Ite K a) g tb D σ H
section
variable {K : PySem.W.Frag} {ta : TA} {g : TG} {tb : TS} {D : Ends} {σ : L2.St} {H : Hp} {i j : Nat} {nx bk ct : L2.St → Hp → Prop} {rt : VK}
theorem st_forEL (h : ta σ H fun vs H1 => ForEL K g tb D σ vs H1) : tFor (iEnum K ta) g tb D σ H := by exact h
/-- enumerate over a list that stands, whatever else changes -/
theorem for_EL {l : Addr} {xs : List V} {ds : List PyData} (Pv : Nat → L2.St → Hp → Prop) (start : Pv 0 σ H) (keep : ∀ k σ' H', Pv k σ' H' → Lx K H' l xs ds) (mono : ∀ k σ' H' H'', Pv k σ' H' → Same H' H'' → Pv k σ' H'')
    (turn : ∀ (k : Nat) d v σ' H', ds[k]? = some d → R K H' v d → Pv k σ' H' → tb ⟨Pv (k + 1), rt, nx, Pv (k + 1)⟩ ((σ'.set i (some (.int (k : Int)))).set j (some v)) H') (fin : ∀ σ' H', Pv ds.length σ' H' → nx σ' H') : ForEL K (g2 K i j) tb ⟨nx, rt, bk, ct⟩ σ [.ref l] H := by
  have h0 := keep 0 σ H start
  refine ⟨l, xs, rfl, .inl (.inl h0.at_), ?_⟩
  rw [← h0.ra.length] at fin
  refine for_it (walk_enum (K := K) (a := l) (xs := xs)) (g := g2 K i j) (tb := tb) (D := ⟨nx, rt, bk, ct⟩) Pv start (fun k σ' H' _ p => .inl (.inl (keep _ _ _ p).at_)) (fun k y σ' H' H'' hk p q => ?_) fin
  obtain ⟨T, y1, y2, rfl, hT, rfl, h1, h2⟩ := q
  cases h1
  obtain ⟨d, e1, e2⟩ := (keep _ _ _ p).ra.getV h2
  have s0 : Same H' (upd H' T (.tup [.int (k : Int), y2])) := same_new hT _
  exact ⟨T, _, rfl, .inl (.inl upd_same), rfl, _, _, rfl, _, _, rfl, rfl, turn k d y2 σ' _ e1 (e2.mono s0) (mono _ _ _ _ p s0)⟩
/-- for over a list that stands, whatever else changes -/
theorem for_Lx {l : Addr} {xs : List V} {ds : List PyData} (Pv : Nat → L2.St → Hp → Prop) (start : Pv 0 σ H) (keep : ∀ k σ' H', Pv k σ' H' → Lx K H' l xs ds)
    (turn : ∀ (k : Nat) d v σ' H', ds[k]? = some d → R K H' v d → Pv k σ' H' → tb ⟨Pv (k + 1), rt, nx, Pv (k + 1)⟩ (σ'.set j (some v)) H') (fin : ∀ σ' H', Pv ds.length σ' H' → nx σ' H') : ForL K (gName j) tb ⟨nx, rt, bk, ct⟩ σ (.ref l) H := by
  have h0 := keep 0 σ H start
  refine for_LDl (l := l) (ds := ds) Pv start (fun k σ' H' p => (keep k σ' H' p).k) turn fin fun ys hy k σ' H' p => ?_
  rw [h0.at_] at hy
  cases hy
  exact (keep k σ' H' p).at_
end
/-! the plain law of a walk -/
theorem Th.termsOf_ok {F : List Str} : ∀ (t : Th) {n : Nat}, t.isS F n → ∀ p ∈ t.termsOf, p.isT F (n + t.dep) ∧ p.dep ≤ t.dep ∧ p.sz ≤ t.sz
  | .fls, _, _, p, hp => absurd hp (by simp [Th.termsOf])
  | .two .same a b, n, h, p, hp => by
    simp only [Th.termsOf, List.mem_cons, List.not_mem_nil, or_false] at hp
    simp only [Th.dep, Th.sz]
    rcases hp with rfl | rfl
    · exact ⟨Th.isT_mono (Nat.le_add_right _ _) h.1, by omega, by omega⟩
    · exact ⟨Th.isT_mono (Nat.le_add_right _ _) h.2, by omega, by omega⟩
  | .app .atom c args, n, h, p, hp => by
    have hp : p ∈ args := hp
    have h1 := Th.areT_all.mp h.2.2 p hp
    have h2 := Th.deps_le.mp (Nat.le_refl (Th.deps args)) _ hp
    have h3 := sz_mem hp
    simp only [Th.dep, Th.sz]
    exact ⟨Th.isT_mono (Nat.le_add_right _ _) h1, by omega, by omega⟩
  | .qua w k a, n, h, p, hp => by
    have := Th.termsOf_ok a h.2 p hp
    simp only [Th.dep, Th.sz]
    exact ⟨Th.isT_mono (by omega) this.1, by omega, by omega⟩
  | .two .and a b, n, h, p, hp => by
    simp only [Th.dep, Th.sz]
    rcases List.mem_append.mp hp with hp | hp
    · have := Th.termsOf_ok a h.1 p hp
      exact ⟨Th.isT_mono (by omega) this.1, by omega, by omega⟩
    · have := Th.termsOf_ok b h.2 p hp
      exact ⟨Th.isT_mono (by omega) this.1, by omega, by omega⟩
  | .two .or a b, n, h, p, hp => by
    simp only [Th.dep, Th.sz]
    rcases List.mem_append.mp hp with hp | hp
    · have := Th.termsOf_ok a h.1 p hp
      exact ⟨Th.isT_mono (by omega) this.1, by omega, by omega⟩
    · have := Th.termsOf_ok b h.2 p hp
      exact ⟨Th.isT_mono (by omega) this.1, by omega, by omega⟩
  | .two .iff a b, n, h, p, hp => by
    simp only [Th.dep, Th.sz]
    rcases List.mem_append.mp hp with hp | hp
    · have := Th.termsOf_ok a h.1 p hp
      exact ⟨Th.isT_mono (by omega) this.1, by omega, by omega⟩
    · have := Th.termsOf_ok b h.2 p hp
      exact ⟨Th.isT_mono (by omega) this.1, by omega, by omega⟩
theorem Th.termsOf_szs {F : List Str} : ∀ (t : Th) {n : Nat}, t.isS F n → Th.szs t.termsOf ≤ t.sz
  | .fls, _, _ => by simp [Th.termsOf, Th.szs]
  | .two .same a b, _, _ => by simp only [Th.termsOf, Th.sz, Th.szs]; omega
  | .app .atom c args, _, _ => by simp only [Th.termsOf, Th.sz]; omega
  | .qua w k a, _, h => by have := Th.termsOf_szs a h.2; simp only [Th.termsOf, Th.sz]; omega
  | .two .and a b, _, h => by have := Th.termsOf_szs a h.1; have := Th.termsOf_szs b h.2; simp only [Th.termsOf, Th.sz, szs_app']; omega
  | .two .or a b, _, h => by have := Th.termsOf_szs a h.1; have := Th.termsOf_szs b h.2; simp only [Th.termsOf, Th.sz, szs_app']; omega
  | .two .iff a b, _, h => by have := Th.termsOf_szs a h.1; have := Th.termsOf_szs b h.2; simp only [Th.termsOf, Th.sz, szs_app']; omega
theorem okP_len : ∀ (q : List Nat) (t : Th), t.okP q → q.length < t.dep
  | [], t, _ => t.dep_pos
  | k :: ks, .app w c args, h => by
    have hm : args.getD k .fls ∈ args := by rw [List.getD_eq_getElem?_getD, List.getElem?_eq_getElem h.1]; exact List.getElem_mem h.1
    have h3 := Th.deps_le.mp (Nat.le_refl (Th.deps args)) _ hm
    have h4 := okP_len ks _ h.2
    simp only [Th.dep, List.length_cons]
    omega
theorem withP_dep' {o : Th} {M : Nat} : ∀ (q : List Nat) (t : Th), t.okP q → t.dep ≤ M → q.length + o.dep ≤ M → (t.withP q o).dep ≤ M
  | [], t, _, _, h2 => by rw [Th.withP]; simpa using h2
  | k :: ks, .app w c args, h, h1, h2 => by
    rw [Th.withP_app h.1]
    have hm : args.getD k .fls ∈ args := by rw [List.getD_eq_getElem?_getD, List.getElem?_eq_getElem h.1]; exact List.getElem_mem h.1
    have h3 := Th.deps_le.mp (Nat.le_refl (Th.deps args)) _ hm
    simp only [Th.dep] at h1 ⊢
    simp only [List.length_cons] at h2
    have h4 := withP_dep' (o := o) (M := M - 1) ks _ h.2 (by omega) (by omega)
    have := deps_set (m := M - 1) (ts := args) (k := k) (x := (args.getD k .fls).withP ks o) (by omega) h4
    omega
theorem lay_ds {ts : List Th} (h : ∀ x ∈ ts, x.d.canLay0 = true) : PyData.canLayAll0 (Th.ds ts) = true := by
  induction ts with
  | nil => rfl
  | cons t ts ih =>
    simp only [Th.ds, PyData.canLayAll0, Bool.and_eq_true]
    exact ⟨h t (List.mem_cons_self ..), ih fun x hx => h x (List.mem_cons_of_mem _ hx)⟩
theorem lay_getD {ts : List Th} (h : ∀ x ∈ ts, x.d.canLay0 = true) (i : Nat) : (ts.getD i .fls).d.canLay0 = true := by
  rw [List.getD_eq_getElem?_getD]
  cases e : ts[i]? with
  | none => exact by simp [Th.d, PyData.canLay0, PyData.canLayAll0, false_ok]
  | some x => exact h x (List.mem_of_getElem? e)
theorem Th.withTs_lay {F : List Str} : ∀ (t : Th) {n : Nat} (ts : List Th), t.isS F n → (∀ x ∈ ts, x.d.canLay0 = true) → (t.withTs ts).d.canLay0 = true
  | .fls, _, _, _, _ => by simp [Th.withTs, Th.d, PyData.canLay0, PyData.canLayAll0, false_ok]
  | .two .same a b, _, ts, h, hl => by simp only [Th.withTs]; simp [Th.d, PyData.canLay0, PyData.canLayAll0, BW.ok, lay_getD hl 0, lay_getD hl 1, -List.getD_eq_getElem?_getD]
  | .app .atom c args, _, ts, h, hl => by simp [Th.withTs, Th.d, PyData.canLay0, PyData.canLayAll0, lay_ds hl, AW.ok, name_ok h.1]
  | .two .and a b, _, ts, h, hl => by simp [Th.withTs, Th.d, PyData.canLay0, PyData.canLayAll0, BW.ok, Th.withTs_lay a _ h.1 (fun x hx => hl x (List.mem_of_mem_take hx)), Th.withTs_lay b _ h.2 (fun x hx => hl x (List.mem_of_mem_drop hx))]
  | .two .or a b, _, ts, h, hl => by simp [Th.withTs, Th.d, PyData.canLay0, PyData.canLayAll0, BW.ok, Th.withTs_lay a _ h.1 (fun x hx => hl x (List.mem_of_mem_take hx)), Th.withTs_lay b _ h.2 (fun x hx => hl x (List.mem_of_mem_drop hx))]
  | .two .iff a b, _, ts, h, hl => by simp [Th.withTs, Th.d, PyData.canLay0, PyData.canLayAll0, BW.ok, Th.withTs_lay a _ h.1 (fun x hx => hl x (List.mem_of_mem_take hx)), Th.withTs_lay b _ h.2 (fun x hx => hl x (List.mem_of_mem_drop hx))]
  | .qua w k a, _, ts, h, hl => by simp [Th.withTs, Th.d, PyData.canLay0, PyData.canLayAll0, QW.ok, name_ok h.1, Th.withTs_lay a ts h.2 hl]
theorem dep_getD {ts : List Th} {M : Nat} (h0 : 1 ≤ M) (h : ∀ x ∈ ts, x.dep ≤ M) (i : Nat) : (ts.getD i .fls).dep ≤ M := by
  rw [List.getD_eq_getElem?_getD]
  cases e : ts[i]? with
  | none => exact h0
  | some x => exact h x (List.mem_of_getElem? e)
theorem Th.withTs_dep {F : List Str} {M : Nat} (h0 : 1 ≤ M) : ∀ (t : Th) {n : Nat} (ts : List Th), t.isS F n → (∀ x ∈ ts, x.dep ≤ M) → (t.withTs ts).dep ≤ t.dep + M
  | .fls, _, _, _, _ => by simp [Th.withTs]
  | .two .same a b, _, ts, h, hl => by
    have := dep_getD h0 hl 0
    have := dep_getD h0 hl 1
    simp only [Th.withTs, Th.dep]
    omega
  | .app .atom c args, _, ts, h, hl => by
    have := Th.deps_le.mpr hl
    simp only [Th.withTs, Th.dep]
    omega
  | .two .and a b, _, ts, h, hl => by
    have := Th.withTs_dep h0 a _ h.1 (fun x hx => hl x (List.mem_of_mem_take (i := a.termsOf.length) hx))
    have := Th.withTs_dep h0 b _ h.2 (fun x hx => hl x (List.mem_of_mem_drop (i := a.termsOf.length) hx))
    simp only [Th.withTs, Th.dep]
    omega
  | .two .or a b, _, ts, h, hl => by
    have := Th.withTs_dep h0 a _ h.1 (fun x hx => hl x (List.mem_of_mem_take (i := a.termsOf.length) hx))
    have := Th.withTs_dep h0 b _ h.2 (fun x hx => hl x (List.mem_of_mem_drop (i := a.termsOf.length) hx))
    simp only [Th.withTs, Th.dep]
    omega
  | .two .iff a b, _, ts, h, hl => by
    have := Th.withTs_dep h0 a _ h.1 (fun x hx => hl x (List.mem_of_mem_take (i := a.termsOf.length) hx))
    have := Th.withTs_dep h0 b _ h.2 (fun x hx => hl x (List.mem_of_mem_drop (i := a.termsOf.length) hx))
    simp only [Th.withTs, Th.dep]
    omega
  | .qua w k a, _, ts, h, hl => by
    have := Th.withTs_dep h0 a ts h.2 hl
    simp only [Th.withTs, Th.dep]
    omega
/-- how much is still to be found from the k-th term on -/
def due (told one : Th) (k : Nat) : Nat := ((told.termsOf.drop k).map fun t => (t.spots one).length).sum
structure WO (told one : Th) (F : List Str) (B M k : Nat) (acc : List Th × List Th) : Prop where
  len : acc.1.length = told.termsOf.length
  rest : ∀ i, k ≤ i → acc.1[i]? = told.termsOf[i]?
  is : ∀ x ∈ acc.1, x.isT F B ∧ x.dep ≤ M
  found : ∀ s ∈ acc.2, s.d.canLay0 = true ∧ s.dep ≤ told.dep + M
  size : acc.2.length + due told one k ≤ told.sz + 1
structure WI (told one : Th) (F : List Str) (B M k : Nat) (ps : List (List Nat)) (acc : List Th × List Th) : Prop where
  lt : k < told.termsOf.length
  len : acc.1.length = told.termsOf.length
  rest : ∀ i, k + 1 ≤ i → acc.1[i]? = told.termsOf[i]?
  ok : ∀ q ∈ ps, (acc.1.getD k .fls).okP q ∧ q.length ≤ told.dep
  ap : ps.Pairwise apart
  is : ∀ x ∈ acc.1, x.isT F B ∧ x.dep ≤ M
  found : ∀ s ∈ acc.2, s.d.canLay0 = true ∧ s.dep ≤ told.dep + M
  size : acc.2.length + ps.length + due told one (k + 1) ≤ told.sz + 1
theorem due_le {F : List Str} {told one : Th} {b : Nat} (h : told.isS F b) : due told one 0 ≤ told.sz := by
  have h1 : ∀ ts : List Th, (ts.map fun t => (t.spots one).length).sum ≤ Th.szs ts := by
    intro ts
    induction ts with
    | nil => simp
    | cons t ts ih => have := Th.spots_len t one; simp only [List.map_cons, List.sum_cons, Th.szs]; omega
  exact Nat.le_trans (h1 _) (Th.termsOf_szs told h)
theorem WO.start {told one other : Th} {F : List Str} {b B M : Nat} (h : told.isS F b) (hB : b + told.dep ≤ B) (hM : told.dep + other.dep ≤ M) : WO told one F B M 0 (told.termsOf, [told]) := by
  refine ⟨rfl, fun _ _ => rfl, fun x hx => ?_, fun s hs => ?_, ?_⟩
  · have := Th.termsOf_ok told h x hx
    exact ⟨Th.isT_mono hB this.1, by omega⟩
  · rw [List.mem_singleton.mp hs]
    exact ⟨Th.layS told h, by omega⟩
  · have := due_le (one := one) h
    simp only [List.length_singleton]
    omega
theorem WO.turn {told one : Th} {F : List Str} {b B M k : Nat} {acc : List Th × List Th} (h : WO told one F B M k acc) (ht : told.isS F b) (hk : k < told.termsOf.length) : WI told one F B M k ((told.termsOf.getD k .fls).spots one) acc := by
  have e1 : acc.1.getD k .fls = told.termsOf.getD k .fls := by rw [List.getD_eq_getElem?_getD, h.rest k (Nat.le_refl _), ← List.getD_eq_getElem?_getD]
  have hm : told.termsOf.getD k .fls ∈ told.termsOf := by rw [List.getD_eq_getElem?_getD, List.getElem?_eq_getElem hk]; exact List.getElem_mem hk
  have e2 : due told one k = ((told.termsOf.getD k .fls).spots one).length + due told one (k + 1) := by
    unfold due
    rw [List.drop_eq_getElem_cons hk, List.map_cons, List.sum_cons, List.getD_eq_getElem?_getD, List.getElem?_eq_getElem hk]
    rfl
  have hs := Th.spots_ok (told.termsOf.getD k .fls) one
  refine ⟨hk, h.len, fun i hi => h.rest i (by omega), fun q hq => ?_, hs.2, h.is, h.found, by have := h.size; omega⟩
  rw [e1]
  have h1 := hs.1 q hq
  have h2 := okP_len q _ h1
  have h3 := (Th.termsOf_ok told ht _ hm).2.1
  exact ⟨h1, by omega⟩
theorem WI.next {told one : Th} {F : List Str} {B M k : Nat} {acc : List Th × List Th} (h : WI told one F B M k [] acc) : WO told one F B M (k + 1) acc :=
  ⟨h.len, h.rest, h.is, h.found, by have := h.size; simpa using this⟩
theorem WI.step {told one other : Th} {F : List Str} {b B M k : Nat} {q : List Nat} {ps : List (List Nat)} {acc : List Th × List Th} (h : WI told one F B M k (q :: ps) acc) (ht : told.isS F b) (ho : other.isT F B) (hM : told.dep + other.dep ≤ M) : WI told one F B M k ps (stepP told other k acc q) := by
  have hk : k < acc.1.length := by rw [h.len]; exact h.lt
  have hm : acc.1.getD k .fls ∈ acc.1 := by rw [List.getD_eq_getElem?_getD, List.getElem?_eq_getElem hk]; exact List.getElem_mem hk
  obtain ⟨h1, h2⟩ := h.ok q (List.mem_cons_self ..)
  obtain ⟨h3, h4⟩ := h.is _ hm
  have h5 := Th.withP_is ho q _ h3 h1
  have h6 := withP_dep' (o := other) (M := M) q _ h1 h4 (by omega)
  have ap := List.pairwise_cons.mp h.ap
  have is' : ∀ x ∈ acc.1.set k ((acc.1.getD k .fls).withP q other), x.isT F B ∧ x.dep ≤ M := fun x hx => by
    rcases List.mem_or_eq_of_mem_set hx with hx | hx
    · exact h.is x hx
    · rw [hx]; exact ⟨h5, h6⟩
  refine ⟨h.lt, by show (acc.1.set k _).length = _; rw [List.length_set]; exact h.len, fun i hi => ?_, fun p hp => ?_, ap.2, is', fun s hs => ?_, ?_⟩
  · show (acc.1.set k _)[i]? = _
    rw [List.getElem?_set_ne (by omega)]
    exact h.rest i hi
  · show ((acc.1.set k _).getD k .fls).okP p ∧ _
    rw [getD_set_eq hk]
    obtain ⟨g1, g2⟩ := h.ok p (List.mem_cons_of_mem _ hp)
    exact ⟨okP_apart q p _ (ap.1 p hp) h1 g1, g2⟩
  · rcases List.mem_append.mp hs with hs | hs
    · exact h.found s hs
    · rw [List.mem_singleton.mp hs]
      exact ⟨Th.withTs_lay told _ ht fun x hx => Th.layT x (is' x hx).1, Th.withTs_dep (by have := told.dep_pos; omega) told _ ht fun x hx => (is' x hx).2⟩
  · have := h.size
    show (acc.2 ++ [_]).length + _ + _ ≤ _
    simp only [List.length_append, List.length_singleton, List.length_cons, List.length_nil] at this ⊢
    omega
/-- the walk up to the k-th term -/
def accO (told one other : Th) (k : Nat) : List Th × List Th := ((told.termsOf.zipIdx).take k).foldl (fun acc x => (x.1.spots one).foldl (stepP told other x.2) acc) (told.termsOf, [told])
theorem accO_0 (told one other : Th) : accO told one other 0 = (told.termsOf, [told]) := rfl
theorem accO_succ {told one other : Th} {k : Nat} (hk : k < told.termsOf.length) : accO told one other (k + 1) = ((told.termsOf.getD k .fls).spots one).foldl (stepP told other k) (accO told one other k) := by
  unfold accO
  rw [List.take_add_one, List.getElem?_zipIdx, List.getElem?_eq_getElem hk, List.foldl_append, List.getD_eq_getElem?_getD, List.getElem?_eq_getElem hk]
  simp
theorem accO_all (told one other : Th) : (accO told one other told.termsOf.length).2 = walkT told one other := by
  unfold accO walkT
  rw [List.take_of_length_le (by simp)]
def spWalk (K : PySem.W.Frag) : Sp := fun vs H Q _ => ∃ (v vo vu : V) (t one other : Th) (F : List Str) (b : Nat), vs = [v, vo, vu] ∧ R K H v t.d ∧ R K H vo one.d ∧ R K H vu other.d ∧ t.isS F b ∧ one.isT F b ∧ other.isT F b ∧ t.dep + other.dep ≤ 90 ∧ one.dep ≤ 90 ∧ t.sz ≤ 400000 ∧
  ∀ p H', H p = none → Same H H' → Lk K H' p (Th.ds (walkT t one other)) → Q (.ref p) H'
theorem use_walk {K : PySem.W.Frag} {H : Hp} {Q : VK} {E : XK} {v vo vu : V} {t one other : Th} {F : List Str} {b : Nat} (r : R K H v t.d) (ro : R K H vo one.d) (ru : R K H vu other.d) (ht : t.isS F b) (ho : one.isT F b) (hu : other.isT F b) (hd : t.dep + other.dep ≤ 90) (hd2 : one.dep ≤ 90) (hz : t.sz ≤ 400000)
    (h : ∀ p H', H p = none → Same H H' → Lk K H' p (Th.ds (walkT t one other)) → Q (.ref p) H') : spWalk K [v, vo, vu] H Q E := ⟨v, vo, vu, t, one, other, F, b, rfl, r, ro, ru, ht, ho, hu, hd, hd2, hz, h⟩
end G

namespace G
open PySem PySem.Spec PyProof.Rows L2
mutual
theorem Th.isT_sub {F G : List Str} (h : ∀ x ∈ F, x ∈ G) {n : Nat} : ∀ t : Th, t.isT F n → t.isT G n
  | .free x, q => ⟨(show isNameS x = true ∧ x ∈ F from q).1, h _ (show isNameS x = true ∧ x ∈ F from q).2⟩
  | .bnd k, q => q
  | .app .form c as, q => ⟨q.1, q.2.1, Th.areT_sub h as q.2.2⟩
  | .app .call c as, q => ⟨q.1, q.2.1, Th.areT_sub h as q.2.2⟩
theorem Th.areT_sub {F G : List Str} (h : ∀ x ∈ F, x ∈ G) {n : Nat} : ∀ ts : List Th, Th.areT F n ts → Th.areT G n ts
  | [], _ => True.intro
  | t :: ts, q => ⟨Th.isT_sub h t q.1, Th.areT_sub h ts q.2⟩
end
theorem Th.isS_sub {F G : List Str} (h : ∀ x ∈ F, x ∈ G) : ∀ (t : Th) {n : Nat}, t.isS F n → t.isS G n
  | .fls, _, _ => True.intro
  | .two .same a b, _, q => ⟨Th.isT_sub h a q.1, Th.isT_sub h b q.2⟩
  | .app .atom c as, _, q => ⟨q.1, q.2.1, Th.areT_sub h as q.2.2⟩
  | .two .and a b, _, q => ⟨Th.isS_sub h a q.1, Th.isS_sub h b q.2⟩
  | .two .or a b, _, q => ⟨Th.isS_sub h a q.1, Th.isS_sub h b q.2⟩
  | .two .iff a b, _, q => ⟨Th.isS_sub h a q.1, Th.isS_sub h b q.2⟩
  | .qua w k a, _, q => ⟨q.1, Th.isS_sub h a q.2⟩
theorem WI.all {told one other : Th} {F : List Str} {b B M k : Nat} (ht : told.isS F b) (ho : other.isT F B) (hM : told.dep + other.dep ≤ M) : ∀ (ps : List (List Nat)) (acc : List Th × List Th), WI told one F B M k ps acc → WI told one F B M k [] (ps.foldl (stepP told other k) acc)
  | [], _, h => h
  | q :: ps, acc, h => WI.all ht ho hM ps _ (h.step ht ho hM)
theorem WO.all {told one other : Th} {F : List Str} {b B M : Nat} (ht : told.isS F b) (ho : other.isT F B) (hB : b + told.dep ≤ B) (hM : told.dep + other.dep ≤ M) : ∀ k, k ≤ told.termsOf.length → WO told one F B M k (accO told one other k)
  | 0, _ => WO.start ht hB hM
  | k + 1, h => by
    rw [accO_succ (by omega)]
    exact (WI.all ht ho hM _ _ ((WO.all ht ho hB hM k (by omega)).turn ht (by omega))).next
theorem walkT_ok {told one other : Th} {F : List Str} {b : Nat} (ht : told.isS F b) (ho : other.isT F b) : (∀ s ∈ walkT told one other, s.d.canLay0 = true ∧ s.dep ≤ told.dep + (told.dep + other.dep)) ∧ (walkT told one other).length ≤ told.sz + 1 := by
  have h := WO.all (one := one) ht (Th.isT_mono (Nat.le_add_right b told.dep) ho) (Nat.le_refl _) (Nat.le_refl _) _ (Nat.le_refl _)
  have h1 := h.found
  have h2 := h.size
  rw [accO_all] at h1 h2
  exact ⟨h1, by omega⟩
theorem walkT_lay {told one other : Th} {F : List Str} {b : Nat} (ht : told.isS F b) (ho : other.isT F b) : (PyData.list (Th.ds (walkT told one other))).canLay0 = true ∧ (PyData.list (Th.ds (walkT told one other))).depth ≤ 2 * (told.dep + (told.dep + other.dep)) + 2 := by
  have h := (walkT_ok (one := one) ht ho).1
  refine ⟨by simpa [PyData.canLay0] using lay_ds fun x hx => (h x hx).1, ?_⟩
  have h1 := Th.deps_le.mpr fun x hx => (h x hx).2
  have h2 := Th.depths_le (walkT told one other)
  simp only [PyData.depth]
  omega
def spDrawn (K : PySem.W.Frag) : Sp := fun vs H Q _ => ∃ (p : Addr) (v vth vt vu : V) (g : Bk) (xs : List (Str × Str)) (x k : Str) (t u : Th), vs = [.ref p, v, vth, .str x, .str k, vt, vu] ∧ H p = some (Stt p) ∧ BookAt K H v g ∧ BkOk g ∧ 1 ≤ g.words.length ∧ R K H vth (.list (xs.map thingD)) ∧ xs.length ≤ 90 ∧ (∀ y ∈ xs, isNameS y.1 = true) ∧ isNameS x = true ∧
  R K H vt t.d ∧ R K H vu u.d ∧ t.isT (xs.map (·.1)) 0 ∧ u.isT (xs.map (·.1)) 0 ∧ t.dep ≤ 8 ∧ t.sz ≤ 53 ∧ u.dep ≤ 8 ∧ u.sz ≤ 3000 ∧
  ∀ y told H', Same H H' → R K H' y (Th.d told) → told.isS (xs.map (·.1)) 0 → told.dep ≤ 16 → told.sz ≤ 100000 → Q y H'
def spAsked (K : PySem.W.Frag) : Sp := fun vs H Q _ => ∃ (v vt vu : V) (told t u : Th) (F : List Str) (b : Nat), vs = [v, vt, vu] ∧ R K H v told.d ∧ R K H vt t.d ∧ R K H vu u.d ∧ told.isS F b ∧ t.isT F b ∧ u.isT F b ∧ told.dep ≤ 16 ∧ t.dep ≤ 16 ∧ u.dep ≤ 16 ∧ told.sz ≤ 100000 ∧ ∀ H', Same H H' → Q (.bl true) H'
theorem use_drawn {K : PySem.W.Frag} {H : Hp} {Q : VK} {E : XK} {p : Addr} {v vth vt vu : V} {g : Bk} {xs : List (Str × Str)} {x k : Str} {t u : Th} (hp : H p = some (Stt p)) (hb : BookAt K H v g) (ok : BkOk g) (hw : 1 ≤ g.words.length) (rth : R K H vth (.list (xs.map thingD))) (hl : xs.length ≤ 90) (hn : ∀ y ∈ xs, isNameS y.1 = true) (hx : isNameS x = true)
    (rt : R K H vt t.d) (ru : R K H vu u.d) (ht : t.isT (xs.map (·.1)) 0) (hu : u.isT (xs.map (·.1)) 0) (h1 : t.dep ≤ 8) (h2 : t.sz ≤ 53) (h3 : u.dep ≤ 8) (h4 : u.sz ≤ 3000)
    (q : ∀ y told H', Same H H' → R K H' y (Th.d told) → told.isS (xs.map (·.1)) 0 → told.dep ≤ 16 → told.sz ≤ 100000 → Q y H') : spDrawn K [.ref p, v, vth, .str x, .str k, vt, vu] H Q E :=
  ⟨p, v, vth, vt, vu, g, xs, x, k, t, u, rfl, hp, hb, ok, hw, rth, hl, hn, hx, rt, ru, ht, hu, h1, h2, h3, h4, q⟩
theorem use_asked {K : PySem.W.Frag} {H : Hp} {Q : VK} {E : XK} {v vt vu : V} {told t u : Th} {F : List Str} {b : Nat} (r : R K H v told.d) (rt : R K H vt t.d) (ru : R K H vu u.d) (hs : told.isS F b) (ht : t.isT F b) (hu : u.isT F b) (h1 : told.dep ≤ 16) (h2 : t.dep ≤ 16) (h3 : u.dep ≤ 16) (h4 : told.sz ≤ 100000) (q : ∀ H', Same H H' → Q (.bl true) H') : spAsked K [v, vt, vu] H Q E :=
  ⟨v, vt, vu, told, t, u, F, b, rfl, r, rt, ru, hs, ht, hu, h1, h2, h3, h4, q⟩
theorem RA.rev {K : PySem.W.Frag} {H : Hp} : ∀ {vs : List V} {ds : List PyData}, RA K H vs ds → RA K H vs.reverse ds.reverse
  | _, _, .nil => .nil
  | _, _, .cons a t => by rw [List.reverse_cons, List.reverse_cons]; exact (RA.rev t).append (.cons a .nil)
theorem rev_L {K : PySem.W.Frag} {H : Hp} {Q : VK} {l : Addr} {ds : List PyData} (h : Lk K H l ds) (q : ∀ H', SameX l H H' → Lk K H' l ds.reverse → Q .non H') : rReverse (.ref l) [] H Q := by
  obtain ⟨xs, h1, h2⟩ := h.ex
  exact ⟨l, xs, rfl, rfl, h1, q _ .upd ⟨⟨_, upd_same, RA.rev (h2.monoX .upd h1 h.no)⟩, noLs_mem.mpr fun d hd => noLs_mem.mp h.no d (List.mem_reverse.mp hd)⟩⟩
theorem if_joinS (Post : L2.St → Hp → Prop) {c : TT} {t : TS} {σ : L2.St} {H : Hp} {nx bk ct : L2.St → Hp → Prop} {rt : VK} (h1 : ∀ P : L2.St → Hp → Prop, (∀ σ' H', Post σ' H' → P σ' H') → tIfS c t tNext ⟨P, rt, bk, ct⟩ σ H) (h2 : ∀ σ' H', Post σ' H' → nx σ' H') : tIfS c t tNext ⟨nx, rt, bk, ct⟩ σ H := h1 nx h2
end G

namespace G
open PySem PySem.Spec PyProof.Rows L2
/-! data of any kind: how long, and which of them are terms -/
def shortB : PyData → Bool
  | .str z => decide (z.length ≤ 100000)
  | _ => true
def short (d : PyData) : Prop := shortB d = true
theorem short_all {ds : List PyData} (h : ds.all shortB = true) {d : PyData} (hd : d ∈ ds) : short d := List.all_eq_true.mp h d hd
def spIsName (K : PySem.W.Frag) : Sp := fun vs H Q _ => ∃ v d, vs = [v] ∧ R K H v d ∧ short d ∧ ∀ b H', Same H H' → b = isName d → Q (.bl b) H'
def spIsForm (K : PySem.W.Frag) : Sp := fun vs H Q _ => ∃ v d, vs = [v] ∧ R K H v d ∧ short d ∧ ∀ b H', Same H H' → b = isForm d → Q (.bl b) H'
mutual
/-- texts and tuples within it of at most n -/
def fine (n : Nat) : PyData → Bool
  | .str z => decide (z.length ≤ n)
  | .tuple ds => decide (ds.length ≤ n) && fines n ds
  | .list ds => decide (ds.length ≤ n) && fines n ds
  | _ => true
def fines (n : Nat) : List PyData → Bool
  | [] => true
  | d :: ds => fine n d && fines n ds
end
theorem fines_all {n : Nat} : ∀ {ds : List PyData}, fines n ds = true ↔ ∀ d ∈ ds, fine n d = true
  | [] => by simp [fines]
  | d :: ds => by simp [fines, fines_all (ds := ds)]
theorem fine_short {d : PyData} (h : fine 1000 d = true) : short d := by
  cases d <;> simp only [fine, short, shortB, decide_eq_true_eq] at * 
  omega
def isIntD : PyData → Bool
  | .int _ => true
  | _ => false
def isNum : PyData → Bool
  | .int i => decide (0 ≤ i)
  | _ => false
/-- a tuple of at most four that p says yes of -/
def argsP (p : PyData → Bool) : PyData → Bool
  | .tuple xs => decide (xs.length ≤ 4) && xs.all p
  | _ => false
def tmP (p : PyData → Bool) : PyData → Bool
  | .tuple [.str w, x] => bif decide (w = "free") then isName x else (decide (w = "bound") && isNum x)
  | .tuple [.str w, x, y] => ((decide (w = "form") && isForm x) || (decide (w = "call") && isName x)) && argsP p y
  | _ => false
/-- what a term is, to n deep -/
def isTm : Nat → PyData → Bool
  | 0, _ => false
  | n + 1, d => tmP (isTm n) d
def isTms (n : Nat) : PyData → Bool := argsP (isTm n)
theorem depthAll_mem : ∀ {ds : List PyData} {d : PyData}, d ∈ ds → d.depth ≤ PyData.depthAll ds
  | d :: ds, e, h => by
    simp only [PyData.depthAll]
    rcases List.mem_cons.mp h with rfl | h
    · exact Nat.le_max_left _ _
    · exact Nat.le_trans (depthAll_mem h) (Nat.le_max_right _ _)
theorem depthAll_le {n : Nat} : ∀ {ds : List PyData}, PyData.depthAll ds ≤ n ↔ ∀ d ∈ ds, d.depth ≤ n
  | [] => by simp [PyData.depthAll]
  | d :: ds => by simp [PyData.depthAll, depthAll_le (ds := ds), Nat.max_le]
mutual
theorem Th.isTm_T {F : List Str} {n : Nat} : ∀ (t : Th) (m : Nat), t.isT F n → t.dep ≤ m → isTm m t.d = true
  | .free x, m + 1, h, _ => by simpa [Th.d, isTm, tmP, isName] using (show isNameS x = true ∧ x ∈ F from h).1
  | .bnd k, m + 1, h, _ => by
    have e : ((Str.ofString "bound") = (Str.ofString "free")) = False := by simp; decide +kernel
    simp [Th.d, isTm, tmP, isNum, e]
  | .app .form c args, m + 1, h, hd => by
    have := Th.isTm_Ts args m h.2.2 (by simp only [Th.dep] at hd; omega)
    have hl : (Th.ds args).length ≤ 4 := by rw [Th.ds_map, List.length_map]; exact h.2.1
    simp [Th.d, isTm, tmP, AW.s, isForm, h.1, argsP, hl, this]
  | .app .call c args, m + 1, h, hd => by
    have := Th.isTm_Ts args m h.2.2 (by simp only [Th.dep] at hd; omega)
    have hl : (Th.ds args).length ≤ 4 := by rw [Th.ds_map, List.length_map]; exact h.2.1
    simp [Th.d, isTm, tmP, AW.s, isName, h.1, argsP, hl, this]
  | .free _, 0, _, hd | .bnd _, 0, _, hd | .app .form _ _, 0, _, hd | .app .call _ _, 0, _, hd => by simp [Th.dep] at hd
theorem Th.isTm_Ts {F : List Str} {n : Nat} : ∀ (ts : List Th) (m : Nat), Th.areT F n ts → Th.deps ts ≤ m → (Th.ds ts).all (isTm m) = true
  | [], _, _, _ => rfl
  | t :: ts, m, h, hd => by
    simp only [Th.deps] at hd
    simp [Th.ds, Th.isTm_T t m h.1 (by omega), Th.isTm_Ts ts m h.2 (by omega)]
end
mutual
theorem Th.fineT {F : List Str} {n : Nat} : ∀ (t : Th), t.isT F n → fine 8 t.d = true
  | .free x, h => by
    have := isNameS_len (show isNameS x = true ∧ x ∈ F from h).1
    simp [Th.d, fine, fines, this.2]; decide +kernel
  | .bnd k, h => by simp [Th.d, fine, fines]; decide +kernel
  | .app .form c args, h => by
    have := Th.fineTs args h.2.2
    have h8 := isFormS_len h.1
    have hl : (Th.ds args).length ≤ 8 := by rw [Th.ds_map, List.length_map]; exact Nat.le_trans h.2.1 (by decide)
    simp [Th.d, fine, fines, AW.s, h8.2, this, hl]; decide +kernel
  | .app .call c args, h => by
    have := Th.fineTs args h.2.2
    have h8 := isNameS_len h.1
    have hl : (Th.ds args).length ≤ 8 := by rw [Th.ds_map, List.length_map]; exact Nat.le_trans h.2.1 (by decide)
    simp [Th.d, fine, fines, AW.s, h8.2, this, hl]; decide +kernel
theorem Th.fineTs {F : List Str} {n : Nat} : ∀ (ts : List Th), Th.areT F n ts → fines 8 (Th.ds ts) = true
  | [], _ => rfl
  | t :: ts, h => by simp [Th.ds, fines, Th.fineT t h.1, Th.fineTs ts h.2]
end
mutual
theorem fine_mono {m n : Nat} (h : m ≤ n) : ∀ d : PyData, fine m d = true → fine n d = true
  | .str z, q => by simp only [fine, decide_eq_true_eq] at q ⊢; omega
  | .tuple ds, q => by simp only [fine, Bool.and_eq_true, decide_eq_true_eq] at q ⊢; exact ⟨by omega, fines_mono h ds q.2⟩
  | .list ds, q => by simp only [fine, Bool.and_eq_true, decide_eq_true_eq] at q ⊢; exact ⟨by omega, fines_mono h ds q.2⟩
  | .none, _ | .bool _, _ | .int _, _ | .dict _, _ => rfl
theorem fines_mono {m n : Nat} (h : m ≤ n) : ∀ ds : List PyData, fines m ds = true → fines n ds = true
  | [], _ => rfl
  | d :: ds, q => by simp only [fines, Bool.and_eq_true] at q ⊢; exact ⟨fine_mono h d q.1, fines_mono h ds q.2⟩
end
theorem mem_cutD {xs : List PyData} {lo hi : Option Int} {d : PyData} (h : d ∈ cutD xs lo hi) : d ∈ xs := List.mem_of_mem_drop (List.mem_of_mem_take h)
/-! the look at a name, sign by sign -/
def okSign (g : Bool) (k : Nat) (c : Nat) : Bool := low c || (g && decide (k = 0) && great c)
theorem named_bad {g : Bool} {z : Str} {k c : Nat} (hk : z.cps.toList[k]? = some c) (h : okSign g k c = false) : (bif g then isFormS z else isNameS z) = false := by
  have hl : low c = false := by unfold okSign at h; simp at h; exact h.1
  have hm : c ∈ z.cps.toList := List.mem_of_getElem? hk
  cases g
  · show isNameS z = false
    unfold isNameS
    have : z.cps.toList.all low = false := by
      rw [← Bool.not_eq_true]
      intro q
      rw [List.all_eq_true.mp q c hm] at hl
      cases hl
    rw [this, Bool.and_false]
  · show isFormS z = false
    unfold isFormS
    rcases hz : z.cps.toList with _ | ⟨c0, cs⟩
    · rw [hz] at hm; cases hm
    · rw [hz] at hk
      have : (great c0 && cs.all low) = false := by
        rcases k with _ | k
        · simp only [List.getElem?_cons_zero, Option.some.injEq] at hk
          subst hk
          have : great c0 = false := by unfold okSign at h; simpa [hl] using h
          rw [this, Bool.false_and]
        · have hc : c ∈ cs := List.mem_of_getElem? (by simpa using hk)
          have : cs.all low = false := by
            rw [← Bool.not_eq_true]
            intro q
            rw [List.all_eq_true.mp q c hc] at hl
            cases hl
          rw [this, Bool.and_false]
      simp only [this, Bool.and_false]
theorem inS_of_mem {w : Str} : ∀ {ds : List PyData}, allS ds = true → inS w ds = true → PyData.str w ∈ ds
  | [], _, h => by simp [inS] at h
  | d :: ds, a, h => by
    cases d
    case str z =>
      have a' : allS ds = true := a
      simp only [inS, Bool.or_eq_true, decide_eq_true_eq] at h
      rcases h with h | h
      · rw [h]; simp
      · exact List.mem_cons_of_mem _ (inS_of_mem a' h)
    all_goals simp [allS] at a
theorem named_good {g : Bool} {z : Str} {c0 : Nat} (h1 : 1 ≤ z.length) (h8 : z.length ≤ 8) (h0 : z.cps.toList[0]? = some c0) (h : ∀ (k : Nat) c, z.cps.toList[k]? = some c → okSign g k c = true) :
    (bif g then isFormS z else isNameS z) = (decide (g = !low c0) && !inS z kept) := by
  have d1 := decide_eq_true h1
  have d8 := decide_eq_true h8
  rcases hz : z.cps.toList with _ | ⟨c, cs⟩
  · rw [hz] at h0; cases h0
  rw [hz] at h0 h
  simp only [List.getElem?_cons_zero, Option.some.injEq] at h0
  subst h0
  have hcs : cs.all low = true := by
    rw [List.all_eq_true]
    intro x hx
    obtain ⟨k, hk⟩ := List.getElem?_of_mem hx
    have := h (k + 1) x (by simpa using hk)
    simpa [okSign] using this
  have hc := h 0 c rfl
  cases g
  · have hl : low c = true := by simpa [okSign] using hc
    show isNameS z = _
    unfold isNameS
    rw [d1, d8, hz, List.all_cons, hl, hcs]
    simp
  · show isFormS z = _
    unfold isFormS
    rw [d1, d8, hz]
    simp only [hcs]
    cases hl : low c
    · have hg : great c = true := by simpa [okSign, hl] using hc
      have hk : inS z kept = false := by
        rw [← Bool.not_eq_true]
        intro q
        have hm := inS_of_mem (by rfl) q
        have all : ∀ d ∈ kept, ∀ w, d = .str w → ∀ c ∈ w.cps.toList, low c = true := by
          intro d hd w e
          simp only [kept, List.mem_cons, List.not_mem_nil, or_false] at hd
          rcases hd with rfl | rfl | rfl | rfl | rfl <;> (cases e; decide +kernel)
        have := all _ hm z rfl c (by rw [hz]; simp)
        rw [hl] at this
        cases this
      simp [hg, hk]
    · simp [low_great hl]
end G

namespace G
open PySem PySem.Spec PyProof.Rows L2
/-! methods of classes -/
structure DfM (K : PySem.W.Frag) (C : Addr) (m q : Str) (st : Stmt) (ps : List Str) : Prop where
  ex : ∃ f fd, Fun K m q st f fd ∧ Meth K C m f ∧ Binds K fd ps []
structure CalM (P : Program) (w : World) (K : PySem.W.Frag) (mg : Str → Option Value) (base : Heap) (k : Nat) (C : Addr) (m : Str) (sp : Sp) : Prop where
  ex : ∃ (f : Addr) (fd : FuncData) (ps : List Str), FnOk P w K mg base CX0 k f fd ps sp ∧ Meth K C m f ∧ Binds K fd ps []
  cls : Cls K C
structure CalI (P : Program) (w : World) (K : PySem.W.Frag) (mg : Str → Option Value) (base : Heap) (k : Nat) (x : Str) (C : Addr) (sp : Sp) : Prop where
  ex : ∃ (f : Addr) (fd : FuncData) (ps : List Str), FnOk P w K mg base CX0 k f fd ps sp ∧ Mk K C f ∧ Binds K fd ps []
  glob : mg x = some (.ref C)
section
variable {P : Program} {w : World} {K : PySem.W.Frag} {mg : Str → Option Value} {base : Heap} {k k' : Nat} {C : Addr} {m x q : Str} {sp : Sp} {st : Stmt} {N ps : List Str}
theorem CalM.lift (c : CalM P w K mg base k C m sp) (h : k ≤ k') : CalM P w K mg base k' C m sp := by
  obtain ⟨f, fd, ps, F, hm, b⟩ := c.ex
  exact ⟨⟨f, fd, ps, F.mono h, hm, b⟩, c.cls⟩
theorem CalI.lift (c : CalI P w K mg base k x C sp) (h : k ≤ k') : CalI P w K mg base k' x C sp := by
  obtain ⟨f, fd, ps, F, hm, b⟩ := c.ex
  exact ⟨⟨f, fd, ps, F.mono h, hm, b⟩, c.glob⟩
theorem DfM.cal (D : DfM K C m q st ps) (c : Cls K C) (S : FnScope N ps (defScope st)) (len : ∀ vs H Q E, sp vs H Q E → vs.length = ps.length)
    (hbody : ∀ (f : Addr) (cdv : Value) (A : Around) (outer : List Env) (s : Shared) (H : Hp) (vs : List V) (Q : VK) (E : XK), Room k (A.deeper (envOfC q (defScope st) s.heap.objs.size f cdv)) → sp vs H Q E →
      ∃ t, PSs (cxOf CX0 P w K mg base N q (defScope st) f cdv A outer s H E).nox (defBody st) t ∧ t { nx := fun _ H' => Q .non H', rt := Q } (start N vs) H) : CalM P w K mg base (k + 1) C m sp := by
  obtain ⟨f, fd, F, hm, b⟩ := D.ex
  exact ⟨⟨f, fd, ps, F.ok S len (hbody f), hm, b⟩, c⟩
/-- a class of the program: its __init__ -/
structure DfI (K : PySem.W.Frag) (mg : Str → Option Value) (x : Str) (C : Addr) (q : Str) (st : Stmt) (ps : List Str) : Prop where
  ex : ∃ f fd, Fun K "__init__" q st f fd ∧ Mk K C f ∧ Binds K fd ps []
  glob : mg x = some (.ref C)
theorem DfI.cal (D : DfI K mg x C q st ps) (S : FnScope N ps (defScope st)) (len : ∀ vs H Q E, sp vs H Q E → vs.length = ps.length)
    (hbody : ∀ (f : Addr) (cdv : Value) (A : Around) (outer : List Env) (s : Shared) (H : Hp) (vs : List V) (Q : VK) (E : XK), Room k (A.deeper (envOfC q (defScope st) s.heap.objs.size f cdv)) → sp vs H Q E →
      ∃ t, PSs (cxOf CX0 P w K mg base N q (defScope st) f cdv A outer s H E).nox (defBody st) t ∧ t { nx := fun _ H' => Q .non H', rt := Q } (start N vs) H) : CalI P w K mg base (k + 1) x C sp := by
  obtain ⟨f, fd, F, hm, b⟩ := D.ex
  exact ⟨⟨f, fd, ps, F.ok S len (hbody f), hm, b⟩, D.glob⟩
end
section
variable {X : Cx} {o e : Expr} {es : List Expr} {to : TE} {t : TA} {C : Addr} {m x : Str} {sp : Sp} {j k : Nat} {p pos apos : Pos}
theorem pe_m {pl : Sem Bool} (c : CalM X.prog X.w X.K X.mg X.base k C m sp) (hr : Room j X.A) (hk : k ≤ j) (ho : PE X o to) (ha : PA X (e :: es) t)
    (h1 : starEach (e :: es) X.env = (false, eval e X.env) :: starEach es X.env := by rfl) (h2 : (backTo pos (starEach es X.env)).any (·.1) = false := by rfl)
    (ht : eval (.Call (.Attribute o m apos) (e :: es) [] pos) X.env = (do let ov ← eval o X.env; standAt apos.atName; let (f, first) ← holding [ov] (getMethod ov m pl); callWith pos f first (backTo pos (starEach (e :: es) X.env)) (backToKw pos (keywordEach [] X.env))) := by rfl) :
    PE X (.Call (.Attribute o m apos) (e :: es) [] pos) (tMeth C m sp [] E0 to t) := by
  obtain ⟨f, fd, ps, F, hm, b⟩ := c.ex
  exact pe_meth ho c.cls hm F (hr.mono hk) b .nil pass0 ha h1 h2 ht
theorem pe_m0 {pl : Sem Bool} (c : CalM X.prog X.w X.K X.mg X.base k C m sp) (hr : Room j X.A) (hk : k ≤ j) (ho : PE X o to)
    (ht : eval (.Call (.Attribute o m apos) [] [] pos) X.env = (do let ov ← eval o X.env; standAt apos.atName; let (f, first) ← holding [ov] (getMethod ov m pl); callWith pos f first (backTo pos (starEach [] X.env)) (backToKw pos (keywordEach [] X.env))) := by rfl) :
    PE X (.Call (.Attribute o m apos) [] [] pos) (tMeth C m sp [] E0 to tNil) := by
  obtain ⟨f, fd, ps, F, hm, b⟩ := c.ex
  exact pe_meth0 ho c.cls hm F (hr.mono hk) b .nil pass0 ht
theorem pe_mkI (c : CalI X.prog X.w X.K X.mg X.base k x C sp) (hr : Room j X.A) (hk : k + 1 ≤ j) (hg : Gl X x) (ha : PA X (e :: es) t)
    (hdb : (x == ("__debug__" : Str)) = false := by decide) (he : starEach (e :: es) X.env = (false, eval e X.env) :: starEach es X.env := by rfl) (hpl : (backTo pos (starEach es X.env)).any (·.1) = false := by rfl) :
    PE X (.Call (.Name x p) (e :: es) [] pos) (tMake C sp [] E0 t) := by
  obtain ⟨f, fd, ps, F, hm, b⟩ := c.ex
  exact pe_make hm F (hr.mono hk) hg c.glob b .nil pass0 ha hdb he hpl
/-! methods of an instance of one of some classes -/
inductive Who where
  | lo | bo | be
structure CA where
  lo : Addr
  bo : Addr
  be : Addr
def CA.at (A : CA) : Who → Addr
  | .lo => A.lo
  | .bo => A.bo
  | .be => A.be
structure CalX (P : Program) (w : World) (K : PySem.W.Frag) (mg : Str → Option Value) (base : Heap) (k : Nat) (A : CA) (ws : Who → Prop) (m : Str) (sp : Who → Sp) : Prop where
  all : ∀ i, ws i → CalM P w K mg base k (A.at i) m (sp i)
theorem CalX.lift {P : Program} {w : World} {K : PySem.W.Frag} {mg : Str → Option Value} {base : Heap} {k k' : Nat} {A : CA} {ws : Who → Prop} {m : Str} {sp : Who → Sp} (c : CalX P w K mg base k A ws m sp) (h : k ≤ k') : CalX P w K mg base k' A ws m sp := ⟨fun i hi => (c.all i hi).lift h⟩
def tMethX (A : CA) (ws : Who → Prop) (m : Str) (sp : Who → Sp) (to : TE) (t : TA) : TE := fun σ H Q => to σ H fun x H1 => ∃ a i dx fs, x = .ref a ∧ ws i ∧ H1 a = some (.ins (A.at i) dx fs) ∧ fs.lookup m = none ∧ t σ H1 fun vs H2 => sp i (x :: (vs ++ [])) H2 Q E0
theorem st_methX {A : CA} {ws : Who → Prop} {m : Str} {sp : Who → Sp} {to : TE} {t : TA} {σ : L2.St} {H : Hp} {Q : VK} (h : to σ H fun x H1 => ∃ a i dx fs, x = .ref a ∧ ws i ∧ H1 a = some (.ins (A.at i) dx fs) ∧ fs.lookup m = none ∧ t σ H1 fun vs H2 => sp i (x :: (vs ++ [])) H2 Q E0) : tMethX A ws m sp to t σ H Q := h
theorem pe_mx {A : CA} {ws : Who → Prop} {sp : Who → Sp} {pl : Sem Bool} (c : CalX X.prog X.w X.K X.mg X.base k A ws m sp) (hr : Room j X.A) (hk : k ≤ j) (ho : PE X o to) (ha : PA X (e :: es) t)
    (h1 : starEach (e :: es) X.env = (false, eval e X.env) :: starEach es X.env := by rfl) (h2 : (backTo pos (starEach es X.env)).any (·.1) = false := by rfl)
    (ht : eval (.Call (.Attribute o m apos) (e :: es) [] pos) X.env = (do let ov ← eval o X.env; standAt apos.atName; let (f, first) ← holding [ov] (getMethod ov m pl); callWith pos f first (backTo pos (starEach (e :: es) X.env)) (backToKw pos (keywordEach [] X.env))) := by rfl) :
    PE X (.Call (.Attribute o m apos) (e :: es) [] pos) (tMethX A ws m sp to t) := by
  refine ⟨fun pins s σ H Q I h => ?_⟩
  refine PySem.W.methodCall_KW (pl := pl) (thn (ho.run pins s σ H _ I h) fun u s1 ⟨x, Hx, I1, rx, a, i, dx, fs, ex, hi, ea, l, q⟩ => ?_) ht
  obtain ⟨f, fd, ps, F, hm, b⟩ := (c.all i hi).ex
  subst ex
  obtain rfl : u = Value.ref a := rx
  refine getmeth_ok I1 ea (c.all i hi).cls hm l ?_
  refine PySem.W.callWith_K (first := [.ref a]) (h₀ := X.base) I1.ok.mod.kin hm.kp (thn (ha.run pos pins s1 σ Hx _ I1 q) fun us s2 ⟨vs, H2, I2, r, q2⟩ => ⟨I2.kIn, ?_⟩) h1 h2
  exact run_fn (us := .ref a :: us) (vs := .ref a :: vs) F (hr.mono hk) b .nil pass0 I2 (.cons rfl r) (by simpa using q2)
theorem pe_fldK (K : PySem.W.Frag) {f : Str} (he : PE X o to) (hb : attributeBase o f X.env (eval o X.env) = eval o X.env) (hK : X.K = K := by rfl) : PE X (.Attribute o f pos) (tFld K to f) := hK ▸ pe_fld he hb
theorem ps_fldK (K : PySem.W.Frag) {f : Str} {value : Expr} {tv : TE} {pos' : Pos} (ha : PE X o to) (hv : PE X value tv) (hs : swapsWith value (some (.Attribute o f pos')) pos.line X.env = pure false) (hK : X.K = K := by rfl) : PS X (.Assign [.Attribute o f pos'] value pos) (sFld K to tv f) := hK ▸ ps_fld ha hv hs
/-! what is never reached, and what is one of two -/
def tNev : TE := fun _ _ _ => False
def sNev : TS := fun _ _ _ => False
theorem pe_never : PE X e tNev := ⟨fun _ _ _ _ _ _ h => h.elim⟩
theorem ps_never {st : Stmt} : PS X st sNev := ⟨fun _ _ _ _ _ _ h => h.elim⟩
def tOrE (t1 t2 : TE) : TE := fun σ H Q => t1 σ H Q ∨ t2 σ H Q
theorem pe_orE {t1 t2 : TE} (h1 : PE X e t1) (h2 : PE X e t2) : PE X e (tOrE t1 t2) := ⟨fun pins s σ H Q I h => h.elim (h1.run pins s σ H Q I) (h2.run pins s σ H Q I)⟩
/-- x in a dict -/
def rInDc : R2 := fun x y H Q => ∃ a o, y = .ref a ∧ DGet H a x o ∧ Q (.bl o.isSome) H
theorem op_inDc (hr : Room k X.A) : OpR X (compareOp .In) rInDc := by
  intro pins s σ H x y u v Q I rx ry h
  obtain ⟨a, r, rfl, g, q⟩ := h
  obtain rfl : v = Value.ref a := ry
  exact d_in (by have := hr.units; omega) I g rx fun s' I' => ⟨.bl r.isSome, H, I', rfl, q⟩
end
section
variable {K : PySem.W.Frag} {H : Hp} {Q : VK} {a C dx : Addr} {fs : List (Str × V)} {f : Str} {v : V}
theorem st_fld {ta : TE} {σ : L2.St} (h : ta σ H fun x H1 => ∃ a C dx fs v, x = .ref a ∧ H1 a = some (.ins C dx fs) ∧ Cls K C ∧ NoAttr K C f ∧ fs.lookup f = some v ∧ Q v H1) : tFld K ta f σ H Q := h
theorem fld_at {F : V → Prop} (h : H a = some (.ins C dx fs)) (c : Cls K C) (n : NoAttr K C f) (l : fs.lookup f = some v) (q : F v) :
    ∃ a' C' dx' fs' v', V.ref a = .ref a' ∧ H a' = some (.ins C' dx' fs') ∧ Cls K C' ∧ NoAttr K C' f ∧ fs'.lookup f = some v' ∧ F v' := ⟨a, C, dx, fs, v, rfl, h, c, n, l, q⟩
theorem st_meth {m : Str} {sp : Sp} {E : XK} {ta : TE} {t : TA} {σ : L2.St} (h : ta σ H fun x H1 => ∃ a dx fs, x = .ref a ∧ H1 a = some (.ins C dx fs) ∧ fs.lookup m = none ∧ t σ H1 fun vs H2 => sp (x :: (vs ++ [])) H2 Q E) : tMeth C m sp [] E ta t σ H Q := h
end
/-! ### dicts by names -/
inductive DR (K : PySem.W.Frag) (H : Hp) : List (Key × V) → List (Str × PyData) → Prop
  | nil : DR K H [] []
  | cons {s : Str} {v : V} {d : PyData} {kvs : List (Key × V)} {kd : List (Str × PyData)} : R K H v d → DR K H kvs kd → DR K H ((Sum.inr s, v) :: kvs) ((s, d) :: kd)
section
variable {K : PySem.W.Frag} {H H' : Hp} {kvs : List (Key × V)} {kd : List (Str × PyData)}
theorem DR.mono (s : Same H H') : ∀ {kvs : List (Key × V)} {kd : List (Str × PyData)}, DR K H kvs kd → DR K H' kvs kd
  | _, _, .nil => .nil
  | _, _, .cons r t => .cons (r.mono s) (t.mono s)
theorem DR.monoX {l : Addr} {xs : List V} (s : SameX l H H') (hl : H l = some (.lst xs)) : ∀ {kvs : List (Key × V)} {kd : List (Str × PyData)}, DR K H kvs kd → (∀ x ∈ kd, noL x.2 = true) → DR K H' kvs kd
  | _, _, .nil, _ => .nil
  | _, _, .cons r t, n => .cons (r.monoX s hl (n _ (List.mem_cons_self ..))) (t.monoX s hl fun x hx => n x (List.mem_cons_of_mem _ hx))
theorem DR.monoD {l : Addr} {es : List (Key × V)} (s : SameX l H H') (hl : H l = some (.dK es)) : ∀ {kvs : List (Key × V)} {kd : List (Str × PyData)}, DR K H kvs kd → (∀ x ∈ kd, noL x.2 = true) → DR K H' kvs kd
  | _, _, .nil, _ => .nil
  | _, _, .cons r t, n => .cons (r.monoD s hl (n _ (List.mem_cons_self ..))) (t.monoD s hl fun x hx => n x (List.mem_cons_of_mem _ hx))
theorem DR.get : ∀ {kvs : List (Key × V)} {kd : List (Str × PyData)}, DR K H kvs kd → ∀ z : Str, (∃ v d, kd.lookup z = some d ∧ valV kvs (Sum.inr z) = some v ∧ R K H v d) ∨ (kd.lookup z = none ∧ valV kvs (Sum.inr z) = none)
  | _, _, .nil, z => .inr ⟨rfl, valV_nil⟩
  | _, _, .cons (s := s) (d := d) (v := v) r t, z => by
    by_cases e : z = s
    · subst e
      exact .inl ⟨v, d, by simp [List.lookup], valV_pos rfl, r⟩
    · have e1 : (z == s) = false := by simpa using e
      rcases t.get z with ⟨v', d', h1, h2, h3⟩ | ⟨h1, h2⟩
      · exact .inl ⟨v', d', by simp [List.lookup, e1, h1], by rw [valV_neg (fun h => e (Sum.inr.inj h).symm)]; exact h2, h3⟩
      · exact .inr ⟨by simp [List.lookup, e1, h1], by rw [valV_neg (fun h => e (Sum.inr.inj h).symm)]; exact h2⟩
theorem DR.snoc {z : Str} {v : V} {d : PyData} (r : R K H v d) : ∀ {kvs : List (Key × V)} {kd : List (Str × PyData)}, DR K H kvs kd → DR K H (kvs ++ [(Sum.inr z, v)]) (kd ++ [(z, d)])
  | _, _, .nil => .cons r .nil
  | _, _, .cons r' t => .cons r' (t.snoc r)
theorem DR.len : ∀ {kvs : List (Key × V)} {kd : List (Str × PyData)}, DR K H kvs kd → kvs.length = kd.length
  | _, _, .nil => rfl
  | _, _, .cons _ t => by rw [List.length_cons, List.length_cons, t.len]
end
structure DAt (K : PySem.W.Frag) (H : Hp) (p : Addr) (kd : List (Str × PyData)) : Prop where
  ex : ∃ kvs, H p = some (.dK kvs) ∧ DR K H kvs kd
  no : ∀ x ∈ kd, noL x.2 = true
section
variable {K : PySem.W.Frag} {H H' : Hp} {p l : Addr} {kd : List (Str × PyData)} {z : Str} {Q : VK}
theorem DAt.mono (h : DAt K H p kd) (s : Same H H') : DAt K H' p kd := by
  obtain ⟨kvs, h1, h2⟩ := h.ex
  exact ⟨⟨kvs, s _ _ h1, h2.mono s⟩, h.no⟩
theorem DAt.isD (h : DAt K H p kd) : IsD H p := by
  obtain ⟨kvs, h1, _⟩ := h.ex
  exact isD_k h1
/-- reading -/
theorem dget_D {F : Option V → Prop} (h : DAt K H p kd) (h1 : ∀ v d, kd.lookup z = some d → R K H v d → F (some v)) (h2 : kd.lookup z = none → F none) : ∃ o, DGet H p (.str z) o ∧ F o := by
  obtain ⟨kvs, e1, e2⟩ := h.ex
  refine dget_o e1 ?_
  rcases e2.get z with ⟨v, d, q1, q2, q3⟩ | ⟨q1, q2⟩
  · rw [q2]; exact h1 v d q1 q3
  · rw [q2]; exact h2 q1
theorem in_D (h : DAt K H p kd) (q : Q (.bl (kd.lookup z).isSome) H) : rInDc (.str z) (.ref p) H Q := by
  obtain ⟨o, g, e⟩ := dget_D (F := fun o => o.isSome = (kd.lookup z).isSome) h (fun v d e _ => by rw [e]; rfl) (fun e => by rw [e]; rfl)
  exact ⟨p, o, rfl, g, by rw [e]; exact q⟩
/-- a new name put into a dict of one's own -/
theorem put_D {QH : Hp → Prop} {v : V} {d : PyData} (h : DAt K H p kd) (r : R K H v d) (n : noL d = true) (hz : kd.length ≤ 1000000) (hf : kd.lookup z = none) (q : ∀ H', SameX p H H' → DAt K H' p (kd ++ [(z, d)]) → QH H') : rSetDK (.ref p) (.str z) v H QH := by
  obtain ⟨kvs, e1, e2⟩ := h.ex
  have hv : valV kvs (Sum.inr z) = none := by
    rcases e2.get z with ⟨v', d', q1, _⟩ | ⟨_, q2⟩
    · rw [hf] at q1; cases q1
    · exact q2
  refine putG e1 (by rw [e2.len]; exact hz) fun H' s e => q H' s ?_
  rw [putK_new v hv] at e
  have n' : ∀ x ∈ kd ++ [(z, d)], noL x.2 = true := fun x hx => by
    rcases List.mem_append.mp hx with hx | hx
    · exact h.no x hx
    · rw [List.mem_singleton.mp hx]; exact n
  exact ⟨⟨_, e, (e2.snoc r).monoD s e1 n'⟩, n'⟩
end
end G

namespace G
open PySem PySem.Spec PyProof.Rows L2
/-! rows of a lore, as data -/
inductive Bdy where
  | none | short (t : Th) | rule (ts : List Th)
inductive Row where
  | opn (k : Str) | knd (k : Str) (fs : List (Str × List Str)) | fn (f : Str) (ks : List Str) (k : Str) (b : Bdy) | atm (p : Str) (ks : List Str)
def Row.d : Row → PyData
  | .opn k => .tuple [.str "open", .str k]
  | .knd k fs => .tuple [.str "kind", .str k, .tuple (fs.map formD)]
  | .fn f ks k .none => .tuple [.str "given", .str f, partsD ks, .str k]
  | .fn f ks k (.short t) => .tuple [.str "short", .str f, partsD ks, .str k, t.d]
  | .fn f ks k (.rule ts) => .tuple [.str "rule", .str f, partsD ks, .str k, .tuple (Th.ds ts)]
  | .atm p ks => .tuple [.str "atom", .str p, partsD ks]
abbrev Forms := List (Str × List Str)
/-- the kinds: none for an open one -/
def kindsOf (rows : List Row) : List (Str × Option Forms) := rows.flatMap fun
  | .opn k => [(k, none)]
  | .knd k fs => [(k, some fs)]
  | _ => []
def formsOf (rows : List Row) : List (Str × (Str × List Str)) := rows.flatMap fun
  | .knd k fs => fs.map fun f => (f.1, (k, f.2))
  | _ => []
def funsOf (rows : List Row) : List (Str × Row) := rows.flatMap fun
  | .fn f ks k b => [(f, .fn f ks k b)]
  | _ => []
def wordsOf (rows : List Row) : List (Str × Row) := rows.flatMap fun
  | .atm p ks => [(p, .atm p ks)]
  | _ => []
def formsD : Option Forms → PyData
  | none => .none
  | some fs => .tuple (fs.map formD)
def shapeD (x : Str × List Str) : PyData := .tuple [.str x.1, partsD x.2]
def onV {α β γ : Type} (g : β → γ) (x : α × β) : α × γ := (x.1, g x.2)
def kindD (rows : List Row) : List (Str × PyData) := (kindsOf rows).map (onV formsD)
def shapesD (rows : List Row) : List (Str × PyData) := (formsOf rows).map (onV shapeD)
def funD (rows : List Row) : List (Str × PyData) := (funsOf rows).map (onV Row.d)
def wordD (rows : List Row) : List (Str × PyData) := (wordsOf rows).map (onV Row.d)
theorem lookup_onV {β γ : Type} {g : β → γ} {z : Str} : ∀ xs : List (Str × β), (xs.map (onV g)).lookup z = (xs.lookup z).map g
  | [] => rfl
  | (s, b) :: xs => by
    simp only [List.map_cons, onV, List.lookup]
    cases z == s
    · exact lookup_onV xs
    · rfl
/-- what terms are told of: forms and functions -/
structure Tab where
  fm : Str → Option (Str × List Str)
  fn : Str → Option (List Str × Str)
def Row.sig : Row → Option (List Str × Str)
  | .fn _ ks k _ => some (ks, k)
  | _ => none
def tabOf (rows : List Row) : Tab := ⟨fun c => (formsOf rows).lookup c, fun f => ((funsOf rows).lookup f).bind Row.sig⟩
def tabBy (rows : List Row) (f : Str) (ks : List Str) (k : Str) : Tab := ⟨fun c => (formsOf rows).lookup c, fun g => if g = f then some (ks, k) else ((funsOf rows).lookup g).bind Row.sig⟩
mutual
def Th.kn (E : Tab) (xs : List (Str × Str)) (is : List Str) : Th → Str → Prop
  | .free x, k => xs.lookup x = some k
  | .bnd i, k => is[i]? = some k
  | .app .form c as, k => ∃ ps, E.fm c = some (k, ps) ∧ Th.kns E xs is as ps
  | .app .call c as, k => ∃ ps, E.fn c = some (ps, k) ∧ Th.kns E xs is as ps
  | _, _ => False
def Th.kns (E : Tab) (xs : List (Str × Str)) (is : List Str) : List Th → List Str → Prop
  | [], [] => True
  | a :: as, p :: ps => a.kn E xs is p ∧ Th.kns E xs is as ps
  | _, _ => False
end
theorem Th.kns_len {E : Tab} {xs : List (Str × Str)} {is : List Str} : ∀ {as : List Th} {ps : List Str}, Th.kns E xs is as ps → as.length = ps.length
  | [], [], _ => rfl
  | a :: as, p :: ps, h => by rw [List.length_cons, List.length_cons, Th.kns_len h.2]
theorem Th.kns_at {E : Tab} {xs : List (Str × Str)} {is : List Str} : ∀ {as : List Th} {ps : List Str}, Th.kns E xs is as ps → ∀ (i : Nat) (a : Th) (p : Str), as[i]? = some a → ps[i]? = some p → a.kn E xs is p
  | a :: as, p :: ps, h, 0, a', p', h1, h2 => by
    obtain rfl := Option.some.inj h1
    obtain rfl := Option.some.inj h2
    exact h.1
  | a :: as, p :: ps, h, i + 1, a', p', h1, h2 => Th.kns_at h.2 i a' p' h1 h2
  | [], [], _, i, a', p', h1, _ => by simp at h1
def isKind (rows : List Row) (k : Str) : Prop := ((kindsOf rows).lookup k).isSome = true
def KsR (rows : List Row) (ks : List Str) : Prop := ks.length ≤ 4 ∧ ∀ k ∈ ks, isNameS k = true ∧ isKind rows k
def okT (t : Th) (n : Nat) : Prop := t.isT [] n ∧ t.dep ≤ 40 ∧ t.sz ≤ 100000
def BdyR (rows : List Row) (f : Str) (ks : List Str) (k : Str) : Bdy → Prop
  | .none => True
  | .short t => okT t ks.length ∧ t.kn (tabOf rows) [] ks k
  | .rule ts => ∃ k0 fs, ks[0]? = some k0 ∧ (kindsOf rows).lookup k0 = some (some fs) ∧ ts.length = fs.length ∧ ts.length ≤ 4 ∧
      ∀ (i : Nat) (t : Th) (c : Str × List Str), ts[i]? = some t → fs[i]? = some c → okT t (c.2 ++ ks.drop 1).length ∧ t.kn (tabBy rows f ks k) [] (c.2 ++ ks.drop 1) k ∧ t.fall f (ownJs c.2 k0) ∧ c.2.length ≤ 4
def RowR (rows : List Row) : Row → Prop
  | .opn k => isNameS k = true ∧ (kindsOf rows).lookup k = none
  | .knd k fs => isNameS k = true ∧ (kindsOf rows).lookup k = none ∧ 1 ≤ fs.length ∧ fs.length ≤ 4 ∧ (fs.map (·.1)).Nodup ∧
      ∀ (i : Nat) (c : Str × List Str), fs[i]? = some c → isFormS c.1 = true ∧ (formsOf rows).lookup c.1 = none ∧ c.2.length ≤ 4 ∧ ∀ p ∈ c.2, isNameS p = true ∧ (isKind rows p ∨ (p = k ∧ i ≠ 0))
  | .fn f ks k b => isNameS f = true ∧ (funsOf rows).lookup f = none ∧ KsR rows ks ∧ isNameS k = true ∧ isKind rows k ∧ BdyR rows f ks k b
  | .atm p ks => isNameS p = true ∧ (wordsOf rows).lookup p = none ∧ KsR rows ks
/-- rows each right behind those ahead -/
def RowsR (rows : List Row) : Prop := ∀ (i : Nat) (r : Row), rows[i]? = some r → RowR (rows.take i) r
theorem noL_forms (fs : Forms) : noLs (fs.map formD) = true := noLs_forms fs
theorem noL_parts (ps : List Str) : noL (partsD ps) = true := by
  have : ∀ ps : List Str, noLs (ps.map PyData.str) = true := fun ps => noLs_mem.mpr fun d hd => by
    obtain ⟨z, _, rfl⟩ := List.mem_map.mp hd; rfl
  simpa [noL] using this ps
theorem Row.noL : ∀ r : Row, noL r.d = true
  | .opn k => rfl
  | .knd k fs => by simp [Row.d, G.noL, noLs, noL_forms]
  | .fn f ks k .none => by simp [Row.d, G.noL, noLs, noL_parts]; simpa [G.noL] using noL_parts ks
  | .fn f ks k (.short t) => by simp [Row.d, G.noL, noLs, Th.noL]; simpa [G.noL] using noL_parts ks
  | .fn f ks k (.rule ts) => by simp [Row.d, G.noL, noLs, Th.noLs]; simpa [G.noL] using noL_parts ks
  | .atm p ks => by simp [Row.d, G.noL, noLs]; simpa [G.noL] using noL_parts ks
/-! a lore in the heap -/
/-- where its lists and dicts are -/
structure LO where
  l : Addr
  k : Addr
  s : Addr
  f : Addr
  w : Addr
  h : Addr
def meths : List Str := ["add", "is_sound", "rows", "forms", "has_kind", "form", "function", "word", "fact"]
structure LF (fs : List (Str × V)) (o : LO) : Prop where
  l : fs.lookup ("lines" : Str) = some (.ref o.l)
  k : fs.lookup ("kinds" : Str) = some (.ref o.k)
  s : fs.lookup ("shapes" : Str) = some (.ref o.s)
  f : fs.lookup ("functions" : Str) = some (.ref o.f)
  w : fs.lookup ("words" : Str) = some (.ref o.w)
  h : fs.lookup ("facts" : Str) = some (.ref o.h)
  m : ∀ m ∈ meths, fs.lookup m = none
structure LT (K : PySem.W.Frag) (H : Hp) (o : LO) (rows : List Row) : Prop where
  l : Lk K H o.l (rows.map Row.d)
  k : DAt K H o.k (kindD rows)
  s : DAt K H o.s (shapesD rows)
  f : DAt K H o.f (funD rows)
  w : DAt K H o.w (wordD rows)
  h : DAt K H o.h []
structure LoreAt (K : PySem.W.Frag) (A : CA) (H : Hp) (v : V) (rows : List Row) : Prop where
  ex : ∃ (a : Addr) (C : Who) (dx : Addr) (fs : List (Str × V)) (o : LO), v = .ref a ∧ C ≠ .be ∧ H a = some (.ins (A.at C) dx fs) ∧ LF fs o ∧ LT K H o rows
structure BesideAt (K : PySem.W.Frag) (A : CA) (H : Hp) (v : V) (rows : List Row) (r : Row) : Prop where
  ex : ∃ (a dx : Addr) (fs : List (Str × V)) (vl vr : V), v = .ref a ∧ H a = some (.ins A.be dx fs) ∧ fs.lookup ("lore" : Str) = some vl ∧ fs.lookup ("row" : Str) = some vr ∧ fs.lookup ("form" : Str) = none ∧ fs.lookup ("function" : Str) = none ∧ LoreAt K A H vl rows ∧ R K H vr r.d
/-- a lore, or one with a function more -/
def LL (K : PySem.W.Frag) (A : CA) (H : Hp) (v : V) (E : Tab) : Prop :=
  (∃ rows, LoreAt K A H v rows ∧ E = tabOf rows) ∨ ∃ rows f ks k b, BesideAt K A H v rows (.fn f ks k b) ∧ E = tabBy rows f ks k
section
variable {K : PySem.W.Frag} {A : CA} {H H' : Hp} {v : V} {o : LO} {rows : List Row} {E : Tab}
theorem LT.mono (h : LT K H o rows) (s : Same H H') : LT K H' o rows := ⟨h.l.mono s, h.k.mono s, h.s.mono s, h.f.mono s, h.w.mono s, h.h.mono s⟩
theorem LoreAt.mono (h : LoreAt K A H v rows) (s : Same H H') : LoreAt K A H' v rows := by
  obtain ⟨a, C, dx, fs, o, e1, e2, e3, e4, e5⟩ := h.ex
  exact ⟨a, C, dx, fs, o, e1, e2, s _ _ e3, e4, e5.mono s⟩
theorem BesideAt.mono {r : Row} (h : BesideAt K A H v rows r) (s : Same H H') : BesideAt K A H' v rows r := by
  obtain ⟨a, dx, fs, vl, vr, e1, e2, e3, e4, e5, e6, e7, e8⟩ := h.ex
  exact ⟨a, dx, fs, vl, vr, e1, s _ _ e2, e3, e4, e5, e6, e7.mono s, e8.mono s⟩
theorem LL.mono (h : LL K A H v E) (s : Same H H') : LL K A H' v E := by
  rcases h with ⟨rows, h, e⟩ | ⟨rows, f, ks, k, b, h, e⟩
  · exact .inl ⟨rows, h.mono s, e⟩
  · exact .inr ⟨rows, f, ks, k, b, h.mono s, e⟩
end
/-- the class facts -/
structure Cx3 (K : PySem.W.Frag) (A : CA) : Prop where
  lo : Cls K A.lo
  bo : Cls K A.bo
  be : Cls K A.be
  no : ∀ f ∈ (["lines", "kinds", "shapes", "functions", "words", "facts"] : List Str), NoAttr K A.lo f ∧ NoAttr K A.bo f
  nb : NoAttr K A.be "lore" ∧ NoAttr K A.be "row"
section
variable {K : PySem.W.Frag} {A : CA} {H : Hp} {v : V} {rows : List Row} {F : V → Prop} {f : Str}
theorem Cx3.cl (c : Cx3 K A) : ∀ (i : Who), Cls K (A.at i)
  | .lo => c.lo
  | .bo => c.bo
  | .be => c.be
theorem Cx3.na (c : Cx3 K A) {f : Str} (hf : f ∈ (["lines", "kinds", "shapes", "functions", "words", "facts"] : List Str)) : ∀ (i : Who), i ≠ .be → NoAttr K (A.at i) f
  | .lo, _ => (c.no f hf).1
  | .bo, _ => (c.no f hf).2
  | .be, h => absurd rfl h
theorem fl_lines (c : Cx3 K A) (h : LoreAt K A H v rows) (q : ∀ p, Lk K H p (rows.map Row.d) → F (.ref p)) : ∃ a C dx fs v', v = .ref a ∧ H a = some (.ins C dx fs) ∧ Cls K C ∧ NoAttr K C "lines" ∧ fs.lookup ("lines" : Str) = some v' ∧ F v' := by
  obtain ⟨a, C, dx, fs, o, rfl, e2, e3, e4, e5⟩ := h.ex
  exact fld_at e3 (c.cl _) (c.na (by decide +kernel) _ e2) e4.l (q _ e5.l)
theorem fl_kinds (c : Cx3 K A) (h : LoreAt K A H v rows) (q : ∀ p, DAt K H p (kindD rows) → F (.ref p)) : ∃ a C dx fs v', v = .ref a ∧ H a = some (.ins C dx fs) ∧ Cls K C ∧ NoAttr K C "kinds" ∧ fs.lookup ("kinds" : Str) = some v' ∧ F v' := by
  obtain ⟨a, C, dx, fs, o, rfl, e2, e3, e4, e5⟩ := h.ex
  exact fld_at e3 (c.cl _) (c.na (by decide +kernel) _ e2) e4.k (q _ e5.k)
theorem fl_shapes (c : Cx3 K A) (h : LoreAt K A H v rows) (q : ∀ p, DAt K H p (shapesD rows) → F (.ref p)) : ∃ a C dx fs v', v = .ref a ∧ H a = some (.ins C dx fs) ∧ Cls K C ∧ NoAttr K C "shapes" ∧ fs.lookup ("shapes" : Str) = some v' ∧ F v' := by
  obtain ⟨a, C, dx, fs, o, rfl, e2, e3, e4, e5⟩ := h.ex
  exact fld_at e3 (c.cl _) (c.na (by decide +kernel) _ e2) e4.s (q _ e5.s)
theorem fl_functions (c : Cx3 K A) (h : LoreAt K A H v rows) (q : ∀ p, DAt K H p (funD rows) → F (.ref p)) : ∃ a C dx fs v', v = .ref a ∧ H a = some (.ins C dx fs) ∧ Cls K C ∧ NoAttr K C "functions" ∧ fs.lookup ("functions" : Str) = some v' ∧ F v' := by
  obtain ⟨a, C, dx, fs, o, rfl, e2, e3, e4, e5⟩ := h.ex
  exact fld_at e3 (c.cl _) (c.na (by decide +kernel) _ e2) e4.f (q _ e5.f)
theorem fl_words (c : Cx3 K A) (h : LoreAt K A H v rows) (q : ∀ p, DAt K H p (wordD rows) → F (.ref p)) : ∃ a C dx fs v', v = .ref a ∧ H a = some (.ins C dx fs) ∧ Cls K C ∧ NoAttr K C "words" ∧ fs.lookup ("words" : Str) = some v' ∧ F v' := by
  obtain ⟨a, C, dx, fs, o, rfl, e2, e3, e4, e5⟩ := h.ex
  exact fld_at e3 (c.cl _) (c.na (by decide +kernel) _ e2) e4.w (q _ e5.w)
/-- a method of a lore -/
theorem meth_L {ws : Who → Prop} {m : Str} {F : Addr → Who → Prop} (h : LoreAt K A H v rows) (hw : ∀ i, i ≠ .be → ws i) (hm : m ∈ meths) (q : ∀ a i, v = .ref a → i ≠ .be → F a i) :
    ∃ a i dx fs, v = .ref a ∧ ws i ∧ H a = some (.ins (A.at i) dx fs) ∧ fs.lookup m = none ∧ F a i := by
  obtain ⟨a, C, dx, fs, o, rfl, e2, e3, e4, e5⟩ := h.ex
  exact ⟨a, C, dx, fs, rfl, hw _ e2, e3, e4.m m hm, q a C rfl e2⟩
end
end G

namespace G
open PySem PySem.Spec PyProof.Rows L2
abbrev noBe (i : Who) : Prop := i ≠ Who.be
abbrev anyW (i : Who) : Prop := True
def optP (o : Option PyData) : PyData := o.getD .none
theorem CalM.imp {P : Program} {w : World} {K : PySem.W.Frag} {mg : Str → Option Value} {base : Heap} {k : Nat} {C : Addr} {m : Str} {sp sp' : Sp} (c : CalM P w K mg base k C m sp) (h : ∀ vs H Q E, sp' vs H Q E → sp vs H Q E) : CalM P w K mg base k C m sp' := by
  obtain ⟨f, fd, ps, F, hm, b⟩ := c.ex
  exact ⟨⟨f, fd, ps, F.imp h, hm, b⟩, c.cls⟩
/-- a lore, or one with a function more, by its class -/
def LLi (K : PySem.W.Frag) (A : CA) (H : Hp) (v : V) (E : Tab) : Who → Prop
  | .be => ∃ rows f ks k b, BesideAt K A H v rows (.fn f ks k b) ∧ E = tabBy rows f ks k
  | _ => ∃ rows, LoreAt K A H v rows ∧ E = tabOf rows
def fnD (o : Option (List Str × Str)) (u : PyData) : Prop := match o with
  | none => True
  | some (ks, k) => ∃ w f r, u = .tuple (.str w :: .str f :: partsD ks :: .str k :: r)
def spFormX (K : PySem.W.Frag) (A : CA) (i : Who) : Sp := fun vs H Q _ => ∃ v z E, vs = [v, .str z] ∧ LLi K A H v E i ∧ ∀ u, R K H u (optP ((E.fm z).map shapeD)) → Q u H
/-- the row of a function that is there -/
def spFunX (K : PySem.W.Frag) (A : CA) (i : Who) : Sp := fun vs H Q _ => ∃ v z E ks k, vs = [v, .str z] ∧ LLi K A H v E i ∧ E.fn z = some (ks, k) ∧ ∀ u w f r H', Same H H' → R K H' u (.tuple (.str w :: .str f :: partsD ks :: .str k :: r)) → Q u H'
section
variable {K : PySem.W.Frag} {A : CA} {H : Hp} {v : V} {E : Tab} {Q : VK} {EE : XK} {i : Who} {z : Str}
theorem use_formX (h : LLi K A H v E i) (q : ∀ u, R K H u (optP ((E.fm z).map shapeD)) → Q u H) : spFormX K A i [v, .str z] H Q EE := ⟨v, z, E, rfl, h, q⟩
theorem use_funX {ks : List Str} {k : Str} (h : LLi K A H v E i) (e : E.fn z = some (ks, k)) (q : ∀ u w f r H', Same H H' → R K H' u (.tuple (.str w :: .str f :: partsD ks :: .str k :: r)) → Q u H') : spFunX K A i [v, .str z] H Q EE := ⟨v, z, E, ks, k, rfl, h, e, q⟩
theorem meth_LL {m : Str} {F : Addr → Who → Prop} (h : LL K A H v E) (hm : m = "form" ∨ m = "function") (q : ∀ a i, v = .ref a → LLi K A H v E i → F a i) :
    ∃ a i dx fs, v = .ref a ∧ anyW i ∧ H a = some (.ins (A.at i) dx fs) ∧ fs.lookup m = none ∧ F a i := by
  rcases h with ⟨rows, h, rfl⟩ | ⟨rows, f, ks, k, b, h, rfl⟩
  · obtain ⟨a, C, dx, fs, o, rfl, e2, e3, e4, e5⟩ := h.ex
    refine ⟨a, C, dx, fs, rfl, True.intro, e3, e4.m m (by rcases hm with rfl | rfl <;> decide +kernel), q a C rfl ?_⟩
    cases C with
    | be => exact absurd rfl e2
    | lo | bo => exact ⟨rows, h, rfl⟩
  · obtain ⟨a, dx, fs, vl, vr, rfl, e2, e3, e4, e5, e6, e7, e8⟩ := h.ex
    refine ⟨a, .be, dx, fs, rfl, True.intro, e2, by rcases hm with rfl | rfl; exact e5; exact e6, q a .be rfl ⟨rows, f, ks, k, b, h, rfl⟩⟩
end
/-! what the row of a function tells -/
theorem fun_row {rows : List Row} {z : Str} {ks : List Str} {k : Str} (h : ((funsOf rows).lookup z).bind Row.sig = some (ks, k)) : ∃ r w f x, (funsOf rows).lookup z = some r ∧ r.d = .tuple (.str w :: .str f :: partsD ks :: .str k :: x) := by
  cases e : (funsOf rows).lookup z with
  | none => rw [e] at h; cases h
  | some r =>
    rw [e] at h
    cases r with
    | opn _ => cases h
    | knd _ _ => cases h
    | atm _ _ => cases h
    | fn f ks' k' b =>
      obtain ⟨rfl, rfl⟩ := Prod.mk.inj (Option.some.inj h)
      cases b with
      | none => exact ⟨_, "given", f, [], rfl, rfl⟩
      | short t => exact ⟨_, "short", f, [t.d], rfl, rfl⟩
      | rule ts => exact ⟨_, "rule", f, [.tuple (Th.ds ts)], rfl, rfl⟩
theorem fn_row (f : Str) (ks : List Str) (k : Str) (b : Bdy) : ∃ w x, (Row.fn f ks k b).d = .tuple (.str w :: .str f :: partsD ks :: .str k :: x) := by
  cases b with
  | none => exact ⟨"given", [], rfl⟩
  | short t => exact ⟨"short", [t.d], rfl⟩
  | rule ts => exact ⟨"rule", [.tuple (Th.ds ts)], rfl⟩
/-- kinds of a form's or a call's args, and its own -/
def spTKs (K : PySem.W.Frag) (A : CA) : Sp := fun vs H Q _ => ∃ (v vt : V) (E : Tab) (w : AW) (c : Str) (as : List Th) (ps : List Str) (k : Str), vs = [v, vt] ∧ LL K A H v E ∧ R K H vt (Th.app w c as).d ∧ ((w = .form ∧ E.fm c = some (k, ps)) ∨ (w = .call ∧ E.fn c = some (ps, k))) ∧
  ∀ u H', Same H H' → R K H' u (.tuple [partsD ps, .str k]) → Q u H'
theorem use_TKs {K : PySem.W.Frag} {A : CA} {H : Hp} {Q : VK} {EE : XK} {v vt : V} {E : Tab} {w : AW} {c : Str} {as : List Th} {ps : List Str} {k : Str} (h : LL K A H v E) (r : R K H vt (Th.app w c as).d) (e : (w = .form ∧ E.fm c = some (k, ps)) ∨ (w = .call ∧ E.fn c = some (ps, k)))
    (q : ∀ u H', Same H H' → R K H' u (.tuple [partsD ps, .str k]) → Q u H') : spTKs K A [v, vt] H Q EE := ⟨v, vt, E, w, c, as, ps, k, rfl, h, r, e, q⟩
def thg (xs : List (Str × Str)) : List (Str × PyData) := xs.map (onV PyData.str)
def spKind (K : PySem.W.Frag) (A : CA) (n : Nat) : Sp := fun vs H Q _ => ∃ (v vi vt : V) (pt : Addr) (E : Tab) (xs : List (Str × Str)) (is : List Str) (t : Th) (k : Str) (F : List Str) (b : Nat), vs = [v, .ref pt, vi, vt] ∧ LL K A H v E ∧ DAt K H pt (thg xs) ∧ R K H vi (.list (is.map PyData.str)) ∧ R K H vt t.d ∧
  t.isT F b ∧ t.kn E xs is k ∧ t.dep ≤ n ∧ is.length ≤ 1000 ∧ ∀ H', Same H H' → Q (.str k) H'
theorem use_kind {K : PySem.W.Frag} {A : CA} {n : Nat} {H : Hp} {Q : VK} {EE : XK} {v vi vt : V} {pt : Addr} {E : Tab} {xs : List (Str × Str)} {is : List Str} {t : Th} {k : Str} {F : List Str} {b : Nat} (h : LL K A H v E) (hd : DAt K H pt (thg xs)) (ri : R K H vi (.list (is.map PyData.str))) (rt : R K H vt t.d)
    (ht : t.isT F b) (hk : t.kn E xs is k) (hn : t.dep ≤ n) (hl : is.length ≤ 1000) (q : ∀ H', Same H H' → Q (.str k) H') : spKind K A n [v, .ref pt, vi, vt] H Q EE := ⟨v, vi, vt, pt, E, xs, is, t, k, F, b, rfl, h, hd, ri, rt, ht, hk, hn, hl, q⟩
/-! for over zip of two tuples -/
theorem pi_zipK (K : PySem.W.Frag) {X : Cx} {e e2 : Expr} {ta : TA} {p pos tpos : Pos} {elts : List Expr} {kk : Nat} (hg : Gl X "zip") (hm : X.mg "zip" = none) (ha : PA X [e, e2] ta) (hs : starEach [e, e2] X.env = (false, eval e X.env) :: starEach [e2] X.env := by rfl)
    (hpl : (backTo pos (starEach [e2] X.env)).any (·.1) = false := by rfl) (hK : X.K = K := by rfl) : PI X (.Tuple elts kk tpos) (.Call (.Name "zip" p) [e, e2] [] pos) (RZ.iZipA K ta) := hK ▸ RZ.pi_zipA hg hm ha hs hpl
def ForZ (K : PySem.W.Frag) (g : TG) (tb : TS) (D : Ends) (σ : L2.St) (vs : List V) (H : Hp) : Prop := ∃ a b xs ys, vs = [.ref a, .ref b] ∧ ((SqL K H a xs ∧ SqL K H b ys ∧ ForG (Itz K a b) g tb D σ H) ∨ (SqT K H a xs ∧ SqT K H b ys ∧ ForG (RZ.ItzT K a b) g tb D σ H))
section
variable {K : PySem.W.Frag} {ta : TA} {g : TG} {tb : TS} {D : Ends} {σ : L2.St} {H : Hp} {x y : V} {i j : Nat} {nx bk ct : L2.St → Hp → Prop} {rt : VK}
theorem st_forZ (h : ta σ H fun vs H1 => ForZ K g tb D σ vs H1) : tFor (RZ.iZipA K ta) g tb D σ H := by exact h
theorem for_ZT {ds es : List PyData} (Pv : Nat → L2.St → Hp → Prop) (rx : R K H x (.tuple ds)) (ry : R K H y (.tuple es)) (hl : ds.length = es.length) (start : Pv 0 σ H) (keep : ∀ k σ' H', Pv k σ' H' → Same H H') (mono : ∀ k σ' H' H'', Pv k σ' H' → Same H' H'' → Pv k σ' H'')
    (turn : ∀ (k : Nat) d e v w σ' H', ds[k]? = some d → es[k]? = some e → R K H' v d → R K H' w e → Pv k σ' H' → tb ⟨Pv (k + 1), rt, nx, Pv (k + 1)⟩ ((σ'.set i (some v)).set j (some w)) H') (fin : ∀ σ' H', Pv ds.length σ' H' → nx σ' H') : ForZ K (g2 K i j) tb ⟨nx, rt, bk, ct⟩ σ [x, y] H := by
  obtain ⟨a, xs, rfl, ha, ra⟩ := rx.inv_tup
  obtain ⟨b, ys, rfl, hb, rb⟩ := ry.inv_tup
  refine ⟨a, b, xs, ys, rfl, .inr ⟨ha, hb, ?_⟩⟩
  rw [← ra.length] at fin
  refine RZ.for_zipT (K := K) (g := g2 K i j) (tb := tb) (D := ⟨nx, rt, bk, ct⟩) (by rw [ra.length, rb.length, hl]) Pv start (fun k σ' H' p => ⟨(keep _ _ _ p).tup ha, (keep _ _ _ p).tup hb⟩) (fun k v w T σ' H' hv hw p hT => ?_) fin
  obtain ⟨d, e1, e2⟩ := ra.getV hv
  obtain ⟨e, f1, f2⟩ := rb.getV hw
  have s0 : Same H' (upd H' T (.tup [v, w])) := same_new hT _
  exact ⟨T, _, rfl, .inl (.inl upd_same), rfl, _, _, rfl, _, _, rfl, rfl, turn k d e v w σ' _ e1 f1 ((e2.mono (keep _ _ _ p)).mono s0) ((f2.mono (keep _ _ _ p)).mono s0) (mono _ _ _ _ p s0)⟩
end
/-- x not in a dict -/
def rNinDc : R2 := fun x y H Q => ∃ a o, y = .ref a ∧ DGet H a x o ∧ Q (.bl (!o.isSome)) H
theorem op_ninDc {X : Cx} {k : Nat} (hr : Room k X.A) : OpR X (compareOp .NotIn) rNinDc := by
  intro pins s σ H x y u v Q I rx ry h
  obtain ⟨a, r, rfl, g, q⟩ := h
  obtain rfl : v = Value.ref a := ry
  exact d_notIn (by have := hr.units; omega) I g rx fun s' I' => ⟨.bl (!r.isSome), H, I', rfl, q⟩
theorem nin_D {K : PySem.W.Frag} {H : Hp} {Q : VK} {p : Addr} {kd : List (Str × PyData)} {z : Str} (h : DAt K H p kd) (q : Q (.bl (!(kd.lookup z).isSome)) H) : rNinDc (.str z) (.ref p) H Q := by
  obtain ⟨o, g, e⟩ := dget_D (F := fun o => o.isSome = (kd.lookup z).isSome) h (fun v d e _ => by rw [e]; rfl) (fun e => by rw [e]; rfl)
  exact ⟨p, o, rfl, g, by rw [e]; exact q⟩
end G
namespace G
open PySem PySem.Spec PyProof.Rows L2
theorem dgetk_D {K : PySem.W.Frag} {H : Hp} {p : Addr} {kd : List (Str × PyData)} {z : Str} {d : PyData} {F : V → Prop} (h : DAt K H p kd) (hz : kd.lookup z = some d) (q : ∀ v, R K H v d → F v) : ∃ a v, V.ref p = .ref a ∧ DGet H a (.str z) (some v) ∧ F v := by
  obtain ⟨kvs, e1, e2⟩ := h.ex
  rcases e2.get z with ⟨v, d', q1, q2, q3⟩ | ⟨q1, _⟩
  · rw [hz] at q1
    obtain rfl := Option.some.inj q1
    refine ⟨p, v, rfl, ?_, q v q3⟩
    rw [← q2]
    exact DGet.k (k := Sum.inr z) e1
  · rw [hz] at q1; cases q1
theorem st_par {ta : TA} {σ : L2.St} {H : Hp} {i j : Nat} {nx bk ct : L2.St → Hp → Prop} {rt : VK} (h : ta σ H fun vs H1 => ∃ v w, vs = [v, w] ∧ nx ((σ.set i (some v)).set j (some w)) H1) : tPar i j ta ⟨nx, rt, bk, ct⟩ σ H := h
theorem par2 {F : V → V → Prop} {x y : V} (h : F x y) : ∃ v w, [x, y] = [v, w] ∧ F v w := ⟨x, y, rfl, h⟩
end G

namespace G
open PySem PySem.Spec PyProof.Rows L2
mutual
theorem Th.isTm {F : List Str} {b : Nat} : ∀ (m : Nat) (t : Th), t.isT F b → t.dep ≤ m → G.isTm m t.d = true
  | 0, t, _, h => by have := t.dep_pos; omega
  | m + 1, .free x, h, _ => by
    have h1 : isNameS x = true := (show isNameS x = true ∧ x ∈ F from h).1
    show tmP (G.isTm m) (.tuple [.str "free", .str x]) = true
    simp [tmP, isName, h1]
  | m + 1, .bnd i, _, _ => by
    show tmP (G.isTm m) (.tuple [.str "bound", .int (i : Nat)]) = true
    simp only [tmP]
    rw [decide_eq_false (by decide +kernel)]
    simp [isNum]
  | m + 1, .app .form c as, h, hd => by
    have hl : (Th.ds as).length ≤ 4 := by rw [ds_len]; exact h.2.1
    have ha := Th.isTms m as h.2.2 (by simp only [Th.dep] at hd; omega)
    show tmP (G.isTm m) (.tuple [.str "form", .str c, .tuple (Th.ds as)]) = true
    simp only [tmP, argsP, isForm, h.1, ha]
    simp [hl]
  | m + 1, .app .call c as, h, hd => by
    have hl : (Th.ds as).length ≤ 4 := by rw [ds_len]; exact h.2.1
    have ha := Th.isTms m as h.2.2 (by simp only [Th.dep] at hd; omega)
    show tmP (G.isTm m) (.tuple [.str "call", .str c, .tuple (Th.ds as)]) = true
    simp only [tmP, argsP, isName, h.1, ha]
    simp [hl]
theorem Th.isTms {F : List Str} {b : Nat} : ∀ (m : Nat) (ts : List Th), Th.areT F b ts → Th.deps ts ≤ m → (Th.ds ts).all (G.isTm m) = true
  | m, [], _, _ => rfl
  | m, t :: ts, h, hd => by
    simp only [Th.deps] at hd
    have h1 := Th.isTm m t h.1 (by omega)
    have h2 := Th.isTms m ts h.2 (by omega)
    simp only [Th.ds, List.all_cons, h1, h2, Bool.and_self]
end
theorem nin_intsL {K : PySem.W.Frag} {H : Hp} {Q : VK} {y : V} {w : Int} {ds : List PyData} (r : R K H y (.list ds)) (c : allI ds = true) (h : Q (.bl (!inI w ds)) H) : rNinU K (.int w) y H Q := by
  obtain ⟨a, xs, e, ha, ra⟩ := r.inv_lst
  subst e
  obtain ⟨q1, q2⟩ := flat_I ra c
  exact .inr ⟨a, xs, rfl, .inl (.inl (.inl ha)), rfl, q1, (by rw [if_pos rfl, q2]; exact h)⟩
def natsD (ps : List Nat) : List PyData := ps.map fun i => .int (i : Nat)
theorem allI_nats (ps : List Nat) : allI (natsD ps) = true := by
  induction ps with
  | nil => rfl
  | cons p ps ih => exact ih
theorem inI_nats {j : Nat} : ∀ {ps : List Nat}, j ∈ ps → inI (j : Int) (natsD ps) = true
  | p :: ps, h => by
    show (decide (((p : Nat) : Int) = (j : Int)) || inI (j : Int) (natsD ps)) = true
    rcases List.mem_cons.mp h with rfl | h
    · simp
    · rw [inI_nats h]; simp
end G

namespace G
open PySem PySem.Spec PyProof.Rows L2
/-! zip of a list and a tuple -/
def ItzLT (K : PySem.W.Frag) (a b : Addr) : It :=
  ⟨fun n H => ∃ (xs ys : List V) (x y : V), SqL K H a xs ∧ SqT K H b ys ∧ xs[n]? = some x ∧ ys[n]? = some y,
    fun n H v H' => ∃ T x y, v = .ref T ∧ H T = none ∧ H' = upd H T (.tup [x, y]) ∧ (∀ us, SqL K H a us → us[n]? = some x) ∧ ∀ us, SqT K H b us → us[n]? = some y,
    fun n H => ∃ xs ys : List V, SqL K H a xs ∧ SqT K H b ys ∧ n = xs.length ∧ n = ys.length⟩
theorem turn_zipLT {P : Program} {w : World} {K : PySem.W.Frag} {elts : List Expr} {kk : Nat} {tpos : Pos} {a b z TI TO i1 i2 : Addr} (S : ZipSep2 z TI TO i1 i2 [i1, a] [i2, b]) (na : a ≠ i1) (nb : b ≠ i2) :
    Turn P w K (.Tuple elts kk tpos) (ItzLT K a b) [z, TI, TO, i1, i2] z (fun n h => IsZip h z TI TO .none ∧ IsTupOf2 h TI (.ref i1) (.ref i2) ∧ (∃ x y, IsTupOf2 h TO x y) ∧ h.IsListIter i1 a n ∧ h.IsTupleIter i2 b n) where
  mem := List.mem_cons_self ..
  obj := fun n h st c hc => by
    obtain ⟨hz, hI, ⟨x, y, hO⟩, ⟨o1, e1, _, d1⟩, ⟨o2, e2, _, d2⟩⟩ := st
    simp only [List.mem_cons, List.not_mem_nil, or_false] at hc
    rcases hc with rfl | rfl | rfl | rfl | rfl
    · exact ⟨_, hz, fun v q => nomatch q⟩
    · exact ⟨_, hI, fun v q => nomatch q⟩
    · exact ⟨_, hO, fun v q => nomatch q⟩
    · exact ⟨o1, e1, fun v q => by rw [d1] at q; cases q⟩
    · exact ⟨o2, e2, fun v q => by rw [d2] at q; cases q⟩
  keep := fun n h h' st k => by
    obtain ⟨hz, hI, ⟨x, y, hO⟩, h1, h2⟩ := st
    exact ⟨k z (by simp) _ hz, k TI (by simp) _ hI, ⟨x, y, k TO (by simp) _ hO⟩, h1.at fun o q => k i1 (by simp) o q, h2.at fun o q => k i2 (by simp) o q⟩
  item := by
    intro X eP ew eK hcalm n pins s σ H E I hf st hg
    subst eP ew eK
    obtain ⟨hz, hI, ⟨x0, y0, hO⟩, h1, h2⟩ := st
    obtain ⟨xs, ys, x, y, hqx, hqy, hx, hy⟩ := hg
    obtain ⟨us, rx, px, _⟩ := I.list hqx
    obtain ⟨ws, ry, py, _⟩ := I.tuple hqy
    obtain ⟨u, hu, ru⟩ := rx.get hx
    obtain ⟨v, hv, rv⟩ := ry.get hy
    have hzl : z < s.heap.objs.size := Heap.lt_size hz
    have D1 := Draws.list (prog := X.prog) (w := X.w) (A := X.A.in1) (by exact I.ok.hd hcalm) i1 a na us.toArray
    have D2 := Draws.tuple (prog := X.prog) (w := X.w) (A := X.A.in1) (by exact I.ok.hd hcalm) i2 b nb ws.toArray
    have l1 : n < us.toArray.size := by have := (List.getElem?_eq_some_iff.mp hu).1; simpa using this
    have l2 : n < ws.toArray.size := by have := (List.getElem?_eq_some_iff.mp hv).1; simpa using this
    have lo : ∀ c ∈ [z, TI, TO, i1, i2], c < s.heap.objs.size := fun c hc => by
      obtain ⟨o1, e1, _⟩ := id h1
      obtain ⟨o2, e2, _⟩ := id h2
      simp only [List.mem_cons, List.not_mem_nil, or_false] at hc
      rcases hc with rfl | rfl | rfl | rfl | rfl
      · exact hzl
      · exact Heap.lt_size hI
      · exact Heap.lt_size hO
      · exact Heap.lt_size e1
      · exact Heap.lt_size e2
    refine wpAny_pyNext_zipD2_item S D1 D2 hz hI hO ⟨h1, px.isList⟩ ⟨h2, py⟩ l1 l2 fun u' v' h' tk p1 p2 hz' hO' st1 st2 hT hsz hkeep => ?_
    have eu : u' = u := by
      have q1 : us.toArray[n]? = some u' := p1
      have q2 : us.toArray[n]? = some u := by simpa using hu
      exact Option.some.inj (q1.symm.trans q2)
    have ev : v' = v := by
      have q1 : ws.toArray[n]? = some v' := p2
      have q2 : ws.toArray[n]? = some v := by simpa using hv
      exact Option.some.inj (q1.symm.trans q2)
    subst eu ev
    refine ⟨_, rfl, wpAny_letOwnedTupleGo_zip (s := { s with heap := h', toks := tk }) hz' fun g hz2 sb => ?_⟩
    have keep2 : ∀ c o, c ∉ [z, TI, TO, i1, i2] → s.heap.get? c = some o → g.get? c = some o := fun c o hc q => by
      simp only [List.mem_cons, List.not_mem_nil, or_false, not_or] at hc
      exact (sb.2 c hc.1).trans (hkeep c o hc.1 hc.2.2.1 hc.2.2.2.1 hc.2.2.2.2 q)
    have hT2 : g.get? s.heap.objs.size = some { cls := .type "tuple", data := .seq #[u', v'] } := (sb.2 _ (Nat.ne_of_gt hzl)).trans hT
    have new : ObjOk X.prog X.w (upd H s.heap.objs.size (.tup [x, y])) g s.heap.objs.size (.tup [x, y]) := ⟨by show 2 ≤ sizeLine; decide, [u', v'], .cons ru (.cons rv .nil), ⟨_, hT2, rfl, _, rfl⟩⟩
    have I2 : Inv X pins σ (upd H s.heap.objs.size (.tup [x, y])) { s with heap := g, toks := tk } := I.turnedNew (ch := [z, TI, TO, i1, i2]) keep2 hf (Nat.le_refl _) new
    have gI : IsTupOf2 g TI (.ref i1) (.ref i2) := (sb.2 _ S.TIz).trans (hkeep _ _ S.TIz S.TITO S.TIi1 S.TIi2 hI)
    refine ⟨.ref s.heap.objs.size, _, I2, rfl, ⟨_, x, y, rfl, I.hok.fresh (Nat.le_refl _), rfl, fun l hl => by rw [I.list_inj hl hqx]; exact hx, fun l hl => by rw [I.tuple_inj hl hqy]; exact hy⟩, ⟨hz2, gI, ⟨u', v', (sb.2 _ S.TOz).trans hO'⟩, ?_, ?_⟩, fun c hc => ?_⟩
    · exact st1.1.at fun o q => (sb.2 _ S.zi1.symm).trans q
    · exact st2.1.at fun o q => (sb.2 _ S.zi2.symm).trans q
    · rw [upd_ne (Nat.ne_of_lt (lo c hc))]
      exact (hf c hc).1
  done := by
    intro X eP ew eK hcalm n pins s σ H E I hf st hg
    subst eP ew eK
    obtain ⟨hz, hI, ⟨x0, y0, hO⟩, h1, h2⟩ := st
    obtain ⟨xs, ys, hqx, hqy, e1, e2⟩ := hg
    obtain ⟨us, rx, px, _⟩ := I.list hqx
    obtain ⟨ws, ry, py, _⟩ := I.tuple hqy
    have D1 := Draws.list (prog := X.prog) (w := X.w) (A := X.A.in1) (by exact I.ok.hd hcalm) i1 a na us.toArray
    have D2 := Draws.tuple (prog := X.prog) (w := X.w) (A := X.A.in1) (by exact I.ok.hd hcalm) i2 b nb ws.toArray
    have l1 : n = us.toArray.size := by rw [e1, List.size_toArray, ← rx.length]
    have l2 : n = ws.toArray.size := by rw [e2, List.size_toArray, ← ry.length]
    refine wpAny_pyNext_zipD2_end S D1 D2 hz hI hO ⟨h1, px.isList⟩ ⟨h2, py⟩ (Nat.le_of_eq l1) (Nat.le_of_eq l2) (.inl l1) fun h' tk hkeep => ⟨rfl, I.turnedL (t' := tk) (ch := [z, TI, TO, i1, i2]) (fun c o hc q => ?_) hf⟩
    simp only [List.mem_cons, List.not_mem_nil, or_false, not_or] at hc
    exact hkeep c o hc.1 hc.2.2.1 hc.2.2.2.1 hc.2.2.2.2 q
  self := fun A n s Q E st h => wpAny_pyIter_zip st.1 h
def iZipLT (K : PySem.W.Frag) (ta : TA) : TI := fun σ H R => ta σ H fun vs H1 => ∃ a b xs ys, vs = [.ref a, .ref b] ∧ SqL K H1 a xs ∧ SqT K H1 b ys ∧ R (ItzLT K a b) H1
theorem pi_zipLT {X : Cx} {e e2 : Expr} {ta : TA} {p pos tpos : Pos} {elts : List Expr} {kk : Nat} (hg : Gl X "zip") (hm : X.mg "zip" = none) (ha : PA X [e, e2] ta) (h1 : starEach [e, e2] X.env = (false, eval e X.env) :: starEach [e2] X.env := by rfl)
    (h2 : (backTo pos (starEach [e2] X.env)).any (·.1) = false := by rfl) : PI X (.Tuple elts kk tpos) (.Call (.Name "zip" p) [e, e2] [] pos) (iZipLT X.K ta) := by
  refine ⟨fun pins s σ H R I h => ?_⟩
  refine Call_ (ld_blt I hg hm PyProof.Rows.boot_zip (PyProof.Rows.callWith_type1 (thn (ha.run pos pins s σ H _ I h) fun us s1 ⟨vs, H1, I1, r1, q1⟩ => ?_) h1 h2))
  obtain ⟨a, b, xs, ys, ex, hqx, hqy, q⟩ := q1
  subst ex
  cases r1 with
  | cons ru rest =>
    cases rest with
    | cons rv rest =>
      cases rest
      cases ru
      cases rv
      obtain ⟨us, rx, px, _⟩ := I1.list hqx
      obtain ⟨ws, ry, py, _⟩ := I1.tuple hqy
      have hal : a < s1.heap.objs.size := px.lt
      have hbl : b < s1.heap.objs.size := by obtain ⟨o, ho, _⟩ := id py; exact Heap.lt_size ho
      refine zip_begins2 (begins_list a us.toArray) (begins_tuple b ws.toArray) px.isList (show s1.heap.IsTuple b ws.toArray from py) fun h' hz hI hO e1 e2 hsz hk => wpAny_pyIter_zip hz ?_
      have I2 : Inv X pins σ H1 { s1 with heap := h' } := I1.kept (t' := s1.toks) hk
      have S := zip_sep2 (N := s1.heap.objs.size) (fp1 := [a]) (fp2 := [b]) (fun c hc => by rw [List.mem_singleton.mp hc]; exact hal) (fun c hc => by rw [List.mem_singleton.mp hc]; exact hbl)
      have na : a ≠ s1.heap.objs.size := Nat.ne_of_lt hal
      have nb : b ≠ s1.heap.objs.size + 1 := Nat.ne_of_lt (Nat.lt_succ_of_lt hbl)
      refine ⟨s1.heap.objs.size + 4, [s1.heap.objs.size + 4, s1.heap.objs.size + 2, s1.heap.objs.size + 3, s1.heap.objs.size, s1.heap.objs.size + 1], _, _, H1, rfl, I2, turn_zipLT S na nb, ⟨hz, hI, ⟨_, _, hO⟩, ⟨_, e1, rfl, rfl⟩, ⟨_, e2, rfl, rfl⟩⟩, fun c hc => ?_, q⟩
      have hle : s1.heap.objs.size ≤ c := by
        simp only [List.mem_cons, List.not_mem_nil, or_false] at hc
        rcases hc with rfl | rfl | rfl | rfl | rfl
        · exact Nat.le_add_right _ _
        · exact Nat.le_add_right _ _
        · exact Nat.le_add_right _ _
        · exact Nat.le_refl _
        · exact Nat.le_add_right _ _
      exact I1.fpOk hle (I1.hok.fresh hle)
theorem pi_zipLTK (K : PySem.W.Frag) {X : Cx} {e e2 : Expr} {ta : TA} {p pos tpos : Pos} {elts : List Expr} {kk : Nat} (hg : Gl X "zip") (hm : X.mg "zip" = none) (ha : PA X [e, e2] ta) (h1 : starEach [e, e2] X.env = (false, eval e X.env) :: starEach [e2] X.env := by rfl)
    (h2 : (backTo pos (starEach [e2] X.env)).any (·.1) = false := by rfl) (hK : X.K = K := by rfl) : PI X (.Tuple elts kk tpos) (.Call (.Name "zip" p) [e, e2] [] pos) (iZipLT K ta) := hK ▸ pi_zipLT hg hm ha h1 h2
def ForZL (K : PySem.W.Frag) (g : TG) (tb : TS) (D : Ends) (σ : L2.St) (vs : List V) (H : Hp) : Prop := ∃ a b xs ys, vs = [.ref a, .ref b] ∧ SqL K H a xs ∧ SqT K H b ys ∧ ForG (ItzLT K a b) g tb D σ H
section
variable {K : PySem.W.Frag} {ta : TA} {g : TG} {tb : TS} {D : Ends} {σ : L2.St} {H : Hp} {x y : V} {i j : Nat} {nx bk ct : L2.St → Hp → Prop} {rt : VK}
theorem st_forZL (h : ta σ H fun vs H1 => ForZL K g tb D σ vs H1) : tFor (iZipLT K ta) g tb D σ H := by exact h
theorem for_ZLT {ds es : List PyData} (Pv : Nat → L2.St → Hp → Prop) (rx : R K H x (.list ds)) (ry : R K H y (.tuple es)) (hl : ds.length = es.length) (start : Pv 0 σ H) (keep : ∀ k σ' H', Pv k σ' H' → Same H H') (mono : ∀ k σ' H' H'', Pv k σ' H' → Same H' H'' → Pv k σ' H'')
    (turn : ∀ (k : Nat) d e v w σ' H', ds[k]? = some d → es[k]? = some e → R K H' v d → R K H' w e → Pv k σ' H' → tb ⟨Pv (k + 1), rt, nx, Pv (k + 1)⟩ ((σ'.set i (some v)).set j (some w)) H') (fin : ∀ σ' H', Pv ds.length σ' H' → nx σ' H') : ForZL K (g2 K i j) tb ⟨nx, rt, bk, ct⟩ σ [x, y] H := by
  obtain ⟨a, xs, rfl, ha, ra⟩ := rx.inv_lst
  obtain ⟨b, ys, rfl, hb, rb⟩ := ry.inv_tup
  have hxy : xs.length = ys.length := by rw [ra.length, rb.length, hl]
  refine ⟨a, b, xs, ys, rfl, .inl (.inl ha), hb, fun n m σ' H' => m = xs.length - n ∧ n ≤ xs.length ∧ Pv n σ' H', ⟨xs.length, rfl, Nat.zero_le _, start⟩, ?_⟩
  rintro n m σ' H' ⟨rfl, hn, p⟩
  have s1 := keep _ _ _ p
  have qa : SqL K H' a xs := .inl (.inl (s1 _ _ ha))
  have qb : SqT K H' b ys := s1.tup hb
  by_cases hlt : n < xs.length
  · have hx : xs[n]? = some xs[n] := List.getElem?_eq_getElem hlt
    have hlt2 : n < ys.length := by omega
    have hy : ys[n]? = some ys[n] := List.getElem?_eq_getElem hlt2
    refine .inr ⟨⟨xs, ys, _, _, qa, qb, hx, hy⟩, Pv (n + 1), fun σ2 H2 p2 => ⟨xs.length - (n + 1), by omega, rfl, hlt, p2⟩, fun v H2 yy => ?_⟩
    obtain ⟨T, x', y', rfl, hT, rfl, f1, f2⟩ := yy
    obtain ⟨d, e1, e2⟩ := ra.getV (f1 xs qa)
    obtain ⟨e, g1, g2⟩ := rb.getV (f2 ys qb)
    have s0 : Same H' (upd H' T (.tup [x', y'])) := same_new hT _
    exact ⟨T, _, rfl, .inl (.inl upd_same), rfl, _, _, rfl, _, _, rfl, rfl, turn n d e x' y' σ' _ e1 g1 ((e2.mono s1).mono s0) ((g2.mono s1).mono s0) (mono _ _ _ _ p s0)⟩
  · have e : n = xs.length := by omega
    refine .inl ⟨⟨xs, ys, qa, qb, e, by omega⟩, fin σ' H' ?_⟩
    rw [← ra.length, ← e]; exact p
end
theorem gtup5 {K : PySem.W.Frag} {σ : L2.St} {H : Hp} {Q : L2.St → Hp → Prop} {x : V} {d1 d2 d3 d4 d5 : PyData} {i j l m n : Nat} (r : R K H x (.tuple [d1, d2, d3, d4, d5]))
    (h : ∀ v1 v2 v3 v4 v5, R K H v1 d1 → R K H v2 d2 → R K H v3 d3 → R K H v4 d4 → R K H v5 d5 → Q (((((σ.set i (some v1)).set j (some v2)).set l (some v3)).set m (some v4)).set n (some v5)) H) :
    gTup K 5 (gCons (gName i) (gCons (gName j) (gCons (gName l) (gCons (gName m) (gCons (gName n) gNil))))) x σ H Q := by
  obtain ⟨a, xs, rfl, ha, ra⟩ := r.inv_tup
  obtain ⟨v1, ws, rfl, r1, ra⟩ := ra.inv_cons
  obtain ⟨v2, ws, rfl, r2, ra⟩ := ra.inv_cons
  obtain ⟨v3, ws, rfl, r3, ra⟩ := ra.inv_cons
  obtain ⟨v4, ws, rfl, r4, ra⟩ := ra.inv_cons
  obtain ⟨v5, ws, rfl, r5, ra⟩ := ra.inv_cons
  obtain rfl := ra.inv_nil
  exact ⟨a, _, rfl, ha, rfl, v1, _, rfl, v2, _, rfl, v3, _, rfl, v4, _, rfl, v5, _, rfl, rfl, h v1 v2 v3 v4 v5 r1 r2 r3 r4 r5⟩
theorem st_sfld {K : PySem.W.Frag} {ta tv : TE} {f : Str} {σ : L2.St} {H : Hp} {nx bk ct : L2.St → Hp → Prop} {rt : VK}
    (h : tv σ H fun y H1 => ta σ H1 fun x H2 => ∃ a C dx fs, x = .ref a ∧ H2 a = some (.ins C dx fs) ∧ Cls K C ∧ NoAttr K C f ∧ fs.length < 1000 ∧ nx σ (upd H2 a (.ins C dx (putF f y fs)))) : sFld K ta tv f ⟨nx, rt, bk, ct⟩ σ H := h
theorem sfld_at {K : PySem.W.Frag} {H : Hp} {a C dx : Addr} {fs : List (Str × V)} {f : Str} {y : V} {F : Hp → Prop} (h : H a = some (.ins C dx fs)) (c : Cls K C) (n : NoAttr K C f) (l : fs.length < 1000) (q : F (upd H a (.ins C dx (putF f y fs)))) :
    ∃ a' C' dx' fs', V.ref a = .ref a' ∧ H a' = some (.ins C' dx' fs') ∧ Cls K C' ∧ NoAttr K C' f ∧ fs'.length < 1000 ∧ F (upd H a' (.ins C' dx' (putF f y fs'))) := ⟨a, C, dx, fs, rfl, h, c, n, l, q⟩
theorem same_ins {H : Hp} {x dx : Addr} {u o : HO} (hx : H x = none) (hd : H dx = none) : Same H (upd (upd H dx u) x o) := fun b v e => by
  rw [upd_ne (ne_of_none e hx), upd_ne (ne_of_none e hd)]
  exact e
theorem st_make {C : Addr} {sp : Sp} {t : TA} {σ : L2.St} {H : Hp} {Q : VK} {E : XK} (h : t σ H fun vs H1 => ∀ x dx, H1 x = none → H1 dx = none → dx ≠ x → sp (.ref x :: (vs ++ [])) (upd (upd H1 dx (.own x)) x (.ins C dx [])) (fun v H2 => v = .non ∧ Q (.ref x) H2) E) : tMake C sp [] E t σ H Q := h
end G

namespace G
open PySem PySem.Spec PyProof.Rows L2
/-! d.get(z, x) of a written dict by names -/
def tKGet2 (K : PySem.W.Frag) (w : World) (td ty tx : TE) : TE := fun σ H Q => td σ H fun x H1 => ∃ d es n, x = .ref d ∧ KDict K w d es n ∧ (d == sysModules) = false ∧ ty σ H1 fun y H2 => tx σ H2 fun z H3 => ∃ (s : Str) (r : Option Value), y = .str s ∧ PySem.W.nsIn K d s = some r ∧
  match r with
  | none => Q z H3
  | some u => ∃ v, RelV v u ∧ Q v H3
theorem pe_kget2 (K : PySem.W.Frag) (w : World) {X : Cx} {o e f : Expr} {apos cpos : Pos} {td ty tx : TE} (ho : PE X o td) (he : PE X e ty) (hf : PE X f tx) (m : M2 X o "get" apos e f cpos) (hK : X.K = K := by rfl) (hw : X.w = w := by rfl) : PE X (.Call (.Attribute o "get" apos) [e, f] [] cpos) (tKGet2 K w td ty tx) := by
  subst hK hw
  refine ⟨fun pins s σ H Q I h => ?_⟩
  refine wpAny_Call_method m.base m.few m.line PySem.F.plainAttrs_dict PySem.F.slot_dict_get PySem.F.type_dict_get (thn (ho.run pins s σ H _ I h) fun u s1 ⟨x, H1, I1, rx, d, es, n, ex, D, hs, q1⟩ => ?_)
  subst ex
  obtain rfl : u = Value.ref d := rx
  have hob := I1.kIn _ _ D.at_
  refine ⟨kd_type D I1, fun b q => by cases q; exact ⟨_, hob, rfl⟩, ?_⟩
  rw [m.trees]
  refine Calls.callWith_builtin rfl (Calls.evalArgs_plain (Calls.spliced_cons (thn (he.run pins s1 σ H1 _ I1 q1) fun iv s2 ⟨y, H2, I2, ry, q2⟩ =>
    Calls.spliced_cons (thn (hf.run pins s2 σ H2 _ I2 q2) fun fv s3 ⟨z, H3, I3, rz, zs, r, ey, en, q3⟩ => Calls.spliced_nil ?_))))
  subst ey
  obtain ⟨t, rfl⟩ := ry
  have mp := PySem.W.mapOf_K (prog := X.prog) (w := X.w) I3.kIn D.at_ D.lit
  refine call_meetsIn PySem.F.slot_dict_get (kd_type D I3) PySem.F.entry_dict_get (PySem.F.args_dict_get_3 _ _ _) (meets_dict_get_default (strKind X.prog X.w) d (PySem.strKind_is X.prog X.w zs t) hs fv) ⟨_, mp, ?_⟩
  rw [PySem.W.find_K D.at_ en]
  cases r with
  | none => exact ⟨z, H3, I3.tok _, rz, q3⟩
  | some u =>
    obtain ⟨v, rv, q⟩ := q3
    exact ⟨v, H3, I3.tok _, rv, q⟩
theorem st_kget2 {K : PySem.W.Frag} {w : World} {td ty tx : TE} {σ : L2.St} {H : Hp} {Q : VK} (h : td σ H fun x H1 => ∃ d es n, x = .ref d ∧ KDict K w d es n ∧ (d == sysModules) = false ∧ ty σ H1 fun y H2 => tx σ H2 fun z H3 => ∃ (s : Str) (r : Option Value), y = .str s ∧ PySem.W.nsIn K d s = some r ∧
  match r with
  | none => Q z H3
  | some u => ∃ v, RelV v u ∧ Q v H3) : tKGet2 K w td ty tx σ H Q := h
/-- how long the rows of each sort are -/
structure SzOk (K : PySem.W.Frag) (w : World) (d : Addr) : Prop where
  kd : ∃ es n, KDict K w d es n
  ne : (d == sysModules) = false
  at_ : ∀ x ∈ ([("kind", 3), ("open", 2), ("given", 4), ("atom", 3), ("short", 5), ("rule", 5), ("taken", 3), ("reasoned", 4)] : List (Str × Int)), ∃ t, PySem.W.nsIn K d x.1 = some (some (.int x.2 t))
theorem sz_at {K : PySem.W.Frag} {w : World} {d : Addr} {z : Str} {i : Int} {F : V → Prop} {G : Prop} (h : SzOk K w d) (hz : (z, i) ∈ ([("kind", 3), ("open", 2), ("given", 4), ("atom", 3), ("short", 5), ("rule", 5), ("taken", 3), ("reasoned", 4)] : List (Str × Int))) (q : F (.int i)) :
    ∃ (s : Str) (r : Option Value), V.str z = .str s ∧ PySem.W.nsIn K d s = some r ∧ match r with
      | none => G
      | some u => ∃ v, RelV v u ∧ F v := by
  obtain ⟨t, e⟩ := h.at_ _ hz
  exact ⟨z, _, rfl, e, .int i, ⟨t, rfl⟩, q⟩
end G

namespace G
open PySem PySem.Spec PyProof.Rows L2
/-! a lore while it is made -/
structure LN (Hb : Hp) (x : Addr) (o : LO) : Prop where
  x : Hb x = none
  l : Hb o.l = none
  k : Hb o.k = none
  s : Hb o.s = none
  f : Hb o.f = none
  w : Hb o.w = none
  ks : o.k ≠ o.s
  kf : o.k ≠ o.f
  kw : o.k ≠ o.w
  kh : o.k ≠ o.h
  sf : o.s ≠ o.f
  sw : o.s ≠ o.w
  sh : o.s ≠ o.h
  fw : o.f ≠ o.w
  fh : o.f ≠ o.h
  wh : o.w ≠ o.h
structure LS (K : PySem.W.Frag) (A : CA) (Hb H : Hp) (x dx : Addr) (C : Who) (fs : List (Str × V)) (o : LO) (rows : List Row) : Prop where
  same : Same Hb H
  ins : H x = some (.ins (A.at C) dx fs)
  ne : C ≠ .be
  lf : LF fs o
  t : LT K H o rows
section
variable {K : PySem.W.Frag} {A : CA} {Hb H H' : Hp} {x dx : Addr} {C : Who} {fs : List (Str × V)} {o : LO} {rows : List Row}
theorem LS.at (h : LS K A Hb H x dx C fs o rows) : LoreAt K A H (.ref x) rows := ⟨x, C, dx, fs, o, rfl, h.ne, h.ins, h.lf, h.t⟩
theorem LS.mono (h : LS K A Hb H x dx C fs o rows) (s : Same H H') : LS K A Hb H' x dx C fs o rows := ⟨h.same.trans s, s _ _ h.ins, h.ne, h.lf, h.t.mono s⟩
theorem DAt.ofL {p l : Addr} {kd : List (Str × PyData)} {ds : List PyData} (h : DAt K H p kd) (hl : Lk K H l ds) (s : SameX l H H') : DAt K H' p kd := by
  obtain ⟨kvs, h1, h2⟩ := h.ex
  obtain ⟨xs, l1, l2⟩ := hl.ex
  exact ⟨⟨kvs, s _ _ (fun e => by rw [e, l1] at h1; cases h1) h1, h2.monoX s l1 h.no⟩, h.no⟩
theorem DAt.ofD {p q : Addr} {kd ke : List (Str × PyData)} (h : DAt K H p kd) (hq : DAt K H q ke) (ne : p ≠ q) (s : SameX q H H') : DAt K H' p kd := by
  obtain ⟨kvs, h1, h2⟩ := h.ex
  obtain ⟨es, l1, l2⟩ := hq.ex
  exact ⟨⟨kvs, s _ _ ne h1, h2.monoD s l1 h.no⟩, h.no⟩
theorem Lk.ofD {p l : Addr} {kd : List (Str × PyData)} {ds : List PyData} (h : Lk K H l ds) (hp : DAt K H p kd) (s : SameX p H H') : Lk K H' l ds := by
  obtain ⟨kvs, h1, _⟩ := hp.ex
  exact h.dx s h1
theorem R.ofD {p : Addr} {v : V} {d : PyData} {kd : List (Str × PyData)} (h : R K H v d) (n : noL d = true) (hp : DAt K H p kd) (s : SameX p H H') : R K H' v d := by
  obtain ⟨kvs, h1, _⟩ := hp.ex
  exact h.monoD s h1 n
theorem R.ofL {l : Addr} {v : V} {d : PyData} {ds : List PyData} (h : R K H v d) (n : noL d = true) (hl : Lk K H l ds) (s : SameX l H H') : R K H' v d := by
  obtain ⟨xs, h1, _⟩ := hl.ex
  exact h.monoX s h1 n
theorem ins_L' {l : Addr} {ds : List PyData} (h : H x = some (.ins (A.at C) dx fs)) (hl : Lk K H l ds) (s : SameX l H H') : H' x = some (.ins (A.at C) dx fs) := by
  obtain ⟨xs, h1, _⟩ := hl.ex
  exact s _ _ (fun e => by rw [e, h1] at h; cases h) h
theorem ins_D' {p : Addr} {kd : List (Str × PyData)} (h : H x = some (.ins (A.at C) dx fs)) (hp : DAt K H p kd) (s : SameX p H H') : H' x = some (.ins (A.at C) dx fs) := by
  obtain ⟨kvs, h1, _⟩ := hp.ex
  exact s _ _ (fun e => by rw [e, h1] at h; cases h) h
/-- what the dicts and the list hold, each told apart -/
structure LTs (K : PySem.W.Frag) (H : Hp) (o : LO) (l : List PyData) (k s f w : List (Str × PyData)) : Prop where
  l : Lk K H o.l l
  k : DAt K H o.k k
  s : DAt K H o.s s
  f : DAt K H o.f f
  w : DAt K H o.w w
  h : DAt K H o.h []
structure LSs (K : PySem.W.Frag) (A : CA) (Hb H : Hp) (x dx : Addr) (C : Who) (fs : List (Str × V)) (o : LO) (l : List PyData) (k s f w : List (Str × PyData)) : Prop where
  same : Same Hb H
  ins : H x = some (.ins (A.at C) dx fs)
  t : LTs K H o l k s f w
variable {l : List PyData} {k s f w : List (Str × PyData)}
theorem LSs.mono (h : LSs K A Hb H x dx C fs o l k s f w) (q : Same H H') : LSs K A Hb H' x dx C fs o l k s f w := ⟨h.same.trans q, q _ _ h.ins, ⟨h.t.l.mono q, h.t.k.mono q, h.t.s.mono q, h.t.f.mono q, h.t.w.mono q, h.t.h.mono q⟩⟩
theorem LSs.setL (n : LN Hb x o) (h : LSs K A Hb H x dx C fs o l k s f w) (q : SameX o.l H H') {l' : List PyData} (hl : Lk K H' o.l l') : LSs K A Hb H' x dx C fs o l' k s f w :=
  ⟨SameX.same h.same q n.l, ins_L' h.ins h.t.l q, ⟨hl, h.t.k.ofL h.t.l q, h.t.s.ofL h.t.l q, h.t.f.ofL h.t.l q, h.t.w.ofL h.t.l q, h.t.h.ofL h.t.l q⟩⟩
theorem LSs.setK (n : LN Hb x o) (h : LSs K A Hb H x dx C fs o l k s f w) (q : SameX o.k H H') {k' : List (Str × PyData)} (hk : DAt K H' o.k k') : LSs K A Hb H' x dx C fs o l k' s f w :=
  ⟨SameX.same h.same q n.k, ins_D' h.ins h.t.k q, ⟨h.t.l.ofD h.t.k q, hk, h.t.s.ofD h.t.k n.ks.symm q, h.t.f.ofD h.t.k n.kf.symm q, h.t.w.ofD h.t.k n.kw.symm q, h.t.h.ofD h.t.k n.kh.symm q⟩⟩
theorem LSs.setS (n : LN Hb x o) (h : LSs K A Hb H x dx C fs o l k s f w) (q : SameX o.s H H') {s' : List (Str × PyData)} (hs : DAt K H' o.s s') : LSs K A Hb H' x dx C fs o l k s' f w :=
  ⟨SameX.same h.same q n.s, ins_D' h.ins h.t.s q, ⟨h.t.l.ofD h.t.s q, h.t.k.ofD h.t.s n.ks q, hs, h.t.f.ofD h.t.s n.sf.symm q, h.t.w.ofD h.t.s n.sw.symm q, h.t.h.ofD h.t.s n.sh.symm q⟩⟩
theorem LSs.setF (n : LN Hb x o) (h : LSs K A Hb H x dx C fs o l k s f w) (q : SameX o.f H H') {f' : List (Str × PyData)} (hf : DAt K H' o.f f') : LSs K A Hb H' x dx C fs o l k s f' w :=
  ⟨SameX.same h.same q n.f, ins_D' h.ins h.t.f q, ⟨h.t.l.ofD h.t.f q, h.t.k.ofD h.t.f n.kf q, h.t.s.ofD h.t.f n.sf q, hf, h.t.w.ofD h.t.f n.fw.symm q, h.t.h.ofD h.t.f n.fh.symm q⟩⟩
theorem LSs.setW (n : LN Hb x o) (h : LSs K A Hb H x dx C fs o l k s f w) (q : SameX o.w H H') {w' : List (Str × PyData)} (hw : DAt K H' o.w w') : LSs K A Hb H' x dx C fs o l k s f w' :=
  ⟨SameX.same h.same q n.w, ins_D' h.ins h.t.w q, ⟨h.t.l.ofD h.t.w q, h.t.k.ofD h.t.w n.kw q, h.t.s.ofD h.t.w n.sw q, h.t.f.ofD h.t.w n.fw q, hw, h.t.h.ofD h.t.w n.wh.symm q⟩⟩
theorem LS.parts (h : LS K A Hb H x dx C fs o rows) : LSs K A Hb H x dx C fs o (rows.map Row.d) (kindD rows) (shapesD rows) (funD rows) (wordD rows) := ⟨h.same, h.ins, ⟨h.t.l, h.t.k, h.t.s, h.t.f, h.t.w, h.t.h⟩⟩
theorem kindD_app (rs ss : List Row) : kindD (rs ++ ss) = kindD rs ++ kindD ss := by simp [kindD, kindsOf]
theorem shapesD_app (rs ss : List Row) : shapesD (rs ++ ss) = shapesD rs ++ shapesD ss := by simp [shapesD, formsOf]
theorem funD_app (rs ss : List Row) : funD (rs ++ ss) = funD rs ++ funD ss := by simp [funD, funsOf]
theorem wordD_app (rs ss : List Row) : wordD (rs ++ ss) = wordD rs ++ wordD ss := by simp [wordD, wordsOf]
theorem LSs.add {r : Row} (hC : C ≠ .be) (hf : LF fs o) (h : LSs K A Hb H x dx C fs o (rows.map Row.d ++ [r.d]) (kindD rows ++ kindD [r]) (shapesD rows ++ shapesD [r]) (funD rows ++ funD [r]) (wordD rows ++ wordD [r])) : LS K A Hb H x dx C fs o (rows ++ [r]) :=
  ⟨h.same, h.ins, hC, hf, ⟨by rw [List.map_append]; exact h.t.l, by rw [kindD_app]; exact h.t.k, by rw [shapesD_app]; exact h.t.s, by rw [funD_app]; exact h.t.f, by rw [wordD_app]; exact h.t.w, h.t.h⟩⟩
/-- fields of the lore that is made -/
theorem fs_at {f : Str} {p : Addr} {F : V → Prop} (c : Cx3 K A) (hC : C ≠ .be) (hi : H x = some (.ins (A.at C) dx fs)) (hf : f ∈ (["lines", "kinds", "shapes", "functions", "words", "facts"] : List Str)) (l : fs.lookup f = some (.ref p)) (q : F (.ref p)) :
    ∃ a' C' dx' fs' v', V.ref x = .ref a' ∧ H a' = some (.ins C' dx' fs') ∧ Cls K C' ∧ NoAttr K C' f ∧ fs'.lookup f = some v' ∧ F v' := fld_at hi (c.cl _) (c.na hf _ hC) l q
end
/-! for over a tuple of pairs that stands, whatever else changes -/
theorem for_T2x {K : PySem.W.Frag} {tb : TS} {σ : L2.St} {H : Hp} {i j : Nat} {nx bk ct : L2.St → Hp → Prop} {rt : VK} {a : Addr} {xs : List V} {ds : List PyData} (Pv : Nat → L2.St → Hp → Prop) (start : Pv 0 σ H) (keep : ∀ k σ' H', Pv k σ' H' → SqT K H' a xs ∧ RA K H' xs ds)
    (hp : ∀ d ∈ ds, ∃ d1 d2, d = .tuple [d1, d2]) (turn : ∀ (k : Nat) d1 d2 v1 v2 σ' H', ds[k]? = some (.tuple [d1, d2]) → R K H' v1 d1 → R K H' v2 d2 → Pv k σ' H' → tb ⟨Pv (k + 1), rt, nx, Pv (k + 1)⟩ ((σ'.set i (some v1)).set j (some v2)) H') (fin : ∀ σ' H', Pv ds.length σ' H' → nx σ' H') : ForT K (g2 K i j) tb ⟨nx, rt, bk, ct⟩ σ (.ref a) H := by
  obtain ⟨ha, ra⟩ := keep 0 σ H start
  refine ⟨a, rfl, ⟨xs, ha⟩, ?_⟩
  rw [← ra.length] at fin
  refine for_it (walk_tup (K := K) (a := a) (xs := xs)) (g := g2 K i j) (tb := tb) (D := ⟨nx, rt, bk, ct⟩) Pv start (fun k σ' H' _ p => (keep _ _ _ p).1) (fun k y σ' H' H'' hk p q => ?_) fin
  obtain ⟨rfl, hy⟩ := q
  obtain ⟨d, e1, e2⟩ := (keep _ _ _ p).2.getV hy
  obtain ⟨d1, d2, rfl⟩ := hp d (List.mem_of_getElem? e1)
  exact gtup2 e2 fun v1 v2 r1 r2 => turn k d1 d2 v1 v2 σ' _ e1 r1 r2 p
end G

namespace G
open PySem PySem.Spec PyProof.Rows L2
/-- the fields put so far, each a new object -/
structure IS (Hb H : Hp) (x Ci dx : Addr) (fs : List (Str × V)) (L : List (Addr × HO)) : Prop where
  same : Same Hb H
  ins : H x = some (.ins Ci dx fs)
  at_ : ∀ q ∈ L, H q.1 = some q.2 ∧ q.1 ≠ x ∧ Hb q.1 = none
  nd : (L.map (·.1)).Nodup
section
variable {Hb H H1 : Hp} {x Ci dx p : Addr} {fs : List (Str × V)} {L : List (Addr × HO)} {o : HO}
theorem IS.put (h : IS Hb H x Ci dx fs L) (hb : Hb x = none) (f : Str) (s : Same H H1) (hp : H p = none) (e : H1 p = some o) : IS Hb (upd H1 x (.ins Ci dx (putF f (.ref p) fs))) x Ci dx (putF f (.ref p) fs) (L ++ [(p, o)]) := by
  have hpx : p ≠ x := fun q => by rw [q, h.ins] at hp; cases hp
  refine ⟨fun a v q => ?_, upd_same, fun q hq => ?_, ?_⟩
  · have hax : a ≠ x := fun z => by rw [z, hb] at q; cases q
    rw [upd_ne hax]
    exact s _ _ (h.same _ _ q)
  · rcases List.mem_append.mp hq with hq | hq
    · obtain ⟨q1, q2, q3⟩ := h.at_ q hq
      exact ⟨by rw [upd_ne q2]; exact s _ _ q1, q2, q3⟩
    · rw [List.mem_singleton.mp hq]
      exact ⟨by show upd H1 x _ p = _; rw [upd_ne hpx]; exact e, hpx, none_of h.same hp⟩
  · rw [List.map_append]
    refine List.nodup_append.mpr ⟨h.nd, by simp, fun a ha b hb' => ?_⟩
    intro hab
    have hbp : b = p := List.mem_singleton.mp hb'
    obtain ⟨q, hq, hqa⟩ := List.mem_map.mp ha
    have h1 := (h.at_ q hq).1
    have hqa : q.1 = a := hqa
    rw [hqa, hab, hbp, hp] at h1
    cases h1
theorem len_putF {f : Str} {v : V} {m : Nat} : ∀ {fs : List (Str × V)}, fs.length ≤ m → (putF f v fs).length ≤ m + 1
  | [], _ => by show 1 ≤ m + 1; omega
  | (g, y) :: r, h => by
    show (if g = f then (g, v) :: r else (g, y) :: putF f v r).length ≤ m + 1
    split
    · simp only [List.length_cons] at h ⊢; omega
    · simp only [List.length_cons] at h ⊢
      have := len_putF (f := f) (v := v) (fs := r) (m := m - 1) (by omega)
      omega
end
def loF (o : LO) (fs0 : List (Str × V)) : List (Str × V) := putF "facts" (.ref o.h) (putF "words" (.ref o.w) (putF "functions" (.ref o.f) (putF "shapes" (.ref o.s) (putF "kinds" (.ref o.k) (putF "lines" (.ref o.l) fs0)))))
def loL (o : LO) : List (Addr × HO) := [(o.l, .lst []), (o.k, .dK []), (o.s, .dK []), (o.f, .dK []), (o.w, .dK []), (o.h, .dK [])]
theorem loF_ok {o : LO} {fs0 : List (Str × V)} (h : ∀ m ∈ meths, fs0.lookup m = none) : LF (loF o fs0) o := by
  refine ⟨?_, ?_, ?_, ?_, ?_, ?_, fun m hm => ?_⟩
  iterate 6
    · unfold loF
      repeat (first | rw [lookup_putF, if_pos rfl] | rw [lookup_putF, if_neg (by decide +kernel)])
  · have h0 := h m hm
    unfold loF
    have key : ∀ f ∈ (["facts", "words", "functions", "shapes", "kinds", "lines"] : List Str), ∀ g ∈ meths, ¬ g = f := by decide +kernel
    rw [lookup_putF, if_neg (key _ (by simp) m hm), lookup_putF, if_neg (key _ (by simp) m hm), lookup_putF, if_neg (key _ (by simp) m hm), lookup_putF, if_neg (key _ (by simp) m hm), lookup_putF, if_neg (key _ (by simp) m hm), lookup_putF, if_neg (key _ (by simp) m hm)]
    exact h0
theorem IS.done {K : PySem.W.Frag} {A : CA} {Hb H : Hp} {x dx : Addr} {C : Who} {o : LO} {fs0 : List (Str × V)} (h : IS Hb H x (A.at C) dx (loF o fs0) (loL o)) (hb : Hb x = none) (hC : C ≠ .be) (h0 : ∀ m ∈ meths, fs0.lookup m = none) : LN Hb x o ∧ LS K A Hb H x dx C (loF o fs0) o [] := by
  have nd := h.nd
  simp only [loL, List.map_cons, List.map_nil, List.nodup_cons, List.mem_cons, List.not_mem_nil, or_false, not_or, List.nodup_nil, and_true, not_false_eq_true] at nd
  obtain ⟨_, ⟨n1, n2, n3, n4⟩, ⟨n5, n6, n7⟩, ⟨n8, n9⟩, n10⟩ := nd
  have g : ∀ p, (p, HO.dK []) ∈ loL o → DAt K H p [] := fun p hp => ⟨⟨[], (h.at_ _ hp).1, .nil⟩, fun _ h => by cases h⟩
  refine ⟨⟨hb, (h.at_ (o.l, .lst []) (by simp [loL])).2.2, (h.at_ (o.k, .dK []) (by simp [loL])).2.2, (h.at_ (o.s, .dK []) (by simp [loL])).2.2, (h.at_ (o.f, .dK []) (by simp [loL])).2.2, (h.at_ (o.w, .dK []) (by simp [loL])).2.2, n1, n2, n3, n4, n5, n6, n7, n8, n9, n10⟩,
    ⟨h.same, h.ins, hC, loF_ok h0, ⟨⟨⟨[], (h.at_ (o.l, .lst []) (by simp [loL])).1, .nil⟩, rfl⟩, g _ (by simp [loL]), g _ (by simp [loL]), g _ (by simp [loL]), g _ (by simp [loL]), g _ (by simp [loL])⟩⟩⟩
end G

namespace G
open PySem PySem.Spec PyProof.Rows L2
/-! C.m(e, ..): a def of a class, called off the class -/
structure CalS (P : Program) (w : World) (K : PySem.W.Frag) (mg : Str → Option Value) (base : Heap) (k : Nat) (C : Addr) (m : Str) (sp : Sp) : Prop where
  ex : ∃ (f : Addr) (fd : FuncData) (ps : List Str), FnOk P w K mg base CX0 k f fd ps sp ∧ PySem.W.keepIn K (.ref f) = true ∧ Binds K fd ps [] ∧ ∃ mc, ClX.CRead K C mc ∧ ClX.CVal K C mc m (.ref f) (.ref f)
def tStat (C : Addr) (sp : Sp) (to : TE) (t : TA) : TE := fun σ H Q => to σ H fun x H1 => x = .ref C ∧ t σ H1 fun vs H2 => sp vs H2 Q E0
theorem st_stat {C : Addr} {sp : Sp} {to : TE} {t : TA} {σ : L2.St} {H : Hp} {Q : VK} (h : to σ H fun x H1 => x = .ref C ∧ t σ H1 fun vs H2 => sp vs H2 Q E0) : tStat C sp to t σ H Q := h
section
variable {X : Cx} {o e : Expr} {es : List Expr} {to : TE} {t : TA} {C : Addr} {m x : Str} {sp : Sp} {j k : Nat} {p pos apos : Pos}
theorem pe_stat {pl : Sem Bool} (c : CalS X.prog X.w X.K X.mg X.base k C m sp) (hr : Room j X.A) (hk : k ≤ j) (ho : PE X o to) (ha : PA X (e :: es) t)
    (h1 : starEach (e :: es) X.env = (false, eval e X.env) :: starEach es X.env := by rfl) (h2 : (backTo pos (starEach es X.env)).any (·.1) = false := by rfl)
    (ht : eval (.Call (.Attribute o m apos) (e :: es) [] pos) X.env = (do let ov ← eval o X.env; standAt apos.atName; let (f, first) ← holding [ov] (getMethod ov m pl); callWith pos f first (backTo pos (starEach (e :: es) X.env)) (backToKw pos (keywordEach [] X.env))) := by rfl) :
    PE X (.Call (.Attribute o m apos) (e :: es) [] pos) (tStat C sp to t) := by
  obtain ⟨f, fd, ps, F, kp, b, mc, r, cv⟩ := c.ex
  refine ⟨fun pins s σ H Q I h => ?_⟩
  refine PySem.W.methodCall_KW (pl := pl) (thn (ho.run pins s σ H _ I h) fun u s1 ⟨x, Hx, I1, rx, ex, q⟩ => ?_) ht
  subst ex
  obtain rfl : u = Value.ref C := rx
  refine PySem.W.method_cls I1.kIn r.ga (ClX.getcval_ok I1 r cv fun s2 I2 => ?_)
  refine PySem.W.callWith_K (first := []) (h₀ := X.base) I2.ok.mod.kin kp (thn (ha.run pos pins s2 σ Hx _ I2 q) fun us s3 ⟨vs, H2, I3, rv, q2⟩ => ⟨I3.kIn, ?_⟩) h1 h2
  exact run_fn F (hr.mono hk) b .nil pass0 I3 rv (by simpa using q2)
end
end G

namespace G
open PySem PySem.Spec PyProof.Rows L2
/-! the rows of a drawn book are right -/
theorem lookup_nd {β : Type} {z : Str} {v : β} : ∀ {xs : List (Str × β)}, (xs.map (·.1)).Nodup → (z, v) ∈ xs → xs.lookup z = some v
  | (s, b) :: xs, nd, h => by
    simp only [List.map_cons, List.nodup_cons] at nd
    simp only [List.lookup]
    rcases List.mem_cons.mp h with e | h
    · obtain ⟨rfl, rfl⟩ := Prod.mk.inj e
      simp
    · have hne : z ≠ s := fun e => nd.1 (List.mem_map.mpr ⟨(z, v), h, e⟩)
      have e1 : (z == s) = false := by simpa using hne
      rw [e1]
      exact lookup_nd nd.2 h
theorem lookup_no {β : Type} {z : Str} : ∀ {xs : List (Str × β)}, (∀ x ∈ xs, x.1 ≠ z) → xs.lookup z = none
  | [], _ => rfl
  | (s, b) :: xs, h => by
    have e1 : (z == s) = false := by simpa using fun e : z = s => h (s, b) (List.mem_cons_self ..) e.symm
    simp only [List.lookup, e1]
    exact lookup_no fun x hx => h x (List.mem_cons_of_mem _ hx)
mutual
theorem Th.kd_kn {g : Bk} {cs : List (Str × List Str × Str)} {xs : List (Str × Str)} {is : List Str} {E : Tab} (hf : ∀ k c ps, (c, ps) ∈ g.forms k → E.fm c = some (k, ps)) (hc : ∀ c ps k, (c, ps, k) ∈ cs → E.fn c = some (ps, k)) (hx : ∀ x k, (x, k) ∈ xs → xs.lookup x = some k) :
    ∀ (t : Th) {k : Str}, t.kd g cs xs is k → t.kn E xs is k
  | .free x, k, h => hx x k h
  | .bnd i, k, h => h
  | .app .form c as, k, h => by
    obtain ⟨ps, h1, h2⟩ := h
    exact ⟨ps, hf k c ps h1, Th.kds_kns hf hc hx as h2⟩
  | .app .call c as, k, h => by
    obtain ⟨ps, h1, h2⟩ := h
    exact ⟨ps, hc c ps k h1, Th.kds_kns hf hc hx as h2⟩
theorem Th.kds_kns {g : Bk} {cs : List (Str × List Str × Str)} {xs : List (Str × Str)} {is : List Str} {E : Tab} (hf : ∀ k c ps, (c, ps) ∈ g.forms k → E.fm c = some (k, ps)) (hc : ∀ c ps k, (c, ps, k) ∈ cs → E.fn c = some (ps, k)) (hx : ∀ x k, (x, k) ∈ xs → xs.lookup x = some k) :
    ∀ (ts : List Th) {ks : List Str}, Th.kds g cs xs is ts ks → Th.kns E xs is ts ks
  | [], [], _ => True.intro
  | t :: ts, k :: ks, h => ⟨Th.kd_kn hf hc hx t h.1, Th.kds_kns hf hc hx ts h.2⟩
  | [], _ :: _, h => by simp [Th.kds] at h
  | _ :: _, [], h => by simp [Th.kds] at h
end
def Row.nm : Row → Str
  | .opn k => k
  | .knd k _ => k
  | .fn f _ _ _ => f
  | .atm p _ => p
/-- a function's row: its name, kinds and kind -/
def fnRow (x : (Str × List Str × Str) × Bdy) : Row := .fn x.1.1 x.1.2.1 x.1.2.2 x.2
def BdyB (g : Bk) (f : Str) (ks : List Str) (k : Str) : Bdy → Prop
  | .none => True
  | .short t => t.kd g g.calls [] ks k ∧ t.dep ≤ 4 ∧ t.sz ≤ 53
  | .rule ts => ∃ k0 ks', ks = k0 :: ks' ∧ (k0 = g.b ∨ k0 = g.c) ∧ ts.length = (g.forms k0).length ∧
      ∀ (i : Nat) t x, ts[i]? = some t → (g.forms k0)[i]? = some x → t.kd g (g.sig (some (f, ks, k, ownJs x.2 k0))) [] (x.2 ++ ks') k ∧ t.dep ≤ 4 ∧ t.sz ≤ 53 ∧ t.fall f (ownJs x.2 k0)
structure BR (g : Bk) (bs : List Bdy) : Prop where
  len : bs.length = g.calls.length
  nd : (g.calls.map (·.1)).Nodup
  wnd : (g.words.map (·.1)).Nodup
  fnd : ((g.fb ++ g.fc).map (·.1)).Nodup
  fbp : ∀ x ∈ g.fb, ∀ p ∈ x.2, p = g.b
  bd : ∀ (i : Nat) (c : Str × List Str × Str) (b : Bdy), g.calls[i]? = some c → bs[i]? = some b → BdyB { g with calls := g.calls.take i } c.1 c.2.1 c.2.2 b
def fnsOf (g : Bk) (bs : List Bdy) : List Row := (g.calls.zip bs).map fnRow
def atmsOf (g : Bk) : List Row := g.words.map fun x => .atm x.1 x.2
def rowsOf (g : Bk) (bs : List Bdy) : List Row := [.opn g.a, .knd g.b g.fb, .knd g.c g.fc] ++ (fnsOf g bs ++ atmsOf g)
theorem kindsOf_app (rs ss : List Row) : kindsOf (rs ++ ss) = kindsOf rs ++ kindsOf ss := by simp [kindsOf]
theorem formsOf_app (rs ss : List Row) : formsOf (rs ++ ss) = formsOf rs ++ formsOf ss := by simp [formsOf]
theorem funsOf_app (rs ss : List Row) : funsOf (rs ++ ss) = funsOf rs ++ funsOf ss := by simp [funsOf]
theorem wordsOf_app (rs ss : List Row) : wordsOf (rs ++ ss) = wordsOf rs ++ wordsOf ss := by simp [wordsOf]
section
variable {g : Bk}
theorem fns_k (xs : List ((Str × List Str × Str) × Bdy)) : kindsOf (xs.map fnRow) = [] ∧ formsOf (xs.map fnRow) = [] ∧ wordsOf (xs.map fnRow) = [] ∧ funsOf (xs.map fnRow) = xs.map fun x => (x.1.1, fnRow x) := by
  induction xs with
  | nil => exact ⟨rfl, rfl, rfl, rfl⟩
  | cons x xs ih =>
    obtain ⟨h1, h2, h3, h4⟩ := ih
    refine ⟨?_, ?_, ?_, ?_⟩
    · show kindsOf ([fnRow x] ++ xs.map fnRow) = _; rw [kindsOf_app, h1]; rfl
    · show formsOf ([fnRow x] ++ xs.map fnRow) = _; rw [formsOf_app, h2]; rfl
    · show wordsOf ([fnRow x] ++ xs.map fnRow) = _; rw [wordsOf_app, h3]; rfl
    · show funsOf ([fnRow x] ++ xs.map fnRow) = _; rw [funsOf_app, h4]; rfl
theorem atms_k (xs : List (Str × List Str)) : kindsOf (xs.map fun x => Row.atm x.1 x.2) = [] ∧ formsOf (xs.map fun x => Row.atm x.1 x.2) = [] ∧ funsOf (xs.map fun x => Row.atm x.1 x.2) = [] ∧ wordsOf (xs.map fun x => Row.atm x.1 x.2) = xs.map fun x => (x.1, Row.atm x.1 x.2) := by
  induction xs with
  | nil => exact ⟨rfl, rfl, rfl, rfl⟩
  | cons x xs ih =>
    obtain ⟨h1, h2, h3, h4⟩ := ih
    refine ⟨?_, ?_, ?_, ?_⟩
    · show kindsOf ([Row.atm x.1 x.2] ++ xs.map fun x => Row.atm x.1 x.2) = _; rw [kindsOf_app, h1]; rfl
    · show formsOf ([Row.atm x.1 x.2] ++ xs.map fun x => Row.atm x.1 x.2) = _; rw [formsOf_app, h2]; rfl
    · show funsOf ([Row.atm x.1 x.2] ++ xs.map fun x => Row.atm x.1 x.2) = _; rw [funsOf_app, h3]; rfl
    · show wordsOf ([Row.atm x.1 x.2] ++ xs.map fun x => Row.atm x.1 x.2) = _; rw [wordsOf_app, h4]; rfl
/-- the three kinds and what stands behind them -/
def hd3 (g : Bk) : List Row := [.opn g.a, .knd g.b g.fb, .knd g.c g.fc]
theorem hd3_kinds (g : Bk) : kindsOf (hd3 g) = [(g.a, none), (g.b, some g.fb), (g.c, some g.fc)] := rfl
theorem hd3_forms (g : Bk) : formsOf (hd3 g) = (g.fb.map fun x => (x.1, (g.b, x.2))) ++ (g.fc.map fun x => (x.1, (g.c, x.2))) := by simp [hd3, formsOf]
theorem hd3_funs (g : Bk) : funsOf (hd3 g) = [] := rfl
theorem hd3_words (g : Bk) : wordsOf (hd3 g) = [] := rfl
theorem kind_is (ok : BkOk g) {k : Str} (h : k ∈ g.kinds) : (([(g.a, none), (g.b, some g.fb), (g.c, some g.fc)] : List (Str × Option Forms)).lookup k).isSome = true := by
  simp only [Bk.kinds, List.mem_cons, List.not_mem_nil, or_false] at h
  simp only [List.lookup]
  cases h1 : k == g.a
  · cases h2 : k == g.b
    · have : k = g.c := by
        rcases h with rfl | rfl | rfl
        · simp at h1
        · simp at h2
        · rfl
      rw [this]; simp
    · rfl
  · rfl
theorem form_at (B : BR g bs) {k c : Str} {ps : List Str} (h : (c, ps) ∈ g.forms k) : (formsOf (hd3 g)).lookup c = some (k, ps) := by
  rw [hd3_forms]
  refine lookup_nd ?_ ?_
  · have := B.fnd
    rw [List.map_append] at this ⊢
    rw [List.map_map, List.map_map]
    exact this
  · unfold Bk.forms at h
    split at h
    · rename_i e; subst e
      exact List.mem_append_left _ (List.mem_map.mpr ⟨(c, ps), h, rfl⟩)
    · split at h
      · rename_i e; subst e
        exact List.mem_append_right _ (List.mem_map.mpr ⟨(c, ps), h, rfl⟩)
      · cases h
end
end G

namespace G
open PySem PySem.Spec PyProof.Rows L2
theorem lookup_mem {β : Type} {z : Str} {v : β} : ∀ {xs : List (Str × β)}, xs.lookup z = some v → (z, v) ∈ xs
  | (s, b) :: xs, h => by
    simp only [List.lookup] at h
    cases e : z == s
    · rw [e] at h; exact List.mem_cons_of_mem _ (lookup_mem h)
    · rw [e] at h
      have e1 : z = s := by simpa using e
      obtain rfl := Option.some.inj h
      rw [e1]; exact List.mem_cons_self ..
structure TabOk (E : Tab) : Prop where
  fm : ∀ c k ps, E.fm c = some (k, ps) → isFormS c = true ∧ ps.length ≤ 4
  fn : ∀ c ps k, E.fn c = some (ps, k) → isNameS c = true ∧ ps.length ≤ 4
mutual
theorem Th.kn_isT {E : Tab} (ok : TabOk E) {is : List Str} : ∀ (t : Th) {k : Str}, t.kn E [] is k → t.isT [] is.length
  | .free x, k, h => by cases (show ([] : List (Str × Str)).lookup x = some k from h)
  | .bnd i, k, h => (List.getElem?_eq_some_iff.mp (show is[i]? = some k from h)).1
  | .app .form c as, k, h => by
    obtain ⟨ps, h1, h2⟩ := h
    have h3 := ok.fm c k ps h1
    exact ⟨h3.1, by rw [Th.kns_len h2]; exact h3.2, Th.kns_areT ok as h2⟩
  | .app .call c as, k, h => by
    obtain ⟨ps, h1, h2⟩ := h
    have h3 := ok.fn c ps k h1
    exact ⟨h3.1, by rw [Th.kns_len h2]; exact h3.2, Th.kns_areT ok as h2⟩
theorem Th.kns_areT {E : Tab} (ok : TabOk E) {is : List Str} : ∀ (ts : List Th) {ks : List Str}, Th.kns E [] is ts ks → Th.areT [] is.length ts
  | [], [], _ => True.intro
  | t :: ts, k :: ks, h => ⟨Th.kn_isT ok t h.1, Th.kns_areT ok ts h.2⟩
  | [], _ :: _, h => by simp [Th.kns] at h
  | _ :: _, [], h => by simp [Th.kns] at h
end
section
variable {g : Bk} {bs : List Bdy}
/-- rows that begin with the three kinds -/
structure Beh (g : Bk) (rs X : List Row) : Prop where
  k : kindsOf rs = kindsOf (hd3 g)
  f : formsOf rs = formsOf (hd3 g)
  n : funsOf rs = funsOf X
  w : wordsOf rs = wordsOf X
theorem beh_of {X : List Row} (h1 : kindsOf X = []) (h2 : formsOf X = []) : Beh g (hd3 g ++ X) X :=
  ⟨by rw [kindsOf_app, h1, List.append_nil], by rw [formsOf_app, h2, List.append_nil], by rw [funsOf_app]; rfl, by rw [wordsOf_app]; rfl⟩
theorem Beh.kind {rs X : List Row} (b : Beh g rs X) (ok : BkOk g) {k : Str} (h : k ∈ g.kinds) : isKind rs k := by
  unfold isKind
  rw [b.k]
  exact kind_is ok h
theorem kinds_nm (ok : BkOk g) {k : Str} (h : k ∈ g.kinds) : isNameS k = true := by
  simp only [Bk.kinds, List.mem_cons, List.not_mem_nil, or_false] at h
  rcases h with rfl | rfl | rfl
  · exact ok.na
  · exact ok.nb
  · exact ok.nc
theorem Beh.ks {rs X : List Row} (b : Beh g rs X) (ok : BkOk g) {ks : List Str} (h : ks.length ≤ 4) (hk : ∀ k ∈ ks, k ∈ g.kinds) : KsR rs ks := ⟨h, fun k hk' => ⟨kinds_nm ok (hk k hk'), b.kind ok (hk k hk')⟩⟩
theorem zip_nm {cs : List (Str × List Str × Str)} {bs : List Bdy} (h : bs.length = cs.length) : (cs.zip bs).map (fun x => x.1.1) = cs.map (·.1) := by
  have e : (cs.zip bs).map Prod.fst = cs := List.map_fst_zip (by omega)
  have : (cs.zip bs).map (fun x => x.1.1) = ((cs.zip bs).map Prod.fst).map (·.1) := by rw [List.map_map]; rfl
  rw [this, e]
theorem fun_none (B : BR g bs) {j : Nat} {c : Str × List Str × Str} (hc : g.calls[j]? = some c) : (funsOf (((g.calls.zip bs).take j).map fnRow)).lookup c.1 = none := by
  rw [(fns_k _).2.2.2]
  refine lookup_no fun x hx => ?_
  obtain ⟨y, hy, rfl⟩ := List.mem_map.mp hx
  obtain ⟨i, hi⟩ := List.getElem?_of_mem hy
  rw [List.getElem?_take] at hi
  split at hi
  · rename_i hij
    have h1 : (g.calls.map (·.1))[i]? = some y.1.1 := by rw [← zip_nm B.len, List.getElem?_map, hi]; rfl
    have h2 : (g.calls.map (·.1))[j]? = some c.1 := by rw [List.getElem?_map, hc]; rfl
    intro e
    have h1' := List.getElem?_eq_some_iff.mp h1
    have h2' := List.getElem?_eq_some_iff.mp h2
    have := (List.pairwise_iff_getElem.mp B.nd) i j h1'.1 h2'.1 hij
    rw [h1'.2, h2'.2] at this
    exact this e
  · cases hi
theorem fun_some (B : BR g bs) {j : Nat} {c : Str} {ps : List Str} {k : Str} (h : (c, ps, k) ∈ g.calls.take j) : ((funsOf (((g.calls.zip bs).take j).map fnRow)).lookup c).bind Row.sig = some (ps, k) := by
  rw [(fns_k _).2.2.2]
  obtain ⟨i, hi⟩ := List.getElem?_of_mem h
  rw [List.getElem?_take] at hi
  split at hi
  · rename_i hij
    have hil := (List.getElem?_eq_some_iff.mp hi).1
    have hb : i < bs.length := by rw [B.len]; exact hil
    have hz : (g.calls.zip bs)[i]? = some ((c, ps, k), bs[i]) := by
      rw [List.getElem?_zip_eq_some]; exact ⟨hi, List.getElem?_eq_getElem hb⟩
    have hm : ((c, ps, k), bs[i]) ∈ (g.calls.zip bs).take j := List.mem_of_getElem? (i := i) (by rw [List.getElem?_take, if_pos hij, hz])
    have hl : (((g.calls.zip bs).take j).map fun x => (x.1.1, fnRow x)).lookup c = some (fnRow ((c, ps, k), bs[i])) := by
      refine lookup_nd ?_ (List.mem_map.mpr ⟨_, hm, rfl⟩)
      rw [List.map_map]
      have e : ((g.calls.zip bs).take j).map ((fun x : Str × Row => x.1) ∘ fun x => (x.1.1, fnRow x)) = ((g.calls.zip bs).map fun x => x.1.1).take j := by rw [List.map_take]; rfl
      rw [e, zip_nm B.len]
      exact B.nd.sublist (List.take_sublist _ _)
    rw [hl]; rfl
  · cases hi
theorem forms_tab (ok : BkOk g) {c k : Str} {ps : List Str} (h : (formsOf (hd3 g)).lookup c = some (k, ps)) : isFormS c = true ∧ ps.length ≤ 4 := by
  have hm := lookup_mem h
  rw [hd3_forms] at hm
  rcases List.mem_append.mp hm with hm | hm
  · obtain ⟨x, hx, e⟩ := List.mem_map.mp hm
    obtain ⟨rfl, e2⟩ := Prod.mk.inj e
    obtain ⟨_, rfl⟩ := Prod.mk.inj e2
    exact ⟨ok.okb.nm x hx, (ok.okb.ps x hx).1⟩
  · obtain ⟨x, hx, e⟩ := List.mem_map.mp hm
    obtain ⟨rfl, e2⟩ := Prod.mk.inj e
    obtain ⟨_, rfl⟩ := Prod.mk.inj e2
    exact ⟨ok.okc.nm x hx, (ok.okc.ps x hx).1⟩
theorem fun_tab (ok : BkOk g) {zs : List ((Str × List Str × Str) × Bdy)} (hz : ∀ x ∈ zs, x.1 ∈ g.calls) {c k : Str} {ps : List Str} (h : ((funsOf (zs.map fnRow)).lookup c).bind Row.sig = some (ps, k)) : isNameS c = true ∧ ps.length ≤ 4 := by
  rw [(fns_k _).2.2.2] at h
  obtain ⟨r, h1, h2⟩ := Option.bind_eq_some_iff.mp h
  have hm := lookup_mem h1
  obtain ⟨x, hx, e⟩ := List.mem_map.mp hm
  obtain ⟨rfl, rfl⟩ := Prod.mk.inj e
  obtain ⟨rfl, _⟩ := Prod.mk.inj (Option.some.inj h2)
  have := ok.cn _ (hz x hx)
  exact ⟨this.1, this.2.1⟩
end
end G

namespace G
open PySem PySem.Spec PyProof.Rows L2
section
variable {g : Bk} {bs : List Bdy}
theorem sz_le {t : Th} {n : Nat} (h1 : t.isT [] n) (h2 : t.dep ≤ 4) (h3 : t.sz ≤ 53) : okT t n := ⟨h1, by omega, by omega⟩
theorem fn_right (ok : BkOk g) (B : BR g bs) {j : Nat} {c : Str × List Str × Str} {b : Bdy} (hc : g.calls[j]? = some c) (hb : bs[j]? = some b) : RowR (hd3 g ++ ((g.calls.zip bs).take j).map fnRow) (.fn c.1 c.2.1 c.2.2 b) := by
  have hk := fns_k ((g.calls.zip bs).take j)
  have be := beh_of (g := g) hk.1 hk.2.1
  have hcm := List.mem_of_getElem? hc
  have hcn := ok.cn c hcm
  have hzm : ∀ x ∈ (g.calls.zip bs).take j, x.1 ∈ g.calls := fun x hx => by
    have := List.mem_of_mem_take hx
    exact (List.of_mem_zip this).1
  have hfm : ∀ k c ps, (c, ps) ∈ g.forms k → (formsOf (hd3 g ++ ((g.calls.zip bs).take j).map fnRow)).lookup c = some (k, ps) := fun k c ps h => by
    rw [be.f]; exact form_at B h
  have hfn : ∀ c ps k, (c, ps, k) ∈ g.calls.take j → ((funsOf (hd3 g ++ ((g.calls.zip bs).take j).map fnRow)).lookup c).bind Row.sig = some (ps, k) := fun c ps k h => by
    rw [be.n]; exact fun_some B h
  have tok : ∀ c k ps, (formsOf (hd3 g ++ ((g.calls.zip bs).take j).map fnRow)).lookup c = some (k, ps) → isFormS c = true ∧ ps.length ≤ 4 := fun c k ps h => by
    rw [be.f] at h; exact forms_tab ok h
  have tfn : ∀ c ps k, ((funsOf (hd3 g ++ ((g.calls.zip bs).take j).map fnRow)).lookup c).bind Row.sig = some (ps, k) → isNameS c = true ∧ ps.length ≤ 4 := fun c ps k h => by
    rw [be.n] at h; exact fun_tab ok hzm h
  have f0 : (funsOf (hd3 g ++ ((g.calls.zip bs).take j).map fnRow)).lookup c.1 = none := by rw [be.n]; exact fun_none B hc
  have bd := B.bd j c b hc hb
  refine ⟨hcn.1, f0, be.ks ok hcn.2.1 hcn.2.2.1, kinds_nm ok hcn.2.2.2, be.kind ok hcn.2.2.2, ?_⟩
  cases b with
  | none => exact True.intro
  | short t =>
    obtain ⟨h1, h2, h3⟩ := bd
    have hkn : t.kn (tabOf (hd3 g ++ ((g.calls.zip bs).take j).map fnRow)) [] c.2.1 c.2.2 := Th.kd_kn (g := { g with calls := g.calls.take j }) (E := tabOf (hd3 g ++ ((g.calls.zip bs).take j).map fnRow)) hfm hfn (fun _ _ h => by cases h) t h1
    exact ⟨sz_le (Th.kn_isT ⟨tok, tfn⟩ t hkn) h2 h3, hkn⟩
  | rule ts =>
    obtain ⟨k0, ks', e, hk0, hl, hts⟩ := bd
    have hl4 : (g.forms k0).length ≤ 4 := (forms_ok ok k0).len
    have hlook : (kindsOf (hd3 g ++ ((g.calls.zip bs).take j).map fnRow)).lookup k0 = some (some (g.forms k0)) := by
      rw [be.k, hd3_kinds]
      have e1 : (g.b == g.a) = false := by simpa using fun h : g.b = g.a => ok.ab h.symm
      have e2 : (g.c == g.a) = false := by simpa using fun h : g.c = g.a => ok.ac h.symm
      have e3 : (g.c == g.b) = false := by simpa using fun h : g.c = g.b => ok.bc h.symm
      rcases hk0 with rfl | rfl
      · simp [List.lookup, e1, Bk.forms]
      · have : ¬ g.c = g.b := fun h => ok.bc h.symm
        simp [List.lookup, e2, e3, Bk.forms, this]
    have hl' : ts.length = (g.forms k0).length := hl
    refine ⟨k0, g.forms k0, by rw [e]; rfl, hlook, hl', by omega, fun i t x ht hx => ?_⟩
    have hd1 : c.2.1.drop 1 = ks' := by rw [e]; rfl
    rw [hd1]
    obtain ⟨q1, q2, q3, q4⟩ := hts i t x ht hx
    have hx4 := ((forms_ok ok k0).ps x (List.mem_of_getElem? hx)).1
    have hkn : t.kn (tabBy (hd3 g ++ ((g.calls.zip bs).take j).map fnRow) c.1 c.2.1 c.2.2) [] (x.2 ++ ks') c.2.2 := by
      refine Th.kd_kn (g := { g with calls := g.calls.take j }) (E := tabBy (hd3 g ++ ((g.calls.zip bs).take j).map fnRow) c.1 c.2.1 c.2.2) hfm (fun c' ps k h => ?_) (fun _ _ h => by cases h) t q1
      show (if c' = c.1 then some (c.2.1, c.2.2) else _) = some (ps, k)
      rcases List.mem_append.mp (show (c', ps, k) ∈ g.calls.take j ++ [(c.1, c.2.1, c.2.2)] from h) with h | h
      · have hne : c' ≠ c.1 := fun e => by
          have := hfn c' ps k h
          rw [e, f0] at this; cases this
        rw [if_neg hne]
        exact hfn c' ps k h
      · obtain ⟨rfl, e2⟩ := Prod.mk.inj (List.mem_singleton.mp h)
        obtain ⟨rfl, rfl⟩ := Prod.mk.inj e2
        rw [if_pos rfl]
    refine ⟨sz_le (Th.kn_isT ⟨tok, fun c' ps k h => ?_⟩ t hkn) q2 q3, hkn, q4, hx4⟩
    have h : (if c' = c.1 then some (c.2.1, c.2.2) else ((funsOf (hd3 g ++ ((g.calls.zip bs).take j).map fnRow)).lookup c').bind Row.sig) = some (ps, k) := h
    split at h
    · rename_i e
      obtain ⟨rfl, rfl⟩ := Prod.mk.inj (Option.some.inj h)
      rw [e]
      exact ⟨hcn.1, hcn.2.1⟩
    · exact tfn c' ps k h
theorem kind_right (ok : BkOk g) (B : BR g bs) : RowR [] (.opn g.a) ∧ RowR [.opn g.a] (.knd g.b g.fb) ∧ RowR [.opn g.a, .knd g.b g.fb] (.knd g.c g.fc) := by
  have nd := B.fnd
  rw [List.map_append] at nd
  have ndb := (List.nodup_append.mp nd).1
  have ndc := (List.nodup_append.mp nd).2.1
  have ndx := (List.nodup_append.mp nd).2.2
  have e1 : (g.b == g.a) = false := by simpa using fun h : g.b = g.a => ok.ab h.symm
  have e2 : (g.c == g.a) = false := by simpa using fun h : g.c = g.a => ok.ac h.symm
  have e3 : (g.c == g.b) = false := by simpa using fun h : g.c = g.b => ok.bc h.symm
  refine ⟨⟨ok.na, rfl⟩, ⟨ok.nb, by simp [kindsOf, List.lookup, e1], ?_, ok.okb.len, ndb, fun i x hx => ?_⟩, ⟨ok.nc, by simp [kindsOf, List.lookup, e2, e3], ?_, ok.okc.len, ndc, fun i x hx => ?_⟩⟩
  · obtain ⟨n, r, e⟩ := ok.fb0; rw [e]; simp
  · have hxm := List.mem_of_getElem? hx
    refine ⟨ok.okb.nm x hxm, rfl, (ok.okb.ps x hxm).1, fun p hp => ?_⟩
    have hpb := B.fbp x hxm p hp
    refine ⟨by rw [hpb]; exact ok.nb, .inr ⟨hpb, fun hi => ?_⟩⟩
    obtain ⟨n, r, e⟩ := ok.fb0
    subst hi
    rw [e] at hx
    obtain rfl := Option.some.inj hx
    cases hp
  · obtain ⟨n, r, e⟩ := ok.fc0
    rcases e with e | e <;> · rw [e]; simp
  · have hxm := List.mem_of_getElem? hx
    refine ⟨ok.okc.nm x hxm, ?_, (ok.okc.ps x hxm).1, fun p hp => ?_⟩
    · have e : formsOf [Row.opn g.a, .knd g.b g.fb] = g.fb.map fun x => (x.1, (g.b, x.2)) := by simp [formsOf]
      rw [e]
      refine lookup_no fun y hy => ?_
      obtain ⟨z, hz, rfl⟩ := List.mem_map.mp hy
      exact ndx _ (List.mem_map.mpr ⟨z, hz, rfl⟩) _ (List.mem_map.mpr ⟨x, hxm, rfl⟩)
    · have hpk := (ok.okc.ps x hxm).2 p hp
      refine ⟨kinds_nm ok hpk, ?_⟩
      simp only [Bk.kinds, List.mem_cons, List.not_mem_nil, or_false] at hpk
      rcases hpk with rfl | rfl | rfl
      · exact .inl (by simp [isKind, kindsOf, List.lookup])
      · exact .inl (by simp [isKind, kindsOf, List.lookup, e1])
      · refine .inr ⟨rfl, fun hi => ?_⟩
        obtain ⟨n, r, e⟩ := ok.fc0
        subst hi
        rcases e with e | e
        · rw [e] at hx
          obtain rfl := Option.some.inj hx
          cases hp
        · rw [e] at hx
          obtain rfl := Option.some.inj hx
          have hp : g.c ∈ [g.a, g.b] := hp
          simp only [List.mem_cons, List.not_mem_nil, or_false] at hp
          rcases hp with h | h
          · exact ok.ac h.symm
          · exact ok.bc h.symm
theorem atm_right (ok : BkOk g) (B : BR g bs) {m : Nat} {x : Str × List Str} (hx : g.words[m]? = some x) : RowR (hd3 g ++ (fnsOf g bs ++ (g.words.take m).map fun x => .atm x.1 x.2)) (.atm x.1 x.2) := by
  have hf := fns_k (g.calls.zip bs)
  have ha := atms_k (g.words.take m)
  have be := beh_of (g := g) (X := fnsOf g bs ++ (g.words.take m).map fun x => .atm x.1 x.2) (by rw [kindsOf_app, fnsOf, hf.1, ha.1]; rfl) (by rw [formsOf_app, fnsOf, hf.2.1, ha.2.1]; rfl)
  have hw := ok.wn x (List.mem_of_getElem? hx)
  refine ⟨hw.1, ?_, be.ks ok hw.2.1 hw.2.2⟩
  rw [be.w, wordsOf_app, fnsOf, hf.2.2.1, ha.2.2.2, List.nil_append]
  refine lookup_no fun y hy => ?_
  obtain ⟨z, hz, rfl⟩ := List.mem_map.mp hy
  obtain ⟨i, hi⟩ := List.getElem?_of_mem hz
  rw [List.getElem?_take] at hi
  split at hi
  · rename_i him
    intro e
    have h1 : (g.words.map (·.1))[i]? = some z.1 := by rw [List.getElem?_map, hi]; rfl
    have h2 : (g.words.map (·.1))[m]? = some x.1 := by rw [List.getElem?_map, hx]; rfl
    have h1' := List.getElem?_eq_some_iff.mp h1
    have h2' := List.getElem?_eq_some_iff.mp h2
    have := (List.pairwise_iff_getElem.mp B.wnd) i m h1'.1 h2'.1 him
    rw [h1'.2, h2'.2] at this
    exact this e
  · cases hi
theorem rows_right (ok : BkOk g) (B : BR g bs) : RowsR (rowsOf g bs) := by
  intro i r hr
  have kr := kind_right ok B
  match i, hr with
  | 0, hr => obtain rfl := Option.some.inj hr; exact kr.1
  | 1, hr => obtain rfl := Option.some.inj hr; exact kr.2.1
  | 2, hr => obtain rfl := Option.some.inj hr; exact kr.2.2
  | n + 3, hr =>
    have hr : (fnsOf g bs ++ atmsOf g)[n]? = some r := hr
    have ht : (rowsOf g bs).take (n + 3) = hd3 g ++ (fnsOf g bs ++ atmsOf g).take n := rfl
    rw [ht]
    have hfl : (fnsOf g bs).length = g.calls.length := by rw [fnsOf, List.length_map, List.length_zip, B.len, Nat.min_self]
    by_cases hn : n < (fnsOf g bs).length
    · rw [List.getElem?_append_left hn, fnsOf, List.getElem?_map] at hr
      obtain ⟨⟨c, b⟩, hz, rfl⟩ := Option.map_eq_some_iff.mp hr
      rw [List.getElem?_zip_eq_some] at hz
      rw [List.take_append_of_le_length (by omega), fnsOf, ← List.map_take]
      exact fn_right ok B hz.1 hz.2
    · rw [List.getElem?_append_right (by omega), atmsOf, List.getElem?_map] at hr
      obtain ⟨x, hx, rfl⟩ := Option.map_eq_some_iff.mp hr
      have e : (fnsOf g bs ++ atmsOf g).take n = fnsOf g bs ++ (g.words.take (n - (fnsOf g bs).length)).map fun x => .atm x.1 x.2 := by
        rw [List.take_append, List.take_of_length_le (by omega), atmsOf, List.map_take]
      rw [e]
      exact atm_right ok B hx
end
end G

namespace G
open PySem PySem.Spec PyProof.Rows L2
mutual
theorem Th.kd_cg {g g' : Bk} {cs : List (Str × List Str × Str)} {xs : List (Str × Str)} {is : List Str} (h : ∀ k, g.forms k = g'.forms k) : ∀ (t : Th) {k : Str}, t.kd g cs xs is k → t.kd g' cs xs is k
  | .free x, k, q => q
  | .bnd i, k, q => q
  | .app .form c as, k, q => by
    obtain ⟨ps, h1, h2⟩ := q
    exact ⟨ps, by rw [← h k]; exact h1, Th.kds_cg h as h2⟩
  | .app .call c as, k, q => by
    obtain ⟨ps, h1, h2⟩ := q
    exact ⟨ps, h1, Th.kds_cg h as h2⟩
theorem Th.kds_cg {g g' : Bk} {cs : List (Str × List Str × Str)} {xs : List (Str × Str)} {is : List Str} (h : ∀ k, g.forms k = g'.forms k) : ∀ (ts : List Th) {ks : List Str}, Th.kds g cs xs is ts ks → Th.kds g' cs xs is ts ks
  | [], [], _ => True.intro
  | t :: ts, k :: ks, q => ⟨Th.kd_cg h t q.1, Th.kds_cg h ts q.2⟩
  | [], _ :: _, q => by simp [Th.kds] at q
  | _ :: _, [], q => by simp [Th.kds] at q
end
theorem BdyB.cg {g : Bk} {ws : List (Str × List Str)} {f : Str} {ks : List Str} {k : Str} : ∀ {b : Bdy}, BdyB g f ks k b → BdyB { g with words := ws } f ks k b
  | .none, _ => True.intro
  | .short t, h => ⟨Th.kd_cg (g := g) (g' := { g with words := ws }) (fun _ => rfl) t h.1, h.2⟩
  | .rule ts, h => by
    obtain ⟨k0, ks', e, h0, hl, h⟩ := h
    exact ⟨k0, ks', e, h0, hl, fun i t x h1 h2 => ⟨Th.kd_cg (g := g) (g' := { g with words := ws }) (fun _ => rfl) t (h i t x h1 h2).1, (h i t x h1 h2).2⟩⟩
/-! a drawn book grows by a function, by a word -/
def L1 (ns : List PyData) (i : Nat) (g : Bk) (rows : List PyData) : Prop := ∃ bs, rows = (hd3 g ++ fnsOf g bs).map Row.d ∧ BR g bs ∧ (g.calls.map fun x => PyData.str x.1) = ns.take (3 + i)
def L3 (ws : List PyData) (bs : List Bdy) (i : Nat) (g : Bk) (rows : List PyData) : Prop := rows = (rowsOf g bs).map Row.d ∧ BR g bs ∧ (g.words.map fun x => PyData.str x.1) = ws.take i
theorem strs_nd {xs : List Str} (h : (xs.map PyData.str).Nodup) : xs.Nodup := by
  unfold List.Nodup at *
  rw [List.pairwise_map] at h
  exact h.imp fun hne e => hne (by rw [e])
theorem nd_take {ns : List PyData} (h : ns.Nodup) (n : Nat) : (ns.take n).Nodup := h.sublist (List.take_sublist _ _)
theorem not_in_take {ns : List PyData} (h : ns.Nodup) {n : Nat} {d : PyData} (hd : ns[n]? = some d) : d ∉ ns.take n := fun hm => by
  obtain ⟨i, hi⟩ := List.getElem?_of_mem hm
  rw [List.getElem?_take] at hi
  split at hi
  · rename_i hin
    have h1 := List.getElem?_eq_some_iff.mp hi
    have h2 := List.getElem?_eq_some_iff.mp hd
    have := (List.pairwise_iff_getElem.mp h) i n h1.1 h2.1 hin
    rw [h1.2, h2.2] at this
    exact this rfl
  · cases hi
section
variable {ns ws rows : List PyData} {i : Nat} {g : Bk}
theorem L1.fresh (h : L1 ns i g rows) (nd : ns.Nodup) {z : Str} (hz : ns[3 + i]? = some (.str z)) : ∀ x ∈ g.calls, x.1 ≠ z := fun x hx e => by
  obtain ⟨bs, _, _, e2⟩ := h
  have : PyData.str z ∈ g.calls.map fun x => PyData.str x.1 := List.mem_map.mpr ⟨x, hx, by rw [e]⟩
  rw [e2] at this
  exact not_in_take nd hz this
theorem row_bdy {f : Str} {d : PyData} {c : Str × List Str × Str} (h : RowOk g f d c) : c.1 = f ∧ ∃ b, d = (fnRow (c, b)).d ∧ BdyB g c.1 c.2.1 c.2.2 b := by
  cases h with
  | short ks k t h1 h2 h3 h4 h5 h6 => exact ⟨rfl, .short t, rfl, h4, h5, h6⟩
  | rule k0 ks k ts h0 h1 h2 h3 h4 h5 => exact ⟨rfl, .rule ts, rfl, k0, ks, rfl, h0, h4, h5⟩
theorem L1.step (h : L1 ns i g rows) (nd : ns.Nodup) {z : Str} (hz : ns[3 + i]? = some (.str z)) {d : PyData} {c : Str × List Str × Str} (hr : RowOk g z d c) : L1 ns (i + 1) { g with calls := g.calls ++ [c] } (rows ++ [d]) := by
  have hfr := h.fresh nd hz
  obtain ⟨bs, e1, B, e2⟩ := h
  obtain ⟨rfl, b, hd, hb⟩ := row_bdy hr
  have hlen : (bs ++ [b]).length = (g.calls ++ [c]).length := by rw [List.length_append, List.length_append, B.len]; rfl
  refine ⟨bs ++ [b], ?_, ⟨hlen, ?_, B.wnd, B.fnd, B.fbp, fun j c' b' hc hb' => ?_⟩, ?_⟩
  · have e3 : fnsOf { g with calls := g.calls ++ [c] } (bs ++ [b]) = fnsOf g bs ++ [fnRow (c, b)] := by
      unfold fnsOf
      rw [List.zip_append B.len.symm, List.map_append]; rfl
    rw [e3, e1, hd]
    show _ = (hd3 g ++ (fnsOf g bs ++ [fnRow (c, b)])).map Row.d
    rw [List.map_append, List.map_append, List.map_append, List.append_assoc]; rfl
  · show ((g.calls ++ [c]).map (·.1)).Nodup
    rw [List.map_append]
    refine List.nodup_append.mpr ⟨B.nd, by simp, fun a ha b hb e => ?_⟩
    obtain ⟨x, hx, rfl⟩ := List.mem_map.mp ha
    have hb : b = c.1 := by simpa using hb
    exact hfr x hx (e.trans hb)
  · show BdyB { g with calls := (g.calls ++ [c]).take j } c'.1 c'.2.1 c'.2.2 b'
    have hc : (g.calls ++ [c])[j]? = some c' := hc
    by_cases hj : j < g.calls.length
    · rw [List.getElem?_append_left hj] at hc
      rw [List.getElem?_append_left (by rw [B.len]; exact hj)] at hb'
      rw [List.take_append_of_le_length (by omega)]
      exact B.bd j c' b' hc hb'
    · have hjl : j = g.calls.length := by
        have := (List.getElem?_eq_some_iff.mp hc).1
        rw [List.length_append, List.length_singleton] at this; omega
      subst hjl
      rw [List.getElem?_append_right (Nat.le_refl _), Nat.sub_self] at hc
      rw [List.getElem?_append_right (by rw [B.len]; exact Nat.le_refl _), B.len, Nat.sub_self] at hb'
      obtain rfl := Option.some.inj hc
      obtain rfl := Option.some.inj hb'
      rw [List.take_left]
      exact hb
  · show ((g.calls ++ [c]).map fun x => PyData.str x.1) = _
    rw [List.map_append, e2, ← Nat.add_assoc, List.take_add_one, hz]; rfl
theorem L3.start {bs : List Bdy} (hw : g.words = []) (e1 : rows = (hd3 g ++ fnsOf g bs).map Row.d) (B : BR g bs) : L3 ws bs 0 g rows := by
  refine ⟨?_, B, by rw [hw]; rfl⟩
  rw [e1, rowsOf, atmsOf, hw]
  show _ = (hd3 g ++ (fnsOf g bs ++ [])).map Row.d
  rw [List.append_nil]
theorem L3.step {bs : List Bdy} (h : L3 ws bs i g rows) (nd : ws.Nodup) {z : Str} (hz : ws[i]? = some (.str z)) {ks : List Str} : L3 ws bs (i + 1) { g with words := g.words ++ [(z, ks)] } (rows ++ [.tuple [.str "atom", .str z, partsD ks]]) := by
  obtain ⟨e1, B, e2⟩ := h
  have hfr : ∀ x ∈ g.words, x.1 ≠ z := fun x hx e => by
    have : PyData.str z ∈ g.words.map fun x => PyData.str x.1 := List.mem_map.mpr ⟨x, hx, by rw [e]⟩
    rw [e2] at this
    exact not_in_take nd hz this
  refine ⟨?_, ⟨B.len, B.nd, ?_, B.fnd, B.fbp, fun j c b h1 h2 => BdyB.cg (B.bd j c b h1 h2)⟩, ?_⟩
  · rw [e1]
    show _ = ([Row.opn g.a, .knd g.b g.fb, .knd g.c g.fc] ++ (fnsOf g bs ++ (g.words ++ [(z, ks)]).map fun x => Row.atm x.1 x.2)).map Row.d
    simp only [rowsOf, atmsOf, List.map_append, List.append_assoc, List.map_cons, List.map_nil]
    rfl
  · show ((g.words ++ [(z, ks)]).map (·.1)).Nodup
    rw [List.map_append]
    refine List.nodup_append.mpr ⟨B.wnd, by simp, fun a ha b hb e => ?_⟩
    obtain ⟨x, hx, rfl⟩ := List.mem_map.mp ha
    have hb : b = z := by simpa using hb
    exact hfr x hx (e.trans hb)
  · show ((g.words ++ [(z, ks)]).map fun x => PyData.str x.1) = _
    rw [List.map_append, e2, List.take_add_one, hz]; rfl
/-- the dict of the functions, row by row -/
def fnD2 (rs : List Row) : List (Str × PyData) := rs.map fun r => (r.nm, r.d)
theorem fnD2_nm {bs : List Bdy} (B : BR g bs) : ((fnsOf g bs).map Row.nm).Nodup := by
  have e : (fnsOf g bs).map Row.nm = g.calls.map (·.1) := by
    rw [fnsOf, List.map_map, ← zip_nm B.len]; rfl
  rw [e]; exact B.nd
theorem fnD2_none {bs : List Bdy} (B : BR g bs) {j : Nat} {r : Row} (hr : (fnsOf g bs)[j]? = some r) : (fnD2 ((fnsOf g bs).take j)).lookup r.nm = none := by
  refine lookup_no fun x hx => ?_
  obtain ⟨y, hy, rfl⟩ := List.mem_map.mp hx
  obtain ⟨i, hi⟩ := List.getElem?_of_mem hy
  rw [List.getElem?_take] at hi
  split at hi
  · rename_i hij
    intro e
    have h1 : ((fnsOf g bs).map Row.nm)[i]? = some y.nm := by rw [List.getElem?_map, hi]; rfl
    have h2 : ((fnsOf g bs).map Row.nm)[j]? = some r.nm := by rw [List.getElem?_map, hr]; rfl
    have h1' := List.getElem?_eq_some_iff.mp h1
    have h2' := List.getElem?_eq_some_iff.mp h2
    have := (List.pairwise_iff_getElem.mp (fnD2_nm B)) i j h1'.1 h2'.1 hij
    rw [h1'.2, h2'.2] at this
    exact this e
  · cases hi
theorem fnD2_all {bs : List Bdy} : fnD2 (fnsOf g bs) = funD (rowsOf g bs) := by
  have h1 := fns_k (g.calls.zip bs)
  have h2 := atms_k g.words
  have e : funsOf (rowsOf g bs) = (g.calls.zip bs).map fun x => (x.1.1, fnRow x) := by
    show funsOf (hd3 g ++ (fnsOf g bs ++ atmsOf g)) = _
    rw [funsOf_app, funsOf_app, fnsOf, atmsOf, h1.2.2.2, h2.2.2.1, hd3_funs]; simp
  rw [funD, e, fnD2, fnsOf, List.map_map, List.map_map]; rfl
end
/-- a drawn book in the heap, with its rows and its functions -/
structure BookR (K : PySem.W.Frag) (H : Hp) (v : V) (g : Bk) (bs : List Bdy) : Prop where
  b : BookAt K H v g
  ex : ∃ x y0 y1 y2 y3 D y5, v = .ref x ∧ SqT K H x [y0, y1, y2, y3, .ref D, y5] ∧ R K H y0 (.list ((rowsOf g bs).map Row.d)) ∧ DAt K H D (funD (rowsOf g bs))
theorem BookR.mono {K : PySem.W.Frag} {H H' : Hp} {v : V} {g : Bk} {bs : List Bdy} (h : BookR K H v g bs) (s : Same H H') : BookR K H' v g bs := by
  obtain ⟨x, y0, y1, y2, y3, D, y5, e, h1, h2, h3⟩ := h.ex
  exact ⟨h.b.mono s, x, y0, y1, y2, y3, D, y5, e, s.tup h1, h2.mono s, h3.mono s⟩
theorem ix_b0 {K : PySem.W.Frag} {H : Hp} {v : V} {g : Bk} {bs : List Bdy} {Q : VK} (h : BookR K H v g bs) (q : ∀ y, R K H y (.list ((rowsOf g bs).map Row.d)) → Q y H) : rIx K v (.int 0) H Q := by
  obtain ⟨x, y0, y1, y2, y3, D, y5, rfl, h1, h2, h3⟩ := h.ex
  exact .inr (.inl ⟨x, _, 0, y0, rfl, rfl, h1, atI_pos (by decide) rfl, q _ h2⟩)
theorem ix_b4 {K : PySem.W.Frag} {H : Hp} {v : V} {g : Bk} {bs : List Bdy} {Q : VK} (h : BookR K H v g bs) (q : ∀ D, DAt K H D (funD (rowsOf g bs)) → Q (.ref D) H) : rIx K v (.int 4) H Q := by
  obtain ⟨x, y0, y1, y2, y3, D, y5, rfl, h1, h2, h3⟩ := h.ex
  exact .inr (.inl ⟨x, _, 4, .ref D, rfl, rfl, h1, atI_pos (by decide) rfl, q _ h3⟩)
def spBookR (K : PySem.W.Frag) : Sp := fun vs H Q _ => ∃ (p : Addr) (v : V) (zs : List Str), vs = [.ref p, v] ∧ H p = some (Stt p) ∧ R K H v (.list (zs.map PyData.str)) ∧ N42 zs ∧ ∀ u g bs H', Same H H' → BookR K H' u g bs → BkOk g → BR g bs → g.calls.length ≤ 20 → g.words.length ≤ 12 → 1 ≤ g.words.length → Q u H'
end G
namespace G
open PySem PySem.Spec PyProof.Rows L2
/-- names by their places -/
def atI (zs : List Str) (I : List Nat) : List PyData := I.map fun i => .str (zs.getD i "")
theorem atI_nd {zs : List Str} (h : N42 zs) {I : List Nat} (nd : I.Nodup) (lt : ∀ i ∈ I, i < 42) : (atI zs I).Nodup := by
  unfold atI List.Nodup at *
  rw [List.pairwise_map]
  exact nd.imp_of_mem fun hx hy hne e => n42_ne h (lt _ hx) (lt _ hy) hne (PyData.str.inj e)
theorem cut_atI {zs : List Str} (h : N42 zs) {lo n : Nat} (hn : lo + n ≤ 42) : cutD (zs.map PyData.str) (some (lo : Int)) (some ((lo + n : Nat) : Int)) = atI zs (List.range' lo n) := by
  rw [cutD_mid _ lo (lo + n) (by rw [List.length_map, h.len]; exact hn) (by omega), show lo + n - lo = n from by omega]
  refine List.ext_getElem? fun i => ?_
  rw [List.getElem?_take, atI, List.getElem?_map]
  split
  · rename_i hi
    rw [List.getElem?_drop, List.getElem?_map, n42_at h (by omega), List.getElem?_range' hi]
    simp
  · rename_i hi
    rw [List.getElem?_eq_none (by simp; omega)]; rfl
end G

namespace G
open PySem PySem.Spec PyProof.Rows L2
/-! steps: where a term can go one, and what comes of it -/
mutual
def Th.putA (as : List Th) : Th → Th
  | .bnd i => as.getD i .fls
  | .app w c ts => .app w c (Th.putAs as ts)
  | .free x => .free x
  | .fls => .fls
  | .qua w c a => .qua w c a
  | .two w a b => .two w a b
def Th.putAs (as : List Th) : List Th → List Th
  | [] => []
  | t :: ts => t.putA as :: Th.putAs as ts
end
theorem Th.putAs_map (as : List Th) : ∀ ts : List Th, Th.putAs as ts = ts.map fun t => t.putA as
  | [] => rfl
  | t :: ts => by rw [Th.putAs, Th.putAs_map as ts]; rfl
mutual
theorem Th.putA_isT {F : List Str} {b n : Nat} {as : List Th} (hl : n ≤ as.length) (ha : ∀ a ∈ as, a.isT F b) : ∀ t : Th, t.isT [] n → (t.putA as).isT F b
  | .free x, h => by cases (show isNameS x = true ∧ x ∈ [] from h).2
  | .bnd i, h => by
    have hi : i < as.length := Nat.lt_of_lt_of_le h hl
    show (as.getD i .fls).isT F b
    rw [List.getD_eq_getElem?_getD, List.getElem?_eq_getElem hi]
    exact ha _ (List.getElem_mem hi)
  | .app .form c ts, h => ⟨h.1, by rw [Th.putAs_map, List.length_map]; exact h.2.1, Th.putAs_areT hl ha ts h.2.2⟩
  | .app .call c ts, h => ⟨h.1, by rw [Th.putAs_map, List.length_map]; exact h.2.1, Th.putAs_areT hl ha ts h.2.2⟩
theorem Th.putAs_areT {F : List Str} {b n : Nat} {as : List Th} (hl : n ≤ as.length) (ha : ∀ a ∈ as, a.isT F b) : ∀ ts : List Th, Th.areT [] n ts → Th.areT F b (Th.putAs as ts)
  | [], _ => True.intro
  | t :: ts, h => ⟨Th.putA_isT hl ha t h.1, Th.putAs_areT hl ha ts h.2⟩
end
mutual
theorem Th.putA_dep {m : Nat} {as : List Th} (h1 : 1 ≤ m) (ha : ∀ a ∈ as, a.dep ≤ m) : ∀ t : Th, (t.putA as).dep ≤ t.dep + m
  | .free x => by simp [Th.putA, Th.dep]
  | .bnd i => by
    show (as.getD i .fls).dep ≤ _
    have := dep_getD h1 ha i
    omega
  | .app w c ts => by have := Th.putAs_dep h1 ha ts; simp only [Th.putA, Th.dep]; omega
  | .fls => by simp [Th.putA]
  | .qua w c a => by simp [Th.putA]
  | .two w a b => by simp [Th.putA]
theorem Th.putAs_dep {m : Nat} {as : List Th} (h1 : 1 ≤ m) (ha : ∀ a ∈ as, a.dep ≤ m) : ∀ ts : List Th, Th.deps (Th.putAs as ts) ≤ Th.deps ts + m
  | [] => by simp [Th.putAs, Th.deps]
  | t :: ts => by have := Th.putA_dep h1 ha t; have := Th.putAs_dep h1 ha ts; simp only [Th.putAs, Th.deps]; omega
end
/-- what stands at a place -/
def Th.at : Th → List Nat → Th
  | t, [] => t
  | .app _ _ as, k :: ks => (as.getD k .fls).at ks
  | t, _ :: _ => t
mutual
/-- where p holds, each part behind what it is of -/
def Th.here (p : Th → Bool) : Th → List (List Nat)
  | .app w c as => (bif p (.app w c as) then [[]] else []) ++ Th.hereL p as 0
  | .free x => bif p (.free x) then [[]] else []
  | .bnd x => bif p (.bnd x) then [[]] else []
  | .fls => bif p .fls then [[]] else []
  | .qua w c a => bif p (.qua w c a) then [[]] else []
  | .two w a b => bif p (.two w a b) then [[]] else []
def Th.hereL (p : Th → Bool) : List Th → Nat → List (List Nat)
  | [], _ => []
  | a :: as, i => (a.here p).map (i :: ·) ++ Th.hereL p as (i + 1)
end
section
variable {p : Th → Bool}
theorem Th.hereL_snoc : ∀ (as : List Th) (i : Nat) (a : Th), Th.hereL p (as ++ [a]) i = Th.hereL p as i ++ (a.here p).map ((i + as.length) :: ·)
  | [], i, a => by simp [Th.hereL]
  | b :: as, i, a => by
    rw [List.cons_append, Th.hereL, Th.hereL_snoc as (i + 1) a, Th.hereL, List.append_assoc]
    have : i + 1 + as.length = i + (b :: as).length := by simp; omega
    rw [this]
mutual
theorem Th.here_len : ∀ t : Th, (t.here p).length ≤ t.sz
  | .app w c as => by
    have h := Th.hereL_len as 0
    unfold Th.here
    rw [List.length_append]
    simp only [Th.sz]
    cases p (Th.app w c as)
    · show 0 + _ ≤ _; omega
    · show 1 + _ ≤ _; omega
  | .free x => by unfold Th.here; cases p (Th.free x) <;> simp [Th.sz]
  | .bnd x => by unfold Th.here; cases p (Th.bnd x) <;> simp [Th.sz]
  | .fls => by unfold Th.here; cases p Th.fls <;> simp [Th.sz]
  | .qua w c a => by unfold Th.here; cases p (Th.qua w c a) <;> simp [Th.sz]
  | .two w a b => by unfold Th.here; cases p (Th.two w a b) <;> simp [Th.sz]
theorem Th.hereL_len : ∀ (as : List Th) (i : Nat), (Th.hereL p as i).length ≤ Th.szs as
  | [], _ => by simp [Th.hereL]
  | a :: as, i => by
    have h1 := Th.here_len a
    have h2 := Th.hereL_len as (i + 1)
    rw [Th.hereL, List.length_append, List.length_map, Th.szs]; omega
end
theorem Th.here_args {F : List Str} {b : Nat} (t : Th) (ht : t.isT F b) : t.here p = (bif p t then [[]] else []) ++ Th.hereL p t.args 0 := by
  cases t with
  | app w c as => cases w with
    | atom => exact absurd ht (by intro h; exact h)
    | form | call => unfold Th.here; rfl
  | free x => unfold Th.here; simp [Th.args, Th.hereL]
  | bnd x => unfold Th.here; simp [Th.args, Th.hereL]
  | fls => exact absurd ht (by intro h; exact h)
  | qua w c a => exact absurd ht (by intro h; exact h)
  | two w a b => exact absurd ht (by intro h; exact h)
theorem here_leaf {t : Th} (h : t.here p = bif p t then [[]] else []) : ∀ q ∈ t.here p, t.okP q ∧ p (t.at q) = true := by
  rw [h]
  cases e : p t
  · intro q hq; cases hq
  · intro q hq
    have hq : q ∈ [[]] := hq
    rw [List.mem_singleton.mp hq]
    exact ⟨by cases t <;> exact True.intro, by cases t <;> exact e⟩
mutual
theorem Th.here_ok : ∀ t : Th, ∀ q ∈ t.here p, t.okP q ∧ p (t.at q) = true
  | .app w c as, q, hq => by
    unfold Th.here at hq
    rcases List.mem_append.mp hq with hq | hq
    · cases e : p (Th.app w c as)
      · rw [e] at hq; cases hq
      · rw [e] at hq
        have hq : q ∈ [[]] := hq
        rw [List.mem_singleton.mp hq]
        exact ⟨True.intro, e⟩
    · obtain ⟨i, r, rfl, h1, h2, h3, h4⟩ := Th.hereL_ok as 0 q hq
      exact ⟨⟨by omega, by simpa using h3⟩, by simpa [Th.at] using h4⟩
  | .free x, q, hq => here_leaf (t := .free x) (by unfold Th.here; rfl) q hq
  | .bnd x, q, hq => here_leaf (t := .bnd x) (by unfold Th.here; rfl) q hq
  | .fls, q, hq => here_leaf (t := .fls) (by unfold Th.here; rfl) q hq
  | .qua w c a, q, hq => here_leaf (t := .qua w c a) (by unfold Th.here; rfl) q hq
  | .two w a b, q, hq => here_leaf (t := .two w a b) (by unfold Th.here; rfl) q hq
theorem Th.hereL_ok : ∀ (as : List Th) (n : Nat), ∀ q ∈ Th.hereL p as n, ∃ i r, q = i :: r ∧ n ≤ i ∧ i < n + as.length ∧ (as.getD (i - n) .fls).okP r ∧ p ((as.getD (i - n) .fls).at r) = true
  | [], n, q, hq => by simp [Th.hereL] at hq
  | a :: as, n, q, hq => by
    rw [Th.hereL] at hq
    rcases List.mem_append.mp hq with hq | hq
    · obtain ⟨r, hr, rfl⟩ := List.mem_map.mp hq
      have h := Th.here_ok a r hr
      exact ⟨n, r, rfl, Nat.le_refl _, by simp, by simpa using h.1, by simpa using h.2⟩
    · obtain ⟨i, r, rfl, q1, q2, q3, q4⟩ := Th.hereL_ok as (n + 1) q hq
      have e : i - n = (i - (n + 1)) + 1 := by omega
      exact ⟨i, r, rfl, by omega, by simp; omega, by rw [e]; simpa using q3, by rw [e]; simpa using q4⟩
end
/-- the stack of places still to be looked at -/
def stkP (p : Th → Bool) (ws : List (List Nat × Th)) : List (List Nat) := ws.reverse.flatMap fun x => (x.2.here p).map (x.1 ++ ·)
theorem stkP_snoc (ws : List (List Nat × Th)) (x : List Nat × Th) : stkP p (ws ++ [x]) = (x.2.here p).map (x.1 ++ ·) ++ stkP p ws := by
  unfold stkP
  rw [List.reverse_append]; rfl
theorem stkP_push (pl : List Nat) (as : List Th) (ws : List (List Nat × Th)) : stkP p (ws ++ pushed pl as) = (Th.hereL p as 0).map (pl ++ ·) ++ stkP p ws := by
  unfold stkP pushed
  rw [List.reverse_append, List.reverse_reverse, List.flatMap_append]
  congr 1
  have : ∀ (as : List Th) (i : Nat), ((as.zipIdx i).map fun x => (pl ++ [x.2], x.1)).flatMap (fun x : List Nat × Th => (x.2.here p).map (x.1 ++ ·)) = (Th.hereL p as i).map (pl ++ ·) := by
    intro as
    induction as with
    | nil => intro i; rfl
    | cons a as ih =>
      intro i
      rw [List.zipIdx_cons, List.map_cons, List.flatMap_cons, ih (i + 1), Th.hereL, List.map_append, List.map_map]
      congr 1
      simp [Function.comp_def, List.append_assoc]
  exact this as 0
end
theorem Th.at_is {F : List Str} {b : Nat} : ∀ (q : List Nat) (t : Th), t.isT F b → t.okP q → (t.at q).isT F b ∧ (t.at q).dep ≤ t.dep
  | [], t, h, _ => by cases t <;> exact ⟨h, Nat.le_refl _⟩
  | k :: ks, .app w c as, h, ok => by
    have hm : as.getD k .fls ∈ as := by rw [List.getD_eq_getElem?_getD, List.getElem?_eq_getElem ok.1]; exact List.getElem_mem ok.1
    have h1 := Th.at_is ks _ ((isT_app h).2 _ hm) ok.2
    have h3 := Th.deps_le.mp (Nat.le_refl (Th.deps as)) _ hm
    exact ⟨h1.1, by have := h1.2; show ((as.getD k .fls).at ks).dep ≤ Th.deps as + 1; omega⟩
/-- what a call's row tells -/
def bodyAt (g : Bk) (bs : List Bdy) (f : Str) : Option ((Str × List Str × Str) × Bdy) := (g.calls.zip bs).find? fun x => x.1.1 = f
def idxOf (fs : Forms) (d : Str) : Nat := fs.findIdx fun x => x.1 = d
/-- what comes of a step at a term's own place -/
def stepT (g : Bk) (bs : List Bdy) : Th → Option Th
  | .app .call c as => match bodyAt g bs c with
    | some (_, .short s) => some (s.putA as)
    | some (x, .rule ts) => match as[0]? with
      | some (Th.app .form d ps) => some ((ts.getD (idxOf (g.forms (x.2.1.headD "")) d) .fls).putA (ps ++ as.drop 1))
      | _ => none
    | _ => none
  | _ => none
end G

namespace G
open PySem PySem.Spec PyProof.Rows L2
section
variable {g : Bk} {bs : List Bdy}
theorem find_nd {α : Type} {f : α → Str} {a : α} : ∀ {xs : List α}, (xs.map f).Nodup → a ∈ xs → xs.find? (fun x => decide (f x = f a)) = some a
  | x :: xs, nd, h => by
    rw [List.map_cons, List.nodup_cons] at nd
    rcases List.mem_cons.mp h with rfl | h
    · simp [List.find?]
    · have hne : f x ≠ f a := fun e => nd.1 (List.mem_map.mpr ⟨a, h, e.symm⟩)
      simp only [List.find?, hne, decide_false]
      exact find_nd nd.2 h
theorem funs_rows : funsOf (rowsOf g bs) = (g.calls.zip bs).map fun x => (x.1.1, fnRow x) := by
  have h1 := fns_k (g.calls.zip bs)
  have h2 := atms_k g.words
  show funsOf (hd3 g ++ (fnsOf g bs ++ atmsOf g)) = _
  rw [funsOf_app, funsOf_app, fnsOf, atmsOf, h1.2.2.2, h2.2.2.1, hd3_funs]; simp
theorem kinds_rows : kindsOf (rowsOf g bs) = kindsOf (hd3 g) := by
  have h1 := fns_k (g.calls.zip bs)
  have h2 := atms_k g.words
  show kindsOf (hd3 g ++ (fnsOf g bs ++ atmsOf g)) = _
  rw [kindsOf_app, kindsOf_app, fnsOf, atmsOf, h1.1, h2.1]; simp
theorem call_row (B : BR g bs) {c : Str} {ps : List Str} {k : Str} (h : (c, ps, k) ∈ g.calls) : ∃ (i : Nat) (b : Bdy), g.calls[i]? = some (c, ps, k) ∧ bs[i]? = some b ∧ bodyAt g bs c = some ((c, ps, k), b) ∧ (funsOf (rowsOf g bs)).lookup c = some (.fn c ps k b) := by
  obtain ⟨i, hi⟩ := List.getElem?_of_mem h
  have hil := (List.getElem?_eq_some_iff.mp hi).1
  have hb : i < bs.length := by rw [B.len]; exact hil
  have hz : (g.calls.zip bs)[i]? = some ((c, ps, k), bs[i]) := by
    rw [List.getElem?_zip_eq_some]; exact ⟨hi, List.getElem?_eq_getElem hb⟩
  have hm : ((c, ps, k), bs[i]) ∈ g.calls.zip bs := List.mem_of_getElem? hz
  have nd : ((g.calls.zip bs).map fun x => x.1.1).Nodup := by rw [zip_nm B.len]; exact B.nd
  refine ⟨i, bs[i], hi, List.getElem?_eq_getElem hb, find_nd (f := fun x : (Str × List Str × Str) × Bdy => x.1.1) nd hm, ?_⟩
  rw [funs_rows]
  refine lookup_nd ?_ (List.mem_map.mpr ⟨_, hm, rfl⟩)
  rw [List.map_map]; exact nd
theorem bdy_ok (ok : BkOk g) (B : BR g bs) {i : Nat} {c : Str × List Str × Str} {b : Bdy} (hi : g.calls[i]? = some c) (hb : bs[i]? = some b) : BdyR (hd3 g ++ ((g.calls.zip bs).take i).map fnRow) c.1 c.2.1 c.2.2 b := (fn_right ok B hi hb).2.2.2.2.2
theorem kl_forms (ok : BkOk g) {k0 : Str} {fs : Forms} (h : (kindsOf (hd3 g)).lookup k0 = some (some fs)) : fs = g.forms k0 ∧ (k0 = g.b ∨ k0 = g.c) := by
  rw [hd3_kinds] at h
  simp only [List.lookup] at h
  unfold Bk.forms
  cases h1 : k0 == g.a
  · cases h2 : k0 == g.b
    · cases h3 : k0 == g.c
      · simp [h1, h2, h3] at h
      · simp [h1, h2, h3] at h
        have e2 : k0 ≠ g.b := by simpa using h2
        have e3 : k0 = g.c := by simpa using h3
        rw [if_neg e2, if_pos e3, h]; exact ⟨rfl, .inr e3⟩
    · simp [h1, h2] at h
      have e2 : k0 = g.b := by simpa using h2
      rw [if_pos e2, h]; exact ⟨rfl, .inl e2⟩
  · simp [h1] at h
theorem forms_nd (B : BR g bs) (k0 : Str) : ((g.forms k0).map (·.1)).Nodup := by
  have := B.fnd
  rw [List.map_append] at this
  unfold Bk.forms
  split
  · exact this.sublist (List.sublist_append_left ..)
  · split
    · exact this.sublist (List.sublist_append_right ..)
    · exact List.nodup_nil
theorem idx_at (nd : (fs.map (·.1)).Nodup) {d : Str} {qs : List Str} (h : (d, qs) ∈ fs) : fs[idxOf fs d]? = some (d, qs) := by
  unfold idxOf
  have h1 := find_nd (f := fun x : Str × List Str => x.1) nd h
  rw [List.find?_eq_some_iff_getElem] at h1
  obtain ⟨_, i, hi, e1, e2⟩ := h1
  have : fs.findIdx (fun x => decide (x.1 = d)) = i := by
    rw [List.findIdx_eq hi]
    refine ⟨by rw [e1]; simp, fun j hj => ?_⟩
    have := e2 j hj
    simpa using this
  rw [this, List.getElem?_eq_getElem hi, e1]
/-- what a term's head tells of it -/
def nof (t : Th) : Prop := ∃ w r, t.d = .tuple (.str w :: r) ∧ (w == ("form" : Str)) = false
/-- whether a term can go a step at its own place, and what comes of it -/
inductive StC (g : Bk) (bs : List Bdy) : Th → Option Th → Prop
  | free (x : Str) : StC g bs (.free x) none
  | bnd (j : Nat) : StC g bs (.bnd j) none
  | form (c : Str) (as : List Th) : StC g bs (.app .form c as) none
  | given (c : Str) (as : List Th) (ps : List Str) (k : Str) (h : (funsOf (rowsOf g bs)).lookup c = some (.fn c ps k .none)) : StC g bs (.app .call c as) none
  | short (c : Str) (as : List Th) (ps : List Str) (k : Str) (s : Th) (h : (funsOf (rowsOf g bs)).lookup c = some (.fn c ps k (.short s))) (hl : as.length ≤ 4) (hs : s.isT [] as.length) (hd : s.dep ≤ 40) : StC g bs (.app .call c as) (some (s.putA as))
  | stay (c : Str) (a0 : Th) (as : List Th) (ps : List Str) (k : Str) (ts : List Th) (h : (funsOf (rowsOf g bs)).lookup c = some (.fn c ps k (.rule ts))) (hn : nof a0) : StC g bs (.app .call c (a0 :: as)) none
  | rule (c d : Str) (qs as : List Th) (k0 : Str) (ks : List Str) (k : Str) (ts : List Th) (i : Nat) (ps2 : List Str) (s : Th) (h : (funsOf (rowsOf g bs)).lookup c = some (.fn c (k0 :: ks) k (.rule ts)))
      (hk : (kindsOf (rowsOf g bs)).lookup k0 = some (some (g.forms k0))) (hk2 : k0 = g.b ∨ k0 = g.c) (hi : (g.forms k0)[i]? = some (d, ps2)) (nd : ((g.forms k0).map (·.1)).Nodup) (hs : ts[i]? = some s) (hst : s.isT [] (qs ++ as).length) (hd : s.dep ≤ 40) (hf : (g.forms k0).length ≤ 4) (ht : ts.length ≤ 4) (hl : (as.length ≤ 3)) (hq : qs.length ≤ 4) :
      StC g bs (.app .call c (.app .form d qs :: as)) (some (s.putA (qs ++ as)))
theorem stc (ok : BkOk g) (B : BR g bs) {xs : List (Str × Str)} {is : List Str} : ∀ {t : Th} {k : Str}, t.kd g g.calls xs is k → StC g bs t (stepT g bs t)
  | .free x, k, h => .free x
  | .bnd j, k, h => .bnd j
  | .app .form c as, k, h => .form c as
  | .app .call c as, k, h => by
    obtain ⟨ps, hm, hks⟩ := h
    obtain ⟨i, b, h1, h2, h3, h4⟩ := call_row B hm
    have hb := bdy_ok ok B h1 h2
    have hcn := ok.cn _ hm
    have hlen := kds_len hks
    simp only [stepT, h3]
    cases b with
    | none => exact .given c as ps k h4
    | short s =>
      obtain ⟨⟨q1, q2, q3⟩, _⟩ := hb
      exact .short c as ps k s h4 (by rw [hlen]; exact hcn.2.1) (by rw [hlen]; exact q1) q2
    | rule ts =>
      obtain ⟨k0, fs, e1, e2, e3, e4, e5⟩ := hb
      have ekd : (kindsOf (hd3 g)).lookup k0 = some (some fs) := by
        rw [kindsOf_app, (fns_k _).1, List.append_nil] at e2; exact e2
      obtain ⟨rfl, hk2⟩ := kl_forms ok ekd
      have hkk : (kindsOf (rowsOf g bs)).lookup k0 = some (some (g.forms k0)) := by rw [kinds_rows]; exact ekd
      cases ps with
      | nil => cases e1
      | cons k1 ks =>
        obtain rfl : k1 = k0 := Option.some.inj e1
        cases as with
        | nil => simp [Th.kds] at hks
        | cons a0 as =>
          obtain ⟨hk0, hks'⟩ := hks
          cases a0 with
          | free x => exact .stay c _ as _ k ts h4 ⟨"free", [.str x], rfl, by decide⟩
          | bnd j => exact .stay c _ as _ k ts h4 ⟨"bound", [.int (j : Int)], rfl, by decide⟩
          | fls => exact absurd hk0 id
          | qua w d a => exact absurd hk0 id
          | two w a d => exact absurd hk0 id
          | app w d qs => cases w with
            | atom => exact absurd hk0 id
            | call => exact .stay c _ as _ k ts h4 ⟨"call", [.str d, .tuple (Th.ds qs)], rfl, by decide⟩
            | form =>
              obtain ⟨ps2, hm2, hks2⟩ := hk0
              have nd := forms_nd B k1
              have hi := idx_at nd hm2
              have hil := (List.getElem?_eq_some_iff.mp hi).1
              have hil2 : idxOf (g.forms k1) d < ts.length := by omega
              have hs : ts[idxOf (g.forms k1) d]? = some ts[idxOf (g.forms k1) d] := List.getElem?_eq_getElem hil2
              obtain ⟨⟨q1, q2, q3⟩, _, _, q4⟩ := e5 _ _ _ hs hi
              have l1 := kds_len hks2
              have l2 := kds_len hks'
              have f1 := (forms_ok ok k1).len
              have el : (qs ++ as).length = (ps2 ++ List.drop 1 (k1 :: ks)).length := by
                rw [List.length_append, List.length_append, l1, l2]; rfl
              have hps := hcn.2.1
              simp only [List.length_cons] at hps
              have := StC.rule (g := g) (bs := bs) c d qs as k1 ks k ts _ ps2 _ h4 hkk hk2 hi nd hs (by rw [el]; exact q1) q2 f1 e4 (by omega) (by rw [l1]; exact q4)
              have e7 : ts.getD (idxOf (g.forms k1) d) .fls = ts[idxOf (g.forms k1) d] := by
                rw [List.getD_eq_getElem?_getD, hs]; rfl
              show StC g bs _ (some ((ts.getD (idxOf (g.forms ((k1 :: ks).headD "")) d) .fls).putA (qs ++ List.drop 1 (_ :: as))))
              rw [show (k1 :: ks).headD "" = k1 from rfl, e7]
              exact this
end
/-- args of a term of a kind are of kinds -/
theorem args_kd {g : Bk} {cs : List (Str × List Str × Str)} {xs : List (Str × Str)} {is : List Str} {t : Th} {k : Str} (h : t.kd g cs xs is k) : ∀ a ∈ t.args, ∃ k, a.kd g cs xs is k := by
  have hh : ∀ {as : List Th} {ps : List Str}, Th.kds g cs xs is as ps → ∀ a ∈ as, ∃ k, a.kd g cs xs is k := by
    intro as
    induction as with
    | nil => intro ps _ a ha; cases ha
    | cons b as ih =>
      intro ps hp a ha
      cases ps with
      | nil => simp [Th.kds] at hp
      | cons p ps =>
        rcases List.mem_cons.mp ha with rfl | ha
        · exact ⟨p, hp.1⟩
        · exact ih hp.2 a ha
  cases t with
  | app w c as => cases w with
    | form => obtain ⟨ps, _, h2⟩ := h; exact hh h2
    | call => obtain ⟨ps, _, h2⟩ := h; exact hh h2
    | atom => exact absurd h id
  | _ => intro a ha; cases ha
/-- a part of a term of a kind is of a kind -/
theorem at_kd {g : Bk} {cs : List (Str × List Str × Str)} {xs : List (Str × Str)} {is : List Str} : ∀ (q : List Nat) {t : Th} {k : Str}, t.kd g cs xs is k → t.okP q → ∃ k, (t.at q).kd g cs xs is k
  | [], t, k, h, _ => ⟨k, by cases t <;> exact h⟩
  | j :: q, .app w c as, k, h, ok => by
    have hm : as.getD j .fls ∈ as := by rw [List.getD_eq_getElem?_getD, List.getElem?_eq_getElem ok.1]; exact List.getElem_mem ok.1
    have ha : as.getD j .fls ∈ (Th.app w c as).args := by
      cases w with
      | atom => exact absurd h id
      | form | call => exact hm
    obtain ⟨k', h'⟩ := args_kd h _ ha
    exact at_kd q h' ok.2
/-- list.index of a name among unlike ones -/
theorem index_R {K : PySem.W.Frag} {H : Hp} {v : V} {ns : List Str} {d : Str} {i : Nat} {Q : VK} (r : R K H v (.list (ns.map PyData.str))) (nd : ns.Nodup) (hi : ns[i]? = some d) (q : Q (.int (i : Nat)) H) : rIndex K v [.str d] H Q := by
  obtain ⟨a, ys, rfl, ha, ra⟩ := r.inv_lst
  obtain rfl : ys = ns.map V.str := RA.strs ra
  refine ⟨a, _, .str d, i, .str d, rfl, rfl, .inl (.inl ha), rfl, ?_, by rw [List.getElem?_map, hi]; rfl, by simp [eqV], fun m z hm hz => ?_, q⟩
  · rw [List.all_map]; exact List.all_eq_true.mpr fun _ _ => rfl
  · rw [List.getElem?_map] at hz
    obtain ⟨s, hs, rfl⟩ := Option.map_eq_some_iff.mp hz
    have h1 := List.getElem?_eq_some_iff.mp hs
    have h2 := List.getElem?_eq_some_iff.mp hi
    have := (List.pairwise_iff_getElem.mp nd) m i h1.1 h2.1 hm
    rw [h1.2, h2.2] at this
    simp [eqV, this]
/-- a def of the module under another name -/
structure DfA (K : PySem.W.Frag) (mg : Str → Option Value) (x y : Str) (st : Stmt) (ps : List Str) : Prop where
  ex : ∃ f fd, Fun K y y st f fd ∧ mg x = some (.ref f) ∧ Binds K fd ps []
theorem DfA.cal {P : Program} {w : World} {K : PySem.W.Frag} {mg : Str → Option Value} {base : Heap} {x y : Str} {st : Stmt} {N ps : List Str} {k : Nat} {sp : Sp} (D : DfA K mg x y st ps) (S : FnScope N ps (defScope st)) (len : ∀ vs H Q E, sp vs H Q E → vs.length = ps.length)
    (hbody : ∀ (f : Addr) (cdv : Value) (A : Around) (outer : List Env) (s : Shared) (H : Hp) (vs : List V) (Q : VK) (E : XK), Room k (A.deeper (envOfC y (defScope st) s.heap.objs.size f cdv)) → sp vs H Q E →
      ∃ t, PSs (cxOf CX0 P w K mg base N y (defScope st) f cdv A outer s H E).nox (defBody st) t ∧ t { nx := fun _ H' => Q .non H', rt := Q } (start N vs) H) : Cal P w K mg base (k + 1) x sp := by
  obtain ⟨f, fd, F, hm, b⟩ := D.ex
  exact ⟨f, fd, ps, F.ok S len (hbody f), hm, F.kp, b⟩
end G

namespace G
open PySem PySem.Spec PyProof.Rows L2
/-- whether a term can go a step at its own place -/
def canT (g : Bk) (bs : List Bdy) (t : Th) : Bool := (stepT g bs t).isSome
def spCan (K : PySem.W.Frag) (A : CA) : Sp := fun vs H Q _ => ∃ (v vt : V) (g : Bk) (bs : List Bdy) (t : Th) (o : Option Th), vs = [v, vt] ∧ LoreAt K A H v (rowsOf g bs) ∧ R K H vt t.d ∧ StC g bs t o ∧ ∀ H', Same H H' → Q (.bl o.isSome) H'
def spGone (K : PySem.W.Frag) (A : CA) : Sp := fun vs H Q _ => ∃ (v vt : V) (g : Bk) (bs : List Bdy) (t u : Th), vs = [v, vt] ∧ LoreAt K A H v (rowsOf g bs) ∧ R K H vt t.d ∧ StC g bs t (some u) ∧ ∀ x H', Same H H' → R K H' x u.d → Q x H'
def spPutA (K : PySem.W.Frag) (n : Nat) : Sp := fun vs H Q _ => ∃ (v u : V) (t : Th) (as : List Th) (F : List Str), vs = [v, u] ∧ R K H v t.d ∧ R K H u (.tuple (Th.ds as)) ∧ t.isT F as.length ∧ as.length ≤ 1000 ∧ t.dep ≤ n ∧ ∀ x H', Same H H' → R K H' x (t.putA as).d → Q x H'
def spSteps (K : PySem.W.Frag) (A : CA) : Sp := fun vs H Q _ => ∃ (v vt : V) (g : Bk) (bs : List Bdy) (t : Th) (k : Str) (xs : List (Str × Str)) (is : List Str), vs = [v, vt] ∧ LoreAt K A H v (rowsOf g bs) ∧ R K H vt t.d ∧ BkOk g ∧ BR g bs ∧ t.kd g g.calls xs is k ∧ (∀ x ∈ xs, isNameS x.1 = true) ∧ t.dep ≤ 90 ∧ t.sz ≤ 400000 ∧
  ∀ p H', H p = none → Same H H' → Lk K H' p ((t.here (canT g bs)).map pls) → Q (.ref p) H'
def spAtT (K : PySem.W.Frag) : Sp := fun vs H Q _ => ∃ (v vp : V) (t : Th) (ks : List Nat) (F : List Str) (b : Nat), vs = [v, vp] ∧ R K H v t.d ∧ R K H vp (pls ks) ∧ t.isT F b ∧ t.okP ks ∧ ∀ x H', Same H H' → R K H' x (t.at ks).d → Q x H'
def spStepped (K : PySem.W.Frag) (A : CA) : Sp := fun vs H Q _ => ∃ (v vt vp : V) (g : Bk) (bs : List Bdy) (t u : Th) (ks : List Nat) (F : List Str) (b : Nat), vs = [v, vt, vp] ∧ LoreAt K A H v (rowsOf g bs) ∧ R K H vt t.d ∧ R K H vp (pls ks) ∧ t.isT F b ∧ t.okP ks ∧ ks.length ≤ 80 ∧ StC g bs (t.at ks) (some u) ∧
  ∀ x H', Same H H' → R K H' x (t.withP ks u).d → Q x H'
section
variable {K : PySem.W.Frag} {A : CA} {H : Hp} {Q : VK} {E : XK} {v u vt vp : V} {g : Bk} {bs : List Bdy} {t : Th} {as : List Th} {F : List Str} {b n : Nat} {ks : List Nat} {k : Str} {xs : List (Str × Str)} {is : List Str}
theorem use_can {o : Option Th} (hl : LoreAt K A H v (rowsOf g bs)) (r : R K H vt t.d) (hc : StC g bs t o) (q : ∀ H', Same H H' → Q (.bl o.isSome) H') : spCan K A [v, vt] H Q E := ⟨v, vt, g, bs, t, o, rfl, hl, r, hc, q⟩
theorem use_gone {u : Th} (hl : LoreAt K A H v (rowsOf g bs)) (r : R K H vt t.d) (hc : StC g bs t (some u)) (q : ∀ x H', Same H H' → R K H' x u.d → Q x H') : spGone K A [v, vt] H Q E := ⟨v, vt, g, bs, t, u, rfl, hl, r, hc, q⟩
theorem use_putA (r : R K H v t.d) (ra : R K H u (.tuple (Th.ds as))) (ht : t.isT F as.length) (hl : as.length ≤ 1000) (hd : t.dep ≤ n) (h : ∀ x H', Same H H' → R K H' x (t.putA as).d → Q x H') : spPutA K n [v, u] H Q E := ⟨v, u, t, as, F, rfl, r, ra, ht, hl, hd, h⟩
theorem use_steps (hl : LoreAt K A H v (rowsOf g bs)) (r : R K H vt t.d) (ok : BkOk g) (B : BR g bs) (hk : t.kd g g.calls xs is k) (nx : ∀ x ∈ xs, isNameS x.1 = true) (hd : t.dep ≤ 90) (hz : t.sz ≤ 400000) (q : ∀ p H', H p = none → Same H H' → Lk K H' p ((t.here (canT g bs)).map pls) → Q (.ref p) H') : spSteps K A [v, vt] H Q E :=
  ⟨v, vt, g, bs, t, k, xs, is, rfl, hl, r, ok, B, hk, nx, hd, hz, q⟩
theorem use_atT (r : R K H v t.d) (rp : R K H vp (pls ks)) (ht : t.isT F b) (ok : t.okP ks) (q : ∀ x H', Same H H' → R K H' x (t.at ks).d → Q x H') : spAtT K [v, vp] H Q E := ⟨v, vp, t, ks, F, b, rfl, r, rp, ht, ok, q⟩
theorem use_stepped {u : Th} (hl : LoreAt K A H v (rowsOf g bs)) (r : R K H vt t.d) (rp : R K H vp (pls ks)) (ht : t.isT F b) (ok : t.okP ks) (hk : ks.length ≤ 80) (hc : StC g bs (t.at ks) (some u)) (q : ∀ x H', Same H H' → R K H' x (t.withP ks u).d → Q x H') : spStepped K A [v, vt, vp] H Q E :=
  ⟨v, vt, vp, g, bs, t, u, ks, F, b, rfl, hl, r, rp, ht, ok, hk, hc, q⟩
end
theorem Th.ds_putAs (as : List Th) (ts : List Th) : Th.ds (Th.putAs as ts) = ts.map fun t => (t.putA as).d := by rw [Th.putAs_map, Th.ds_map, List.map_map]; rfl
theorem bmIK {X : Cx} (K : PySem.W.Frag) {e : Expr} {T : String} {to : TE} {t : TA} (h : PE X e (tBM X.K T (rIndex X.K) to t)) (hK : X.K = K := by rfl) : PE X e (tBM K T (rIndex K) to t) := hK ▸ h
theorem R.tyl {K : PySem.W.Frag} {H : Hp} {v : V} {ds : List PyData} (r : R K H v (.list ds)) {A : Prop} (a : A) : tyV K "list" v H ∧ A := by
  obtain ⟨l, xs, rfl, hl, _⟩ := r.inv_lst
  exact st_tyl hl a
end G

namespace G
open PySem PySem.Spec PyProof.Rows L2
/-! the law's own reckoning of a step -/
def spLore (K : PySem.W.Frag) (A : CA) : Sp := fun vs H Q _ => ∃ (p : Addr) (v : V) (g : Bk) (bs : List Bdy), vs = [.ref p, v] ∧ H p = some (Stt p) ∧ BookR K H v g bs ∧ BkOk g ∧ BR g bs ∧ g.calls.length ≤ 20 ∧ g.words.length ≤ 12 ∧ ∀ u H', Same H H' → LoreAt K A H' u (rowsOf g bs) → Q u H'
def spThings (K : PySem.W.Frag) : Sp := fun vs H Q _ => ∃ (p : Addr) (v vn : V) (g : Bk) (zs : List Str), vs = [.ref p, v, vn] ∧ H p = some (Stt p) ∧ BookAt K H v g ∧ BkOk g ∧ R K H vn (.list (zs.map PyData.str)) ∧ N42 zs ∧ ∀ u (xs : List (Str × Str)) H', Same H H' → R K H' u (.list (xs.map thingD)) → xs.length ≤ 9 → (∀ x ∈ xs, isNameS x.1 = true) → (∀ x ∈ xs, x.2 ∈ g.kinds) → Q u H'
def spHere (K : PySem.W.Frag) : Sp := fun vs H Q _ => ∃ (vb vt : V) (g : Bk) (bs : List Bdy) (t : Th) (o : Option Th), vs = [vb, vt] ∧ BookR K H vb g bs ∧ BkOk g ∧ R K H vt t.d ∧ StC g bs t o ∧ ∀ x H', Same H H' → R K H' x (optP (o.map Th.d)) → Q x H'
def spPlacesL (K : PySem.W.Frag) (n : Nat) : Sp := fun vs H Q _ => ∃ (vb vt vp : V) (g : Bk) (bs : List Bdy) (t : Th) (pre : List Nat) (k : Str) (xs : List (Str × Str)) (is : List Str), vs = [vb, vt, vp] ∧ BookR K H vb g bs ∧ BkOk g ∧ BR g bs ∧ R K H vt t.d ∧ R K H vp (pls pre) ∧ t.kd g g.calls xs is k ∧ (∀ x ∈ xs, isNameS x.1 = true) ∧
  t.dep ≤ n ∧ t.sz ≤ 400000 ∧ pre.length + n ≤ 200 ∧ ∀ p H', H p = none → Same H H' → Lk K H' p ((t.here (canT g bs)).map fun q => pls (pre ++ q)) → Q (.ref p) H'
def spGoneL (K : PySem.W.Frag) (n : Nat) : Sp := fun vs H Q _ => ∃ (vb vt vp : V) (g : Bk) (bs : List Bdy) (t u : Th) (ks : List Nat) (F : List Str) (b : Nat), vs = [vb, vt, vp] ∧ BookR K H vb g bs ∧ BkOk g ∧ R K H vt t.d ∧ R K H vp (pls ks) ∧ t.isT F b ∧ t.okP ks ∧ ks.length < n ∧ ks.length ≤ 1000 ∧ StC g bs (t.at ks) (some u) ∧
  ∀ x H', Same H H' → R K H' x (t.withP ks u).d → Q x H'
def spAreP (K : PySem.W.Frag) : Sp := fun vs H Q _ => ∃ (v : V) (ps : List (List Nat)), vs = [v] ∧ R K H v (.list (ps.map pls)) ∧ ps.length ≤ 400000 ∧ (∀ q ∈ ps, q.length ≤ 1000) ∧ ∀ H', Same H H' → Q (.bl true) H'
section
variable {K : PySem.W.Frag} {A : CA} {H : Hp} {Q : VK} {E : XK} {v vb vt vp vn : V} {g : Bk} {bs : List Bdy} {t : Th} {o : Option Th} {F : List Str} {b n : Nat} {ks pre : List Nat} {k : Str} {xs : List (Str × Str)} {is : List Str} {p : Addr} {zs : List Str}
theorem use_here (hb : BookR K H vb g bs) (ok : BkOk g) (r : R K H vt t.d) (hc : StC g bs t o) (q : ∀ x H', Same H H' → R K H' x (optP (o.map Th.d)) → Q x H') : spHere K [vb, vt] H Q E := ⟨vb, vt, g, bs, t, o, rfl, hb, ok, r, hc, q⟩
theorem use_placesL (hb : BookR K H vb g bs) (ok : BkOk g) (B : BR g bs) (r : R K H vt t.d) (rp : R K H vp (pls pre)) (hk : t.kd g g.calls xs is k) (nx : ∀ x ∈ xs, isNameS x.1 = true) (hd : t.dep ≤ n) (hz : t.sz ≤ 400000) (hp : pre.length + n ≤ 200)
    (q : ∀ p H', H p = none → Same H H' → Lk K H' p ((t.here (canT g bs)).map fun q => pls (pre ++ q)) → Q (.ref p) H') : spPlacesL K n [vb, vt, vp] H Q E := ⟨vb, vt, vp, g, bs, t, pre, k, xs, is, rfl, hb, ok, B, r, rp, hk, nx, hd, hz, hp, q⟩
theorem use_goneL {u : Th} (hb : BookR K H vb g bs) (ok : BkOk g) (r : R K H vt t.d) (rp : R K H vp (pls ks)) (ht : t.isT F b) (okp : t.okP ks) (hn : ks.length < n) (hn2 : ks.length ≤ 1000) (hc : StC g bs (t.at ks) (some u)) (q : ∀ x H', Same H H' → R K H' x (t.withP ks u).d → Q x H') : spGoneL K n [vb, vt, vp] H Q E :=
  ⟨vb, vt, vp, g, bs, t, u, ks, F, b, rfl, hb, ok, r, rp, ht, okp, hn, hn2, hc, q⟩
theorem use_areP {ps : List (List Nat)} (r : R K H v (.list (ps.map pls))) (hl : ps.length ≤ 400000) (hq : ∀ q ∈ ps, q.length ≤ 1000) (q : ∀ H', Same H H' → Q (.bl true) H') : spAreP K [v] H Q E := ⟨v, ps, rfl, r, hl, hq, q⟩
theorem use_things (hp : H p = some (Stt p)) (hb : BookAt K H v g) (ok : BkOk g) (r : R K H vn (.list (zs.map PyData.str))) (hn : N42 zs) (q : ∀ u (xs : List (Str × Str)) H', Same H H' → R K H' u (.list (xs.map thingD)) → xs.length ≤ 9 → (∀ x ∈ xs, isNameS x.1 = true) → (∀ x ∈ xs, x.2 ∈ g.kinds) → Q u H') : spThings K [.ref p, v, vn] H Q E :=
  ⟨p, v, vn, g, zs, rfl, hp, hb, ok, r, hn, q⟩
theorem use_lore (hp : H p = some (Stt p)) (hb : BookR K H v g bs) (ok : BkOk g) (B : BR g bs) (hc : g.calls.length ≤ 20) (hw : g.words.length ≤ 12) (q : ∀ u H', Same H H' → LoreAt K A H' u (rowsOf g bs) → Q u H') : spLore K A [.ref p, v] H Q E := ⟨p, v, g, bs, rfl, hp, hb, ok, B, hc, hw, q⟩
theorem rows_len {g : Bk} {bs : List Bdy} (B : BR g bs) : (rowsOf g bs).length = 3 + g.calls.length + g.words.length := by
  simp only [rowsOf, fnsOf, atmsOf, List.length_append, List.length_map, List.length_zip, B.len, Nat.min_self, List.length_cons, List.length_nil]; omega
end
/-- the places of a term, up to those of its first args -/
def hereTo (p : Th → Bool) (t : Th) (i : Nat) : List (List Nat) := (bif p t then [[]] else []) ++ Th.hereL p (t.args.take i) 0
theorem hereTo_0 (p : Th → Bool) (t : Th) : hereTo p t 0 = (bif p t then [[]] else []) := by rw [hereTo, List.take_zero, Th.hereL, List.append_nil]
theorem hereTo_all (p : Th → Bool) (t : Th) : hereTo p t t.args.length = (bif p t then [[]] else []) ++ Th.hereL p t.args 0 := by rw [hereTo, List.take_length]
theorem hereTo_len (p : Th → Bool) (t : Th) (i : Nat) : (hereTo p t i).length ≤ 1 + Th.szs t.args := by
  have hl1 := Th.hereL_len (p := p) (t.args.take i) 0
  have hl2 := szs_take'' t.args i
  rw [hereTo, List.length_append]
  cases p t <;> simp <;> omega
theorem hereTo_step (p : Th → Bool) (t : Th) {i : Nat} {a : Th} (h : t.args[i]? = some a) (pre : List Nat) : (hereTo p t i).map (fun q => pls (pre ++ q)) ++ (a.here p).map (fun q => pls (pre ++ [i] ++ q)) = (hereTo p t (i + 1)).map fun q => pls (pre ++ q) := by
  have e9 : t.args.take (i + 1) = t.args.take i ++ [a] := by rw [List.take_add_one, h]; rfl
  have hi := (List.getElem?_eq_some_iff.mp h).1
  rw [hereTo, hereTo, e9, Th.hereL_snoc, List.length_take, Nat.min_eq_left (by omega), Nat.zero_add]
  simp [List.map_append, List.map_map, Function.comp_def, List.append_assoc]
end G

namespace G
open PySem PySem.Spec PyProof.Rows L2
theorem stc_isT {g : Bk} {bs : List Bdy} {t u : Th} {F : List Str} {b : Nat} (h : StC g bs t (some u)) (ht : t.isT F b) : u.isT F b ∧ u.dep ≤ 40 + t.dep := by
  cases h with
  | short c as ps k s h hl hs hd =>
    have h1 := (isT_app ht).2
    have h3 := Th.deps_le.mp (Nat.le_refl (Th.deps as))
    have h4 : ∀ a ∈ as, a.dep ≤ (Th.app AW.call c as).dep := fun a ha => by have := h3 a ha; show _ ≤ Th.deps as + 1; omega
    have h5 := Th.putA_dep (Th.dep_pos _) h4 s
    exact ⟨Th.putA_isT (Nat.le_refl _) h1 s hs, by omega⟩
  | rule c d qs as k0 ks k ts i ps2 s h hk hk2 hi nd hs hst hd hf ht' hl hq =>
    have h1 := (isT_app ht).2
    have h2 := (isT_app (h1 _ (List.mem_cons_self ..))).2
    have h3 := Th.deps_le.mp (Nat.le_refl (Th.deps (Th.app AW.form d qs :: as)))
    have h3q := Th.deps_le.mp (Nat.le_refl (Th.deps qs))
    have h6 := h3 _ (List.mem_cons_self ..)
    have h7 : (Th.app AW.form d qs).dep = Th.deps qs + 1 := rfl
    have h4 : ∀ a ∈ qs ++ as, a.dep ≤ (Th.app AW.call c (Th.app AW.form d qs :: as)).dep := fun a ha => by
      show _ ≤ Th.deps (Th.app AW.form d qs :: as) + 1
      rcases List.mem_append.mp ha with ha | ha
      · have := h3q a ha; omega
      · have := h3 a (List.mem_cons_of_mem _ ha); omega
    have h5 := Th.putA_dep (Th.dep_pos _) h4 s
    exact ⟨Th.putA_isT (Nat.le_refl _) (fun a ha => by
      rcases List.mem_append.mp ha with ha | ha
      · exact h2 a ha
      · exact h1 a (List.mem_cons_of_mem _ ha)) s hst, by omega⟩
theorem pls_depth (ks : List Nat) : (pls ks).depth ≤ 2 := by
  have : ∀ ks : List Nat, PyData.depthAll (ks.map fun i : Nat => PyData.int (i : Nat)) ≤ 1 := by
    intro ks
    induction ks with
    | nil => exact Nat.zero_le _
    | cons k ks ih => simp only [List.map_cons, PyData.depthAll, PyData.depth]; omega
  have h := this ks
  simp only [pls, PyData.depth]; omega
theorem plss_depth (ps : List (List Nat)) : (PyData.list (ps.map pls)).depth ≤ 3 := by
  have : ∀ ps : List (List Nat), PyData.depthAll (ps.map pls) ≤ 2 := by
    intro ps
    induction ps with
    | nil => exact Nat.zero_le _
    | cons k ps ih => have := pls_depth k; simp only [List.map_cons, PyData.depthAll]; omega
  have h := this ps
  simp only [PyData.depth]; omega
theorem plss_lay (ps : List (List Nat)) : (PyData.list (ps.map pls)).canLay0 = true := by
  have : ∀ ps : List (List Nat), PyData.canLayAll0 (ps.map pls) = true := by
    intro ps
    induction ps with
    | nil => rfl
    | cons k ps ih => simp only [List.map_cons, PyData.canLayAll0, pls_lay, ih]; rfl
  simpa [PyData.canLay0] using this ps
theorem clear_L {K : PySem.W.Frag} {H : Hp} {Q : VK} {l : Addr} {ds : List PyData} (h : Lk K H l ds) (q : ∀ H', SameX l H H' → Lk K H' l [] → Q .non H') : rClear (.ref l) [] H Q := by
  obtain ⟨xs, h1, h2⟩ := h.ex
  exact ⟨l, xs, rfl, rfl, h1, q _ .upd ⟨⟨[], upd_same, .nil⟩, rfl⟩⟩
end G

section
/-! the words of the walk: S (a heap keeps), R (a value stands for data), A (a row of them), no (a way that cannot be), s (one step), r (all steps) -/
local macro_rules | `(tactic| walk_at "S") => `(tactic| first | exact G.sm_tr (by assumption) (by walk_at "S") | fail "no")
local macro_rules | `(tactic| walk_at "S") => `(tactic| first | assumption | fail "no")
local macro_rules | `(tactic| walk_at "S") => `(tactic| first | exact L2.Same.refl _ | fail "no")
local macro_rules | `(tactic| walk_at "R") => `(tactic| first | ((with_reducible refine' G.R.lst L2.upd_same ?rl); (case rl => walk_at "A")) | fail "no")
local macro_rules | `(tactic| walk_at "R") => `(tactic| first | exact G.r_mono (by with_reducible assumption) (by walk_at "S") | fail "no")
local macro_rules | `(tactic| walk_at "R") => `(tactic| first | with_reducible assumption | fail "no")
local macro_rules | `(tactic| walk_at "R") => `(tactic| first | with_reducible exact G.R.non | fail "no")
local macro_rules | `(tactic| walk_at "R") => `(tactic| first | with_reducible exact G.R.bl _ | fail "no")
local macro_rules | `(tactic| walk_at "R") => `(tactic| first | with_reducible exact G.R.str _ | fail "no")
local macro_rules | `(tactic| walk_at "R") => `(tactic| first | with_reducible exact G.R.int _ | fail "no")
local macro_rules | `(tactic| walk_at "A") => `(tactic| first | ((with_reducible refine' G.RA.cons ?ra ?rb); (case ra => walk_at "R"); (case rb => walk_at "A")) | fail "no")
local macro_rules | `(tactic| walk_at "A") => `(tactic| first | with_reducible exact G.RA.nil | fail "no")
local macro_rules | `(tactic| walk_at "no") => `(tactic| first | omega | fail "no")
local macro_rules | `(tactic| walk_at "no") => `(tactic| first | contradiction | fail "no")
local macro_rules | `(tactic| walk_at "side") => `(tactic| first | (simp only [List.length_cons, List.length_nil, List.length_map, List.length_append] at *; omega) | fail "no")
local macro_rules | `(tactic| walk_at "side") => `(tactic| first | (simp only [List.length_cons, List.length_nil, List.getElem?_cons_zero, List.getElem?_cons_succ, List.length_map]; done) | fail "no")
local macro_rules | `(tactic| walk_at "side") => `(tactic| first | ((with_reducible refine G.le_up ?_); decide +kernel) | fail "no")
local macro_rules | `(tactic| walk_at "side") => `(tactic| first | exact Int.lt_of_lt_of_le (by with_reducible assumption) (by decide +kernel) | fail "no")
local macro_rules | `(tactic| walk_at "side") => `(tactic| first | omega | fail "no")
local macro_rules | `(tactic| walk_at "side") => `(tactic| first | with_reducible assumption | fail "no")
local macro_rules | `(tactic| walk_at "side") => `(tactic| first | with_reducible rfl | fail "no")
local macro_rules | `(tactic| walk_at "sideC") => `(tactic| first | omega | fail "no")
local macro_rules | `(tactic| walk_at "sideC") => `(tactic| first | (with_reducible refine G.cdiv_r ⟨?_, ?_⟩ <;> omega) | fail "no")
local macro_rules | `(tactic| walk_at "sideC") => `(tactic| first | (with_reducible refine G.cmul_r ⟨?_, ?_⟩ <;> omega) | fail "no")
local macro_rules | `(tactic| walk_at "sideC") => `(tactic| first | (with_reducible refine G.cpow_c ⟨?_, ?_, ?_⟩ <;> decide) | fail "no")
local macro_rules | `(tactic| walk_at "sideC") => `(tactic| first | (with_reducible refine G.cmul_l ⟨?_, ?_⟩ <;> decide) | fail "no")
local macro_rules | `(tactic| walk_at "sideC") => `(tactic| first | (with_reducible refine G.cdiv_r ⟨?_, ?_⟩ <;> decide) | fail "no")
local macro_rules | `(tactic| walk_at "sideC") => `(tactic| first | (with_reducible refine G.cmul_r ⟨?_, ?_⟩ <;> decide) | fail "no")
local macro_rules | `(tactic| walk_at "sideC") => `(tactic| first | with_reducible assumption | fail "no")
local macro_rules | `(tactic| walk_at "got") => `(tactic| (intro v0 r0; first
  | (have e0 := G.R.inv_str r0; subst e0) | (have e0 := G.R.inv_int r0; subst e0) | (have e0 := G.R.inv_bl r0; subst e0) | (have e0 := G.R.inv_non r0; subst e0) | skip))
local macro_rules | `(tactic| walk_at "P") => `(tactic| first | exact G.keep_at (by with_reducible assumption) (by walk_at "S") | fail "no")
local macro_rules | `(tactic| walk_at "P") => `(tactic| first | with_reducible assumption | fail "no")
local macro_rules | `(tactic| walk_at "c") => `(tactic| fail)
local macro_rules | `(tactic| walk_at "Q") => `(tactic| first | exact G.seq_keep (by with_reducible assumption) (by walk_at "S") | fail "no")
local macro_rules | `(tactic| walk_at "Q") => `(tactic| first | with_reducible assumption | fail "no")
local macro_rules | `(tactic| walk_at "c") => `(tactic| ((with_reducible refine' G.use_state ?hp ?h0 ?h1 ?_); (case hp => walk_at "Q"); (case h0 => walk_at "side"); (case h1 => walk_at "side"); intro p0 H0 s0 hp0))
local macro_rules | `(tactic| walk_at "c") => `(tactic| ((with_reducible refine' G.use_draw ?hp ?h0 ?h1 ?_); (case hp => walk_at "P"); (case h0 => walk_at "side"); (case h1 => walk_at "side"); intro r0 hr0 hr1))
local macro_rules | `(tactic| walk_at "s") => `(tactic| first | walk_at "c" | fail "no")
local macro_rules | `(tactic| walk_at "s") => `(tactic| first | (with_reducible refine' G.st_disp1 ?_; intro v0 H0 s0 r0) | fail "no")
local macro_rules | `(tactic| walk_at "s") => `(tactic| first | ((with_reducible refine' G.sl_scr ?s ?_); (case s => walk_at "Q"); intro v0 H0 s0 r0) | fail "no")
local macro_rules | `(tactic| walk_at "s") => `(tactic| first | ((with_reducible refine' G.ix_scr ?s ?h0 ?h1 ?_); (case s => walk_at "Q"); (case h0 => walk_at "side"); (case h1 => walk_at "side"); intro n0) | fail "no")
local macro_rules | `(tactic| walk_at "s") => `(tactic| first | ((with_reducible refine' G.len_scr ?s ?_); (case s => walk_at "Q")) | fail "no")
local macro_rules | `(tactic| walk_at "s") => `(tactic| first | with_reducible refine G.st_forR ?_ | fail "no")
local macro_rules | `(tactic| walk_at "s") => `(tactic| first | with_reducible refine G.st_shut ?_ | fail "no")
local macro_rules | `(tactic| walk_at "s") => `(tactic| first | with_reducible refine G.st_lst2 ?_ | fail "no")
local macro_rules | `(tactic| walk_at "s") => `(tactic| first | ((with_reducible refine' G.set_at ?hp ?hi ?_); (case hp => first | exact L2.upd_same | walk_at "P"); (case hi => rfl)) | fail "no")
local macro_rules | `(tactic| walk_at "s") => `(tactic| first | ((with_reducible refine' G.set_21 ?hp ?_); (case hp => first | exact L2.upd_same | walk_at "P")) | fail "no")
local macro_rules | `(tactic| walk_at "s") => `(tactic| first | ((with_reducible refine' G.set_20 ?hp ?_); (case hp => first | exact L2.upd_same | walk_at "P")) | fail "no")
local macro_rules | `(tactic| walk_at "s") => `(tactic| first | (with_reducible refine G.st_sub ?_) | fail "no")
local macro_rules | `(tactic| walk_at "s") => `(tactic| first | (with_reducible refine G.st_strAnd ?_) | fail "no")
local macro_rules | `(tactic| walk_at "s") => `(tactic| first | ((with_reducible refine' G.upper_R ?l ?_); (case l => walk_at "side")) | fail "no")
local macro_rules | `(tactic| walk_at "s") => `(tactic| first | (with_reducible refine G.upper_one ?_; intro hu0) | fail "no")
local macro_rules | `(tactic| walk_at "s") => `(tactic| first | with_reducible refine G.st_M1 ?_ | fail "no")
local macro_rules | `(tactic| walk_at "s") => `(tactic| first | with_reducible refine G.st_M0 ?_ | fail "no")
local macro_rules | `(tactic| walk_at "s") => `(tactic| first | with_reducible refine G.st_lcR ?_ | fail "no")
local macro_rules | `(tactic| walk_at "s") => `(tactic| first | with_reducible refine G.st_lcS ?_ | fail "no")
local macro_rules | `(tactic| walk_at "s") => `(tactic| first | with_reducible refine G.st_lcT ?_ | fail "no")
local macro_rules | `(tactic| walk_at "s") => `(tactic| first | with_reducible refine G.st_lcL ?_ | fail "no")
local macro_rules | `(tactic| walk_at "s") => `(tactic| first | ((with_reducible refine' G.lstOf_L ?r ?_); (case r => walk_at "R"); intro v0 H0 s0 r0) | fail "no")
local macro_rules | `(tactic| walk_at "s") => `(tactic| first | ((with_reducible refine' G.lstOf_T ?r ?_); (case r => walk_at "R"); intro v0 H0 s0 r0) | fail "no")
local macro_rules | `(tactic| walk_at "s") => `(tactic| first | ((with_reducible refine' G.tupOf_T ?r ?_); (case r => walk_at "R")) | fail "no")
local macro_rules | `(tactic| walk_at "s") => `(tactic| first | ((with_reducible refine' G.tupOf_L ?r ?_); (case r => walk_at "R"); intro v0 H0 s0 r0) | fail "no")
local macro_rules | `(tactic| walk_at "s") => `(tactic| first | ((with_reducible refine' G.sl_lstR ?r ?_); (case r => walk_at "R"); intro v0 H0 s0 r0) | fail "no")
local macro_rules | `(tactic| walk_at "s") => `(tactic| first | ((with_reducible refine' G.sl_tupR ?r ?_); (case r => walk_at "R"); intro v0 H0 s0 r0) | fail "no")
local macro_rules | `(tactic| walk_at "s") => `(tactic| first | ((with_reducible refine' G.sl_strR ?l ?_); (case l => walk_at "side")) | fail "no")
local macro_rules | `(tactic| walk_at "s") => `(tactic| first | ((with_reducible refine' G.ix_lstN ?r ?h0 ?h1 ?_); (case r => walk_at "R"); (case h0 => walk_at "side"); (case h1 => walk_at "side"); intro v0 d0 hd0 r0) | fail "no")
local macro_rules | `(tactic| walk_at "s") => `(tactic| first | ((with_reducible refine' G.ix_lstS ?r ?h0 ?h1 ?_); (case r => walk_at "R"); (case h0 => walk_at "side"); (case h1 => walk_at "side"); intro z0 hz0) | fail "no")
local macro_rules | `(tactic| walk_at "s") => `(tactic| first | ((with_reducible refine' G.ix_tupN ?r ?h0 ?h1 ?_); (case r => walk_at "R"); (case h0 => walk_at "side"); (case h1 => walk_at "side"); intro v0 d0 hd0 r0) | fail "no")
local macro_rules | `(tactic| walk_at "s") => `(tactic| first | ((with_reducible refine' G.ix_strM ?l ?h0 ?h1 ?_); (case l => walk_at "side"); (case h0 => walk_at "side"); (case h1 => walk_at "side"); intro c0 hc0) | fail "no")
local macro_rules | `(tactic| walk_at "s") => `(tactic| first | ((with_reducible refine' G.ix_strR ?l ?h0 ?hd ?_); (case l => walk_at "side"); (case h0 => walk_at "side"); (case hd => first | rfl | assumption)) | fail "no")
local macro_rules | `(tactic| walk_at "s") => `(tactic| first | ((with_reducible refine' G.ix_lstR ?r ?h0 ?hd ?_); (case r => walk_at "R"); (case h0 => walk_at "side"); (case hd => first | rfl | assumption); walk_at "got") | fail "no")
local macro_rules | `(tactic| walk_at "s") => `(tactic| first | ((with_reducible refine' G.ix_tupR ?r ?h0 ?hd ?_); (case r => walk_at "R"); (case h0 => walk_at "side"); (case hd => first | rfl | assumption); walk_at "got") | fail "no")
local macro_rules | `(tactic| walk_at "s") => `(tactic| first | ((with_reducible refine' G.st_newL ?r ?l ?_); (case r => walk_at "A"); (case l => first | exact Nat.le_of_ble_eq_true rfl | walk_at "side"); intro v0 H0 s0 r0) | fail "no")
local macro_rules | `(tactic| walk_at "s") => `(tactic| first | ((with_reducible refine' G.st_newT ?r ?l ?_); (case r => walk_at "A"); (case l => first | exact Nat.le_of_ble_eq_true rfl | walk_at "side"); intro v0 H0 s0 r0) | fail "no")
local macro_rules | `(tactic| walk_at "s") => `(tactic| first | (with_reducible refine G.st_lst ?_) | fail "no")
local macro_rules | `(tactic| walk_at "s") => `(tactic| first | (with_reducible refine G.st_tup ?_) | fail "no")
local macro_rules | `(tactic| walk_at "s") => `(tactic| first | ((with_reducible refine' G.len_lst ?r ?_); (case r => walk_at "R")) | fail "no")
local macro_rules | `(tactic| walk_at "s") => `(tactic| first | ((with_reducible refine' G.len_tup ?r ?_); (case r => walk_at "R")) | fail "no")
local macro_rules | `(tactic| walk_at "s") => `(tactic| first | ((with_reducible refine' G.len_str ?l ?_); (case l => walk_at "side")) | fail "no")
local macro_rules | `(tactic| walk_at "s") => `(tactic| first | ((with_reducible refine' G.isi_R ?r ?t ?_); (case r => walk_at "R"); (case t => simp only [List.mem_cons, true_or, or_true])) | fail "no")
local macro_rules | `(tactic| walk_at "s") => `(tactic| first | ((with_reducible refine' G.isi_0 ?r ?e ?t ?_); (case r => walk_at "R"); (case e => rfl); (case t => simp only [List.mem_cons, true_or, or_true])) | fail "no")
local macro_rules | `(tactic| walk_at "s") => `(tactic| first | ((with_reducible refine' G.isi_1 ?r ?e ?t ?_); (case r => walk_at "R"); (case e => rfl); (case t => simp only [List.mem_cons, true_or, or_true])) | fail "no")
local macro_rules | `(tactic| walk_at "s") => `(tactic| first | ((with_reducible refine' G.add_lst ?r ?s ?l ?_); (case r => walk_at "R"); (case s => walk_at "R"); (case l => walk_at "side"); intro v0 H0 s0 r0) | fail "no")
local macro_rules | `(tactic| walk_at "s") => `(tactic| first | ((with_reducible refine' G.add_tup ?r ?s ?l ?_); (case r => walk_at "R"); (case s => walk_at "R"); (case l => walk_at "side"); intro v0 H0 s0 r0) | fail "no")
local macro_rules | `(tactic| walk_at "s") => `(tactic| first | ((with_reducible refine' G.add_str ?l ?_); (case l => walk_at "side")) | fail "no")
local macro_rules | `(tactic| walk_at "s") => `(tactic| first | ((with_reducible refine' G.nin_intsT ?r ?c ?_); (case r => walk_at "R"); (case c => rfl)) | fail "no")
local macro_rules | `(tactic| walk_at "s") => `(tactic| first | ((with_reducible refine' G.in_intsT ?r ?c ?_); (case r => walk_at "R"); (case c => rfl)) | fail "no")
local macro_rules | `(tactic| walk_at "s") => `(tactic| first | ((with_reducible refine' G.nin_strsT ?r ?c ?_); (case r => walk_at "R"); (case c => rfl)) | fail "no")
local macro_rules | `(tactic| walk_at "s") => `(tactic| first | ((with_reducible refine' G.in_strsT ?r ?c ?_); (case r => walk_at "R"); (case c => rfl)) | fail "no")
local macro_rules | `(tactic| walk_at "s") => `(tactic| first | ((with_reducible refine' G.in_strsT0 ?r ?c ?e ?_); (case r => walk_at "R"); (case c => rfl); (case e => decide +kernel)) | fail "no")
local macro_rules | `(tactic| walk_at "s") => `(tactic| first | ((with_reducible refine' G.in_strsT1 ?r ?c ?e ?_); (case r => walk_at "R"); (case c => rfl); (case e => decide +kernel)) | fail "no")
local macro_rules | `(tactic| walk_at "s") => `(tactic| first | with_reducible refine G.nin_sign ?_ | fail "no")
local macro_rules | `(tactic| walk_at "s") => `(tactic| first | with_reducible refine G.in_sign ?_ | fail "no")
local macro_rules | `(tactic| walk_at "s") => `(tactic| first | with_reducible refine G.isnt_bl ?_ | fail "no")
local macro_rules | `(tactic| walk_at "s") => `(tactic| first | with_reducible refine G.is_bl ?_ | fail "no")
local macro_rules | `(tactic| walk_at "s") => `(tactic| first | ((with_reducible refine' G.isnt_none ?r ?_); (case r => walk_at "R")) | fail "no")
local macro_rules | `(tactic| walk_at "s") => `(tactic| first | ((with_reducible refine' G.is_none ?r ?_); (case r => walk_at "R")) | fail "no")
local macro_rules | `(tactic| walk_at "s") => `(tactic| first | with_reducible refine G.ne_int ?_ | fail "no")
local macro_rules | `(tactic| walk_at "s") => `(tactic| first | with_reducible refine G.ne_str ?_ | fail "no")
local macro_rules | `(tactic| walk_at "s") => `(tactic| first | with_reducible refine G.eq_bl ?_ | fail "no")
local macro_rules | `(tactic| walk_at "s") => `(tactic| first | with_reducible refine G.eq_int ?_ | fail "no")
local macro_rules | `(tactic| walk_at "s") => `(tactic| first | with_reducible refine G.eq_str ?_ | fail "no")
local macro_rules | `(tactic| walk_at "s") => `(tactic| first | ((with_reducible refine' G.eq_str0 ?e ?_); (case e => decide +kernel)) | fail "no")
local macro_rules | `(tactic| walk_at "s") => `(tactic| first | ((with_reducible refine' G.eq_str1 ?e ?_); (case e => with_reducible rfl)) | fail "no")
local macro_rules | `(tactic| walk_at "s") => `(tactic| first | ((with_reducible refine' G.iC ?hc ?_); (case hc => walk_at "sideC")) | fail "no")
local macro_rules | `(tactic| walk_at "s") => `(tactic| first | ((with_reducible refine G.imod3 (by decide) ?_ ?_ ?_) <;> (intro hm; first | (exfalso; walk_at "no"; done) | skip)) | fail "no")
local macro_rules | `(tactic| walk_at "s") => `(tactic| first | ((with_reducible refine G.imod2 (by decide) ?_ ?_) <;> (intro hm; first | (exfalso; walk_at "no"; done) | skip)) | fail "no")
local macro_rules | `(tactic| walk_at "s") => `(tactic| first | with_reducible refine G.i0 ?_ | fail "no")
local macro_rules | `(tactic| walk_at "s") => `(tactic| first | with_reducible refine G.add_int ?_ | fail "no")
local macro_rules | `(tactic| walk_at "s") => `(tactic| first | with_reducible refine G.st_retN ?_ | fail "no")
local macro_rules | `(tactic| walk_at "s") => `(tactic| first | with_reducible refine G.st_next ?_ | fail "no")
local macro_rules | `(tactic| walk_at "s") => `(tactic| first | with_reducible refine G.st_drop ?_ | fail "no")
local macro_rules | `(tactic| walk_at "s") => `(tactic| first | with_reducible refine G.st_exInt ?_ | fail "no")
local macro_rules | `(tactic| walk_at "s") => `(tactic| first | with_reducible refine G.st_part ?_ | fail "no")
local macro_rules | `(tactic| walk_at "s") => `(tactic| first | with_reducible refine G.st_noPart ?_ | fail "no")
local macro_rules | `(tactic| walk_at "s") => `(tactic| first | with_reducible refine G.st_slice ?_ | fail "no")
local macro_rules | `(tactic| walk_at "s") => `(tactic| first | with_reducible refine G.st_then ?_ | fail "no")
local macro_rules | `(tactic| walk_at "s") => `(tactic| first | with_reducible refine G.st_un ?_ | fail "no")
local macro_rules | `(tactic| walk_at "s") => `(tactic| first | with_reducible refine G.st_chain ?_ | fail "no")
local macro_rules | `(tactic| walk_at "s") => `(tactic| first | with_reducible refine G.st_tIf ?_ | fail "no")
local macro_rules | `(tactic| walk_at "s") => `(tactic| first | with_reducible refine G.st_notV ?_ | fail "no")
local macro_rules | `(tactic| walk_at "s") => `(tactic| first | with_reducible refine G.st_andV ?_ | fail "no")
local macro_rules | `(tactic| walk_at "s") => `(tactic| first | with_reducible refine G.st_orV ?_ | fail "no")
local macro_rules | `(tactic| walk_at "s") => `(tactic| first | with_reducible refine G.st_not ?_ | fail "no")
local macro_rules | `(tactic| walk_at "s") => `(tactic| first | with_reducible refine G.st_and ?_ | fail "no")
local macro_rules | `(tactic| walk_at "s") => `(tactic| first | with_reducible refine G.st_or ?_ | fail "no")
local macro_rules | `(tactic| walk_at "s") => `(tactic| first | with_reducible refine G.st_tB ?_ | fail "no")
local macro_rules | `(tactic| walk_at "s") => `(tactic| first | with_reducible refine G.st_tTest ?_ | fail "no")
local macro_rules | `(tactic| walk_at "s") => `(tactic| first | with_reducible refine G.st_CB ?_ | fail "no")
local macro_rules | `(tactic| walk_at "s") => `(tactic| first | with_reducible refine G.st_nil ?_ | fail "no")
local macro_rules | `(tactic| walk_at "s") => `(tactic| first | with_reducible refine G.st_cons ?_ | fail "no")
local macro_rules | `(tactic| walk_at "s") => `(tactic| first | with_reducible refine G.st_call ?_ | fail "no")
local macro_rules | `(tactic| walk_at "s") => `(tactic| first | with_reducible refine G.st_set ?_ | fail "no")
local macro_rules | `(tactic| walk_at "s") => `(tactic| first | with_reducible refine G.st_ret ?_ | fail "no")
local macro_rules | `(tactic| walk_at "s") => `(tactic| first | with_reducible refine G.st_if ?_ | fail "no")
local macro_rules | `(tactic| walk_at "s") => `(tactic| first | ((with_reducible refine G.st_ite ?_ ?_) <;> (intro hb; (try simp only [decide_eq_true_eq, decide_eq_false_iff_not, Bool.not_eq_true', Bool.not_eq_false', beq_iff_eq, Bool.and_eq_true, Bool.or_eq_true, Bool.and_eq_false_iff, Bool.or_eq_false_iff, beq_eq_false_iff_ne, ne_eq, Int.not_lt, Int.not_le, Nat.not_lt, Nat.not_le] at hb); first | (exfalso; walk_at "no"; done) | skip)) | fail "no")
local macro_rules | `(tactic| walk_at "s") => `(tactic| first | with_reducible refine G.ite_nf ?_ | fail "no")
local macro_rules | `(tactic| walk_at "s") => `(tactic| first | with_reducible refine G.ite_nt ?_ | fail "no")
local macro_rules | `(tactic| walk_at "s") => `(tactic| first | with_reducible refine L2.iteF ?_ | fail "no")
local macro_rules | `(tactic| walk_at "s") => `(tactic| first | with_reducible refine L2.iteT ?_ | fail "no")
local macro_rules | `(tactic| walk_at "s") => `(tactic| first | with_reducible refine G.st_bl ?_ | fail "no")
local macro_rules | `(tactic| walk_at "s") => `(tactic| first | with_reducible refine G.st_op ?_ | fail "no")
local macro_rules | `(tactic| walk_at "s") => `(tactic| first | with_reducible refine G.st_c ?_ | fail "no")
local macro_rules | `(tactic| walk_at "s") => `(tactic| first | ((with_reducible refine' G.st_var ?hv ?_); (case hv => exact rfl)) | fail "no")
local macro_rules | `(tactic| walk_at "s") => `(tactic| first | with_reducible refine G.st_seq ?_ | fail "no")
local macro_rules | `(tactic| walk_at "r") => `(tactic| repeat' (walk_at "s"))
local macro_rules | `(tactic| walk_at "side") => `(tactic| first | fail | fail "no")
local macro_rules | `(tactic| walk_at "side") => `(tactic| first | exact G.nm_c (by with_reducible assumption) | fail "no")
local macro_rules | `(tactic| walk_at "side") => `(tactic| first | exact G.nm_b (by with_reducible assumption) | fail "no")
local macro_rules | `(tactic| walk_at "side") => `(tactic| first | exact G.fm_a (by with_reducible assumption) | fail "no")
local macro_rules | `(tactic| walk_at "side") => `(tactic| first | exact G.nm_a (by with_reducible assumption) | fail "no")
local macro_rules | `(tactic| walk_at "c") => `(tactic| ((with_reducible refine' G.use_name ?hp ?_); (case hp => walk_at "P"); intro z0 H0 s0 hz0))
local macro_rules | `(tactic| walk_at "c") => `(tactic| ((with_reducible refine' G.use_form ?hp ?_); (case hp => walk_at "P"); intro z0 H0 s0 hz0))
local macro_rules | `(tactic| walk_at "c") => `(tactic| ((with_reducible refine' G.use_pool ?hp ?_); (case hp => walk_at "P"); intro v0 fs0 gs0 ns0 H0 s0 ok0 r0))
local macro_rules | `(tactic| walk_at "c") => `(tactic| ((with_reducible refine' G.use_leaf ?hp ?r ?ok ?h0 ?h1 ?_); (case hp => walk_at "P"); (case r => walk_at "R"); (case ok => with_reducible assumption); (case h0 => walk_at "side"); (case h1 => walk_at "side"); intro v0 t0 H0 s0 r0 ht0 hd0 hs0))
local macro_rules | `(tactic| walk_at "c") => `(tactic| ((with_reducible refine' G.use_term ?hp ?r ?ok ?h0 ?h1 ?e0 ?e1 ?_); (case hp => walk_at "P"); (case r => walk_at "R"); (case ok => with_reducible assumption); (case h0 => walk_at "side"); (case h1 => walk_at "side"); (case e0 => walk_at "side"); (case e1 => walk_at "side"); intro v0 t0 H0 s0 r0 ht0 hd0 hs0))
local macro_rules | `(tactic| walk_at "c") => `(tactic| ((with_reducible refine' G.use_tall ?hp ?r ?ok ?rt ?ht ?h0 ?h1 ?_); (case hp => walk_at "P"); (case r => walk_at "R"); (case ok => with_reducible assumption); (case rt => walk_at "R"); (case ht => with_reducible assumption); (case h0 => walk_at "side"); (case h1 => walk_at "side"); intro v0 t0 H0 s0 r0 ht0 hd0 hs0))
local macro_rules | `(tactic| walk_at "c") => `(tactic| ((with_reducible refine' G.use_anyT ?hp ?r ?ok ?h0 ?h1 ?_); (case hp => walk_at "P"); (case r => walk_at "R"); (case ok => with_reducible assumption); (case h0 => walk_at "side"); (case h1 => walk_at "side"); intro v0 t0 H0 s0 r0 ht0 hd0 hs0))
local macro_rules | `(tactic| walk_at "w") => `(tactic| first | ((with_reducible refine' G.st_newLF ?r ?l ?_); (case r => walk_at "A"); (case l => first | exact Nat.le_of_ble_eq_true rfl | walk_at "side"); intro p0 H0 f0 s0 hl0 ra0) | fail "no")
local macro_rules | `(tactic| walk_at "w") => `(tactic| first | with_reducible refine G.st_lstF ?_ | fail "no")
local macro_rules | `(tactic| walk_at "w") => `(tactic| first | with_reducible refine G.whB ?_ | fail "no")
local macro_rules | `(tactic| walk_at "w") => `(tactic| first | with_reducible refine G.ipI_int ?_ | fail "no")
local macro_rules | `(tactic| walk_at "w") => `(tactic| first | ((with_reducible refine' G.st_aug ?hx ?_); (case hx => rfl)) | fail "no")
local macro_rules | `(tactic| walk_at "w") => `(tactic| first | with_reducible refine G.max_2 ?_ | fail "no")
local macro_rules | `(tactic| walk_at "w") => `(tactic| first | with_reducible refine G.int_bl ?_ | fail "no")
local macro_rules | `(tactic| walk_at "w") => `(tactic| first | with_reducible refine G.st_asgT ?_ | fail "no")
local macro_rules | `(tactic| walk_at "w") => `(tactic| first | ((with_reducible refine' G.gtup2 ?r ?_); (case r => walk_at "R"); intro v1 v2 r1 r2) | fail "no")
local macro_rules | `(tactic| walk_at "w") => `(tactic| first | ((with_reducible refine' G.extR ?hl ?ra ?r ?hz ?hn ?hn' ?_); (case hl => walk_at "P"); (case ra => first | with_reducible assumption | exact G.ra_mono (by with_reducible assumption) (by walk_at "S")); (case r => walk_at "R"); (case hz => walk_at "side"); (case hn => walk_at "nol"); (case hn' => walk_at "nol"); intro ws0 H0 x0 hl0 ra0) | fail "no")
local macro_rules | `(tactic| walk_at "w") => `(tactic| first | ((with_reducible refine' G.popR ?hl ?ra ?hn ?_); (case hl => walk_at "P"); (case ra => with_reducible assumption); (case hn => with_reducible assumption); intro v0 ws0 H0 x0 hl0 ra0 r0) | fail "no")
local macro_rules | `(tactic| walk_at "w") => `(tactic| first | ((with_reducible refine' G.st_tyl ?hl ?_); (case hl => walk_at "P")) | fail "no")
local macro_rules | `(tactic| walk_at "w") => `(tactic| first | with_reducible refine G.st_BM ?_ | fail "no")
local macro_rules | `(tactic| walk_at "w") => `(tactic| first | with_reducible refine G.st_BM0 ?_ | fail "no")
local macro_rules | `(tactic| walk_at "nol") => `(tactic| first | exact G.Th.noLs _ | fail "no")
local macro_rules | `(tactic| walk_at "nol") => `(tactic| first | exact G.Th.noL _ | fail "no")
local macro_rules | `(tactic| walk_at "nol") => `(tactic| first | rfl | fail "no")
local macro_rules | `(tactic| walk_at "nol") => `(tactic| first | with_reducible assumption | fail "no")
local macro_rules | `(tactic| walk_at "c") => `(tactic| walk_at "w")
local macro_rules | `(tactic| walk_at "c") => `(tactic| first | (with_reducible refine G.absR ?_; intro j0) | fail "no")
local macro_rules | `(tactic| walk_at "c") => `(tactic| first | ((with_reducible refine' G.divmodR ?h0 ?h1 ?_); (case h0 => walk_at "side"); (case h1 => walk_at "side"); intro p0 H0 f0 e0) | fail "no")
local macro_rules | `(tactic| walk_at "c") => `(tactic| first | ((with_reducible refine' G.ix_scrLast ?hs ?h1 ?_); (case hs => walk_at "Q"); (case h1 => walk_at "side"); intro n0) | fail "no")
local macro_rules | `(tactic| walk_at "c") => `(tactic| first | ((with_reducible refine' G.iC ?hc ?_); (case hc => show (0 : Int) < _; decide +kernel)) | fail "no")
local macro_rules | `(tactic| walk_at "c") => `(tactic| first | with_reducible refine G.st_gsub ?_ | fail "no")
local macro_rules | `(tactic| walk_at "c") => `(tactic| first | with_reducible refine G.st_gname ?_ | fail "no")
local macro_rules | `(tactic| walk_at "c") => `(tactic| first | with_reducible refine G.st_gnil ?_ | fail "no")
local macro_rules | `(tactic| walk_at "c") => `(tactic| first | with_reducible refine G.st_gcons ?_ | fail "no")
local macro_rules | `(tactic| walk_at "c") => `(tactic| first | with_reducible refine G.st_tys ?_ | fail "no")
local macro_rules | `(tactic| walk_at "c") => `(tactic| first | with_reducible refine G.st_BMs ?_ | fail "no")
local macro_rules | `(tactic| walk_at "c") => `(tactic| first | with_reducible refine G.neg_i ?_ | fail "no")
section








namespace G
open PySem PySem.Spec PyProof.Rows L2
def top (i : Nat) : Stmt := PySem.Challenge.pw_tacticwright_k21_steps_found.main.body.getD i (.Pass ⟨0, 0, 0, 0⟩)
abbrev s_is_number : Stmt := top 12
abbrev n_is_number : List Str := ["thing"]
abbrev p_is_number : List Str := ["thing"]
theorem sc_is_number : FnScope n_is_number p_is_number (defScope s_is_number) := ⟨rfl, rfl, rfl, by decide +kernel, rfl, by decide +kernel, by decide +kernel⟩
abbrev s_is_name : Stmt := top 13
abbrev n_is_name : List Str := ["thing", "sign"]
abbrev p_is_name : List Str := ["thing"]
theorem sc_is_name : FnScope n_is_name p_is_name (defScope s_is_name) := ⟨rfl, rfl, rfl, by decide +kernel, rfl, by decide +kernel, by decide +kernel⟩
abbrev s_is_form_name : Stmt := top 14
abbrev n_is_form_name : List Str := ["thing", "sign"]
abbrev p_is_form_name : List Str := ["thing"]
theorem sc_is_form_name : FnScope n_is_form_name p_is_form_name (defScope s_is_form_name) := ⟨rfl, rfl, rfl, by decide +kernel, rfl, by decide +kernel, by decide +kernel⟩
abbrev s_are_args : Stmt := top 15
abbrev n_are_args : List Str := ["thing", "arg"]
abbrev p_are_args : List Str := ["thing"]
theorem sc_are_args : FnScope n_are_args p_are_args (defScope s_are_args) := ⟨rfl, rfl, rfl, by decide +kernel, rfl, by decide +kernel, by decide +kernel⟩
abbrev s_is_term : Stmt := top 16
abbrev n_is_term : List Str := ["thing", "named"]
abbrev p_is_term : List Str := ["thing"]
theorem sc_is_term : FnScope n_is_term p_is_term (defScope s_is_term) := ⟨rfl, rfl, rfl, by decide +kernel, rfl, by decide +kernel, by decide +kernel⟩
abbrev s_parts_of_terms : Stmt := top 17
abbrev n_parts_of_terms : List Str := ["thing", "word"]
abbrev p_parts_of_terms : List Str := ["thing"]
theorem sc_parts_of_terms : FnScope n_parts_of_terms p_parts_of_terms (defScope s_parts_of_terms) := ⟨rfl, rfl, rfl, by decide +kernel, rfl, by decide +kernel, by decide +kernel⟩
abbrev s_at_place : Stmt := top 20
abbrev n_at_place : List Str := ["t", "place", "k", "parts"]
abbrev p_at_place : List Str := ["t", "place"]
theorem sc_at_place : FnScope n_at_place p_at_place (defScope s_at_place) := ⟨rfl, rfl, rfl, by decide +kernel, rfl, by decide +kernel, by decide +kernel⟩
abbrev s_with_place : Stmt := top 21
abbrev n_with_place : List Str := ["t", "place", "u", "k", "args"]
abbrev p_with_place : List Str := ["t", "place", "u"]
theorem sc_with_place : FnScope n_with_place p_with_place (defScope s_with_place) := ⟨rfl, rfl, rfl, by decide +kernel, rfl, by decide +kernel, by decide +kernel⟩
abbrev s_args_put : Stmt := top 22
abbrev n_args_put : List Str := ["t", "args", "part"]
abbrev p_args_put : List Str := ["t", "args"]
theorem sc_args_put : FnScope n_args_put p_args_put (defScope s_args_put) := ⟨rfl, rfl, rfl, by decide +kernel, rfl, by decide +kernel, by decide +kernel⟩
abbrev s_args_of : Stmt := top 28
abbrev n_args_of : List Str := ["t"]
abbrev p_args_of : List Str := ["t"]
theorem sc_args_of : FnScope n_args_of p_args_of (defScope s_args_of) := ⟨rfl, rfl, rfl, by decide +kernel, rfl, by decide +kernel, by decide +kernel⟩
abbrev s_can_step : Stmt := top 30
abbrev n_can_step : List Str := ["lore", "t", "row"]
abbrev p_can_step : List Str := ["lore", "t"]
theorem sc_can_step : FnScope n_can_step p_can_step (defScope s_can_step) := ⟨rfl, rfl, rfl, by decide +kernel, rfl, by decide +kernel, by decide +kernel⟩
abbrev s_gone : Stmt := top 31
abbrev n_gone : List Str := ["lore", "t", "row", "first", "names", "form"]
abbrev p_gone : List Str := ["lore", "t"]
theorem sc_gone : FnScope n_gone p_gone (defScope s_gone) := ⟨rfl, rfl, rfl, by decide +kernel, rfl, by decide +kernel, by decide +kernel⟩
abbrev s_steps : Stmt := top 32
abbrev n_steps : List Str := ["lore", "t", "found", "waiting", "place", "one", "args", "k"]
abbrev p_steps : List Str := ["lore", "t"]
theorem sc_steps : FnScope n_steps p_steps (defScope s_steps) := ⟨rfl, rfl, rfl, by decide +kernel, rfl, by decide +kernel, by decide +kernel⟩
abbrev s_stepped : Stmt := top 33
abbrev n_stepped : List Str := ["lore", "t", "place"]
abbrev p_stepped : List Str := ["lore", "t", "place"]
theorem sc_stepped : FnScope n_stepped p_stepped (defScope s_stepped) := ⟨rfl, rfl, rfl, by decide +kernel, rfl, by decide +kernel, by decide +kernel⟩
abbrev s_told_kinds : Stmt := top 49
abbrev n_told_kinds : List Str := ["lore", "t", "shape", "row"]
abbrev p_told_kinds : List Str := ["lore", "t"]
theorem sc_told_kinds : FnScope n_told_kinds p_told_kinds (defScope s_told_kinds) := ⟨rfl, rfl, rfl, by decide +kernel, rfl, by decide +kernel, by decide +kernel⟩
abbrev s_kind_in : Stmt := top 50
abbrev n_kind_in : List Str := ["lore", "things", "inner", "t", "told", "arg", "kind"]
abbrev p_kind_in : List Str := ["lore", "things", "inner", "t"]
theorem sc_kind_in : FnScope n_kind_in p_kind_in (defScope s_kind_in) := ⟨rfl, rfl, rfl, by decide +kernel, rfl, by decide +kernel, by decide +kernel⟩
abbrev s_kind_of : Stmt := top 51
abbrev n_kind_of : List Str := ["lore", "things", "inner", "t"]
abbrev p_kind_of : List Str := ["lore", "things", "inner", "t"]
theorem sc_kind_of : FnScope n_kind_of p_kind_of (defScope s_kind_of) := ⟨rfl, rfl, rfl, by decide +kernel, rfl, by decide +kernel, by decide +kernel⟩
abbrev s_Beside___init__ : Stmt := inClass (top 93) 0
abbrev n_Beside___init__ : List Str := ["self", "lore", "row"]
abbrev p_Beside___init__ : List Str := ["self", "lore", "row"]
theorem sc_Beside___init__ : FnScope n_Beside___init__ p_Beside___init__ (defScope s_Beside___init__) := ⟨rfl, rfl, rfl, by decide +kernel, rfl, by decide +kernel, by decide +kernel⟩
abbrev s_Beside_form : Stmt := inClass (top 93) 1
abbrev n_Beside_form : List Str := ["self", "C"]
abbrev p_Beside_form : List Str := ["self", "C"]
theorem sc_Beside_form : FnScope n_Beside_form p_Beside_form (defScope s_Beside_form) := ⟨rfl, rfl, rfl, by decide +kernel, rfl, by decide +kernel, by decide +kernel⟩
abbrev s_Beside_function : Stmt := inClass (top 93) 2
abbrev n_Beside_function : List Str := ["self", "f"]
abbrev p_Beside_function : List Str := ["self", "f"]
theorem sc_Beside_function : FnScope n_Beside_function p_Beside_function (defScope s_Beside_function) := ⟨rfl, rfl, rfl, by decide +kernel, rfl, by decide +kernel, by decide +kernel⟩
abbrev s_are_kinds : Stmt := top 94
abbrev n_are_kinds : List Str := ["lore", "kinds", "kind"]
abbrev p_are_kinds : List Str := ["lore", "kinds"]
theorem sc_are_kinds : FnScope n_are_kinds p_are_kinds (defScope s_are_kinds) := ⟨rfl, rfl, rfl, by decide +kernel, rfl, by decide +kernel, by decide +kernel⟩
abbrev s_is_form : Stmt := top 95
abbrev n_is_form : List Str := ["lore", "told", "K", "first", "kind"]
abbrev p_is_form : List Str := ["lore", "told", "K", "first"]
theorem sc_is_form : FnScope n_is_form p_is_form (defScope s_is_form) := ⟨rfl, rfl, rfl, by decide +kernel, rfl, by decide +kernel, by decide +kernel⟩
abbrev s_right_kind : Stmt := top 96
abbrev n_right_kind : List Str := ["lore", "row", "K", "forms", "met", "place", "told"]
abbrev p_right_kind : List Str := ["lore", "row"]
theorem sc_right_kind : FnScope n_right_kind p_right_kind (defScope s_right_kind) := ⟨rfl, rfl, rfl, by decide +kernel, rfl, by decide +kernel, by decide +kernel⟩
abbrev s_right_function : Stmt := top 97
abbrev n_right_function : List Str := ["lore", "row"]
abbrev p_right_function : List Str := ["lore", "row"]
theorem sc_right_function : FnScope n_right_function p_right_function (defScope s_right_function) := ⟨rfl, rfl, rfl, by decide +kernel, rfl, by decide +kernel, by decide +kernel⟩
abbrev s_is_of : Stmt := top 98
abbrev n_is_of : List Str := ["lore", "inner", "t", "K", "kind"]
abbrev p_is_of : List Str := ["lore", "inner", "t", "K"]
theorem sc_is_of : FnScope n_is_of p_is_of (defScope s_is_of) := ⟨rfl, rfl, rfl, by decide +kernel, rfl, by decide +kernel, by decide +kernel⟩
abbrev s_falls : Stmt := top 99
abbrev n_falls : List Str := ["t", "f", "parts", "arg"]
abbrev p_falls : List Str := ["t", "f", "parts"]
theorem sc_falls : FnScope n_falls p_falls (defScope s_falls) := ⟨rfl, rfl, rfl, by decide +kernel, rfl, by decide +kernel, by decide +kernel⟩
abbrev s_right_rule : Stmt := top 100
abbrev n_right_rule : List Str := ["lore", "row", "word", "f", "kinds", "K", "terms", "forms", "beside", "told", "t", "parts", "k", "kind"]
abbrev p_right_rule : List Str := ["lore", "row"]
theorem sc_right_rule : FnScope n_right_rule p_right_rule (defScope s_right_rule) := ⟨rfl, rfl, rfl, by decide +kernel, rfl, by decide +kernel, by decide +kernel⟩
abbrev s_is_right : Stmt := top 102
abbrev n_is_right : List Str := ["lore", "row"]
abbrev p_is_right : List Str := ["lore", "row"]
theorem sc_is_right : FnScope n_is_right p_is_right (defScope s_is_right) := ⟨rfl, rfl, rfl, by decide +kernel, rfl, by decide +kernel, by decide +kernel⟩
abbrev s_Lore___init__ : Stmt := inClass (top 103) 0
abbrev n_Lore___init__ : List Str := ["self", "rows", "place", "row"]
abbrev p_Lore___init__ : List Str := ["self", "rows"]
theorem sc_Lore___init__ : FnScope n_Lore___init__ p_Lore___init__ (defScope s_Lore___init__) := ⟨rfl, rfl, rfl, by decide +kernel, rfl, by decide +kernel, by decide +kernel⟩
abbrev s_Lore_add : Stmt := inClass (top 103) 1
abbrev n_Lore_add : List Str := ["self", "row", "C", "kinds"]
abbrev p_Lore_add : List Str := ["self", "row"]
theorem sc_Lore_add : FnScope n_Lore_add p_Lore_add (defScope s_Lore_add) := ⟨rfl, rfl, rfl, by decide +kernel, rfl, by decide +kernel, by decide +kernel⟩
abbrev s_Lore_forms : Stmt := inClass (top 103) 4
abbrev n_Lore_forms : List Str := ["self", "K", "forms"]
abbrev p_Lore_forms : List Str := ["self", "K"]
theorem sc_Lore_forms : FnScope n_Lore_forms p_Lore_forms (defScope s_Lore_forms) := ⟨rfl, rfl, rfl, by decide +kernel, rfl, by decide +kernel, by decide +kernel⟩
abbrev s_Lore_has_kind : Stmt := inClass (top 103) 5
abbrev n_Lore_has_kind : List Str := ["self", "K"]
abbrev p_Lore_has_kind : List Str := ["self", "K"]
theorem sc_Lore_has_kind : FnScope n_Lore_has_kind p_Lore_has_kind (defScope s_Lore_has_kind) := ⟨rfl, rfl, rfl, by decide +kernel, rfl, by decide +kernel, by decide +kernel⟩
abbrev s_Lore_form : Stmt := inClass (top 103) 6
abbrev n_Lore_form : List Str := ["self", "C"]
abbrev p_Lore_form : List Str := ["self", "C"]
theorem sc_Lore_form : FnScope n_Lore_form p_Lore_form (defScope s_Lore_form) := ⟨rfl, rfl, rfl, by decide +kernel, rfl, by decide +kernel, by decide +kernel⟩
abbrev s_Lore_function : Stmt := inClass (top 103) 7
abbrev n_Lore_function : List Str := ["self", "f"]
abbrev p_Lore_function : List Str := ["self", "f"]
theorem sc_Lore_function : FnScope n_Lore_function p_Lore_function (defScope s_Lore_function) := ⟨rfl, rfl, rfl, by decide +kernel, rfl, by decide +kernel, by decide +kernel⟩
abbrev s_Lore_word : Stmt := inClass (top 103) 8
abbrev n_Lore_word : List Str := ["self", "P"]
abbrev p_Lore_word : List Str := ["self", "P"]
theorem sc_Lore_word : FnScope n_Lore_word p_Lore_word (defScope s_Lore_word) := ⟨rfl, rfl, rfl, by decide +kernel, rfl, by decide +kernel, by decide +kernel⟩
abbrev s_Book___init__ : Stmt := inClass (top 111) 0
abbrev n_Book___init__ : List Str := ["self", "rows"]
abbrev p_Book___init__ : List Str := ["self", "rows"]
theorem sc_Book___init__ : FnScope n_Book___init__ p_Book___init__ (defScope s_Book___init__) := ⟨rfl, rfl, rfl, by decide +kernel, rfl, by decide +kernel, by decide +kernel⟩
abbrev s_l_begin : Stmt := top 113
abbrev n_l_begin : List Str := ["_law_script", "_law_seed", "_law_cell", "_law_first"]
abbrev p_l_begin : List Str := ["_law_script"]
theorem sc_l_begin : FnScope n_l_begin p_l_begin (defScope s_l_begin) := ⟨rfl, rfl, rfl, by decide +kernel, rfl, by decide +kernel, by decide +kernel⟩
abbrev s_l_next : Stmt := top 114
abbrev n_l_next : List Str := ["_law_state", "_law_many", "_law_digit"]
abbrev p_l_next : List Str := ["_law_state", "_law_many"]
theorem sc_l_next : FnScope n_l_next p_l_next (defScope s_l_next) := ⟨rfl, rfl, rfl, by decide +kernel, rfl, by decide +kernel, by decide +kernel⟩
abbrev s_l_names : Stmt := top 115
abbrev n_l_names : List Str := ["_law_state", "_law_letters", "_law_stem", "_law_k", "_law_turn", "_law_some", "_law_at", "_law_names_here", "_law_sign", "_law_name"]
abbrev p_l_names : List Str := ["_law_state"]
theorem sc_l_names : FnScope n_l_names p_l_names (defScope s_l_names) := ⟨rfl, rfl, rfl, by decide +kernel, rfl, by decide +kernel, by decide +kernel⟩
abbrev s_l_great : Stmt := top 116
abbrev n_l_great : List Str := ["_law_name"]
abbrev p_l_great : List Str := ["_law_name"]
theorem sc_l_great : FnScope n_l_great p_l_great (defScope s_l_great) := ⟨rfl, rfl, rfl, by decide +kernel, rfl, by decide +kernel, by decide +kernel⟩
abbrev s_l_least : Stmt := top 117
abbrev n_l_least : List Str := ["_law_book_here", "_law_kind", "_law_name", "_law_parts", "_law_part"]
abbrev p_l_least : List Str := ["_law_book_here", "_law_kind"]
theorem sc_l_least : FnScope n_l_least p_l_least (defScope s_l_least) := ⟨rfl, rfl, rfl, by decide +kernel, rfl, by decide +kernel, by decide +kernel⟩
abbrev s_l_term : Stmt := top 118
abbrev n_l_term : List Str := ["_law_state", "_law_book_here", "_law_kind", "_law_things_here", "_law_inner", "_law_room", "_law_own", "_law_leaves", "_law_pick", "_law_head", "_law_args_here", "_law_ways", "_law_word", "_law_name", "_law_parts", "_law_x", "_law_other", "_law_k", "_law_part", "_law_f"]
abbrev p_l_term : List Str := ["_law_state", "_law_book_here", "_law_kind", "_law_things_here", "_law_inner", "_law_room", "_law_own"]
theorem sc_l_term : FnScope n_l_term p_l_term (defScope s_l_term) := ⟨rfl, rfl, rfl, by decide +kernel, rfl, by decide +kernel, by decide +kernel⟩
abbrev s_l_function : Stmt := top 119
abbrev n_l_function : List Str := ["_law_state", "_law_book_here", "_law_f", "_law_kinds", "_law_args_here", "_law_kind", "_law_first", "_law_terms", "_law_name", "_law_parts", "_law_own", "_law_k", "_law_part"]
abbrev p_l_function : List Str := ["_law_state", "_law_book_here", "_law_f"]
theorem sc_l_function : FnScope n_l_function p_l_function (defScope s_l_function) := ⟨rfl, rfl, rfl, by decide +kernel, rfl, by decide +kernel, by decide +kernel⟩
abbrev s_l_book : Stmt := top 120
abbrev n_l_book : List Str := ["_law_state", "_law_names_here", "_law_a", "_law_b", "_law_c", "_law_great_here", "_law_forms", "_law_calls", "_law_rows", "_law_book_here", "_law_wide", "_law_f", "_law_row", "_law_word", "_law_name", "_law_parts", "_law_kind", "_law_j"]
abbrev p_l_book : List Str := ["_law_state", "_law_names_here"]
theorem sc_l_book : FnScope n_l_book p_l_book (defScope s_l_book) := ⟨rfl, rfl, rfl, by decide +kernel, rfl, by decide +kernel, by decide +kernel⟩
abbrev s_l_lore : Stmt := top 121
abbrev n_l_lore : List Str := ["_law_state", "_law_book_here"]
abbrev p_l_lore : List Str := ["_law_state", "_law_book_here"]
theorem sc_l_lore : FnScope n_l_lore p_l_lore (defScope s_l_lore) := ⟨rfl, rfl, rfl, by decide +kernel, rfl, by decide +kernel, by decide +kernel⟩
abbrev s_l_things : Stmt := top 122
abbrev n_l_things : List Str := ["_law_state", "_law_book_here", "_law_names_here", "_law_cut", "_law_many", "_law_some", "_law_x"]
abbrev p_l_things : List Str := ["_law_state", "_law_book_here", "_law_names_here"]
theorem sc_l_things : FnScope n_l_things p_l_things (defScope s_l_things) := ⟨rfl, rfl, rfl, by decide +kernel, rfl, by decide +kernel, by decide +kernel⟩
abbrev s_l_args : Stmt := top 123
abbrev n_l_args : List Str := ["_law_t"]
abbrev p_l_args : List Str := ["_law_t"]
theorem sc_l_args : FnScope n_l_args p_l_args (defScope s_l_args) := ⟨rfl, rfl, rfl, by decide +kernel, rfl, by decide +kernel, by decide +kernel⟩
abbrev s_l_put : Stmt := top 124
abbrev n_l_put : List Str := ["_law_t", "_law_args_here", "_law_part"]
abbrev p_l_put : List Str := ["_law_t", "_law_args_here"]
theorem sc_l_put : FnScope n_l_put p_l_put (defScope s_l_put) := ⟨rfl, rfl, rfl, by decide +kernel, rfl, by decide +kernel, by decide +kernel⟩
abbrev s_l_here : Stmt := top 125
abbrev n_l_here : List Str := ["_law_book_here", "_law_t", "_law_row", "_law_names_here", "_law_name", "_law_parts"]
abbrev p_l_here : List Str := ["_law_book_here", "_law_t"]
theorem sc_l_here : FnScope n_l_here p_l_here (defScope s_l_here) := ⟨rfl, rfl, rfl, by decide +kernel, rfl, by decide +kernel, by decide +kernel⟩
abbrev s_l_places : Stmt := top 126
abbrev n_l_places : List Str := ["_law_book_here", "_law_t", "_law_place", "_law_found", "_law_k", "_law_part"]
abbrev p_l_places : List Str := ["_law_book_here", "_law_t", "_law_place"]
theorem sc_l_places : FnScope n_l_places p_l_places (defScope s_l_places) := ⟨rfl, rfl, rfl, by decide +kernel, rfl, by decide +kernel, by decide +kernel⟩
abbrev s_l_gone : Stmt := top 127
abbrev n_l_gone : List Str := ["_law_book_here", "_law_t", "_law_place", "_law_k"]
abbrev p_l_gone : List Str := ["_law_book_here", "_law_t", "_law_place"]
theorem sc_l_gone : FnScope n_l_gone p_l_gone (defScope s_l_gone) := ⟨rfl, rfl, rfl, by decide +kernel, rfl, by decide +kernel, by decide +kernel⟩
abbrev s_l_are_places : Stmt := top 128
abbrev n_l_are_places : List Str := ["_law_found", "_law_place", "_law_k"]
abbrev p_l_are_places : List Str := ["_law_found"]
theorem sc_l_are_places : FnScope n_l_are_places p_l_are_places (defScope s_l_are_places) := ⟨rfl, rfl, rfl, by decide +kernel, rfl, by decide +kernel, by decide +kernel⟩
abbrev s_law : Stmt := top 129
abbrev n_law : List Str := ["_law_script", "_law_state", "_law_names_here", "_law_book_here", "_law_lore_here", "_law_things_here", "_law_turn", "_law_inner", "_law_t", "_law_due", "_law_found", "_law_k", "_law_place"]
abbrev p_law : List Str := ["_law_script"]
theorem sc_law : FnScope n_law p_law (defScope s_law) := ⟨rfl, rfl, rfl, by decide +kernel, rfl, by decide +kernel, by decide +kernel⟩
structure Tp (K : PySem.W.Frag) (mg : Str → Option Value) : Prop where
  d_is_number : Df K mg "is_number" s_is_number p_is_number
  d_is_name : Df K mg "is_name" s_is_name p_is_name
  d_is_form_name : Df K mg "is_form_name" s_is_form_name p_is_form_name
  d_are_args : Df K mg "are_args" s_are_args p_are_args
  d_is_term : Df K mg "is_term" s_is_term p_is_term
  d_parts_of_terms : DfA K mg "parts_of_terms" "parts_of" s_parts_of_terms p_parts_of_terms
  d_at_place : Df K mg "at_place" s_at_place p_at_place
  d_with_place : Df K mg "with_place" s_with_place p_with_place
  d_args_put : Df K mg "args_put" s_args_put p_args_put
  d_args_of : Df K mg "args_of" s_args_of p_args_of
  d_can_step : Df K mg "can_step" s_can_step p_can_step
  d_gone : Df K mg "gone" s_gone p_gone
  d_steps : Df K mg "steps" s_steps p_steps
  d_stepped : Df K mg "stepped" s_stepped p_stepped
  d_told_kinds : Df K mg "told_kinds" s_told_kinds p_told_kinds
  d_kind_in : Df K mg "kind_in" s_kind_in p_kind_in
  d_kind_of : Df K mg "kind_of" s_kind_of p_kind_of
  d_are_kinds : Df K mg "are_kinds" s_are_kinds p_are_kinds
  d_is_form : Df K mg "is_form" s_is_form p_is_form
  d_right_kind : Df K mg "right_kind" s_right_kind p_right_kind
  d_right_function : Df K mg "right_function" s_right_function p_right_function
  d_is_of : Df K mg "is_of" s_is_of p_is_of
  d_falls : Df K mg "falls" s_falls p_falls
  d_right_rule : Df K mg "right_rule" s_right_rule p_right_rule
  d_is_right : Df K mg "is_right" s_is_right p_is_right
  d_l_begin : Df K mg "_law_begin" s_l_begin p_l_begin
  d_l_next : Df K mg "_law_next" s_l_next p_l_next
  d_l_names : Df K mg "_law_names" s_l_names p_l_names
  d_l_great : Df K mg "_law_great" s_l_great p_l_great
  d_l_least : Df K mg "_law_least" s_l_least p_l_least
  d_l_term : Df K mg "_law_term" s_l_term p_l_term
  d_l_function : Df K mg "_law_function" s_l_function p_l_function
  d_l_book : Df K mg "_law_book" s_l_book p_l_book
  d_l_lore : Df K mg "_law_lore" s_l_lore p_l_lore
  d_l_things : Df K mg "_law_things" s_l_things p_l_things
  d_l_args : Df K mg "_law_args" s_l_args p_l_args
  d_l_put : Df K mg "_law_put" s_l_put p_l_put
  d_l_here : Df K mg "_law_here" s_l_here p_l_here
  d_l_places : Df K mg "_law_places" s_l_places p_l_places
  d_l_gone : Df K mg "_law_gone" s_l_gone p_l_gone
  d_l_are_places : Df K mg "_law_are_places" s_l_are_places p_l_are_places
  n_abs : mg "abs" = none
  n_all : mg "all" = none
  n_any : mg "any" = none
  n_bool : mg "bool" = none
  n_dict : mg "dict" = none
  n_divmod : mg "divmod" = none
  n_enumerate : mg "enumerate" = none
  n_int : mg "int" = none
  n_isinstance : mg "isinstance" = none
  n_len : mg "len" = none
  n_list : mg "list" = none
  n_range : mg "range" = none
  n_reversed : mg "reversed" = none
  n_sorted : mg "sorted" = none
  n_str : mg "str" = none
  n_tuple : mg "tuple" = none
  n_zip : mg "zip" = none
  g_LETTERS : ∃ u, mg "LETTERS" = some u ∧ RelV (.str "abcdefghijklmnopqrstuvwxyz") u
  g_MOST_LETTERS : ∃ u, mg "MOST_LETTERS" = some u ∧ RelV (.int 8) u
  g_MOST_ARGS : ∃ u, mg "MOST_ARGS" = some u ∧ RelV (.int 4) u
  g_KEPT : ∃ a, (∃ u, mg "KEPT" = some u ∧ RelV (.ref a) u) ∧ ∀ H, R K H (.ref a) (.tuple kept)
  g_MOST_ROWS : ∃ u, mg "MOST_ROWS" = some u ∧ RelV (.int 40) u
  g_MOST_FORMS : ∃ u, mg "MOST_FORMS" = some u ∧ RelV (.int 4) u
  g_MOST_KINDS : ∃ u, mg "MOST_KINDS" = some u ∧ RelV (.int 4) u
  g_SIZES : True

section
variable {P : Program} {w : World} {K : PySem.W.Frag} {mg : Str → Option Value} {base : Heap} {k n : Nat}
theorem ok_l_begin (T : Tp K mg) : Cal P w K mg base (k + 1) "_law_begin" (spBegin K) := by
  refine T.d_l_begin.cal sc_l_begin (fun vs H Q E h => ?_) (fun f cdv A outer s H vs Q E hr h => ?_)
  · obtain ⟨a, ns, rfl, _⟩ := h; rfl
  obtain ⟨a, ns, rfl, hS, hl, q⟩ := h
  have sc := @sc_l_begin
  refine ⟨_, pss_shut (pss_cons (ps_set (i := 1) sc.nd rfl (Or.inl rfl) (pe_op (op_addK K) (pe_callB (len_K K) rfl T.n_len bt_len (pa_cons (pv 0) pa_nil)) pe_int))
      (pss_cons (ps_for PassesOwn.never rfl (pi_listK K (pv 0)) (pg_name (i := 2) sc.nd rfl (Or.inl rfl)) (pss_one (ps_set (i := 1) sc.nd rfl (Or.inl rfl) (pe_op op_mod (pe_op (op_addK K) (pe_op (op_addK K) (pe_op op_mul (pv 1) pe_int) (pe_op op_mod (pv 2) (pe_op op_pow pe_int pe_int))) pe_int) pe_int))))
      (pss_cons (ps_set (i := 3) sc.nd rfl (Or.inl rfl) pe_int)
      (pss_cons (ps_if (PW.pt (pw_and (pt_cmpR op_gt (pe_callB (len_K K) rfl T.n_len bt_len (pa_cons (pv 0) pa_nil)) pe_int (nomark _)) (pw_and1 (pt_cmpR (op_eqK K hr) (pe_op op_mod (pe_ix (ix_K K) (pv 0) (pe_un un_neg pe_int) (fun _ _ => rfl)) pe_int) pe_int (nomark _))))) (pss_one (ps_set (i := 3) sc.nd rfl (Or.inl rfl) (pe_op op_fdiv (pe_callB call_absR rfl T.n_abs bt_abs (pa_cons (pe_ix (ix_K K) (pv 0) (pe_un un_neg pe_int) (fun _ _ => rfl)) pa_nil)) pe_int))) pss_nil)
      (pss_one (ps_ret (pe_lst2 (pa_cons (pv 1) (pa_cons (pv 3) pa_nil))))))))), ?_⟩
  walk_at "r"
  refine st_forL ?_
  walk_at "r"
  refine for_scr (fun _ σ' H' => Same H H' ∧ ∃ (s : Int) (x1 x2 : Option V), σ' = [some (.ref a), some (.int s), x1, x2]) hS ⟨Same.refl _, _, _, _, rfl⟩ (fun _ _ _ p => p.1) ?_ ?_
  · rintro i n σ' H' ⟨s1, s, x1, x2, rfl⟩
    walk_at "r"
    exact ⟨s1, _, _, _, rfl⟩
  · rintro σ' H' ⟨s1, s, x1, x2, rfl⟩
    walk_at "r"
    all_goals
      refine ⟨by show 2 ≤ sizeLine; decide, fun p hp => ⟨p, _, _, rfl, upd_same, ?_⟩⟩
      rw [upd_upd]
      exact q p _ (s1.trans (same_new hp _)) upd_same
theorem ok_l_next (T : Tp K mg) : Cal P w K mg base (k + 1) "_law_next" spNext := by
  refine T.d_l_next.cal sc_l_next (fun vs H Q E h => ?_) (fun f cdv A outer s H vs Q E hr h => ?_)
  · obtain ⟨p, n, rfl, _⟩ := h; rfl
  obtain ⟨p, n, rfl, hp, h0, h1, q⟩ := h
  have sc := @sc_l_next
  refine ⟨_, pss_open (pss_cons (ps_if (pt_cmpR op_gt (pe_ix (ix_K K) (pv 0) pe_int (fun _ _ => rfl)) pe_int (nomark _)) (pss_cons (ps_asg (pe_callB call_divmodR rfl T.n_divmod bt_divmod (pa_cons (pe_ix (ix_K K) (pv 0) pe_int (fun _ _ => rfl)) (pa_cons (pv 1) pa_nil))) (gtK K (pg_tup (n := 2) rfl (pgs_cons (pg_sub (pv 0) pe_int set_list) (pgs_cons (pg_name (i := 2) sc.nd rfl (Or.inl rfl)) pgs_nil)))))
      (pss_one (ps_ret (pv 2)))) pss_nil)
      (pss_cons (ps_asg (pe_op op_mod (pe_op (op_addK K) (pe_op op_mul (pe_ix (ix_K K) (pv 0) pe_int (fun _ _ => rfl)) pe_int) pe_int) pe_int) (pg_sub (pv 0) pe_int set_list))
      (pss_one (ps_ret (pe_op op_mod (pe_op op_fdiv (pe_ix (ix_K K) (pv 0) pe_int (fun _ _ => rfl)) pe_int) (pv 1)))))), ?_⟩
  refine ⟨p, hp, fun a b => ?_⟩
  have r0 : R K (upd H p (.lst [.int a, .int b])) (.ref p) (.list [.int a, .int b]) := .lst upd_same (.cons (.int a) (.cons (.int b) .nil))
  have hn : CDiv a n := ⟨h0, by omega⟩
  walk_at "r"
  · rename_i p0 H0 f0 e0
    have hne : p0 ≠ p := fun e => by rw [e, upd_same] at f0; cases f0
    have hp0 : H0 p = some (.lst [.int a, .int b]) := by rw [e0, upd_ne (Ne.symm hne)]; exact upd_same
    refine ⟨p0, _, rfl, .inl (.inl (by rw [e0]; exact upd_same)), rfl, ?_⟩
    walk_at "r"
    refine ⟨_, _, upd_same, ?_⟩
    rw [upd_upd]
    refine q _ _ (fun b o h => ?_) (Int.emod_nonneg _ (by omega)) (Int.emod_lt_of_pos _ h0)
    by_cases hb : b = p
    · rw [hb] at h ⊢; rw [upd_same, ← h, hp]
    · rw [upd_ne hb, e0]
      have hb0 : b ≠ p0 := fun e => by rw [← e, upd_ne hb, h] at f0; cases f0
      rw [upd_ne hb0, upd_ne hb]; exact h
  · refine ⟨_, _, upd_same, ?_⟩
    rw [upd_upd, upd_upd, upd_eta hp]
    exact q _ _ (Same.refl _) (Int.emod_nonneg _ (by omega)) (Int.emod_lt_of_pos _ h0)

end
end G

end

section








namespace G
open PySem PySem.Spec PyProof.Rows L2
section
variable {P : Program} {w : World} {K : PySem.W.Frag} {mg : Str → Option Value} {base : Heap} {k n : Nat}
theorem ok_is_name (T : Tp K mg) : Cal P w K mg base (k + 1) "is_name" (spIsName K) := by
  refine T.d_is_name.cal sc_is_name (fun vs H Q E h => ?_) (fun f cdv A outer s H vs Q E hr h => ?_)
  · obtain ⟨v, d, rfl, _⟩ := h; rfl
  obtain ⟨v, d, rfl, r, hs, q⟩ := h
  have sc := @sc_is_name
  obtain ⟨a_KEPT, g_KEPT, r_KEPT⟩ := T.g_KEPT
  have g_MOST_LETTERS := T.g_MOST_LETTERS
  have g_LETTERS := T.g_LETTERS
  have r_KEPT := r_KEPT H
  refine ⟨_, (pss_cons (ps_if (PW.pt (pw_or (pt_not (pt_val (pe_callB (isi_K K) rfl T.n_isinstance bt_isinstance (pa_cons (pv 0) (pa_cons (pe_bltn (v := .ty "str") rfl T.n_str bt_str rfl) pa_nil))))) (pw_or (pt_not (pt_chain op_le op_le pe_int (pe_callB (len_K K) rfl T.n_len bt_len (pa_cons (pv 0) pa_nil)) (pe_gv rfl g_MOST_LETTERS))) (pw_or1 (pt_cmpR (op_inK K) (pv 0) (pe_gv rfl g_KEPT) rfl))))) (pss_one (ps_ret pe_bl)) pss_nil)
      (pss_one (ps_ret (pe_callB (all_K K rfl) rfl T.n_all bt_all (pa_cons (pe_lc (own := [("sign", 1)]) (g := gName 1) (tt := tYes) rfl sc.nd (pi_str (pv 0)) (blkOk_by (N := n_is_name) (sc := defScope s_is_name) (by decide +kernel)) (fun _ _ _ _ _ => pg_name (i := 1) sc.nd rfl (Or.inl rfl)) (fun _ _ _ _ _ => pts_nil) (fun _ _ _ _ _ => pe_hide (pe_cmpR (op_inK K) (pv 1) (pe_gv rfl g_LETTERS) rfl))) pa_nil))))), ?_⟩
  cases d
  case str z =>
    obtain rfl := r.inv_str
    have hz : z.length ≤ 100000 := of_decide_eq_true hs
    have hc := len_cps z
    walk_at "r"
    · rename_i h1 h2
      exact q _ _ (by walk_at "S") (by show false = isNameS z; unfold isNameS; rw [decide_eq_false (p := z.length ≤ 8) (by omega)]; simp)
    · rename_i h1 h2 h3
      exact q _ _ (by walk_at "S") (by show false = isNameS z; unfold isNameS; rw [h3]; simp)
    · rename_i h1 h2 h3
      refine lcS_f (K := K) (fun c => .bool (low c)) (by omega) (fun _ => rfl) (fun c H1 hc s1 Qt hQ => ?_) (fun v H1 s1 r1 => ?_)
      · walk_at "r"
        exact hQ _ _ (by walk_at "S") (R.bl _)
      · walk_at "r"
        refine all_R (bs := z.cps.toList.map low) (by rw [List.map_map]; exact r1) ?_
        refine q _ _ (by walk_at "S") ?_
        show _ = isNameS z
        unfold isNameS
        rw [h3, all_low, decide_eq_true (p := 1 ≤ z.length) (by omega), decide_eq_true (p := z.length ≤ 8) (by omega)]
        simp
    · rename_i h1
      exact q _ _ (by walk_at "S") (by show false = isNameS z; unfold isNameS; rw [decide_eq_false (p := 1 ≤ z.length) (by omega)]; simp)
  all_goals
    walk_at "r"
    exact q _ _ (Same.refl _) rfl
theorem ok_is_form_name (T : Tp K mg) : Cal P w K mg base (k + 1) "is_form_name" (spIsForm K) := by
  refine T.d_is_form_name.cal sc_is_form_name (fun vs H Q E h => ?_) (fun f cdv A outer s H vs Q E hr h => ?_)
  · obtain ⟨v, d, rfl, _⟩ := h; rfl
  obtain ⟨v, d, rfl, r, hs, q⟩ := h
  have sc := @sc_is_form_name
  have g_MOST_LETTERS := T.g_MOST_LETTERS
  have g_LETTERS := T.g_LETTERS
  refine ⟨_, (pss_cons (ps_if (PW.pt (pw_or (pt_not (pt_val (pe_callB (isi_K K) rfl T.n_isinstance bt_isinstance (pa_cons (pv 0) (pa_cons (pe_bltn (v := .ty "str") rfl T.n_str bt_str rfl) pa_nil))))) (pw_or1 (pt_not (pt_chain op_le op_le pe_int (pe_callB (len_K K) rfl T.n_len bt_len (pa_cons (pv 0) pa_nil)) (pe_gv rfl g_MOST_LETTERS)))))) (pss_one (ps_ret pe_bl)) pss_nil)
      (pss_one (ps_ret (pe_and (pe_cmpR (op_inK K) (pe_ix (ix_K K) (pv 0) pe_int (fun _ _ => rfl)) (pe_upperR (pe_gv rfl g_LETTERS)) rfl) (pe_one (pe_callB (all_K K rfl) rfl T.n_all bt_all (pa_cons (pe_lc (own := [("sign", 1)]) (g := gName 1) (tt := tYes) rfl sc.nd (pi_str (pe_slice (sl_K K) (pv 0) (po_some pe_int) po_none)) (blkOk_by (N := n_is_form_name) (sc := defScope s_is_form_name) (by decide +kernel)) (fun _ _ _ _ _ => pg_name (i := 1) sc.nd rfl (Or.inl rfl)) (fun _ _ _ _ _ => pts_nil) (fun _ _ _ _ _ => pe_hide (pe_cmpR (op_inK K) (pv 1) (pe_gv rfl g_LETTERS) rfl))) pa_nil))))))), ?_⟩
  cases d
  case str z =>
    obtain rfl := r.inv_str
    have hz : z.length ≤ 100000 := of_decide_eq_true hs
    have hc := len_cps z
    rcases hcs : z.cps.toList with _ | ⟨c0, cs⟩
    · rw [hcs, List.length_nil] at hc
      walk_at "r"
      · exact q _ _ (by walk_at "S") (by show false = isFormS z; unfold isFormS; rw [hcs]; simp)
    · have hd : z.cps.toList[0]? = some c0 := by rw [hcs]; rfl
      walk_at "r"
      · exact q _ _ (by walk_at "S") (by show false = isFormS z; unfold isFormS; rw [decide_eq_false (p := z.length ≤ 8) (by omega)]; simp)
      · rename_i h1 h2 h3
        have h3' : great c0 = true := decide_eq_true (by rw [← upper_abc]; exact h3)
        have e1 : (cutS z (some 1) none).cps.toList = cs := by
          rw [cutS_1, hcs]; rfl
        have hl : cs.length ≤ 100000 := by rw [hcs] at hc; simp at hc; omega
        refine lcS_f (K := K) (fun c => .bool (low c)) (by rw [e1]; omega) (fun _ => rfl) (fun c H1 hc s1 Qt hQ => ?_) (fun v H1 s1 r1 => ?_)
        · walk_at "r"
          exact hQ _ _ (by walk_at "S") (R.bl _)
        · rw [e1] at r1
          walk_at "r"
          refine all_R (bs := cs.map low) (by rw [List.map_map]; exact r1) ?_
          refine q _ _ (by walk_at "S") ?_
          show _ = isFormS z
          unfold isFormS
          rw [hcs, all_low, decide_eq_true (p := 1 ≤ z.length) (by omega), decide_eq_true (p := z.length ≤ 8) (by omega)]
          simp [h3']
      · rename_i h1 h2 h3
        have h3' : great c0 = false := decide_eq_false (by rw [← upper_abc]; exact h3)
        exact q _ _ (by walk_at "S") (by show false = isFormS z; unfold isFormS; rw [hcs]; simp [h3'])
      · exact q _ _ (by walk_at "S") (by show false = isFormS z; unfold isFormS; rw [decide_eq_false (p := 1 ≤ z.length) (by omega)]; simp)
  all_goals
    walk_at "r"
    exact q _ _ (Same.refl _) rfl

def spIsNum (K : PySem.W.Frag) : Sp := fun vs H Q _ => ∃ v d, vs = [v] ∧ R K H v d ∧ ∀ H', Same H H' → Q (.bl (isIntD d)) H'
def spIsTm (K : PySem.W.Frag) (m : Nat) : Sp := fun vs H Q _ => ∃ v d, vs = [v] ∧ R K H v d ∧ fine 1000 d = true ∧ d.depth < 2 * m ∧ ∀ H', Same H H' → Q (.bl (isTm m d)) H'
def spIsTms (K : PySem.W.Frag) (m : Nat) : Sp := fun vs H Q _ => ∃ v d, vs = [v] ∧ R K H v d ∧ fine 1000 d = true ∧ d.depth < 2 * m + 1 ∧ ∀ H', Same H H' → Q (.bl (isTms m d)) H'
theorem use_isName {H : Hp} {Q : VK} {E : XK} {v : V} {d : PyData} (r : R K H v d) (hs : short d) (h : ∀ H', Same H H' → Q (.bl (isName d)) H') : spIsName K [v] H Q E := ⟨v, d, rfl, r, hs, fun b H' s e => by rw [e]; exact h H' s⟩
theorem use_isForm {H : Hp} {Q : VK} {E : XK} {v : V} {d : PyData} (r : R K H v d) (hs : short d) (h : ∀ H', Same H H' → Q (.bl (isForm d)) H') : spIsForm K [v] H Q E := ⟨v, d, rfl, r, hs, fun b H' s e => by rw [e]; exact h H' s⟩
theorem use_isNum {H : Hp} {Q : VK} {E : XK} {v : V} {d : PyData} (r : R K H v d) (h : ∀ H', Same H H' → Q (.bl (isIntD d)) H') : spIsNum K [v] H Q E := ⟨v, d, rfl, r, h⟩
theorem use_isTm {H : Hp} {Q : VK} {E : XK} {m : Nat} {v : V} {d : PyData} (r : R K H v d) (hs : fine 1000 d = true) (hd : d.depth < 2 * m) (h : ∀ H', Same H H' → Q (.bl (isTm m d)) H') : spIsTm K m [v] H Q E := ⟨v, d, rfl, r, hs, hd, h⟩
theorem use_isTms {H : Hp} {Q : VK} {E : XK} {m : Nat} {v : V} {d : PyData} (r : R K H v d) (hs : fine 1000 d = true) (hd : d.depth < 2 * m + 1) (h : ∀ H', Same H H' → Q (.bl (isTms m d)) H') : spIsTms K m [v] H Q E := ⟨v, d, rfl, r, hs, hd, h⟩
local macro_rules | `(tactic| walk_at "c") => `(tactic| ((with_reducible refine' G.use_isName ?r ?hs ?_); (case r => walk_at "R"); (case hs => with_reducible assumption); intro H0 s0))
local macro_rules | `(tactic| walk_at "c") => `(tactic| ((with_reducible refine' G.use_isForm ?r ?hs ?_); (case r => walk_at "R"); (case hs => with_reducible assumption); intro H0 s0))
local macro_rules | `(tactic| walk_at "c") => `(tactic| ((with_reducible refine' G.use_isNum ?r ?_); (case r => walk_at "R"); intro H0 s0))
local macro_rules | `(tactic| walk_at "c") => `(tactic| ((with_reducible refine' G.use_isTms ?r ?hs ?hd ?_); (case r => walk_at "R"); (case hs => with_reducible assumption); (case hd => with_reducible assumption); intro H0 s0))
theorem ok_is_number (T : Tp K mg) : Cal P w K mg base (k + 1) "is_number" (spIsNum K) := by
  refine T.d_is_number.cal sc_is_number (fun vs H Q E h => ?_) (fun f cdv A outer s H vs Q E hr h => ?_)
  · obtain ⟨v, d, rfl, _⟩ := h; rfl
  obtain ⟨v, d, rfl, r, q⟩ := h
  have sc := @sc_is_number
  refine ⟨_, (pss_one (ps_ret (pe_and (pe_callB (isi_K K) rfl T.n_isinstance bt_isinstance (pa_cons (pv 0) (pa_cons (pe_bltn (v := .ty "int") rfl T.n_int bt_int rfl) pa_nil))) (pe_one (pe_not (pe_callB (isi_K K) rfl T.n_isinstance bt_isinstance (pa_cons (pv 0) (pa_cons (pe_bltn (v := .ty "bool") rfl T.n_bool bt_bool rfl) pa_nil)))))))), ?_⟩
  cases d
  all_goals
    walk_at "r"
    exact q _ (by walk_at "S")
theorem ok_are_args (T : Tp K mg) {m : Nat} (c_is_term : Cal P w K mg base k "is_term" (spIsTm K m)) : Cal P w K mg base (k + 1) "are_args" (spIsTms K m) := by
  refine T.d_are_args.cal sc_are_args (fun vs H Q E h => ?_) (fun f cdv A outer s H vs Q E hr h => ?_)
  · obtain ⟨v, d, rfl, _⟩ := h; rfl
  obtain ⟨v, d, rfl, r, hf, hd, q⟩ := h
  have sc := @sc_are_args
  have g_MOST_ARGS := T.g_MOST_ARGS
  refine ⟨_, (pss_one (ps_ret (pe_and (pe_callB (isi_K K) rfl T.n_isinstance bt_isinstance (pa_cons (pv 0) (pa_cons (pe_bltn (v := .ty "tuple") rfl T.n_tuple bt_tuple rfl) pa_nil))) (pe_and (pe_cmpR op_le (pe_callB (len_K K) rfl T.n_len bt_len (pa_cons (pv 0) pa_nil)) (pe_gv rfl g_MOST_ARGS) (nomark _)) (pe_one (pe_callB (all_K K rfl) rfl T.n_all bt_all (pa_cons (pe_lc (own := [("arg", 1)]) (g := gName 1) (tt := tYes) rfl sc.nd (pi_tupK K (pv 0)) (blkOk_by (N := n_are_args) (sc := defScope s_are_args) (by decide +kernel)) (fun _ _ _ _ _ => pg_name (i := 1) sc.nd rfl (Or.inl rfl)) (fun _ _ _ _ _ => pts_nil) (fun _ _ _ _ _ => pe_hide (pe_c c_is_term hr (Nat.le_refl _) rfl (pa_cons (pv 1) pa_nil)))) pa_nil))))))), ?_⟩
  cases d
  case tuple ds =>
    have hf' : ds.length ≤ 1000 ∧ fines 1000 ds = true := by simpa [fine] using hf
    have hd' : PyData.depthAll ds + 1 ≤ 2 * m := by simp only [PyData.depth] at hd; omega
    walk_at "r"
    · rename_i h4
      refine lcT_f (K := K) (fun d => .bool (isTm m d)) r (by omega) (fun _ => rfl) (fun v d H1 hm rv s1 Qt hQ => ?_) (fun v H1 s1 r1 => ?_)
      · walk_at "r"
        refine use_isTm rv (fines_all.mp hf'.2 d hm) (by have := depthAll_mem hm; omega) fun H2 s2 => ?_
        walk_at "r"
        exact hQ _ _ (by walk_at "S") (R.bl _)
      walk_at "r"
      refine all_R (bs := ds.map (isTm m)) (by rw [List.map_map]; exact r1) ?_
      have e : isTms m (.tuple ds) = (ds.map (isTm m)).all id := by
        have : decide (ds.length ≤ 4) = true := decide_eq_true (by omega)
        simp [isTms, argsP, this, List.all_map]
      walk_at "r"
      exact e ▸ q _ (by walk_at "S")
    · rename_i h4
      have e : isTms m (.tuple ds) = false := by
        have : decide (ds.length ≤ 4) = false := decide_eq_false (by omega)
        simp [isTms, argsP, this]
      exact e ▸ q _ (by walk_at "S")
  all_goals
    walk_at "r"
    exact q _ (by walk_at "S")

end
end G

end

section








namespace G
open PySem PySem.Spec PyProof.Rows L2
section
variable {P : Program} {w : World} {K : PySem.W.Frag} {mg : Str → Option Value} {base : Heap} {k n : Nat}
local macro_rules | `(tactic| walk_at "c") => `(tactic| ((with_reducible refine' G.use_isName ?r ?hs ?_); (case r => walk_at "R"); (case hs => with_reducible assumption); intro H0 s0))
local macro_rules | `(tactic| walk_at "c") => `(tactic| ((with_reducible refine' G.use_isForm ?r ?hs ?_); (case r => walk_at "R"); (case hs => with_reducible assumption); intro H0 s0))
local macro_rules | `(tactic| walk_at "c") => `(tactic| ((with_reducible refine' G.use_isNum ?r ?_); (case r => walk_at "R"); intro H0 s0))
local macro_rules | `(tactic| walk_at "c") => `(tactic| ((with_reducible refine' G.use_isTms ?r ?hs ?hd ?_); (case r => walk_at "R"); (case hs => with_reducible assumption); (case hd => with_reducible assumption); intro H0 s0))

theorem ok_is_term (T : Tp K mg) {m : Nat} (c_is_number : Cal P w K mg base k "is_number" (spIsNum K)) (c_is_name : Cal P w K mg base k "is_name" (spIsName K)) (c_is_form_name : Cal P w K mg base k "is_form_name" (spIsForm K))
    (c_are_args : Cal P w K mg base k "are_args" (spIsTms K m)) : Cal P w K mg base (k + 1) "is_term" (spIsTm K (m + 1)) := by
  refine T.d_is_term.cal sc_is_term (fun vs H Q E h => ?_) (fun f cdv A outer s H vs Q E hr h => ?_)
  · obtain ⟨v, d, rfl, _⟩ := h; rfl
  obtain ⟨v, d, rfl, r, hf, hd, q⟩ := h
  have sc := @sc_is_term
  refine ⟨_, (pss_cons (ps_if (PW.pt (pw_or (pt_not (pt_val (pe_callB (isi_K K) rfl T.n_isinstance bt_isinstance (pa_cons (pv 0) (pa_cons (pe_bltn (v := .ty "tuple") rfl T.n_tuple bt_tuple rfl) pa_nil))))) (pw_or (pt_not (pt_chain op_le op_le pe_int (pe_callB (len_K K) rfl T.n_len bt_len (pa_cons (pv 0) pa_nil)) pe_int)) (pw_or1 (pt_not (pt_val (pe_callB (isi_K K) rfl T.n_isinstance bt_isinstance (pa_cons (pe_ix (ix_K K) (pv 0) pe_int (fun _ _ => rfl)) (pa_cons (pe_bltn (v := .ty "str") rfl T.n_str bt_str rfl) pa_nil))))))))) (pss_one (ps_ret pe_bl)) pss_nil)
      (pss_cons (ps_if (pt_cmpR (op_eqK K hr) (pe_callB (len_K K) rfl T.n_len bt_len (pa_cons (pv 0) pa_nil)) pe_int (nomark _)) (pss_cons (ps_if (pt_cmpR (op_eqK K hr) (pe_ix (ix_K K) (pv 0) pe_int (fun _ _ => rfl)) pe_str (nomark _)) (pss_one (ps_ret (pe_c c_is_name hr (Nat.le_refl _) rfl (pa_cons (pe_ix (ix_K K) (pv 0) pe_int (fun _ _ => rfl)) pa_nil)))) pss_nil)
      (pss_one (ps_ret (pe_and (pe_cmpR (op_eqK K hr) (pe_ix (ix_K K) (pv 0) pe_int (fun _ _ => rfl)) pe_str (nomark _)) (pe_and (pe_c c_is_number hr (Nat.le_refl _) rfl (pa_cons (pe_ix (ix_K K) (pv 0) pe_int (fun _ _ => rfl)) pa_nil)) (pe_one (pe_cmpR op_ge (pe_ix (ix_K K) (pv 0) pe_int (fun _ _ => rfl)) pe_int (nomark _)))))))) pss_nil)
      (pss_cons (ps_set (i := 1) sc.nd rfl (Or.inl rfl) (pe_or (pe_and (pe_cmpR (op_eqK K hr) (pe_ix (ix_K K) (pv 0) pe_int (fun _ _ => rfl)) pe_str (nomark _)) (pe_one (pe_c c_is_form_name hr (Nat.le_refl _) rfl (pa_cons (pe_ix (ix_K K) (pv 0) pe_int (fun _ _ => rfl)) pa_nil)))) (pe_one (pe_and (pe_cmpR (op_eqK K hr) (pe_ix (ix_K K) (pv 0) pe_int (fun _ _ => rfl)) pe_str (nomark _)) (pe_one (pe_c c_is_name hr (Nat.le_refl _) rfl (pa_cons (pe_ix (ix_K K) (pv 0) pe_int (fun _ _ => rfl)) pa_nil)))))))
      (pss_one (ps_ret (pe_and (pv 1) (pe_one (pe_c c_are_args hr (Nat.le_refl _) rfl (pa_cons (pe_ix (ix_K K) (pv 0) pe_int (fun _ _ => rfl)) pa_nil))))))))), ?_⟩
  cases d
  case tuple ds =>
    have hf' : ds.length ≤ 1000 ∧ fines 1000 ds = true := by simpa [fine] using hf
    have hd' : PyData.depthAll ds + 1 ≤ 2 * m + 1 := by simp only [PyData.depth] at hd; omega
    rcases ds with _ | ⟨a, _ | ⟨b, _ | ⟨c, _ | ⟨e, ds⟩⟩⟩⟩
    · walk_at "r"
      exact q _ (by walk_at "S")
    · have e : isTm (m + 1) (.tuple [a]) = false := by cases a <;> rfl
      walk_at "r"
      exact e ▸ q _ (by walk_at "S")
    · have fb : short b := fine_short (fines_all.mp hf'.2 b (by simp))
      have h2 : (([a, b] : List PyData).length : Int) = 2 := rfl
      cases a
      case str x =>
        have e : isTm (m + 1) (.tuple [.str x, b]) = bif decide (x = "free") then isName b else (decide (x = "bound") && isNum b) := rfl
        rw [e] at q
        by_cases h4 : x = "free"
        · rw [decide_eq_true h4] at q
          walk_at "r"
          exact q _ (by walk_at "S")
        · rw [decide_eq_false h4] at q
          by_cases h5 : x = "bound"
          · rw [decide_eq_true h5] at q
            cases b
            case int i =>
              walk_at "r"
              exact q _ (by walk_at "S")
            all_goals
              walk_at "r"
              exact q _ (by walk_at "S")
          · rw [decide_eq_false h5] at q
            walk_at "r"
            exact q _ (by walk_at "S")
      all_goals
        walk_at "r"
        exact q _ (by walk_at "S")
    · have fb : short b := fine_short (fines_all.mp hf'.2 b (by simp))
      have fc : fine 1000 c = true := fines_all.mp hf'.2 c (by simp)
      have dc : c.depth < 2 * m + 1 := by have := depthAll_mem (ds := [a, b, c]) (d := c) (by simp); omega
      have h3 : (([a, b, c] : List PyData).length : Int) = 3 := rfl
      cases a
      case str x =>
        have e : isTm (m + 1) (.tuple [.str x, b, c]) = (((decide (x = "form") && isForm b) || (decide (x = "call") && isName b)) && isTms m c) := rfl
        rw [e] at q
        by_cases hx : x = "form"
        · have hy : ¬ x = "call" := fun e => absurd (hx.symm.trans e) (by decide +kernel)
          rw [decide_eq_true hx, decide_eq_false hy] at q
          walk_at "r"
          all_goals
            refine Eq.subst (motive := fun b => Q (.bl b) _) (?_ : (_ : Bool) = _) (q _ (by walk_at "S"))
            clear q e
            simp only [*, Bool.true_and, Bool.false_and, Bool.and_true, Bool.and_false, Bool.or_false, Bool.false_or, Bool.true_or]
        · rw [decide_eq_false hx] at q
          by_cases hy : x = "call"
          · rw [decide_eq_true hy] at q
            walk_at "r"
            all_goals
              refine Eq.subst (motive := fun b => Q (.bl b) _) (?_ : (_ : Bool) = _) (q _ (by walk_at "S"))
              clear q e
              simp only [*, Bool.true_and, Bool.false_and, Bool.and_true, Bool.and_false, Bool.or_false, Bool.false_or, Bool.true_or]
          · rw [decide_eq_false hy] at q
            walk_at "r"
            exact q _ (by walk_at "S")
      all_goals
        walk_at "r"
        exact q _ (by walk_at "S")
    · walk_at "r"
      have e : isTm (m + 1) (.tuple (a :: b :: c :: e :: ds)) = false := by cases a <;> rfl
      exact e ▸ q _ (by walk_at "S")
  all_goals
    walk_at "r"
    exact q _ (by walk_at "S")

end
end G

end

section








namespace G
open PySem PySem.Spec PyProof.Rows L2
section
variable {P : Program} {w : World} {K : PySem.W.Frag} {mg : Str → Option Value} {base : Heap} {k n : Nat}
local macro_rules | `(tactic| walk_at "c") => `(tactic| ((with_reducible refine' G.use_next (K := K) ?hp ?h0 ?h1 ?_); (case hp => walk_at "P"); (case h0 => walk_at "side"); (case h1 => walk_at "side"); intro r0 H0 s0 hr0 hr1))
theorem ok_l_great (T : Tp K mg) : Cal P w K mg base (k + 1) "_law_great" spGreat := by
  refine T.d_l_great.cal sc_l_great (fun vs H Q E h => ?_) (fun f cdv A outer s H vs Q E hr h => ?_)
  · obtain ⟨z, rfl, _⟩ := h; rfl
  obtain ⟨z, rfl, nm, q⟩ := h
  have sc := @sc_l_great
  refine ⟨_, (pss_one (ps_ret (pe_op (op_addK K) (pe_ix (ix_K K) pe_str (bmK K (pe_bm PySem.F.plainAttrs_str PySem.F.slot_str_index PySem.F.type_str_index mt_sindexR pe_str (pa_cons (pe_ix (ix_K K) (pv 0) pe_int (fun _ _ => rfl)) pa_nil))) (fun _ _ => rfl)) (pe_slice (sl_K K) (pv 0) (po_some pe_int) po_none)))), ?_⟩
  obtain ⟨c, cs, hz, hc⟩ := nm.hd
  have hd : z.cps.toList[(0 : Int).toNat]? = some c := by rw [hz]; rfl
  have hl := isNameS_len nm.ok
  walk_at "r"
  obtain ⟨i, rest, e1, e2⟩ := great_at hc
  refine ⟨conS, ⟨#[c]⟩, i, rest, rfl, rfl, e1, ?_⟩
  have e3 : CON.cps.toList[((i : Nat) : Int).toNat]? = some (c - 32) := by rw [Int.toNat_natCast]; exact e2
  have hi : i < CON.length := by rw [len_cps]; exact (List.getElem?_eq_some_iff.mp e2).1
  have e4 : greatS z = (⟨#[c - 32]⟩ : Str) ++ cutS z (some 1) none := by unfold greatS; rw [hz]; rfl
  have hcl := cutS_length z (some 1) none
  have h1 : (⟨#[c - 32]⟩ : Str).length = 1 := rfl
  refine ix_strR (z := CON) (by decide) (by omega) e3 ?_
  walk_at "r"
  rw [← e4]
  exact q _ (by walk_at "S")
theorem ok_l_names (T : Tp K mg) (c_l_next : Cal P w K mg base k "_law_next" spNext) : Cal P w K mg base (k + 1) "_law_names" (spNames K) := by
  refine T.d_l_names.cal sc_l_names (fun vs H Q E h => ?_) (fun f cdv A outer s H vs Q E hr h => ?_)
  · obtain ⟨p, rfl, _⟩ := h; rfl
  obtain ⟨p, rfl, hp, q⟩ := h
  have sc := @sc_l_names
  refine ⟨_, (pss_cons (ps_set (i := 1) sc.nd rfl (Or.inr rfl) pe_str)
      (pss_cons (ps_set (i := 2) sc.nd rfl (Or.inr rfl) pe_str)
      (pss_cons (ps_for PassesOwn.never rfl (pi_range1 rfl T.n_range (pa_cons (pe_c c_l_next hr (Nat.le_refl _) rfl (pa_cons (pv 0) (pa_cons pe_int pa_nil))) pa_nil)) (pg_name (i := 3) sc.nd rfl (Or.inl rfl)) (pss_one (ps_set (i := 2) sc.nd rfl (Or.inr rfl) (pe_op (op_addK K) (pv 2) (pe_ix (ix_K K) (pv 1) (pe_c c_l_next hr (Nat.le_refl _) rfl (pa_cons (pv 0) (pa_cons pe_int pa_nil))) (fun _ _ => rfl))))))
      (pss_cons (ps_set (i := 4) sc.nd rfl (Or.inr rfl) (pe_c c_l_next hr (Nat.le_refl _) rfl (pa_cons (pv 0) (pa_cons pe_int pa_nil))))
      (pss_cons (ps_set (i := 5) sc.nd rfl (Or.inr rfl) (pe_lc (own := [("_law_k", 3)]) (g := gName 3) (tt := tYes) rfl sc.nd (pi_range1 rfl T.n_range (pa_cons pe_int pa_nil)) (blkOk_by (N := n_l_names) (sc := defScope s_l_names) (by decide +kernel)) (fun _ _ _ _ _ => pg_name (i := 3) sc.nd rfl (Or.inl rfl)) (fun _ _ _ _ _ => pts_nil) (fun _ _ _ _ _ => pe_hide (pe_ix (ix_K K) (pv 1) (pe_op op_mod (pe_op (op_addK K) (pv 4) (pe_op op_mul pe_int (pv 3))) pe_int) (fun _ _ => rfl)))))
      (pss_cons (ps_set (i := 6) sc.nd rfl (Or.inr rfl) (pe_c c_l_next hr (Nat.le_refl _) rfl (pa_cons (pv 0) (pa_cons (pe_op (op_addK K) (pe_callB (len_K K) rfl T.n_len bt_len (pa_cons (pv 2) pa_nil)) pe_int) pa_nil))))
      (pss_cons (ps_setLc (i := 7) (own := [("_law_sign", 8)]) (g := gName 8) (tt := tYes) rfl sc.nd rfl rfl (sw_true rfl rfl rfl (by decide +kernel)) (pi_listK K (pv 5)) (blkOk_by (N := n_l_names) (sc := defScope s_l_names) (by decide +kernel)) (fun _ _ _ _ _ => pg_name (i := 8) sc.nd rfl (Or.inl rfl)) (fun _ _ _ _ _ => pts_nil) (fun _ _ _ _ _ => pe_hide (pe_op (op_addK K) (pe_op (op_addK K) (pe_slice (sl_K K) (pv 2) po_none (po_some (pv 6))) (pv 8)) (pe_slice (sl_K K) (pv 2) (po_some (pv 6)) po_none))))
      (pss_cons (ps_if (pt_cmpR (op_eqK K hr) (pe_c c_l_next hr (Nat.le_refl _) rfl (pa_cons (pv 0) (pa_cons pe_int pa_nil))) pe_int (nomark _)) (pss_one (ps_setLc (i := 7) (own := [("_law_k", 3)]) (g := gName 3) (tt := tYes) rfl sc.nd rfl rfl (sw_true rfl rfl rfl (by decide +kernel)) (pi_range1 rfl T.n_range (pa_cons pe_int pa_nil)) (blkOk_by (N := n_l_names) (sc := defScope s_l_names) (by decide +kernel)) (fun _ _ _ _ _ => pg_name (i := 3) sc.nd rfl (Or.inl rfl)) (fun _ _ _ _ _ => pts_nil) (fun _ _ _ _ _ => pe_hide (pe_op (op_addK K) (pe_ix (ix_K K) (pv 5) (pv 3) (fun _ _ => rfl)) (pe_slice (sl_K K) (pv 2) po_none (po_some (pe_op op_mod (pv 3) (pe_op (op_addK K) (pe_callB (len_K K) rfl T.n_len bt_len (pa_cons (pv 2) pa_nil)) pe_int)))))))) pss_nil)
      (pss_one (ps_ret (pe_op (op_addK K) (pv 7) (pe_lc (own := [("_law_name", 9)]) (g := gName 9) (tt := tYes) rfl sc.nd (pi_listK K (pv 7)) (blkOk_by (N := n_l_names) (sc := defScope s_l_names) (by decide +kernel)) (fun _ _ _ _ _ => pg_name (i := 9) sc.nd rfl (Or.inl rfl)) (fun _ _ _ _ _ => pts_nil) (fun _ _ _ _ _ => pe_hide (pe_op (op_addK K) (pe_op (op_addK K) (pe_slice (sl_K K) (pv 9) po_none (po_some pe_int)) pe_str) (pe_slice (sl_K K) (pv 9) (po_some pe_int) po_none))))))))))))))), ?_⟩
  walk_at "r"
  rename_i r0 H1 s1 hr0 hr1
  refine for_R (fun i σ' H' => Same H H' ∧ ∃ (st : Str) (x3 x4 x5 x6 x7 x8 x9 : Option V), conZ st ∧ st.length ≤ i ∧ σ' = [some (.ref p), some (.str conS), some (.str st), x3, x4, x5, x6, x7, x8, x9]) (by omega) (by omega) ⟨s1, _, _, _, _, _, _, _, _, (fun c hc => by have hc : c ∈ ([] : List Nat) := hc; cases hc), Nat.le_refl _, rfl⟩ ?_ ?_
  · rintro i σ' H2 hi ⟨s2, st, x3, x4, x5, x6, x7, x8, x9, hc, hl, rfl⟩
    walk_at "r"
    rename_i rc H3 s3 hrc0 hrc1 c hcm
    have h1 : (⟨#[c]⟩ : Str).length = 1 := rfl
    walk_at "r"
    refine ⟨by walk_at "S", st ++ ⟨#[c]⟩, _, _, _, _, _, _, _, fun d hd => ?_, by rw [Str.length_append]; omega, rfl⟩
    rw [cps_append] at hd
    rcases List.mem_append.mp hd with h | h
    · exact hc d h
    · rw [List.mem_singleton.mp (show d ∈ [c] from h)]; exact decide_eq_true hcm
  · rintro σ' H2 ⟨s2, st, x3, x4, x5, x6, x7, x8, x9, hc, hl, rfl⟩
    have hl6 : st.length ≤ 6 := by omega
    walk_at "r"
    rename_i rt H3 s3 hrt0 hrt1
    obtain ⟨t, rfl⟩ : ∃ t : Nat, rt = t := ⟨rt.toNat, by omega⟩
    have ht : t < 21 := by omega
    refine lc_R (K := K) (fun k e => e = .str (sign (conS.cps.toList.getD ((t + 5 * k) % 21) 0))) (by decide) (by decide) (fun _ => rfl) (fun k H4 hk s4 Qt hQ => ?_) (fun v5 H4 es s4 r4 hl4 hP => ?_)
    · have e1 : ((t : Int) + 5 * (k : Int)) % 21 = (((t + 5 * k) % 21 : Nat) : Int) := by omega
      have e2 : conS.cps.toList[(((t : Int) + 5 * (k : Int)) % 21).toNat]? = some (conS.cps.toList.getD ((t + 5 * k) % 21) 0) := by rw [e1, Int.toNat_natCast]; exact con_at
      walk_at "r"
      exact hQ _ _ _ (by walk_at "S") (R.str _) rfl
    have e5 : es = (turned t).map fun c => PyData.str (sign c) := by
      rw [es_range hl4 hP]; unfold turned; rw [List.map_map]; rfl
    subst e5
    have hlt := turned_len t
    walk_at "r"
    rename_i ra H5 s5 hra0 hra1
    obtain ⟨a, rfl⟩ : ∃ a : Nat, ra = a := ⟨ra.toNat, by omega⟩
    refine lcL_f (K := K) (fun d => match d with | .str z => .str (cutS st none (some (a : Int)) ++ z ++ cutS st (some (a : Int)) none) | _ => .none) (r4.mono (by walk_at "S")) (by rw [List.length_map, hlt]; decide) (fun _ => rfl) (fun v d H6 hd rv s6 Qt hQ => ?_) (fun v7 H6 s6 r6 => ?_)
    · obtain ⟨c, hcm, rfl⟩ := List.mem_map.mp hd
      obtain rfl := rv.inv_str
      have h1 : (sign c).length = 1 := rfl
      have c1 := cutS_length st none (some (a : Int))
      have c2 := cutS_length st (some (a : Int)) none
      have c3 : (cutS st none (some (a : Int))).length + (sign c).length ≤ 1000000 := by omega
      have c4 : (cutS st none (some (a : Int)) ++ sign c).length + (cutS st (some (a : Int)) none).length ≤ 1000000 := by rw [Str.length_append]; omega
      walk_at "r"
      exact hQ _ _ (by walk_at "S") (R.str _)
    have n21 := n21_a hc hl6 ht a
    have e6 : (((turned t).map fun c => PyData.str (sign c)).map fun d => match d with | .str z => PyData.str (cutS st none (some (a : Int)) ++ z ++ cutS st (some (a : Int)) none) | _ => .none) = ((turned t).map fun c => cutS st none (some (a : Int)) ++ sign c ++ cutS st (some (a : Int)) none).map PyData.str := by
      rw [List.map_map, List.map_map]; rfl
    rw [e6] at r6
    generalize ((turned t).map fun c => cutS st none (some (a : Int)) ++ sign c ++ cutS st (some (a : Int)) none) = zs at n21 r6
    walk_at "r"
    · rename_i rb H7 s7 hrb0 hrb1 _
      refine lc_R (K := K) (fun k e => e = .str (sign (conS.cps.toList.getD ((t + 5 * k) % 21) 0) ++ cutS st none (some ((k % (st.length + 1) : Nat) : Int)))) (by decide) (by decide) (fun _ => rfl) (fun k H8 hk s8 Qt hQ => ?_) (fun v8 H8 es s8 r8 hl8 hP8 => ?_)
      · have hk21 : k < 21 := by omega
        have hd : ((turned t).map fun c => PyData.str (sign c))[((k : Nat) : Int).toNat]? = some (.str (sign (conS.cps.toList.getD ((t + 5 * k) % 21) 0))) := by
          rw [Int.toNat_natCast, List.getElem?_map, turned_at hk21]; rfl
        have e1 : (k : Int) % ((st.length : Nat) + 1 : Int) = ((k % (st.length + 1) : Nat) : Int) := by rw [Int.natCast_emod, Int.natCast_add]; rfl
        have h1 : (sign (conS.cps.toList.getD ((t + 5 * k) % 21) 0)).length = 1 := rfl
        have c1 := cutS_length st none (some ((k % (st.length + 1) : Nat) : Int))
        have c2 : (sign (conS.cps.toList.getD ((t + 5 * k) % 21) 0)).length + (cutS st none (some ((k % (st.length + 1) : Nat) : Int))).length ≤ 1000000 := by omega
        walk_at "r"
        rw [e1]
        refine add_str c2 ?_
        exact hQ _ _ _ (by walk_at "S") (R.str _) rfl
      have e8 : es = ((turned t).zipIdx.map fun x => sign x.1 ++ cutS st none (some ((x.2 % (st.length + 1) : Nat) : Int))).map PyData.str := by
        rw [List.map_map]
        exact es_idx (by rw [hl8, hlt]; rfl) fun i e x h1 h2 => by
          have hi : i < 21 := by have := (List.getElem?_eq_some_iff.mp h2).1; omega
          rw [turned_at hi] at h2
          cases h2
          exact hP8 i e h1
      have n22 := n21_b hc hl6 ht (fun k => k % (st.length + 1))
      rw [e8] at r8
      generalize ((turned t).zipIdx.map fun x => sign x.1 ++ cutS st none (some ((x.2 % (st.length + 1) : Nat) : Int))) = zs2 at n22 r8
      walk_at "r"
      refine lcL_f (K := K) (fun d => match d with | .str z => .str (nameA z) | _ => .none) r8 (by rw [List.length_map, n22.len]; decide) (fun _ => rfl) (fun v d H9 hd rv s9 Qt hQ => ?_) (fun v9 H9 s9 r9 => ?_)
      · obtain ⟨z, hz, rfl⟩ := List.mem_map.mp hd
        obtain rfl := rv.inv_str
        have l1 := n22.l1 z hz
        have c1 := cutS_length z none (some 1)
        have c2 := cutS_length z (some 1) none
        have c0 : (Str.ofString "a").length = 1 := rfl
        have c3 : (cutS z none (some 1)).length + (Str.ofString "a").length ≤ 1000000 := by omega
        have c4 : (cutS z none (some 1) ++ Str.ofString "a").length + (cutS z (some 1) none).length ≤ 1000000 := by rw [Str.length_append]; omega
        walk_at "r"
        exact hQ _ _ (by walk_at "S") (R.str _)
      have e9 : ((zs2.map PyData.str).map fun d => match d with | .str z => PyData.str (nameA z) | _ => .none) = (zs2.map nameA).map PyData.str := by rw [List.map_map, List.map_map]; rfl
      rw [e9] at r9
      refine add_lst (r8.mono (by walk_at "S")) r9 (by simp only [List.length_map, n22.len]; decide) fun v10 H10 s10 r10 => ?_
      rw [← List.map_append] at r10
      walk_at "r"
      exact q _ _ _ (by walk_at "S") (n42_of n22) r10
    · rename_i rb H7 s7 hrb0 hrb1 _
      refine lcL_f (K := K) (fun d => match d with | .str z => .str (nameA z) | _ => .none) (r6.mono (by walk_at "S")) (by rw [List.length_map, n21.len]; decide) (fun _ => rfl) (fun v d H9 hd rv s9 Qt hQ => ?_) (fun v9 H9 s9 r9 => ?_)
      · obtain ⟨z, hz, rfl⟩ := List.mem_map.mp hd
        obtain rfl := rv.inv_str
        have l1 := n21.l1 z hz
        have c1 := cutS_length z none (some 1)
        have c2 := cutS_length z (some 1) none
        have c0 : (Str.ofString "a").length = 1 := rfl
        have c3 : (cutS z none (some 1)).length + (Str.ofString "a").length ≤ 1000000 := by omega
        have c4 : (cutS z none (some 1) ++ Str.ofString "a").length + (cutS z (some 1) none).length ≤ 1000000 := by rw [Str.length_append]; omega
        walk_at "r"
        exact hQ _ _ (by walk_at "S") (R.str _)
      have e9 : ((zs.map PyData.str).map fun d => match d with | .str z => PyData.str (nameA z) | _ => .none) = (zs.map nameA).map PyData.str := by rw [List.map_map, List.map_map]; rfl
      rw [e9] at r9
      refine add_lst (r6.mono (by walk_at "S")) r9 (by simp only [List.length_map, n21.len]; decide) fun v10 H10 s10 r10 => ?_
      rw [← List.map_append] at r10
      walk_at "r"
      exact q _ _ _ (by walk_at "S") (n42_of n21) r10

end
end G

end

end
section
/-! the words of the walk: S (a heap keeps), R (a value stands for data), A (a row of them), no (a way that cannot be), s (one step), r (all steps) -/
local macro_rules | `(tactic| walk_at "S") => `(tactic| first | exact G.sm_tr (by assumption) (by walk_at "S") | fail "no")
local macro_rules | `(tactic| walk_at "S") => `(tactic| first | assumption | fail "no")
local macro_rules | `(tactic| walk_at "S") => `(tactic| first | exact L2.Same.refl _ | fail "no")
local macro_rules | `(tactic| walk_at "R") => `(tactic| first | ((with_reducible refine' G.R.lst L2.upd_same ?rl); (case rl => walk_at "A")) | fail "no")
local macro_rules | `(tactic| walk_at "R") => `(tactic| first | exact G.r_mono (by with_reducible assumption) (by walk_at "S") | fail "no")
local macro_rules | `(tactic| walk_at "R") => `(tactic| first | with_reducible assumption | fail "no")
local macro_rules | `(tactic| walk_at "R") => `(tactic| first | with_reducible exact G.R.non | fail "no")
local macro_rules | `(tactic| walk_at "R") => `(tactic| first | with_reducible exact G.R.bl _ | fail "no")
local macro_rules | `(tactic| walk_at "R") => `(tactic| first | with_reducible exact G.R.str _ | fail "no")
local macro_rules | `(tactic| walk_at "R") => `(tactic| first | with_reducible exact G.R.int _ | fail "no")
local macro_rules | `(tactic| walk_at "A") => `(tactic| first | ((with_reducible refine' G.RA.cons ?ra ?rb); (case ra => walk_at "R"); (case rb => walk_at "A")) | fail "no")
local macro_rules | `(tactic| walk_at "A") => `(tactic| first | with_reducible exact G.RA.nil | fail "no")
local macro_rules | `(tactic| walk_at "no") => `(tactic| first | omega | fail "no")
local macro_rules | `(tactic| walk_at "no") => `(tactic| first | contradiction | fail "no")
local macro_rules | `(tactic| walk_at "side") => `(tactic| first | (simp only [List.length_cons, List.length_nil, List.length_map, List.length_append] at *; omega) | fail "no")
local macro_rules | `(tactic| walk_at "side") => `(tactic| first | (simp only [List.length_cons, List.length_nil, List.getElem?_cons_zero, List.getElem?_cons_succ, List.length_map]; done) | fail "no")
local macro_rules | `(tactic| walk_at "side") => `(tactic| first | ((with_reducible refine G.le_up ?_); decide +kernel) | fail "no")
local macro_rules | `(tactic| walk_at "side") => `(tactic| first | exact Int.lt_of_lt_of_le (by with_reducible assumption) (by decide +kernel) | fail "no")
local macro_rules | `(tactic| walk_at "side") => `(tactic| first | omega | fail "no")
local macro_rules | `(tactic| walk_at "side") => `(tactic| first | with_reducible assumption | fail "no")
local macro_rules | `(tactic| walk_at "side") => `(tactic| first | with_reducible rfl | fail "no")
local macro_rules | `(tactic| walk_at "sideC") => `(tactic| first | omega | fail "no")
local macro_rules | `(tactic| walk_at "sideC") => `(tactic| first | (with_reducible refine G.cdiv_r ⟨?_, ?_⟩ <;> omega) | fail "no")
local macro_rules | `(tactic| walk_at "sideC") => `(tactic| first | (with_reducible refine G.cmul_r ⟨?_, ?_⟩ <;> omega) | fail "no")
local macro_rules | `(tactic| walk_at "sideC") => `(tactic| first | (with_reducible refine G.cpow_c ⟨?_, ?_, ?_⟩ <;> decide) | fail "no")
local macro_rules | `(tactic| walk_at "sideC") => `(tactic| first | (with_reducible refine G.cmul_l ⟨?_, ?_⟩ <;> decide) | fail "no")
local macro_rules | `(tactic| walk_at "sideC") => `(tactic| first | (with_reducible refine G.cdiv_r ⟨?_, ?_⟩ <;> decide) | fail "no")
local macro_rules | `(tactic| walk_at "sideC") => `(tactic| first | (with_reducible refine G.cmul_r ⟨?_, ?_⟩ <;> decide) | fail "no")
local macro_rules | `(tactic| walk_at "sideC") => `(tactic| first | with_reducible assumption | fail "no")
local macro_rules | `(tactic| walk_at "got") => `(tactic| (intro v0 r0; first
  | (have e0 := G.R.inv_str r0; subst e0) | (have e0 := G.R.inv_int r0; subst e0) | (have e0 := G.R.inv_bl r0; subst e0) | (have e0 := G.R.inv_non r0; subst e0) | skip))
local macro_rules | `(tactic| walk_at "P") => `(tactic| first | exact G.keep_at (by with_reducible assumption) (by walk_at "S") | fail "no")
local macro_rules | `(tactic| walk_at "P") => `(tactic| first | with_reducible assumption | fail "no")
local macro_rules | `(tactic| walk_at "c") => `(tactic| fail)
local macro_rules | `(tactic| walk_at "Q") => `(tactic| first | exact G.seq_keep (by with_reducible assumption) (by walk_at "S") | fail "no")
local macro_rules | `(tactic| walk_at "Q") => `(tactic| first | with_reducible assumption | fail "no")
local macro_rules | `(tactic| walk_at "c") => `(tactic| ((with_reducible refine' G.use_state ?hp ?h0 ?h1 ?_); (case hp => walk_at "Q"); (case h0 => walk_at "side"); (case h1 => walk_at "side"); intro p0 H0 s0 hp0))
local macro_rules | `(tactic| walk_at "c") => `(tactic| ((with_reducible refine' G.use_draw ?hp ?h0 ?h1 ?_); (case hp => walk_at "P"); (case h0 => walk_at "side"); (case h1 => walk_at "side"); intro r0 hr0 hr1))
local macro_rules | `(tactic| walk_at "s") => `(tactic| first | walk_at "c" | fail "no")
local macro_rules | `(tactic| walk_at "s") => `(tactic| first | (with_reducible refine' G.st_disp1 ?_; intro v0 H0 s0 r0) | fail "no")
local macro_rules | `(tactic| walk_at "s") => `(tactic| first | ((with_reducible refine' G.sl_scr ?s ?_); (case s => walk_at "Q"); intro v0 H0 s0 r0) | fail "no")
local macro_rules | `(tactic| walk_at "s") => `(tactic| first | ((with_reducible refine' G.ix_scr ?s ?h0 ?h1 ?_); (case s => walk_at "Q"); (case h0 => walk_at "side"); (case h1 => walk_at "side"); intro n0) | fail "no")
local macro_rules | `(tactic| walk_at "s") => `(tactic| first | ((with_reducible refine' G.len_scr ?s ?_); (case s => walk_at "Q")) | fail "no")
local macro_rules | `(tactic| walk_at "s") => `(tactic| first | with_reducible refine G.st_forR ?_ | fail "no")
local macro_rules | `(tactic| walk_at "s") => `(tactic| first | with_reducible refine G.st_shut ?_ | fail "no")
local macro_rules | `(tactic| walk_at "s") => `(tactic| first | with_reducible refine G.st_lst2 ?_ | fail "no")
local macro_rules | `(tactic| walk_at "s") => `(tactic| first | ((with_reducible refine' G.set_at ?hp ?hi ?_); (case hp => first | exact L2.upd_same | walk_at "P"); (case hi => rfl)) | fail "no")
local macro_rules | `(tactic| walk_at "s") => `(tactic| first | ((with_reducible refine' G.set_21 ?hp ?_); (case hp => first | exact L2.upd_same | walk_at "P")) | fail "no")
local macro_rules | `(tactic| walk_at "s") => `(tactic| first | ((with_reducible refine' G.set_20 ?hp ?_); (case hp => first | exact L2.upd_same | walk_at "P")) | fail "no")
local macro_rules | `(tactic| walk_at "s") => `(tactic| first | (with_reducible refine G.st_sub ?_) | fail "no")
local macro_rules | `(tactic| walk_at "s") => `(tactic| first | (with_reducible refine G.st_strAnd ?_) | fail "no")
local macro_rules | `(tactic| walk_at "s") => `(tactic| first | ((with_reducible refine' G.upper_R ?l ?_); (case l => walk_at "side")) | fail "no")
local macro_rules | `(tactic| walk_at "s") => `(tactic| first | (with_reducible refine G.upper_one ?_; intro hu0) | fail "no")
local macro_rules | `(tactic| walk_at "s") => `(tactic| first | with_reducible refine G.st_M1 ?_ | fail "no")
local macro_rules | `(tactic| walk_at "s") => `(tactic| first | with_reducible refine G.st_M0 ?_ | fail "no")
local macro_rules | `(tactic| walk_at "s") => `(tactic| first | with_reducible refine G.st_lcR ?_ | fail "no")
local macro_rules | `(tactic| walk_at "s") => `(tactic| first | with_reducible refine G.st_lcS ?_ | fail "no")
local macro_rules | `(tactic| walk_at "s") => `(tactic| first | with_reducible refine G.st_lcT ?_ | fail "no")
local macro_rules | `(tactic| walk_at "s") => `(tactic| first | with_reducible refine G.st_lcL ?_ | fail "no")
local macro_rules | `(tactic| walk_at "s") => `(tactic| first | ((with_reducible refine' G.lstOf_L ?r ?_); (case r => walk_at "R"); intro v0 H0 s0 r0) | fail "no")
local macro_rules | `(tactic| walk_at "s") => `(tactic| first | ((with_reducible refine' G.lstOf_T ?r ?_); (case r => walk_at "R"); intro v0 H0 s0 r0) | fail "no")
local macro_rules | `(tactic| walk_at "s") => `(tactic| first | ((with_reducible refine' G.tupOf_T ?r ?_); (case r => walk_at "R")) | fail "no")
local macro_rules | `(tactic| walk_at "s") => `(tactic| first | ((with_reducible refine' G.tupOf_L ?r ?_); (case r => walk_at "R"); intro v0 H0 s0 r0) | fail "no")
local macro_rules | `(tactic| walk_at "s") => `(tactic| first | ((with_reducible refine' G.sl_lstR ?r ?_); (case r => walk_at "R"); intro v0 H0 s0 r0) | fail "no")
local macro_rules | `(tactic| walk_at "s") => `(tactic| first | ((with_reducible refine' G.sl_tupR ?r ?_); (case r => walk_at "R"); intro v0 H0 s0 r0) | fail "no")
local macro_rules | `(tactic| walk_at "s") => `(tactic| first | ((with_reducible refine' G.sl_strR ?l ?_); (case l => walk_at "side")) | fail "no")
local macro_rules | `(tactic| walk_at "s") => `(tactic| first | ((with_reducible refine' G.ix_lstN ?r ?h0 ?h1 ?_); (case r => walk_at "R"); (case h0 => walk_at "side"); (case h1 => walk_at "side"); intro v0 d0 hd0 r0) | fail "no")
local macro_rules | `(tactic| walk_at "s") => `(tactic| first | ((with_reducible refine' G.ix_lstS ?r ?h0 ?h1 ?_); (case r => walk_at "R"); (case h0 => walk_at "side"); (case h1 => walk_at "side"); intro z0 hz0) | fail "no")
local macro_rules | `(tactic| walk_at "s") => `(tactic| first | ((with_reducible refine' G.ix_tupN ?r ?h0 ?h1 ?_); (case r => walk_at "R"); (case h0 => walk_at "side"); (case h1 => walk_at "side"); intro v0 d0 hd0 r0) | fail "no")
local macro_rules | `(tactic| walk_at "s") => `(tactic| first | ((with_reducible refine' G.ix_strM ?l ?h0 ?h1 ?_); (case l => walk_at "side"); (case h0 => walk_at "side"); (case h1 => walk_at "side"); intro c0 hc0) | fail "no")
local macro_rules | `(tactic| walk_at "s") => `(tactic| first | ((with_reducible refine' G.ix_strR ?l ?h0 ?hd ?_); (case l => walk_at "side"); (case h0 => walk_at "side"); (case hd => first | rfl | assumption)) | fail "no")
local macro_rules | `(tactic| walk_at "s") => `(tactic| first | ((with_reducible refine' G.ix_lstR ?r ?h0 ?hd ?_); (case r => walk_at "R"); (case h0 => walk_at "side"); (case hd => first | rfl | assumption); walk_at "got") | fail "no")
local macro_rules | `(tactic| walk_at "s") => `(tactic| first | ((with_reducible refine' G.ix_tupR ?r ?h0 ?hd ?_); (case r => walk_at "R"); (case h0 => walk_at "side"); (case hd => first | rfl | assumption); walk_at "got") | fail "no")
local macro_rules | `(tactic| walk_at "s") => `(tactic| first | ((with_reducible refine' G.st_newL ?r ?l ?_); (case r => walk_at "A"); (case l => first | exact Nat.le_of_ble_eq_true rfl | walk_at "side"); intro v0 H0 s0 r0) | fail "no")
local macro_rules | `(tactic| walk_at "s") => `(tactic| first | ((with_reducible refine' G.st_newT ?r ?l ?_); (case r => walk_at "A"); (case l => first | exact Nat.le_of_ble_eq_true rfl | walk_at "side"); intro v0 H0 s0 r0) | fail "no")
local macro_rules | `(tactic| walk_at "s") => `(tactic| first | (with_reducible refine G.st_lst ?_) | fail "no")
local macro_rules | `(tactic| walk_at "s") => `(tactic| first | (with_reducible refine G.st_tup ?_) | fail "no")
local macro_rules | `(tactic| walk_at "s") => `(tactic| first | ((with_reducible refine' G.len_lst ?r ?_); (case r => walk_at "R")) | fail "no")
local macro_rules | `(tactic| walk_at "s") => `(tactic| first | ((with_reducible refine' G.len_tup ?r ?_); (case r => walk_at "R")) | fail "no")
local macro_rules | `(tactic| walk_at "s") => `(tactic| first | ((with_reducible refine' G.len_str ?l ?_); (case l => walk_at "side")) | fail "no")
local macro_rules | `(tactic| walk_at "s") => `(tactic| first | ((with_reducible refine' G.isi_R ?r ?t ?_); (case r => walk_at "R"); (case t => simp only [List.mem_cons, true_or, or_true])) | fail "no")
local macro_rules | `(tactic| walk_at "s") => `(tactic| first | ((with_reducible refine' G.isi_0 ?r ?e ?t ?_); (case r => walk_at "R"); (case e => rfl); (case t => simp only [List.mem_cons, true_or, or_true])) | fail "no")
local macro_rules | `(tactic| walk_at "s") => `(tactic| first | ((with_reducible refine' G.isi_1 ?r ?e ?t ?_); (case r => walk_at "R"); (case e => rfl); (case t => simp only [List.mem_cons, true_or, or_true])) | fail "no")
local macro_rules | `(tactic| walk_at "s") => `(tactic| first | ((with_reducible refine' G.add_lst ?r ?s ?l ?_); (case r => walk_at "R"); (case s => walk_at "R"); (case l => walk_at "side"); intro v0 H0 s0 r0) | fail "no")
local macro_rules | `(tactic| walk_at "s") => `(tactic| first | ((with_reducible refine' G.add_tup ?r ?s ?l ?_); (case r => walk_at "R"); (case s => walk_at "R"); (case l => walk_at "side"); intro v0 H0 s0 r0) | fail "no")
local macro_rules | `(tactic| walk_at "s") => `(tactic| first | ((with_reducible refine' G.add_str ?l ?_); (case l => walk_at "side")) | fail "no")
local macro_rules | `(tactic| walk_at "s") => `(tactic| first | ((with_reducible refine' G.nin_intsT ?r ?c ?_); (case r => walk_at "R"); (case c => rfl)) | fail "no")
local macro_rules | `(tactic| walk_at "s") => `(tactic| first | ((with_reducible refine' G.in_intsT ?r ?c ?_); (case r => walk_at "R"); (case c => rfl)) | fail "no")
local macro_rules | `(tactic| walk_at "s") => `(tactic| first | ((with_reducible refine' G.nin_strsT ?r ?c ?_); (case r => walk_at "R"); (case c => rfl)) | fail "no")
local macro_rules | `(tactic| walk_at "s") => `(tactic| first | ((with_reducible refine' G.in_strsT ?r ?c ?_); (case r => walk_at "R"); (case c => rfl)) | fail "no")
local macro_rules | `(tactic| walk_at "s") => `(tactic| first | ((with_reducible refine' G.in_strsT0 ?r ?c ?e ?_); (case r => walk_at "R"); (case c => rfl); (case e => decide +kernel)) | fail "no")
local macro_rules | `(tactic| walk_at "s") => `(tactic| first | ((with_reducible refine' G.in_strsT1 ?r ?c ?e ?_); (case r => walk_at "R"); (case c => rfl); (case e => decide +kernel)) | fail "no")
local macro_rules | `(tactic| walk_at "s") => `(tactic| first | with_reducible refine G.nin_sign ?_ | fail "no")
local macro_rules | `(tactic| walk_at "s") => `(tactic| first | with_reducible refine G.in_sign ?_ | fail "no")
local macro_rules | `(tactic| walk_at "s") => `(tactic| first | with_reducible refine G.isnt_bl ?_ | fail "no")
local macro_rules | `(tactic| walk_at "s") => `(tactic| first | with_reducible refine G.is_bl ?_ | fail "no")
local macro_rules | `(tactic| walk_at "s") => `(tactic| first | ((with_reducible refine' G.isnt_none ?r ?_); (case r => walk_at "R")) | fail "no")
local macro_rules | `(tactic| walk_at "s") => `(tactic| first | ((with_reducible refine' G.is_none ?r ?_); (case r => walk_at "R")) | fail "no")
local macro_rules | `(tactic| walk_at "s") => `(tactic| first | with_reducible refine G.ne_int ?_ | fail "no")
local macro_rules | `(tactic| walk_at "s") => `(tactic| first | with_reducible refine G.ne_str ?_ | fail "no")
local macro_rules | `(tactic| walk_at "s") => `(tactic| first | with_reducible refine G.eq_bl ?_ | fail "no")
local macro_rules | `(tactic| walk_at "s") => `(tactic| first | with_reducible refine G.eq_int ?_ | fail "no")
local macro_rules | `(tactic| walk_at "s") => `(tactic| first | with_reducible refine G.eq_str ?_ | fail "no")
local macro_rules | `(tactic| walk_at "s") => `(tactic| first | ((with_reducible refine' G.eq_str0 ?e ?_); (case e => decide +kernel)) | fail "no")
local macro_rules | `(tactic| walk_at "s") => `(tactic| first | ((with_reducible refine' G.eq_str1 ?e ?_); (case e => with_reducible rfl)) | fail "no")
local macro_rules | `(tactic| walk_at "s") => `(tactic| first | ((with_reducible refine' G.iC ?hc ?_); (case hc => walk_at "sideC")) | fail "no")
local macro_rules | `(tactic| walk_at "s") => `(tactic| first | ((with_reducible refine G.imod3 (by decide) ?_ ?_ ?_) <;> (intro hm; first | (exfalso; walk_at "no"; done) | skip)) | fail "no")
local macro_rules | `(tactic| walk_at "s") => `(tactic| first | ((with_reducible refine G.imod2 (by decide) ?_ ?_) <;> (intro hm; first | (exfalso; walk_at "no"; done) | skip)) | fail "no")
local macro_rules | `(tactic| walk_at "s") => `(tactic| first | with_reducible refine G.i0 ?_ | fail "no")
local macro_rules | `(tactic| walk_at "s") => `(tactic| first | with_reducible refine G.add_int ?_ | fail "no")
local macro_rules | `(tactic| walk_at "s") => `(tactic| first | with_reducible refine G.st_retN ?_ | fail "no")
local macro_rules | `(tactic| walk_at "s") => `(tactic| first | with_reducible refine G.st_next ?_ | fail "no")
local macro_rules | `(tactic| walk_at "s") => `(tactic| first | with_reducible refine G.st_drop ?_ | fail "no")
local macro_rules | `(tactic| walk_at "s") => `(tactic| first | with_reducible refine G.st_exInt ?_ | fail "no")
local macro_rules | `(tactic| walk_at "s") => `(tactic| first | with_reducible refine G.st_part ?_ | fail "no")
local macro_rules | `(tactic| walk_at "s") => `(tactic| first | with_reducible refine G.st_noPart ?_ | fail "no")
local macro_rules | `(tactic| walk_at "s") => `(tactic| first | with_reducible refine G.st_slice ?_ | fail "no")
local macro_rules | `(tactic| walk_at "s") => `(tactic| first | with_reducible refine G.st_then ?_ | fail "no")
local macro_rules | `(tactic| walk_at "s") => `(tactic| first | with_reducible refine G.st_un ?_ | fail "no")
local macro_rules | `(tactic| walk_at "s") => `(tactic| first | with_reducible refine G.st_chain ?_ | fail "no")
local macro_rules | `(tactic| walk_at "s") => `(tactic| first | with_reducible refine G.st_tIf ?_ | fail "no")
local macro_rules | `(tactic| walk_at "s") => `(tactic| first | with_reducible refine G.st_notV ?_ | fail "no")
local macro_rules | `(tactic| walk_at "s") => `(tactic| first | with_reducible refine G.st_andV ?_ | fail "no")
local macro_rules | `(tactic| walk_at "s") => `(tactic| first | with_reducible refine G.st_orV ?_ | fail "no")
local macro_rules | `(tactic| walk_at "s") => `(tactic| first | with_reducible refine G.st_not ?_ | fail "no")
local macro_rules | `(tactic| walk_at "s") => `(tactic| first | with_reducible refine G.st_and ?_ | fail "no")
local macro_rules | `(tactic| walk_at "s") => `(tactic| first | with_reducible refine G.st_or ?_ | fail "no")
local macro_rules | `(tactic| walk_at "s") => `(tactic| first | with_reducible refine G.st_tB ?_ | fail "no")
local macro_rules | `(tactic| walk_at "s") => `(tactic| first | with_reducible refine G.st_tTest ?_ | fail "no")
local macro_rules | `(tactic| walk_at "s") => `(tactic| first | with_reducible refine G.st_CB ?_ | fail "no")
local macro_rules | `(tactic| walk_at "s") => `(tactic| first | with_reducible refine G.st_nil ?_ | fail "no")
local macro_rules | `(tactic| walk_at "s") => `(tactic| first | with_reducible refine G.st_cons ?_ | fail "no")
local macro_rules | `(tactic| walk_at "s") => `(tactic| first | with_reducible refine G.st_call ?_ | fail "no")
local macro_rules | `(tactic| walk_at "s") => `(tactic| first | with_reducible refine G.st_set ?_ | fail "no")
local macro_rules | `(tactic| walk_at "s") => `(tactic| first | with_reducible refine G.st_ret ?_ | fail "no")
local macro_rules | `(tactic| walk_at "s") => `(tactic| first | with_reducible refine G.st_if ?_ | fail "no")
local macro_rules | `(tactic| walk_at "s") => `(tactic| first | ((with_reducible refine G.st_ite ?_ ?_) <;> (intro hb; (try simp only [decide_eq_true_eq, decide_eq_false_iff_not, Bool.not_eq_true', Bool.not_eq_false', beq_iff_eq, Bool.and_eq_true, Bool.or_eq_true, Bool.and_eq_false_iff, Bool.or_eq_false_iff, beq_eq_false_iff_ne, ne_eq, Int.not_lt, Int.not_le, Nat.not_lt, Nat.not_le] at hb); first | (exfalso; walk_at "no"; done) | skip)) | fail "no")
local macro_rules | `(tactic| walk_at "s") => `(tactic| first | with_reducible refine G.ite_nf ?_ | fail "no")
local macro_rules | `(tactic| walk_at "s") => `(tactic| first | with_reducible refine G.ite_nt ?_ | fail "no")
local macro_rules | `(tactic| walk_at "s") => `(tactic| first | with_reducible refine L2.iteF ?_ | fail "no")
local macro_rules | `(tactic| walk_at "s") => `(tactic| first | with_reducible refine L2.iteT ?_ | fail "no")
local macro_rules | `(tactic| walk_at "s") => `(tactic| first | with_reducible refine G.st_bl ?_ | fail "no")
local macro_rules | `(tactic| walk_at "s") => `(tactic| first | with_reducible refine G.st_op ?_ | fail "no")
local macro_rules | `(tactic| walk_at "s") => `(tactic| first | with_reducible refine G.st_c ?_ | fail "no")
local macro_rules | `(tactic| walk_at "s") => `(tactic| first | ((with_reducible refine' G.st_var ?hv ?_); (case hv => exact rfl)) | fail "no")
local macro_rules | `(tactic| walk_at "s") => `(tactic| first | with_reducible refine G.st_seq ?_ | fail "no")
local macro_rules | `(tactic| walk_at "r") => `(tactic| repeat' (walk_at "s"))
local macro_rules | `(tactic| walk_at "side") => `(tactic| first | fail | fail "no")
local macro_rules | `(tactic| walk_at "side") => `(tactic| first | exact G.nm_c (by with_reducible assumption) | fail "no")
local macro_rules | `(tactic| walk_at "side") => `(tactic| first | exact G.nm_b (by with_reducible assumption) | fail "no")
local macro_rules | `(tactic| walk_at "side") => `(tactic| first | exact G.fm_a (by with_reducible assumption) | fail "no")
local macro_rules | `(tactic| walk_at "side") => `(tactic| first | exact G.nm_a (by with_reducible assumption) | fail "no")
local macro_rules | `(tactic| walk_at "c") => `(tactic| ((with_reducible refine' G.use_name ?hp ?_); (case hp => walk_at "P"); intro z0 H0 s0 hz0))
local macro_rules | `(tactic| walk_at "c") => `(tactic| ((with_reducible refine' G.use_form ?hp ?_); (case hp => walk_at "P"); intro z0 H0 s0 hz0))
local macro_rules | `(tactic| walk_at "c") => `(tactic| ((with_reducible refine' G.use_pool ?hp ?_); (case hp => walk_at "P"); intro v0 fs0 gs0 ns0 H0 s0 ok0 r0))
local macro_rules | `(tactic| walk_at "c") => `(tactic| ((with_reducible refine' G.use_leaf ?hp ?r ?ok ?h0 ?h1 ?_); (case hp => walk_at "P"); (case r => walk_at "R"); (case ok => with_reducible assumption); (case h0 => walk_at "side"); (case h1 => walk_at "side"); intro v0 t0 H0 s0 r0 ht0 hd0 hs0))
local macro_rules | `(tactic| walk_at "c") => `(tactic| ((with_reducible refine' G.use_term ?hp ?r ?ok ?h0 ?h1 ?e0 ?e1 ?_); (case hp => walk_at "P"); (case r => walk_at "R"); (case ok => with_reducible assumption); (case h0 => walk_at "side"); (case h1 => walk_at "side"); (case e0 => walk_at "side"); (case e1 => walk_at "side"); intro v0 t0 H0 s0 r0 ht0 hd0 hs0))
local macro_rules | `(tactic| walk_at "c") => `(tactic| ((with_reducible refine' G.use_tall ?hp ?r ?ok ?rt ?ht ?h0 ?h1 ?_); (case hp => walk_at "P"); (case r => walk_at "R"); (case ok => with_reducible assumption); (case rt => walk_at "R"); (case ht => with_reducible assumption); (case h0 => walk_at "side"); (case h1 => walk_at "side"); intro v0 t0 H0 s0 r0 ht0 hd0 hs0))
local macro_rules | `(tactic| walk_at "c") => `(tactic| ((with_reducible refine' G.use_anyT ?hp ?r ?ok ?h0 ?h1 ?_); (case hp => walk_at "P"); (case r => walk_at "R"); (case ok => with_reducible assumption); (case h0 => walk_at "side"); (case h1 => walk_at "side"); intro v0 t0 H0 s0 r0 ht0 hd0 hs0))
local macro_rules | `(tactic| walk_at "w") => `(tactic| first | ((with_reducible refine' G.st_newLF ?r ?l ?_); (case r => walk_at "A"); (case l => first | exact Nat.le_of_ble_eq_true rfl | walk_at "side"); intro p0 H0 f0 s0 hl0 ra0) | fail "no")
local macro_rules | `(tactic| walk_at "w") => `(tactic| first | with_reducible refine G.st_lstF ?_ | fail "no")
local macro_rules | `(tactic| walk_at "w") => `(tactic| first | with_reducible refine G.whB ?_ | fail "no")
local macro_rules | `(tactic| walk_at "w") => `(tactic| first | with_reducible refine G.ipI_int ?_ | fail "no")
local macro_rules | `(tactic| walk_at "w") => `(tactic| first | ((with_reducible refine' G.st_aug ?hx ?_); (case hx => rfl)) | fail "no")
local macro_rules | `(tactic| walk_at "w") => `(tactic| first | with_reducible refine G.max_2 ?_ | fail "no")
local macro_rules | `(tactic| walk_at "w") => `(tactic| first | with_reducible refine G.int_bl ?_ | fail "no")
local macro_rules | `(tactic| walk_at "w") => `(tactic| first | with_reducible refine G.st_asgT ?_ | fail "no")
local macro_rules | `(tactic| walk_at "w") => `(tactic| first | ((with_reducible refine' G.gtup2 ?r ?_); (case r => walk_at "R"); intro v1 v2 r1 r2) | fail "no")
local macro_rules | `(tactic| walk_at "w") => `(tactic| first | ((with_reducible refine' G.extR ?hl ?ra ?r ?hz ?hn ?hn' ?_); (case hl => walk_at "P"); (case ra => first | with_reducible assumption | exact G.ra_mono (by with_reducible assumption) (by walk_at "S")); (case r => walk_at "R"); (case hz => walk_at "side"); (case hn => walk_at "nol"); (case hn' => walk_at "nol"); intro ws0 H0 x0 hl0 ra0) | fail "no")
local macro_rules | `(tactic| walk_at "w") => `(tactic| first | ((with_reducible refine' G.popR ?hl ?ra ?hn ?_); (case hl => walk_at "P"); (case ra => with_reducible assumption); (case hn => with_reducible assumption); intro v0 ws0 H0 x0 hl0 ra0 r0) | fail "no")
local macro_rules | `(tactic| walk_at "w") => `(tactic| first | ((with_reducible refine' G.st_tyl ?hl ?_); (case hl => walk_at "P")) | fail "no")
local macro_rules | `(tactic| walk_at "w") => `(tactic| first | with_reducible refine G.st_BM ?_ | fail "no")
local macro_rules | `(tactic| walk_at "w") => `(tactic| first | with_reducible refine G.st_BM0 ?_ | fail "no")
local macro_rules | `(tactic| walk_at "nol") => `(tactic| first | exact G.Th.noLs _ | fail "no")
local macro_rules | `(tactic| walk_at "nol") => `(tactic| first | exact G.Th.noL _ | fail "no")
local macro_rules | `(tactic| walk_at "nol") => `(tactic| first | rfl | fail "no")
local macro_rules | `(tactic| walk_at "nol") => `(tactic| first | with_reducible assumption | fail "no")
local macro_rules | `(tactic| walk_at "c") => `(tactic| walk_at "w")
local macro_rules | `(tactic| walk_at "c") => `(tactic| first | (with_reducible refine G.absR ?_; intro j0) | fail "no")
local macro_rules | `(tactic| walk_at "c") => `(tactic| first | ((with_reducible refine' G.divmodR ?h0 ?h1 ?_); (case h0 => walk_at "side"); (case h1 => walk_at "side"); intro p0 H0 f0 e0) | fail "no")
local macro_rules | `(tactic| walk_at "c") => `(tactic| first | ((with_reducible refine' G.ix_scrLast ?hs ?h1 ?_); (case hs => walk_at "Q"); (case h1 => walk_at "side"); intro n0) | fail "no")
local macro_rules | `(tactic| walk_at "c") => `(tactic| first | ((with_reducible refine' G.iC ?hc ?_); (case hc => show (0 : Int) < _; decide +kernel)) | fail "no")
local macro_rules | `(tactic| walk_at "c") => `(tactic| first | with_reducible refine G.st_gsub ?_ | fail "no")
local macro_rules | `(tactic| walk_at "c") => `(tactic| first | with_reducible refine G.st_gname ?_ | fail "no")
local macro_rules | `(tactic| walk_at "c") => `(tactic| first | with_reducible refine G.st_gnil ?_ | fail "no")
local macro_rules | `(tactic| walk_at "c") => `(tactic| first | with_reducible refine G.st_gcons ?_ | fail "no")
local macro_rules | `(tactic| walk_at "c") => `(tactic| first | with_reducible refine G.st_tys ?_ | fail "no")
local macro_rules | `(tactic| walk_at "c") => `(tactic| first | with_reducible refine G.st_BMs ?_ | fail "no")
local macro_rules | `(tactic| walk_at "c") => `(tactic| first | with_reducible refine G.neg_i ?_ | fail "no")
local macro_rules | `(tactic| walk_at "B") => `(tactic| first | exact G.bk_keep (by with_reducible assumption) (by walk_at "S") | fail "no")
local macro_rules | `(tactic| walk_at "B") => `(tactic| first | with_reducible assumption | fail "no")
local macro_rules | `(tactic| walk_at "c") => `(tactic| first | with_reducible refine G.st_forT ?_ | fail "no")
local macro_rules | `(tactic| walk_at "c") => `(tactic| first | with_reducible refine G.st_forE ?_ | fail "no")
local macro_rules | `(tactic| walk_at "c") => `(tactic| first | with_reducible refine G.st_forL ?_ | fail "no")
local macro_rules | `(tactic| walk_at "c") => `(tactic| first | with_reducible refine G.st_lcETT ?_ | fail "no")
local macro_rules | `(tactic| walk_at "c") => `(tactic| first | with_reducible refine G.st_lcET ?_ | fail "no")
local macro_rules | `(tactic| walk_at "c") => `(tactic| first | with_reducible refine G.st_lcLT ?_ | fail "no")
local macro_rules | `(tactic| walk_at "c") => `(tactic| first | with_reducible refine G.st_dget2 ?_ | fail "no")
local macro_rules | `(tactic| walk_at "c") => `(tactic| first | with_reducible refine G.st_dget ?_ | fail "no")
local macro_rules | `(tactic| walk_at "c") => `(tactic| first | ((with_reducible refine' G.ix_b5 ?h ?_); (case h => walk_at "B"); intro v0 r0) | fail "no")
local macro_rules | `(tactic| walk_at "c") => `(tactic| first | ((with_reducible refine' G.ix_b3 ?h ?_); (case h => walk_at "B"); intro v0 r0) | fail "no")
local macro_rules | `(tactic| walk_at "c") => `(tactic| first | ((with_reducible refine' G.ix_b2 ?h ?_); (case h => walk_at "B"); intro v0 r0) | fail "no")
local macro_rules | `(tactic| walk_at "c") => `(tactic| first | ((with_reducible refine' G.ix_b1 ?h ?_); (case h => walk_at "B"); intro af0 lb0 lc0 hf0 rb0 rc0) | fail "no")
local macro_rules | `(tactic| walk_at "c") => `(tactic| first | ((with_reducible refine' G.use_nextU ?hp ?h0 ?h1 ?_); (case hp => walk_at "P"); (case h0 => walk_at "side"); (case h1 => walk_at "side"); intro r0 H0 s0 hr0 hr1) | fail "no")
local macro_rules | `(tactic| walk_at "u") => `(tactic| repeat' ((fail_if_success (with_reducible refine G.st_if ?_)); walk_at "s"))
local macro_rules | `(tactic| walk_at "c") => `(tactic| (with_reducible refine G.minR ?_; intro m0 hm0 hm1 hm2))
local macro_rules | `(tactic| walk_at "c") => `(tactic| first | with_reducible refine G.st_forEL ?_ | fail "no")
section












namespace G
open PySem PySem.Spec PyProof.Rows L2
section
variable {P : Program} {w : World} {K : PySem.W.Frag} {mg : Str → Option Value} {base : Heap} {k n : Nat}
theorem ok_l_least (T : Tp K mg) (c_l_least : Cal P w K mg base k "_law_least" (spLeast K n)) : Cal P w K mg base (k + 1) "_law_least" (spLeast K (n + 1)) := by
  refine T.d_l_least.cal sc_l_least (fun vs H Q E h => ?_) (fun f cdv A outer s H vs Q E hr h => ?_)
  · obtain ⟨v, g, k, rfl, _⟩ := h; rfl
  obtain ⟨v, g, kk, rfl, hb, ok, hk, h1, h2, q⟩ := h
  have sc := @sc_l_least
  refine ⟨_, (pss_cons (ps_if (pt_cmpR (op_eqK K hr) (pv 1) (pe_ix (ix_K K) (pe_ix (ix_K K) (pv 0) pe_int (fun _ _ => rfl)) pe_int (fun _ _ => rfl)) (nomark _)) (pss_one (ps_ret (pe_tupK K (pa_cons pe_str (pa_cons (pe_ix (ix_K K) (pe_ix (ix_K K) (pe_ix (ix_K K) (pv 0) pe_int (fun _ _ => rfl)) pe_int (fun _ _ => rfl)) pe_int (fun _ _ => rfl)) (pa_cons (pe_tupK K pa_nil) pa_nil)))))) pss_nil)
      (pss_cons (ps_asg (pe_ix (ix_K K) (pe_dgetH hr (pe_ix (ix_K K) (pv 0) pe_int (fun _ _ => rfl)) (pv 1) (fun _ _ => rfl)) pe_int (fun _ _ => rfl)) (gtK K (pg_tup (n := 2) rfl (pgs_cons (pg_name (i := 2) sc.nd rfl (Or.inl rfl)) (pgs_cons (pg_name (i := 3) sc.nd rfl (Or.inl rfl)) pgs_nil)))))
      (pss_one (ps_ret (pe_tupK K (pa_cons pe_str (pa_cons (pv 2) (pa_cons (tupleOf_K K rfl T.n_tuple (pe_lc (own := [("_law_part", 4)]) (g := gName 4) (tt := tYes) rfl sc.nd (pi_tupK K (pv 3)) (blkOk_by (N := n_l_least) (sc := defScope s_l_least) (by decide +kernel)) (fun _ _ _ _ _ => pg_name (i := 4) sc.nd rfl (Or.inl rfl)) (fun _ _ _ _ _ => pts_nil) (fun _ _ _ _ _ => pe_hide (pe_c c_l_least hr (Nat.le_refl _) rfl (pa_cons (pv 0) (pa_cons (pv 4) pa_nil)))))) pa_nil)))))))), ?_⟩
  have hd0 : (g.kinds.map PyData.str)[(0 : Int).toNat]? = some (.str g.a) := rfl
  obtain ⟨fa, ra, ec⟩ := ok.c0
  have hc0 : (g.calls.map callD)[(0 : Int).toNat]? = some (.tuple [.str fa, .tuple [], .str g.a]) := by rw [ec]; rfl
  have hka : g.a ∈ g.kinds := by simp [Bk.kinds]
  have hkb : g.b ∈ g.kinds := by simp [Bk.kinds]
  have sigm : ∀ (o : Option Own), (fa, [], g.a) ∈ g.sig o := fun o => by
    rcases o with _ | ⟨f, ks, k, js⟩
    · show _ ∈ g.calls; rw [ec]; simp
    · show _ ∈ g.calls ++ _; rw [ec]; simp
  simp only [Bk.kinds, List.mem_cons, List.not_mem_nil, or_false] at hk
  by_cases ha : kk = g.a
  · subst ha
    walk_at "r"
    rename_i v9 H9 s9 r9
    exact q _ (.app .call fa []) _ (by walk_at "S") r9 (fun xs is o => ⟨[], sigm o, True.intro⟩) (by simp [Th.dep, Th.deps]) (by simp [Th.sz, Th.szs]) (fun _ => by simp [Th.dep, Th.deps, Th.sz, Th.szs]) (fun f js hfr => ⟨fun e => absurd e (hfr (fa, [], g.a) (by rw [ec]; simp)), True.intro⟩)
  have hbc : kk = g.b ∨ kk = g.c := hk.resolve_left ha
  obtain ⟨nm, ps, r, hf, hps⟩ : ∃ nm ps r, g.forms kk = (nm, ps) :: r ∧ (ps = [] ∨ kk = g.c ∧ ps = [g.a, g.b]) := by
    rcases hbc with rfl | rfl
    · obtain ⟨n, r, e⟩ := ok.fb0
      exact ⟨n, [], r, by unfold Bk.forms; rw [if_pos rfl, e], .inl rfl⟩
    · obtain ⟨n, r, e⟩ := ok.fc0
      have e2 : g.forms g.c = g.fc := by unfold Bk.forms; rw [if_neg (fun h => ok.bc h.symm), if_pos rfl]
      rcases e with e | e
      · exact ⟨n, _, r, by rw [e2, e], .inl rfl⟩
      · exact ⟨n, _, r, by rw [e2, e], .inr ⟨rfl, rfl⟩⟩
  walk_at "r"
  rename_i af lb lc hf0 rb0 rc0
  obtain ⟨w1, hw1, rw1⟩ := (val_forms ok rb0 rc0).1 hbc
  refine dget_at hf0 hw1 ?_
  have hf1 : ((g.forms kk).map formD)[(0 : Int).toNat]? = some (.tuple [.str nm, partsD ps]) := by rw [hf]; rfl
  walk_at "r"
  rename_i v1 r1 v2 v3 r2 r3
  obtain rfl := r2.inv_str
  refine lc_T (K := K) (fun i e => ∃ t : Th, e = t.d ∧ ∃ k, ps[i]? = some k ∧ (∀ xs is o, t.kd g (g.sig o) xs is k) ∧ t.dep ≤ 1 ∧ t.sz ≤ 1 ∧ ∀ f js, (∀ x ∈ g.calls, x.1 ≠ f) → t.fall f js) r3 (by rcases hps with rfl | ⟨_, rfl⟩ <;> simp) (fun _ => rfl) (fun i v d H1 hd rv s1 Qt hQ => ?_) (fun v9 H9 es s9 r9 hl9 hP => ?_)
  · rcases hps with rfl | ⟨hkc, rfl⟩
    · simp at hd
    · have hn : 2 ≤ n + 1 := h2 hkc
      have hi : i < 2 := by have := (List.getElem?_eq_some_iff.mp hd).1; simpa using this
      have hk1 : ∃ k1, [g.a, g.b][i]? = some k1 ∧ d = .str k1 ∧ k1 ∈ g.kinds ∧ k1 ≠ g.c := by
        rcases (by omega : i = 0 ∨ i = 1) with rfl | rfl
        · exact ⟨g.a, rfl, by simpa using hd.symm, hka, ok.ac⟩
        · exact ⟨g.b, rfl, by simpa using hd.symm, hkb, ok.bc⟩
      obtain ⟨k1, e1, rfl, hm1, hne⟩ := hk1
      obtain rfl := rv.inv_str
      walk_at "r"
      refine use_least (hb.mono (by walk_at "S")) ok hm1 (by omega) (fun e => absurd e hne) fun u t H2 s2 ru hkd hd2 hs2 hlo hfl => ?_
      exact hQ _ _ _ (by walk_at "S") ru ⟨t, rfl, k1, e1, hkd, (hlo hne).1, (hlo hne).2, hfl⟩
  · have hex : ∃ ts : List Th, es = Th.ds ts ∧ (∀ xs is o, Th.kds g (g.sig o) xs is ts ps) ∧ Th.deps ts ≤ 1 ∧ Th.szs ts ≤ 2 ∧ (ps = [] → ts = []) ∧ ∀ f js, (∀ x ∈ g.calls, x.1 ≠ f) → Th.falls f js ts := by
      rw [List.length_map] at hl9
      rcases hps with rfl | ⟨hkc, rfl⟩
      · have : es = [] := List.length_eq_zero_iff.mp (by simpa using hl9)
        subst this
        exact ⟨[], rfl, fun _ _ _ => True.intro, by decide, by decide, fun _ => rfl, fun _ _ _ => True.intro⟩
      · match es, hl9 with
        | [e1, e2], _ =>
          obtain ⟨t1, rfl, k1, hk1, q1, d1, z1, f1⟩ := hP 0 e1 rfl
          obtain ⟨t2, rfl, k2, hk2, q2, d2, z2, f2⟩ := hP 1 e2 rfl
          cases hk1
          cases hk2
          exact ⟨[t1, t2], rfl, fun xs is o => ⟨q1 xs is o, q2 xs is o, True.intro⟩, by simp only [Th.deps]; omega, by simp only [Th.szs]; omega, (fun e => by cases e), fun f js h => ⟨f1 f js h, f2 f js h, True.intro⟩⟩
    obtain ⟨ts, rfl, hkd, hdp, hsz, hnil, hfls⟩ := hex
    walk_at "r"
    rename_i v10 H10 s10 r10 v11 H11 s11 r11
    refine q _ (.app .form nm ts) _ (by walk_at "S") r11 (fun xs is o => ⟨ps, by rw [hf]; simp, hkd xs is o⟩) (by simp only [Th.dep]; omega) (by simp only [Th.sz]; omega) (fun hne => ?_) (fun f js h => hfls f js h)
    have : ps = [] := hps.resolve_right fun h => hne h.1
    rw [hnil this]
    exact ⟨by simp [Th.dep, Th.deps], by simp [Th.sz, Th.szs]⟩
theorem least_n (T : Tp K mg) : ∀ n : Nat, Cal P w K mg base (n + 1) "_law_least" (spLeast K n)
  | 0 => T.d_l_least.none fun vs H Q E h => by obtain ⟨v, g, k, _, _, _, _, h1, _⟩ := h; omega
  | n + 1 => ok_l_least T (least_n T n)

end
end G

end

section












namespace G
open PySem PySem.Spec PyProof.Rows L2
section
variable {P : Program} {w : World} {K : PySem.W.Frag} {mg : Str → Option Value} {base : Heap} {k n : Nat}
theorem ok_l_term (T : Tp K mg) (c_l_next : Cal P w K mg base k "_law_next" spNext) (c_l_least : Cal P w K mg base k "_law_least" (spLeast K 2)) (c_l_term : Cal P w K mg base k "_law_term" (spTermK K n)) : Cal P w K mg base (k + 1) "_law_term" (spTermK K (n + 1)) := by
  refine T.d_l_term.cal sc_l_term (fun vs H Q E h => ?_) (fun f cdv A outer s H vs Q E hr h => ?_)
  · obtain ⟨p, v, vt, vi, vo, g, k, xs, is, e, o, rfl, _⟩ := h; rfl
  obtain ⟨p, v, vt, vi, vo, g, kk, xs, is, e, o, rfl, hp, hb, ok, hk, rt, ri, ro, oo, lx, li, nx, h0, h1, q⟩ := h
  have sc := @sc_l_term
  refine ⟨_, (pss_cons (ps_setLc (i := 7) (own := [("_law_x", 15), ("_law_other", 16)]) (g := gN K [15, 16]) (tt := tHideT _) rfl sc.nd rfl rfl (sw_true rfl rfl rfl (by decide +kernel)) (pi_listK K (pv 3)) (blkOk_by (N := n_l_term) (sc := defScope s_l_term) (by decide +kernel)) (fun _ _ _ _ _ => gtK K (pg_tup (n := 2) rfl (pgs_cons (pg_name (i := 15) sc.nd rfl (Or.inl rfl)) (pgs_cons (pg_name (i := 16) sc.nd rfl (Or.inl rfl)) pgs_nil)))) (fun _ _ _ _ _ => (pts_hide (pt_cmpR (op_eqK K hr) (pv 16) (pv 2) (nomark _)))) (fun _ _ _ _ _ => pe_hide (pe_tupK K (pa_cons pe_str (pa_cons (pv 15) pa_nil)))))
      (pss_cons (ps_set (i := 7) sc.nd rfl (Or.inl rfl) (pe_op (op_addK K) (pv 7) (pe_lc (own := [("_law_k", 17), ("_law_other", 16)]) (g := g2 K 17 16) (tt := tHideT _) rfl sc.nd (pi_enumLK K rfl T.n_enumerate (pa_cons (pv 4) pa_nil)) (blkOk_by (N := n_l_term) (sc := defScope s_l_term) (by decide +kernel)) (fun _ _ _ _ _ => gtK K (pg_tup (n := 2) rfl (pgs_cons (pg_name (i := 17) sc.nd rfl (Or.inl rfl)) (pgs_cons (pg_name (i := 16) sc.nd rfl (Or.inl rfl)) pgs_nil)))) (fun _ _ _ _ _ => (pts_hide (pt_cmpR (op_eqK K hr) (pv 16) (pv 2) (nomark _)))) (fun _ _ _ _ _ => pe_hide (pe_tupK K (pa_cons pe_str (pa_cons (pv 17) pa_nil)))))))
      (pss_cons (ps_set (i := 8) sc.nd rfl (Or.inl rfl) (pe_c c_l_next hr (Nat.le_refl _) rfl (pa_cons (pv 0) (pa_cons pe_int pa_nil))))
      (pss_cons (ps_if (PW.pt (pw_and (pt_cmpR (op_neK K hr) (pv 7) (pe_lstK K pa_nil) (nomark _)) (pw_and1 (PW.pt (pw_or (pt_cmpR (op_eqK K hr) (pv 5) pe_int (nomark _)) (pw_or1 (pt_cmpR (op_eqK K hr) (pv 8) pe_int (nomark _)))))))) (pss_one (ps_ret (pe_ix (ix_K K) (pv 7) (pe_c c_l_next hr (Nat.le_refl _) rfl (pa_cons (pv 0) (pa_cons (pe_callB (len_K K) rfl T.n_len bt_len (pa_cons (pv 7) pa_nil)) pa_nil))) (fun _ _ => rfl)))) pss_nil)
      (pss_cons (ps_if (pt_cmpR (op_eqK K hr) (pv 5) pe_int (nomark _)) (pss_one (ps_ret (pe_c c_l_least hr (Nat.le_refl _) rfl (pa_cons (pv 1) (pa_cons (pv 2) pa_nil))))) pss_nil)
      (pss_cons (ps_if (PW.pt (pw_and (pt_cmpR op_nisU (pv 6) pe_non (nomark _)) (pw_and (pt_cmpR (op_eqK K hr) (pe_ix (ix_K K) (pv 6) pe_int (fun _ _ => rfl)) (pv 2) (nomark _)) (pw_and (pt_cmpR (op_neK K hr) (pe_ix (ix_K K) (pv 6) pe_int (fun _ _ => rfl)) (pe_lstK K pa_nil) (nomark _)) (pw_and1 (pt_cmpR (op_eqK K hr) (pv 8) pe_int (nomark _))))))) (pss_cons (ps_set (i := 9) sc.nd rfl (Or.inl rfl) (pe_tupK K (pa_cons pe_str (pa_cons (pe_ix (ix_K K) (pe_ix (ix_K K) (pv 6) pe_int (fun _ _ => rfl)) (pe_c c_l_next hr (Nat.le_refl _) rfl (pa_cons (pv 0) (pa_cons (pe_callB (len_K K) rfl T.n_len bt_len (pa_cons (pe_ix (ix_K K) (pv 6) pe_int (fun _ _ => rfl)) pa_nil)) pa_nil))) (fun _ _ => rfl)) pa_nil))))
      (pss_cons (ps_setLc (i := 10) (own := [("_law_part", 18)]) (g := gName 18) (tt := tYes) rfl sc.nd rfl rfl (sw_true rfl rfl rfl (by decide +kernel)) (pi_tupK K (pe_slice (sl_K K) (pe_ix (ix_K K) (pv 6) pe_int (fun _ _ => rfl)) (po_some pe_int) po_none)) (blkOk_by (N := n_l_term) (sc := defScope s_l_term) (by decide +kernel)) (fun _ _ _ _ _ => pg_name (i := 18) sc.nd rfl (Or.inl rfl)) (fun _ _ _ _ _ => pts_nil) (fun _ _ _ _ _ => pe_hide (pe_c c_l_term hr (Nat.le_refl _) rfl (pa_cons (pv 0) (pa_cons (pv 1) (pa_cons (pv 18) (pa_cons (pv 3) (pa_cons (pv 4) (pa_cons (pe_op op_sub (pv 5) pe_int) (pa_cons (pv 6) pa_nil))))))))))
      (pss_one (ps_ret (pe_tupK K (pa_cons pe_str (pa_cons (pe_ix (ix_K K) (pv 6) pe_int (fun _ _ => rfl)) (pa_cons (pe_op (op_addK K) (pe_tupK K (pa_cons (pv 9) pa_nil)) (tupleOf_K K rfl T.n_tuple (pv 10))) pa_nil)))))))) pss_nil)
      (pss_cons (ps_setLc (i := 11) (own := [("_law_name", 13), ("_law_parts", 14)]) (g := g2 K 13 14) (tt := tYes) rfl sc.nd rfl rfl (sw_true rfl rfl rfl (by decide +kernel)) (pi_listK K (pe_dget2H hr (pe_ix (ix_K K) (pv 1) pe_int (fun _ _ => rfl)) (pv 2) (pe_lstK K pa_nil) ⟨rfl, rfl, rfl, rfl⟩)) (blkOk_by (N := n_l_term) (sc := defScope s_l_term) (by decide +kernel)) (fun _ _ _ _ _ => gtK K (pg_tup (n := 2) rfl (pgs_cons (pg_name (i := 13) sc.nd rfl (Or.inl rfl)) (pgs_cons (pg_name (i := 14) sc.nd rfl (Or.inl rfl)) pgs_nil)))) (fun _ _ _ _ _ => pts_nil) (fun _ _ _ _ _ => pe_hide (pe_tupK K (pa_cons pe_str (pa_cons (pv 13) (pa_cons (pv 14) pa_nil))))))
      (pss_cons (ps_set (i := 11) sc.nd rfl (Or.inl rfl) (pe_op (op_addK K) (pv 11) (pe_lc (own := [("_law_f", 19), ("_law_parts", 14), ("_law_other", 16)]) (g := gN K [19, 14, 16]) (tt := tHideT _) rfl sc.nd (pi_listK K (pe_ix (ix_K K) (pv 1) pe_int (fun _ _ => rfl))) (blkOk_by (N := n_l_term) (sc := defScope s_l_term) (by decide +kernel)) (fun _ _ _ _ _ => gtK K (pg_tup (n := 3) rfl (pgs_cons (pg_name (i := 19) sc.nd rfl (Or.inl rfl)) (pgs_cons (pg_name (i := 14) sc.nd rfl (Or.inl rfl)) (pgs_cons (pg_name (i := 16) sc.nd rfl (Or.inl rfl)) pgs_nil))))) (fun _ _ _ _ _ => (pts_hide (pt_cmpR (op_eqK K hr) (pv 16) (pv 2) (nomark _)))) (fun _ _ _ _ _ => pe_hide (pe_tupK K (pa_cons pe_str (pa_cons (pv 19) (pa_cons (pv 14) pa_nil))))))))
      (pss_cons (ps_asg (pe_ix (ix_K K) (pv 11) (pe_c c_l_next hr (Nat.le_refl _) rfl (pa_cons (pv 0) (pa_cons (pe_callB (len_K K) rfl T.n_len bt_len (pa_cons (pv 11) pa_nil)) pa_nil))) (fun _ _ => rfl)) (gtK K (pg_tup (n := 3) rfl (pgs_cons (pg_name (i := 12) sc.nd rfl (Or.inl rfl)) (pgs_cons (pg_name (i := 13) sc.nd rfl (Or.inl rfl)) (pgs_cons (pg_name (i := 14) sc.nd rfl (Or.inl rfl)) pgs_nil))))))
      (pss_one (ps_ret (pe_tupK K (pa_cons (pv 12) (pa_cons (pv 13) (pa_cons (tupleOf_K K rfl T.n_tuple (pe_lc (own := [("_law_part", 18)]) (g := gName 18) (tt := tYes) rfl sc.nd (pi_tupK K (pv 14)) (blkOk_by (N := n_l_term) (sc := defScope s_l_term) (by decide +kernel)) (fun _ _ _ _ _ => pg_name (i := 18) sc.nd rfl (Or.inl rfl)) (fun _ _ _ _ _ => pts_nil) (fun _ _ _ _ _ => pe_hide (pe_c c_l_term hr (Nat.le_refl _) rfl (pa_cons (pv 0) (pa_cons (pv 1) (pa_cons (pv 18) (pa_cons (pv 3) (pa_cons (pv 4) (pa_cons (pe_op op_sub (pv 5) pe_int) (pa_cons (pv 6) pa_nil))))))))))) pa_nil))))))))))))))), ?_⟩
  have sok := sig_ok ok oo
  have hfo : ∀ t : Th, (∀ f js, t.fall f js) → Th.fallO o t := fun t h => by
    rcases o with _ | ⟨f, ks, k, js⟩
    · exact True.intro
    · exact h f js
  have hfc : ∀ t : Th, (∀ f js, (∀ x ∈ g.calls, x.1 ≠ f) → t.fall f js) → Th.fallO o t := fun t h => by
    rcases o with _ | ⟨f, ks, k, js⟩
    · exact True.intro
    · exact h f js (oo.ok f ks k js rfl).2.2.2.2.2.2.2
  have hfa : ∀ (w : AW) (c : Str) (ts : List Th), (w = .form ∨ (w = .call ∧ ∃ x ∈ g.calls, x.1 = c)) → (∀ t ∈ ts, Th.fallO o t) → Th.fallO o (.app w c ts) := fun w c ts hw ht => by
    rcases o with _ | ⟨f, ks, k, js⟩
    · exact True.intro
    · have hts : Th.falls f js ts := Th.falls_all.mpr ht
      rcases hw with rfl | ⟨rfl, x, hx, rfl⟩
      · exact hts
      · exact ⟨fun e => absurd e ((oo.ok f ks k js rfl).2.2.2.2.2.2.2 x hx), hts⟩
  have layk : ∀ t : Th, t.kd g (g.sig o) xs is kk → t.d.canLay0 = true := fun t h => Th.layT t (Th.kd_isT ok sok nx t h)
  walk_at "r"
  refine lcLT (K := K) (is := [15, 16]) (thK kk) thF rt (by rw [List.length_map]; omega) (fun ws => by rcases ws with _ | ⟨_, _ | ⟨_, _⟩⟩ <;> rfl)
    (fun d hd => by obtain ⟨x, _, rfl⟩ := List.mem_map.mp hd; exact ⟨_, rfl, rfl⟩) (fun ws cs H1 hd hl rws s1 Qt hQ => ?_) (fun ws cs H1 hd hl hpd rws s1 Qt hQ => ?_) (fun v7 H1 s1 r1 => ?_)
  · obtain ⟨x, _, e⟩ := List.mem_map.mp hd
    cases e
    obtain ⟨v1, ws, rfl, q1, rws⟩ := rws.inv_cons
    obtain ⟨v2, ws, rfl, q2, rws⟩ := rws.inv_cons
    obtain rfl := rws.inv_nil
    obtain rfl := q1.inv_str
    obtain rfl := q2.inv_str
    walk_at "r"
    exact hQ _ (by walk_at "S")
  · obtain ⟨x, _, e⟩ := List.mem_map.mp hd
    cases e
    obtain ⟨v1, ws, rfl, q1, rws⟩ := rws.inv_cons
    obtain ⟨v2, ws, rfl, q2, rws⟩ := rws.inv_cons
    obtain rfl := rws.inv_nil
    obtain rfl := q1.inv_str
    walk_at "r"
    rename_i v3 H3 s3 r3
    exact hQ _ _ (by walk_at "S") r3
  walk_at "r"
  refine lcET (K := K) (inK kk) inF (ri.mono (by walk_at "S")) (by rw [List.length_map]; omega) (fun _ _ => rfl) (fun j v2 d H2 hd rv s2 Qt hQ => ?_) (fun j v2 d H2 hd hpd rv s2 Qt hQ => ?_) (fun v8 H2 s2 r2 => ?_)
  · rw [List.getElem?_map] at hd
    obtain ⟨x, _, rfl⟩ := Option.map_eq_some_iff.mp hd
    obtain rfl := rv.inv_str
    walk_at "r"
    exact hQ _ (by walk_at "S")
  · walk_at "r"
    rename_i v3 H3 s3 r3
    exact hQ _ _ (by walk_at "S") r3
  have lf : ∀ d ∈ ((xs.map thingD).filter (thK kk)).map thF ++ ((is.map PyData.str).zipIdx.filter fun x => inK kk x.2 x.1).map (fun x => inF x.2 x.1), IsLeaf g (g.sig o) xs is kk d := fun d hd => by
    rcases List.mem_append.mp hd with h | h
    · exact leaf_th d h
    · exact leaf_in d h
  have ll1 : (((xs.map thingD).filter (thK kk)).map thF).length ≤ 100 := by
    rw [List.length_map]; exact Nat.le_trans (List.length_filter_le _ _) (by rw [List.length_map]; exact lx)
  have ll2 : (((is.map PyData.str).zipIdx.filter fun x => inK kk x.2 x.1).map (fun x => inF x.2 x.1)).length ≤ 100 := by
    rw [List.length_map]; exact Nat.le_trans (List.length_filter_le _ _) (by rw [List.length_zipIdx, List.length_map]; exact li)
  refine add_lst (r1.mono (by walk_at "S")) r2 (by omega) fun v9 H3 s3 r3 => ?_
  have ll : (((xs.map thingD).filter (thK kk)).map thF ++ ((is.map PyData.str).zipIdx.filter fun x => inK kk x.2 x.1).map (fun x => inF x.2 x.1)).length ≤ 200 := by rw [List.length_append]; omega
  generalize ((xs.map thingD).filter (thK kk)).map thF ++ ((is.map PyData.str).zipIdx.filter fun x => inK kk x.2 x.1).map (fun x => inF x.2 x.1) = L at lf ll r3
  have layL : (PyData.list L).canLay0 = true := by
    simp only [PyData.canLay0]
    refine layAll fun d hd => ?_
    obtain ⟨t, rfl, hkd, _⟩ := lf d hd
    exact layk t hkd
  have zk := szK_pos e.toNat
  have s03 : Same H H3 := by walk_at "S"
  walk_at "u"
  rename_i rp H4 s4 hp0 hp1
  refine if_join (fun P hP => ?_) fun H5 s5 => ?_
  · walk_at "r"
    rename_i v10 H5 s5 r10
    refine ne_R (r3.mono (by walk_at "S")) r10 layL rfl (by show min _ 1 ≤ 190; omega) ?_
    rw [eqv_nilL]
    have r9 : R K H5 v9 (.list L) := r3.mono (s4.trans s5)
    cases hL : L.isEmpty
    · have hpos : 0 < L.length := List.length_pos_iff.mpr (fun e => by rw [e] at hL; cases hL)
      walk_at "r"
      all_goals first
        | exact hP _ (by walk_at "S")
        | (rename_i hd11 r11
           obtain ⟨t, rfl, hkd, hd1, hz1, hfl⟩ := lf _ (List.mem_of_getElem? hd11)
           exact q _ t _ (by walk_at "S") r11 hkd (by omega) (by omega) (hfo t hfl))
    · walk_at "r"
      exact hP _ (by walk_at "S")
  walk_at "u"
  refine if_joinA (e ≠ 0) (fun P hP => ?_) fun he0 H6 s6 => ?_
  · walk_at "r"
    · refine use_least (by walk_at "B") ok hk (by decide) (fun _ => by decide) fun u t H6 s6 ru hkd hd2 hs2 hlo hfl => ?_
      exact q _ t _ (by walk_at "S") ru (hkd _ _ _) (by omega) (by omega) (hfc t hfl)
    · exact hP (by assumption) _ (by walk_at "S")
  have hsz : szK e.toNat = 1 + 4 * szK (e - 1).toNat := by
    have : e.toNat = (e - 1).toNat + 1 := by omega
    rw [this]; rfl
  walk_at "u"
  refine if_join (fun P hP => ?_) fun H7 s7 => ?_
  · rcases o with _ | ⟨fo, ks, k2, js⟩
    · obtain rfl := R.inv_non ro
      walk_at "r"
      exact hP _ (by walk_at "S")
    · have ro' : R K H6 vo (.tuple [.str fo, partsD ks, .str k2, .list (js.map fun j : Nat => PyData.int (j : Int))]) := R.mono (H := H) (by walk_at "S") ro
      obtain ⟨n1, n2, n3, n4, n5, n6, n7, n8⟩ := oo.ok fo ks k2 js rfl
      have layj : (PyData.list (js.map fun j : Nat => PyData.int (j : Int))).canLay0 = true := by
        simp only [PyData.canLay0]
        refine layAll fun d hd => ?_
        obtain ⟨j, _, rfl⟩ := List.mem_map.mp hd
        rfl
      walk_at "r"
      · rename_i hk2 w3 r3' w4 H7 s7 r4
        refine ne_R (r3'.mono (by walk_at "S")) r4 layj rfl (by show min _ 1 ≤ 190; omega) ?_
        rw [eqv_nilL]
        cases hj : (js.map fun j : Nat => PyData.int (j : Int)).isEmpty
        · have hpos : 0 < (js.map fun j : Nat => PyData.int (j : Int)).length := List.length_pos_iff.mpr (fun e => by rw [e] at hj; cases hj)
          have hjl : (js.map fun j : Nat => PyData.int (j : Int)).length ≤ 100 := by rw [List.length_map]; exact n6
          walk_at "r"
          · rename_i rk H8 s8 hrk0 hrk1 vj dj hdj rj w9 H9 s9 r9 w10 r10a w10b H10 s10 r10
            rw [List.getElem?_map] at hdj
            obtain ⟨j, hjm, rfl⟩ := Option.map_eq_some_iff.mp hdj
            obtain rfl := rj.inv_int
            have hjis := n7 j (List.mem_of_getElem? hjm)
            rw [cutD_1, ← List.map_drop] at r10
            have hkl : (ks.drop 1).length ≤ 3 := by rw [List.length_drop]; omega
            refine lc_T (K := K) (fun i e' => ∃ t : Th, e' = t.d ∧ (∃ k, (ks.drop 1)[i]? = some k ∧ t.kd g (g.sig (some (fo, ks, k2, js))) xs is k ∧ t.dep ≤ (e - 1).toNat + 2 ∧ t.sz ≤ szK (e - 1).toNat) ∧ Th.fallO (some (fo, ks, k2, js)) t) r10 (by rw [List.length_map]; omega) (fun _ => rfl) (fun i v d H11 hd rv s11 Qt hQ => ?_) (fun v11 H11 es s11 r11 hl11 hP11 => ?_)
            · rw [List.getElem?_map] at hd
              obtain ⟨k1, hk1, rfl⟩ := Option.map_eq_some_iff.mp hd
              obtain rfl := rv.inv_str
              walk_at "r"
              refine use_termKF (by walk_at "P") (by walk_at "B") ok (n4 k1 (List.mem_of_mem_drop (List.mem_of_getElem? hk1))) (rt.mono (by walk_at "S")) (ri.mono (by walk_at "S")) (ro.mono (by walk_at "S")) oo lx li nx (by omega) (by omega) fun u t H12 s12 ru hkd hd2 hs2 hfl => ?_
              exact hQ _ _ _ (by walk_at "S") ru ⟨t, rfl, ⟨k1, hk1, hkd, hd2, hs2⟩, hfl⟩
            obtain ⟨ts, rfl, hkds, hdp, hsz2, hfts⟩ := terms_ofP (by rw [hl11, List.length_map]) hP11
            have hz3 : (ks.drop 1).length * szK (e - 1).toNat ≤ 3 * szK (e - 1).toNat := Nat.mul_le_mul_right _ hkl
            have hz4 := szK_pos (e - 1).toNat
            have htl := kds_len hkds
            have htl2 : (Th.ds ts).length = ts.length := by rw [Th.ds_map, List.length_map]
            walk_at "r"
            rename_i w12 H12 s12 r12 w13 H13 s13 r13 w14 H14 s14 r14 w15 H15 s15 r15
            have hk0 : ∃ k0 kr, ks = k0 :: kr := by
              rcases ks with _ | ⟨k0, kr⟩
              · simp at n2
              · exact ⟨k0, kr, rfl⟩
            obtain ⟨k0, kr, rfl⟩ := hk0
            refine q _ (.app .call fo (.bnd j :: ts)) _ (by walk_at "S") r15 ⟨k0 :: kr, by rw [hk2]; exact List.mem_append_right _ (by simp), hjis, hkds⟩ ?_ ?_ ⟨fun _ => ⟨j, rfl, List.mem_of_getElem? hjm⟩, True.intro, Th.falls_all.mpr hfts⟩
            · simp only [Th.dep, Th.deps]; omega
            · simp only [Th.sz, Th.szs]; omega
          · exact hP _ (by walk_at "S")
        · walk_at "r"
          exact hP _ (by walk_at "S")
      · exact hP _ (by walk_at "S")
  walk_at "r"
  rename_i af lb lc hf0 rb0 rc0
  refine ⟨af, rfl, isD_k hf0, ?_⟩
  walk_at "r"
  rename_i w8 H8 s8 r8
  refine dget_o (s8 _ _ hf0) ?_
  have ff := forms_ok ok kk
  refine lcLY (K := K) foF (forms_get (kk := kk) ok (rb0.mono s8) (rc0.mono s8) r8) (by rw [List.length_map]; have := ff.len; omega) (fun _ _ => rfl) (fun d hd => by obtain ⟨x, _, rfl⟩ := List.mem_map.mp hd; exact ⟨_, _, rfl⟩) (fun v1 v2 d1 d2 H9 hd r1 r2 s9 Qt hQ => ?_) (fun w9 H9 s9 r9 => ?_)
  · obtain ⟨x, _, e'⟩ := List.mem_map.mp hd
    cases e'
    walk_at "r"
    rename_i v3 H3 s3 r3
    exact hQ _ _ (by walk_at "S") r3
  walk_at "r"
  rename_i w10 r10
  refine lcLT (K := K) (is := [19, 14, 16]) (caK kk) caF r10 (by rw [List.length_map]; have := ok.cl; omega) (fun ws => by rcases ws with _ | ⟨_, _ | ⟨_, _ | ⟨_, _⟩⟩⟩ <;> rfl)
    (fun d hd => by obtain ⟨x, _, rfl⟩ := List.mem_map.mp hd; exact ⟨_, rfl, rfl⟩) (fun ws cs H1 hd hl rws s1 Qt hQ => ?_) (fun ws cs H1 hd hl hpd rws s1 Qt hQ => ?_) (fun w11 H10 s10 r11 => ?_)
  · obtain ⟨x, _, e'⟩ := List.mem_map.mp hd
    cases e'
    obtain ⟨v1, ws, rfl, q1, rws⟩ := rws.inv_cons
    obtain ⟨v2, ws, rfl, q2, rws⟩ := rws.inv_cons
    obtain ⟨v3, ws, rfl, q3, rws⟩ := rws.inv_cons
    obtain rfl := rws.inv_nil
    obtain rfl := q1.inv_str
    obtain rfl := q3.inv_str
    walk_at "r"
    exact hQ _ (by walk_at "S")
  · obtain ⟨x, _, e'⟩ := List.mem_map.mp hd
    cases e'
    obtain ⟨v1, ws, rfl, q1, rws⟩ := rws.inv_cons
    obtain ⟨v2, ws, rfl, q2, rws⟩ := rws.inv_cons
    obtain ⟨v3, ws, rfl, q3, rws⟩ := rws.inv_cons
    obtain rfl := rws.inv_nil
    obtain rfl := q1.inv_str
    walk_at "r"
    rename_i v4 H4 s4 r4
    exact hQ _ _ (by walk_at "S") r4
  have hway : ∀ d ∈ ((g.forms kk).map formD).map foF ++ ((g.calls.map callD).filter (caK kk)).map caF, IsWay g (g.sig o) kk d := fun d hd => by
    rcases List.mem_append.mp hd with h | h
    · exact way_form ok d h
    · exact way_call ok d h
  have hwp := ways_pos ok hk
  have hwl1 : (((g.forms kk).map formD).map foF).length ≤ 4 := by rw [List.length_map, List.length_map]; exact ff.len
  have hwl2 : (((g.calls.map callD).filter (caK kk)).map caF).length ≤ 100 := by
    rw [List.length_map]; exact Nat.le_trans (List.length_filter_le _ _) (by rw [List.length_map]; exact ok.cl)
  have hwl : (((g.forms kk).map formD).map foF ++ ((g.calls.map callD).filter (caK kk)).map caF).length ≤ 104 := by rw [List.length_append]; omega
  refine add_lst (r9.mono (by walk_at "S")) r11 (by omega) fun w12 H11 s11 r12 => ?_
  generalize ((g.forms kk).map formD).map foF ++ ((g.calls.map callD).filter (caK kk)).map caF = W at hway hwp hwl r12
  walk_at "r"
  rename_i rk H12 s12 hrk0 hrk1 vw dw hdw rw1
  obtain ⟨aw, c, ps, rfl, hpl, hpk, hway2, hwc⟩ := hway dw (List.mem_of_getElem? hdw)
  refine gtup3 rw1 fun u1 u2 u3 q1 q2 q3 => ?_
  obtain rfl := q1.inv_str
  obtain rfl := q2.inv_str
  walk_at "r"
  refine lc_T (K := K) (fun i e' => ∃ t : Th, e' = t.d ∧ (∃ k, ps[i]? = some k ∧ t.kd g (g.sig o) xs is k ∧ t.dep ≤ (e - 1).toNat + 2 ∧ t.sz ≤ szK (e - 1).toNat) ∧ Th.fallO o t) q3 (by rw [List.length_map]; omega) (fun _ => rfl) (fun i v d H13 hd rv s13 Qt hQ => ?_) (fun v13 H13 es s13 r13 hl13 hP13 => ?_)
  · rw [List.getElem?_map] at hd
    obtain ⟨k1, hk1, rfl⟩ := Option.map_eq_some_iff.mp hd
    obtain rfl := rv.inv_str
    walk_at "r"
    refine use_termKF (by walk_at "P") (by walk_at "B") ok (hpk k1 (List.mem_of_getElem? hk1)) (rt.mono (by walk_at "S")) (ri.mono (by walk_at "S")) (ro.mono (by walk_at "S")) oo lx li nx (by omega) (by omega) fun u t H14 s14 ru hkd hd2 hs2 hfl => ?_
    exact hQ _ _ _ (by walk_at "S") ru ⟨t, rfl, ⟨k1, hk1, hkd, hd2, hs2⟩, hfl⟩
  obtain ⟨ts, rfl, hkds, hdp, hsz2, hfts⟩ := terms_ofP (by rw [hl13, List.length_map]) hP13
  have hz3 : ps.length * szK (e - 1).toNat ≤ 4 * szK (e - 1).toNat := Nat.mul_le_mul_right _ hpl
  walk_at "r"
  rename_i w14 H14 s14 r14 w15 H15 s15 r15
  refine q _ (.app aw c ts) _ (by walk_at "S") r15 (hway2 xs is ts hkds) ?_ ?_ (hfa aw c ts hwc hfts)
  · simp only [Th.dep]; omega
  · simp only [Th.sz]; omega
theorem termK_n (T : Tp K mg) : ∀ n : Nat, Cal P w K mg base (n + 4) "_law_term" (spTermK K n)
  | 0 => T.d_l_term.none fun vs H Q E h => by obtain ⟨p, v, vt, vi, vo, g, k, xs, is, e, o, _, _, _, _, _, _, _, _, _, _, _, _, h0, h1, _⟩ := h; omega
  | n + 1 => ok_l_term T ((ok_l_next (k := 0) T).lift (by omega)) ((least_n T 2).lift (by omega)) (termK_n T n)

end
end G

end

end
section
/-! the words of the walk: S (a heap keeps), R (a value stands for data), A (a row of them), no (a way that cannot be), s (one step), r (all steps) -/
local macro_rules | `(tactic| walk_at "S") => `(tactic| first | exact G.sm_tr (by assumption) (by walk_at "S") | fail "no")
local macro_rules | `(tactic| walk_at "S") => `(tactic| first | assumption | fail "no")
local macro_rules | `(tactic| walk_at "S") => `(tactic| first | exact L2.Same.refl _ | fail "no")
local macro_rules | `(tactic| walk_at "R") => `(tactic| first | ((with_reducible refine' G.R.lst L2.upd_same ?rl); (case rl => walk_at "A")) | fail "no")
local macro_rules | `(tactic| walk_at "R") => `(tactic| first | exact G.r_mono (by with_reducible assumption) (by walk_at "S") | fail "no")
local macro_rules | `(tactic| walk_at "R") => `(tactic| first | with_reducible assumption | fail "no")
local macro_rules | `(tactic| walk_at "R") => `(tactic| first | with_reducible exact G.R.non | fail "no")
local macro_rules | `(tactic| walk_at "R") => `(tactic| first | with_reducible exact G.R.bl _ | fail "no")
local macro_rules | `(tactic| walk_at "R") => `(tactic| first | with_reducible exact G.R.str _ | fail "no")
local macro_rules | `(tactic| walk_at "R") => `(tactic| first | with_reducible exact G.R.int _ | fail "no")
local macro_rules | `(tactic| walk_at "A") => `(tactic| first | ((with_reducible refine' G.RA.cons ?ra ?rb); (case ra => walk_at "R"); (case rb => walk_at "A")) | fail "no")
local macro_rules | `(tactic| walk_at "A") => `(tactic| first | with_reducible exact G.RA.nil | fail "no")
local macro_rules | `(tactic| walk_at "no") => `(tactic| first | omega | fail "no")
local macro_rules | `(tactic| walk_at "no") => `(tactic| first | contradiction | fail "no")
local macro_rules | `(tactic| walk_at "side") => `(tactic| first | (simp only [List.length_cons, List.length_nil, List.length_map, List.length_append] at *; omega) | fail "no")
local macro_rules | `(tactic| walk_at "side") => `(tactic| first | (simp only [List.length_cons, List.length_nil, List.getElem?_cons_zero, List.getElem?_cons_succ, List.length_map]; done) | fail "no")
local macro_rules | `(tactic| walk_at "side") => `(tactic| first | ((with_reducible refine G.le_up ?_); decide +kernel) | fail "no")
local macro_rules | `(tactic| walk_at "side") => `(tactic| first | exact Int.lt_of_lt_of_le (by with_reducible assumption) (by decide +kernel) | fail "no")
local macro_rules | `(tactic| walk_at "side") => `(tactic| first | omega | fail "no")
local macro_rules | `(tactic| walk_at "side") => `(tactic| first | with_reducible assumption | fail "no")
local macro_rules | `(tactic| walk_at "side") => `(tactic| first | with_reducible rfl | fail "no")
local macro_rules | `(tactic| walk_at "sideC") => `(tactic| first | omega | fail "no")
local macro_rules | `(tactic| walk_at "sideC") => `(tactic| first | (with_reducible refine G.cdiv_r ⟨?_, ?_⟩ <;> omega) | fail "no")
local macro_rules | `(tactic| walk_at "sideC") => `(tactic| first | (with_reducible refine G.cmul_r ⟨?_, ?_⟩ <;> omega) | fail "no")
local macro_rules | `(tactic| walk_at "sideC") => `(tactic| first | (with_reducible refine G.cpow_c ⟨?_, ?_, ?_⟩ <;> decide) | fail "no")
local macro_rules | `(tactic| walk_at "sideC") => `(tactic| first | (with_reducible refine G.cmul_l ⟨?_, ?_⟩ <;> decide) | fail "no")
local macro_rules | `(tactic| walk_at "sideC") => `(tactic| first | (with_reducible refine G.cdiv_r ⟨?_, ?_⟩ <;> decide) | fail "no")
local macro_rules | `(tactic| walk_at "sideC") => `(tactic| first | (with_reducible refine G.cmul_r ⟨?_, ?_⟩ <;> decide) | fail "no")
local macro_rules | `(tactic| walk_at "sideC") => `(tactic| first | with_reducible assumption | fail "no")
local macro_rules | `(tactic| walk_at "got") => `(tactic| (intro v0 r0; first
  | (have e0 := G.R.inv_str r0; subst e0) | (have e0 := G.R.inv_int r0; subst e0) | (have e0 := G.R.inv_bl r0; subst e0) | (have e0 := G.R.inv_non r0; subst e0) | skip))
local macro_rules | `(tactic| walk_at "P") => `(tactic| first | exact G.keep_at (by with_reducible assumption) (by walk_at "S") | fail "no")
local macro_rules | `(tactic| walk_at "P") => `(tactic| first | with_reducible assumption | fail "no")
local macro_rules | `(tactic| walk_at "c") => `(tactic| fail)
local macro_rules | `(tactic| walk_at "Q") => `(tactic| first | exact G.seq_keep (by with_reducible assumption) (by walk_at "S") | fail "no")
local macro_rules | `(tactic| walk_at "Q") => `(tactic| first | with_reducible assumption | fail "no")
local macro_rules | `(tactic| walk_at "c") => `(tactic| ((with_reducible refine' G.use_state ?hp ?h0 ?h1 ?_); (case hp => walk_at "Q"); (case h0 => walk_at "side"); (case h1 => walk_at "side"); intro p0 H0 s0 hp0))
local macro_rules | `(tactic| walk_at "c") => `(tactic| ((with_reducible refine' G.use_draw ?hp ?h0 ?h1 ?_); (case hp => walk_at "P"); (case h0 => walk_at "side"); (case h1 => walk_at "side"); intro r0 hr0 hr1))
local macro_rules | `(tactic| walk_at "s") => `(tactic| first | walk_at "c" | fail "no")
local macro_rules | `(tactic| walk_at "s") => `(tactic| first | (with_reducible refine' G.st_disp1 ?_; intro v0 H0 s0 r0) | fail "no")
local macro_rules | `(tactic| walk_at "s") => `(tactic| first | ((with_reducible refine' G.sl_scr ?s ?_); (case s => walk_at "Q"); intro v0 H0 s0 r0) | fail "no")
local macro_rules | `(tactic| walk_at "s") => `(tactic| first | ((with_reducible refine' G.ix_scr ?s ?h0 ?h1 ?_); (case s => walk_at "Q"); (case h0 => walk_at "side"); (case h1 => walk_at "side"); intro n0) | fail "no")
local macro_rules | `(tactic| walk_at "s") => `(tactic| first | ((with_reducible refine' G.len_scr ?s ?_); (case s => walk_at "Q")) | fail "no")
local macro_rules | `(tactic| walk_at "s") => `(tactic| first | with_reducible refine G.st_forR ?_ | fail "no")
local macro_rules | `(tactic| walk_at "s") => `(tactic| first | with_reducible refine G.st_shut ?_ | fail "no")
local macro_rules | `(tactic| walk_at "s") => `(tactic| first | with_reducible refine G.st_lst2 ?_ | fail "no")
local macro_rules | `(tactic| walk_at "s") => `(tactic| first | ((with_reducible refine' G.set_at ?hp ?hi ?_); (case hp => first | exact L2.upd_same | walk_at "P"); (case hi => rfl)) | fail "no")
local macro_rules | `(tactic| walk_at "s") => `(tactic| first | ((with_reducible refine' G.set_21 ?hp ?_); (case hp => first | exact L2.upd_same | walk_at "P")) | fail "no")
local macro_rules | `(tactic| walk_at "s") => `(tactic| first | ((with_reducible refine' G.set_20 ?hp ?_); (case hp => first | exact L2.upd_same | walk_at "P")) | fail "no")
local macro_rules | `(tactic| walk_at "s") => `(tactic| first | (with_reducible refine G.st_sub ?_) | fail "no")
local macro_rules | `(tactic| walk_at "s") => `(tactic| first | (with_reducible refine G.st_strAnd ?_) | fail "no")
local macro_rules | `(tactic| walk_at "s") => `(tactic| first | ((with_reducible refine' G.upper_R ?l ?_); (case l => walk_at "side")) | fail "no")
local macro_rules | `(tactic| walk_at "s") => `(tactic| first | (with_reducible refine G.upper_one ?_; intro hu0) | fail "no")
local macro_rules | `(tactic| walk_at "s") => `(tactic| first | with_reducible refine G.st_M1 ?_ | fail "no")
local macro_rules | `(tactic| walk_at "s") => `(tactic| first | with_reducible refine G.st_M0 ?_ | fail "no")
local macro_rules | `(tactic| walk_at "s") => `(tactic| first | with_reducible refine G.st_lcR ?_ | fail "no")
local macro_rules | `(tactic| walk_at "s") => `(tactic| first | with_reducible refine G.st_lcS ?_ | fail "no")
local macro_rules | `(tactic| walk_at "s") => `(tactic| first | with_reducible refine G.st_lcT ?_ | fail "no")
local macro_rules | `(tactic| walk_at "s") => `(tactic| first | with_reducible refine G.st_lcL ?_ | fail "no")
local macro_rules | `(tactic| walk_at "s") => `(tactic| first | ((with_reducible refine' G.lstOf_L ?r ?_); (case r => walk_at "R"); intro v0 H0 s0 r0) | fail "no")
local macro_rules | `(tactic| walk_at "s") => `(tactic| first | ((with_reducible refine' G.lstOf_T ?r ?_); (case r => walk_at "R"); intro v0 H0 s0 r0) | fail "no")
local macro_rules | `(tactic| walk_at "s") => `(tactic| first | ((with_reducible refine' G.tupOf_T ?r ?_); (case r => walk_at "R")) | fail "no")
local macro_rules | `(tactic| walk_at "s") => `(tactic| first | ((with_reducible refine' G.tupOf_L ?r ?_); (case r => walk_at "R"); intro v0 H0 s0 r0) | fail "no")
local macro_rules | `(tactic| walk_at "s") => `(tactic| first | ((with_reducible refine' G.sl_lstR ?r ?_); (case r => walk_at "R"); intro v0 H0 s0 r0) | fail "no")
local macro_rules | `(tactic| walk_at "s") => `(tactic| first | ((with_reducible refine' G.sl_tupR ?r ?_); (case r => walk_at "R"); intro v0 H0 s0 r0) | fail "no")
local macro_rules | `(tactic| walk_at "s") => `(tactic| first | ((with_reducible refine' G.sl_strR ?l ?_); (case l => walk_at "side")) | fail "no")
local macro_rules | `(tactic| walk_at "s") => `(tactic| first | ((with_reducible refine' G.ix_lstN ?r ?h0 ?h1 ?_); (case r => walk_at "R"); (case h0 => walk_at "side"); (case h1 => walk_at "side"); intro v0 d0 hd0 r0) | fail "no")
local macro_rules | `(tactic| walk_at "s") => `(tactic| first | ((with_reducible refine' G.ix_lstS ?r ?h0 ?h1 ?_); (case r => walk_at "R"); (case h0 => walk_at "side"); (case h1 => walk_at "side"); intro z0 hz0) | fail "no")
local macro_rules | `(tactic| walk_at "s") => `(tactic| first | ((with_reducible refine' G.ix_tupN ?r ?h0 ?h1 ?_); (case r => walk_at "R"); (case h0 => walk_at "side"); (case h1 => walk_at "side"); intro v0 d0 hd0 r0) | fail "no")
local macro_rules | `(tactic| walk_at "s") => `(tactic| first | ((with_reducible refine' G.ix_strM ?l ?h0 ?h1 ?_); (case l => walk_at "side"); (case h0 => walk_at "side"); (case h1 => walk_at "side"); intro c0 hc0) | fail "no")
local macro_rules | `(tactic| walk_at "s") => `(tactic| first | ((with_reducible refine' G.ix_strR ?l ?h0 ?hd ?_); (case l => walk_at "side"); (case h0 => walk_at "side"); (case hd => first | rfl | assumption)) | fail "no")
local macro_rules | `(tactic| walk_at "s") => `(tactic| first | ((with_reducible refine' G.ix_lstR ?r ?h0 ?hd ?_); (case r => walk_at "R"); (case h0 => walk_at "side"); (case hd => first | rfl | assumption); walk_at "got") | fail "no")
local macro_rules | `(tactic| walk_at "s") => `(tactic| first | ((with_reducible refine' G.ix_tupR ?r ?h0 ?hd ?_); (case r => walk_at "R"); (case h0 => walk_at "side"); (case hd => first | rfl | assumption); walk_at "got") | fail "no")
local macro_rules | `(tactic| walk_at "s") => `(tactic| first | ((with_reducible refine' G.st_newL ?r ?l ?_); (case r => walk_at "A"); (case l => first | exact Nat.le_of_ble_eq_true rfl | walk_at "side"); intro v0 H0 s0 r0) | fail "no")
local macro_rules | `(tactic| walk_at "s") => `(tactic| first | ((with_reducible refine' G.st_newT ?r ?l ?_); (case r => walk_at "A"); (case l => first | exact Nat.le_of_ble_eq_true rfl | walk_at "side"); intro v0 H0 s0 r0) | fail "no")
local macro_rules | `(tactic| walk_at "s") => `(tactic| first | (with_reducible refine G.st_lst ?_) | fail "no")
local macro_rules | `(tactic| walk_at "s") => `(tactic| first | (with_reducible refine G.st_tup ?_) | fail "no")
local macro_rules | `(tactic| walk_at "s") => `(tactic| first | ((with_reducible refine' G.len_lst ?r ?_); (case r => walk_at "R")) | fail "no")
local macro_rules | `(tactic| walk_at "s") => `(tactic| first | ((with_reducible refine' G.len_tup ?r ?_); (case r => walk_at "R")) | fail "no")
local macro_rules | `(tactic| walk_at "s") => `(tactic| first | ((with_reducible refine' G.len_str ?l ?_); (case l => walk_at "side")) | fail "no")
local macro_rules | `(tactic| walk_at "s") => `(tactic| first | ((with_reducible refine' G.isi_R ?r ?t ?_); (case r => walk_at "R"); (case t => simp only [List.mem_cons, true_or, or_true])) | fail "no")
local macro_rules | `(tactic| walk_at "s") => `(tactic| first | ((with_reducible refine' G.isi_0 ?r ?e ?t ?_); (case r => walk_at "R"); (case e => rfl); (case t => simp only [List.mem_cons, true_or, or_true])) | fail "no")
local macro_rules | `(tactic| walk_at "s") => `(tactic| first | ((with_reducible refine' G.isi_1 ?r ?e ?t ?_); (case r => walk_at "R"); (case e => rfl); (case t => simp only [List.mem_cons, true_or, or_true])) | fail "no")
local macro_rules | `(tactic| walk_at "s") => `(tactic| first | ((with_reducible refine' G.add_lst ?r ?s ?l ?_); (case r => walk_at "R"); (case s => walk_at "R"); (case l => walk_at "side"); intro v0 H0 s0 r0) | fail "no")
local macro_rules | `(tactic| walk_at "s") => `(tactic| first | ((with_reducible refine' G.add_tup ?r ?s ?l ?_); (case r => walk_at "R"); (case s => walk_at "R"); (case l => walk_at "side"); intro v0 H0 s0 r0) | fail "no")
local macro_rules | `(tactic| walk_at "s") => `(tactic| first | ((with_reducible refine' G.add_str ?l ?_); (case l => walk_at "side")) | fail "no")
local macro_rules | `(tactic| walk_at "s") => `(tactic| first | ((with_reducible refine' G.nin_intsT ?r ?c ?_); (case r => walk_at "R"); (case c => rfl)) | fail "no")
local macro_rules | `(tactic| walk_at "s") => `(tactic| first | ((with_reducible refine' G.in_intsT ?r ?c ?_); (case r => walk_at "R"); (case c => rfl)) | fail "no")
local macro_rules | `(tactic| walk_at "s") => `(tactic| first | ((with_reducible refine' G.nin_strsT ?r ?c ?_); (case r => walk_at "R"); (case c => rfl)) | fail "no")
local macro_rules | `(tactic| walk_at "s") => `(tactic| first | ((with_reducible refine' G.in_strsT ?r ?c ?_); (case r => walk_at "R"); (case c => rfl)) | fail "no")
local macro_rules | `(tactic| walk_at "s") => `(tactic| first | ((with_reducible refine' G.in_strsT0 ?r ?c ?e ?_); (case r => walk_at "R"); (case c => rfl); (case e => decide +kernel)) | fail "no")
local macro_rules | `(tactic| walk_at "s") => `(tactic| first | ((with_reducible refine' G.in_strsT1 ?r ?c ?e ?_); (case r => walk_at "R"); (case c => rfl); (case e => decide +kernel)) | fail "no")
local macro_rules | `(tactic| walk_at "s") => `(tactic| first | with_reducible refine G.nin_sign ?_ | fail "no")
local macro_rules | `(tactic| walk_at "s") => `(tactic| first | with_reducible refine G.in_sign ?_ | fail "no")
local macro_rules | `(tactic| walk_at "s") => `(tactic| first | with_reducible refine G.isnt_bl ?_ | fail "no")
local macro_rules | `(tactic| walk_at "s") => `(tactic| first | with_reducible refine G.is_bl ?_ | fail "no")
local macro_rules | `(tactic| walk_at "s") => `(tactic| first | ((with_reducible refine' G.isnt_none ?r ?_); (case r => walk_at "R")) | fail "no")
local macro_rules | `(tactic| walk_at "s") => `(tactic| first | ((with_reducible refine' G.is_none ?r ?_); (case r => walk_at "R")) | fail "no")
local macro_rules | `(tactic| walk_at "s") => `(tactic| first | with_reducible refine G.ne_int ?_ | fail "no")
local macro_rules | `(tactic| walk_at "s") => `(tactic| first | with_reducible refine G.ne_str ?_ | fail "no")
local macro_rules | `(tactic| walk_at "s") => `(tactic| first | with_reducible refine G.eq_bl ?_ | fail "no")
local macro_rules | `(tactic| walk_at "s") => `(tactic| first | with_reducible refine G.eq_int ?_ | fail "no")
local macro_rules | `(tactic| walk_at "s") => `(tactic| first | with_reducible refine G.eq_str ?_ | fail "no")
local macro_rules | `(tactic| walk_at "s") => `(tactic| first | ((with_reducible refine' G.eq_str0 ?e ?_); (case e => decide +kernel)) | fail "no")
local macro_rules | `(tactic| walk_at "s") => `(tactic| first | ((with_reducible refine' G.eq_str1 ?e ?_); (case e => with_reducible rfl)) | fail "no")
local macro_rules | `(tactic| walk_at "s") => `(tactic| first | ((with_reducible refine' G.iC ?hc ?_); (case hc => walk_at "sideC")) | fail "no")
local macro_rules | `(tactic| walk_at "s") => `(tactic| first | ((with_reducible refine G.imod3 (by decide) ?_ ?_ ?_) <;> (intro hm; first | (exfalso; walk_at "no"; done) | skip)) | fail "no")
local macro_rules | `(tactic| walk_at "s") => `(tactic| first | ((with_reducible refine G.imod2 (by decide) ?_ ?_) <;> (intro hm; first | (exfalso; walk_at "no"; done) | skip)) | fail "no")
local macro_rules | `(tactic| walk_at "s") => `(tactic| first | with_reducible refine G.i0 ?_ | fail "no")
local macro_rules | `(tactic| walk_at "s") => `(tactic| first | with_reducible refine G.add_int ?_ | fail "no")
local macro_rules | `(tactic| walk_at "s") => `(tactic| first | with_reducible refine G.st_retN ?_ | fail "no")
local macro_rules | `(tactic| walk_at "s") => `(tactic| first | with_reducible refine G.st_next ?_ | fail "no")
local macro_rules | `(tactic| walk_at "s") => `(tactic| first | with_reducible refine G.st_drop ?_ | fail "no")
local macro_rules | `(tactic| walk_at "s") => `(tactic| first | with_reducible refine G.st_exInt ?_ | fail "no")
local macro_rules | `(tactic| walk_at "s") => `(tactic| first | with_reducible refine G.st_part ?_ | fail "no")
local macro_rules | `(tactic| walk_at "s") => `(tactic| first | with_reducible refine G.st_noPart ?_ | fail "no")
local macro_rules | `(tactic| walk_at "s") => `(tactic| first | with_reducible refine G.st_slice ?_ | fail "no")
local macro_rules | `(tactic| walk_at "s") => `(tactic| first | with_reducible refine G.st_then ?_ | fail "no")
local macro_rules | `(tactic| walk_at "s") => `(tactic| first | with_reducible refine G.st_un ?_ | fail "no")
local macro_rules | `(tactic| walk_at "s") => `(tactic| first | with_reducible refine G.st_chain ?_ | fail "no")
local macro_rules | `(tactic| walk_at "s") => `(tactic| first | with_reducible refine G.st_tIf ?_ | fail "no")
local macro_rules | `(tactic| walk_at "s") => `(tactic| first | with_reducible refine G.st_notV ?_ | fail "no")
local macro_rules | `(tactic| walk_at "s") => `(tactic| first | with_reducible refine G.st_andV ?_ | fail "no")
local macro_rules | `(tactic| walk_at "s") => `(tactic| first | with_reducible refine G.st_orV ?_ | fail "no")
local macro_rules | `(tactic| walk_at "s") => `(tactic| first | with_reducible refine G.st_not ?_ | fail "no")
local macro_rules | `(tactic| walk_at "s") => `(tactic| first | with_reducible refine G.st_and ?_ | fail "no")
local macro_rules | `(tactic| walk_at "s") => `(tactic| first | with_reducible refine G.st_or ?_ | fail "no")
local macro_rules | `(tactic| walk_at "s") => `(tactic| first | with_reducible refine G.st_tB ?_ | fail "no")
local macro_rules | `(tactic| walk_at "s") => `(tactic| first | with_reducible refine G.st_tTest ?_ | fail "no")
local macro_rules | `(tactic| walk_at "s") => `(tactic| first | with_reducible refine G.st_CB ?_ | fail "no")
local macro_rules | `(tactic| walk_at "s") => `(tactic| first | with_reducible refine G.st_nil ?_ | fail "no")
local macro_rules | `(tactic| walk_at "s") => `(tactic| first | with_reducible refine G.st_cons ?_ | fail "no")
local macro_rules | `(tactic| walk_at "s") => `(tactic| first | with_reducible refine G.st_call ?_ | fail "no")
local macro_rules | `(tactic| walk_at "s") => `(tactic| first | with_reducible refine G.st_set ?_ | fail "no")
local macro_rules | `(tactic| walk_at "s") => `(tactic| first | with_reducible refine G.st_ret ?_ | fail "no")
local macro_rules | `(tactic| walk_at "s") => `(tactic| first | with_reducible refine G.st_if ?_ | fail "no")
local macro_rules | `(tactic| walk_at "s") => `(tactic| first | ((with_reducible refine G.st_ite ?_ ?_) <;> (intro hb; (try simp only [decide_eq_true_eq, decide_eq_false_iff_not, Bool.not_eq_true', Bool.not_eq_false', beq_iff_eq, Bool.and_eq_true, Bool.or_eq_true, Bool.and_eq_false_iff, Bool.or_eq_false_iff, beq_eq_false_iff_ne, ne_eq, Int.not_lt, Int.not_le, Nat.not_lt, Nat.not_le] at hb); first | (exfalso; walk_at "no"; done) | skip)) | fail "no")
local macro_rules | `(tactic| walk_at "s") => `(tactic| first | with_reducible refine G.ite_nf ?_ | fail "no")
local macro_rules | `(tactic| walk_at "s") => `(tactic| first | with_reducible refine G.ite_nt ?_ | fail "no")
local macro_rules | `(tactic| walk_at "s") => `(tactic| first | with_reducible refine L2.iteF ?_ | fail "no")
local macro_rules | `(tactic| walk_at "s") => `(tactic| first | with_reducible refine L2.iteT ?_ | fail "no")
local macro_rules | `(tactic| walk_at "s") => `(tactic| first | with_reducible refine G.st_bl ?_ | fail "no")
local macro_rules | `(tactic| walk_at "s") => `(tactic| first | with_reducible refine G.st_op ?_ | fail "no")
local macro_rules | `(tactic| walk_at "s") => `(tactic| first | with_reducible refine G.st_c ?_ | fail "no")
local macro_rules | `(tactic| walk_at "s") => `(tactic| first | ((with_reducible refine' G.st_var ?hv ?_); (case hv => exact rfl)) | fail "no")
local macro_rules | `(tactic| walk_at "s") => `(tactic| first | with_reducible refine G.st_seq ?_ | fail "no")
local macro_rules | `(tactic| walk_at "r") => `(tactic| repeat' (walk_at "s"))
local macro_rules | `(tactic| walk_at "side") => `(tactic| first | fail | fail "no")
local macro_rules | `(tactic| walk_at "side") => `(tactic| first | exact G.nm_c (by with_reducible assumption) | fail "no")
local macro_rules | `(tactic| walk_at "side") => `(tactic| first | exact G.nm_b (by with_reducible assumption) | fail "no")
local macro_rules | `(tactic| walk_at "side") => `(tactic| first | exact G.fm_a (by with_reducible assumption) | fail "no")
local macro_rules | `(tactic| walk_at "side") => `(tactic| first | exact G.nm_a (by with_reducible assumption) | fail "no")
local macro_rules | `(tactic| walk_at "c") => `(tactic| ((with_reducible refine' G.use_name ?hp ?_); (case hp => walk_at "P"); intro z0 H0 s0 hz0))
local macro_rules | `(tactic| walk_at "c") => `(tactic| ((with_reducible refine' G.use_form ?hp ?_); (case hp => walk_at "P"); intro z0 H0 s0 hz0))
local macro_rules | `(tactic| walk_at "c") => `(tactic| ((with_reducible refine' G.use_pool ?hp ?_); (case hp => walk_at "P"); intro v0 fs0 gs0 ns0 H0 s0 ok0 r0))
local macro_rules | `(tactic| walk_at "c") => `(tactic| ((with_reducible refine' G.use_leaf ?hp ?r ?ok ?h0 ?h1 ?_); (case hp => walk_at "P"); (case r => walk_at "R"); (case ok => with_reducible assumption); (case h0 => walk_at "side"); (case h1 => walk_at "side"); intro v0 t0 H0 s0 r0 ht0 hd0 hs0))
local macro_rules | `(tactic| walk_at "c") => `(tactic| ((with_reducible refine' G.use_term ?hp ?r ?ok ?h0 ?h1 ?e0 ?e1 ?_); (case hp => walk_at "P"); (case r => walk_at "R"); (case ok => with_reducible assumption); (case h0 => walk_at "side"); (case h1 => walk_at "side"); (case e0 => walk_at "side"); (case e1 => walk_at "side"); intro v0 t0 H0 s0 r0 ht0 hd0 hs0))
local macro_rules | `(tactic| walk_at "c") => `(tactic| ((with_reducible refine' G.use_tall ?hp ?r ?ok ?rt ?ht ?h0 ?h1 ?_); (case hp => walk_at "P"); (case r => walk_at "R"); (case ok => with_reducible assumption); (case rt => walk_at "R"); (case ht => with_reducible assumption); (case h0 => walk_at "side"); (case h1 => walk_at "side"); intro v0 t0 H0 s0 r0 ht0 hd0 hs0))
local macro_rules | `(tactic| walk_at "c") => `(tactic| ((with_reducible refine' G.use_anyT ?hp ?r ?ok ?h0 ?h1 ?_); (case hp => walk_at "P"); (case r => walk_at "R"); (case ok => with_reducible assumption); (case h0 => walk_at "side"); (case h1 => walk_at "side"); intro v0 t0 H0 s0 r0 ht0 hd0 hs0))
local macro_rules | `(tactic| walk_at "w") => `(tactic| first | ((with_reducible refine' G.st_newLF ?r ?l ?_); (case r => walk_at "A"); (case l => first | exact Nat.le_of_ble_eq_true rfl | walk_at "side"); intro p0 H0 f0 s0 hl0 ra0) | fail "no")
local macro_rules | `(tactic| walk_at "w") => `(tactic| first | with_reducible refine G.st_lstF ?_ | fail "no")
local macro_rules | `(tactic| walk_at "w") => `(tactic| first | with_reducible refine G.whB ?_ | fail "no")
local macro_rules | `(tactic| walk_at "w") => `(tactic| first | with_reducible refine G.ipI_int ?_ | fail "no")
local macro_rules | `(tactic| walk_at "w") => `(tactic| first | ((with_reducible refine' G.st_aug ?hx ?_); (case hx => rfl)) | fail "no")
local macro_rules | `(tactic| walk_at "w") => `(tactic| first | with_reducible refine G.max_2 ?_ | fail "no")
local macro_rules | `(tactic| walk_at "w") => `(tactic| first | with_reducible refine G.int_bl ?_ | fail "no")
local macro_rules | `(tactic| walk_at "w") => `(tactic| first | with_reducible refine G.st_asgT ?_ | fail "no")
local macro_rules | `(tactic| walk_at "w") => `(tactic| first | ((with_reducible refine' G.gtup2 ?r ?_); (case r => walk_at "R"); intro v1 v2 r1 r2) | fail "no")
local macro_rules | `(tactic| walk_at "w") => `(tactic| first | ((with_reducible refine' G.extR ?hl ?ra ?r ?hz ?hn ?hn' ?_); (case hl => walk_at "P"); (case ra => first | with_reducible assumption | exact G.ra_mono (by with_reducible assumption) (by walk_at "S")); (case r => walk_at "R"); (case hz => walk_at "side"); (case hn => walk_at "nol"); (case hn' => walk_at "nol"); intro ws0 H0 x0 hl0 ra0) | fail "no")
local macro_rules | `(tactic| walk_at "w") => `(tactic| first | ((with_reducible refine' G.popR ?hl ?ra ?hn ?_); (case hl => walk_at "P"); (case ra => with_reducible assumption); (case hn => with_reducible assumption); intro v0 ws0 H0 x0 hl0 ra0 r0) | fail "no")
local macro_rules | `(tactic| walk_at "w") => `(tactic| first | ((with_reducible refine' G.st_tyl ?hl ?_); (case hl => walk_at "P")) | fail "no")
local macro_rules | `(tactic| walk_at "w") => `(tactic| first | with_reducible refine G.st_BM ?_ | fail "no")
local macro_rules | `(tactic| walk_at "w") => `(tactic| first | with_reducible refine G.st_BM0 ?_ | fail "no")
local macro_rules | `(tactic| walk_at "nol") => `(tactic| first | exact G.Th.noLs _ | fail "no")
local macro_rules | `(tactic| walk_at "nol") => `(tactic| first | exact G.Th.noL _ | fail "no")
local macro_rules | `(tactic| walk_at "nol") => `(tactic| first | rfl | fail "no")
local macro_rules | `(tactic| walk_at "nol") => `(tactic| first | with_reducible assumption | fail "no")
local macro_rules | `(tactic| walk_at "c") => `(tactic| walk_at "w")
local macro_rules | `(tactic| walk_at "c") => `(tactic| first | (with_reducible refine G.absR ?_; intro j0) | fail "no")
local macro_rules | `(tactic| walk_at "c") => `(tactic| first | ((with_reducible refine' G.divmodR ?h0 ?h1 ?_); (case h0 => walk_at "side"); (case h1 => walk_at "side"); intro p0 H0 f0 e0) | fail "no")
local macro_rules | `(tactic| walk_at "c") => `(tactic| first | ((with_reducible refine' G.ix_scrLast ?hs ?h1 ?_); (case hs => walk_at "Q"); (case h1 => walk_at "side"); intro n0) | fail "no")
local macro_rules | `(tactic| walk_at "c") => `(tactic| first | ((with_reducible refine' G.iC ?hc ?_); (case hc => show (0 : Int) < _; decide +kernel)) | fail "no")
local macro_rules | `(tactic| walk_at "c") => `(tactic| first | with_reducible refine G.st_gsub ?_ | fail "no")
local macro_rules | `(tactic| walk_at "c") => `(tactic| first | with_reducible refine G.st_gname ?_ | fail "no")
local macro_rules | `(tactic| walk_at "c") => `(tactic| first | with_reducible refine G.st_gnil ?_ | fail "no")
local macro_rules | `(tactic| walk_at "c") => `(tactic| first | with_reducible refine G.st_gcons ?_ | fail "no")
local macro_rules | `(tactic| walk_at "c") => `(tactic| first | with_reducible refine G.st_tys ?_ | fail "no")
local macro_rules | `(tactic| walk_at "c") => `(tactic| first | with_reducible refine G.st_BMs ?_ | fail "no")
local macro_rules | `(tactic| walk_at "c") => `(tactic| first | with_reducible refine G.neg_i ?_ | fail "no")
local macro_rules | `(tactic| walk_at "B") => `(tactic| first | exact G.bk_keep (by with_reducible assumption) (by walk_at "S") | fail "no")
local macro_rules | `(tactic| walk_at "B") => `(tactic| first | with_reducible assumption | fail "no")
local macro_rules | `(tactic| walk_at "c") => `(tactic| first | with_reducible refine G.st_forT ?_ | fail "no")
local macro_rules | `(tactic| walk_at "c") => `(tactic| first | with_reducible refine G.st_forE ?_ | fail "no")
local macro_rules | `(tactic| walk_at "c") => `(tactic| first | with_reducible refine G.st_forL ?_ | fail "no")
local macro_rules | `(tactic| walk_at "c") => `(tactic| first | with_reducible refine G.st_lcETT ?_ | fail "no")
local macro_rules | `(tactic| walk_at "c") => `(tactic| first | with_reducible refine G.st_lcET ?_ | fail "no")
local macro_rules | `(tactic| walk_at "c") => `(tactic| first | with_reducible refine G.st_lcLT ?_ | fail "no")
local macro_rules | `(tactic| walk_at "c") => `(tactic| first | with_reducible refine G.st_dget2 ?_ | fail "no")
local macro_rules | `(tactic| walk_at "c") => `(tactic| first | with_reducible refine G.st_dget ?_ | fail "no")
local macro_rules | `(tactic| walk_at "c") => `(tactic| first | ((with_reducible refine' G.ix_b5 ?h ?_); (case h => walk_at "B"); intro v0 r0) | fail "no")
local macro_rules | `(tactic| walk_at "c") => `(tactic| first | ((with_reducible refine' G.ix_b3 ?h ?_); (case h => walk_at "B"); intro v0 r0) | fail "no")
local macro_rules | `(tactic| walk_at "c") => `(tactic| first | ((with_reducible refine' G.ix_b2 ?h ?_); (case h => walk_at "B"); intro v0 r0) | fail "no")
local macro_rules | `(tactic| walk_at "c") => `(tactic| first | ((with_reducible refine' G.ix_b1 ?h ?_); (case h => walk_at "B"); intro af0 lb0 lc0 hf0 rb0 rc0) | fail "no")
local macro_rules | `(tactic| walk_at "c") => `(tactic| first | ((with_reducible refine' G.use_nextU ?hp ?h0 ?h1 ?_); (case hp => walk_at "P"); (case h0 => walk_at "side"); (case h1 => walk_at "side"); intro r0 H0 s0 hr0 hr1) | fail "no")
local macro_rules | `(tactic| walk_at "u") => `(tactic| repeat' ((fail_if_success (with_reducible refine G.st_if ?_)); walk_at "s"))
local macro_rules | `(tactic| walk_at "c") => `(tactic| (with_reducible refine G.minR ?_; intro m0 hm0 hm1 hm2))
local macro_rules | `(tactic| walk_at "c") => `(tactic| first | with_reducible refine G.st_forEL ?_ | fail "no")
local macro_rules | `(tactic| walk_at "c") => `(tactic| first | with_reducible refine G.par2 ?_ | fail "no")
local macro_rules | `(tactic| walk_at "c") => `(tactic| first | with_reducible refine G.st_make ?_ | fail "no")
local macro_rules | `(tactic| walk_at "c") => `(tactic| first | with_reducible refine G.st_sfld ?_ | fail "no")
local macro_rules | `(tactic| walk_at "c") => `(tactic| first | with_reducible refine G.st_kget2 ?_ | fail "no")
local macro_rules | `(tactic| walk_at "c") => `(tactic| first | with_reducible refine G.st_stat ?_ | fail "no")
local macro_rules | `(tactic| walk_at "c") => `(tactic| first | with_reducible refine G.st_par ?_ | fail "no")
local macro_rules | `(tactic| walk_at "c") => `(tactic| first | with_reducible refine G.st_dget1 ?_ | fail "no")
local macro_rules | `(tactic| walk_at "c") => `(tactic| first | with_reducible refine G.st_forZL ?_ | fail "no")
local macro_rules | `(tactic| walk_at "c") => `(tactic| first | with_reducible refine G.st_forZ ?_ | fail "no")
local macro_rules | `(tactic| walk_at "c") => `(tactic| first | with_reducible refine G.st_methX ?_ | fail "no")
local macro_rules | `(tactic| walk_at "c") => `(tactic| first | with_reducible refine G.st_fld ?_ | fail "no")
section














namespace G
open PySem PySem.Spec PyProof.Rows L2
section
variable {P : Program} {w : World} {K : PySem.W.Frag} {mg : Str → Option Value} {base : Heap} {k n : Nat}
local macro_rules | `(tactic| walk_at "v") => `(tactic| repeat' ((fail_if_success (with_reducible refine G.add_int ?_)); (fail_if_success (with_reducible refine G.imod3 ?_ ?_ ?_ ?_)); (fail_if_success (with_reducible refine G.st_if ?_)); walk_at "s"))
local macro_rules | `(tactic| walk_at "x") => `(tactic| repeat' ((fail_if_success (with_reducible refine' G.ix_b1 ?_ ?_)); walk_at "s"))
theorem ok_l_function (T : Tp K mg) (c_l_next : Cal P w K mg base k "_law_next" spNext) (c_l_term : Cal P w K mg base k "_law_term" (spTermK K 4)) : Cal P w K mg base (k + 1) "_law_function" (spFun K) := by
  refine T.d_l_function.cal sc_l_function (fun vs H Q E h => ?_) (fun f cdv A outer s H vs Q E hr h => ?_)
  · obtain ⟨p, v, g, ff, rfl, _⟩ := h; rfl
  obtain ⟨p, v, g, ff, rfl, hp, hb, ok, hf, hfr, q⟩ := h
  have sc := @sc_l_function
  refine ⟨_, (pss_cons (ps_set (i := 3) sc.nd rfl (Or.inr rfl) (pe_ix (ix_K K) (pv 1) pe_int (fun _ _ => rfl)))
      (pss_cons (ps_if (pt_cmpR (op_eqK K hr) (pe_c c_l_next hr (Nat.le_refl _) rfl (pa_cons (pv 0) (pa_cons pe_int pa_nil))) pe_int (nomark _)) (pss_cons (ps_set (i := 4) sc.nd rfl (Or.inl rfl) (tupleOf_K K rfl T.n_tuple (pe_lc (own := [("_law_k", 11)]) (g := gName 11) (tt := tYes) rfl sc.nd (pi_range1 rfl T.n_range (pa_cons (pe_c c_l_next hr (Nat.le_refl _) rfl (pa_cons (pv 0) (pa_cons pe_int pa_nil))) pa_nil)) (blkOk_by (N := n_l_function) (sc := defScope s_l_function) (by decide +kernel)) (fun _ _ _ _ _ => pg_name (i := 11) sc.nd rfl (Or.inl rfl)) (fun _ _ _ _ _ => pts_nil) (fun _ _ _ _ _ => pe_hide (pe_ix (ix_K K) (pv 3) (pe_c c_l_next hr (Nat.le_refl _) rfl (pa_cons (pv 0) (pa_cons pe_int pa_nil))) (fun _ _ => rfl))))))
      (pss_cons (ps_set (i := 5) sc.nd rfl (Or.inl rfl) (pe_ix (ix_K K) (pv 3) (pe_c c_l_next hr (Nat.le_refl _) rfl (pa_cons (pv 0) (pa_cons pe_int pa_nil))) (fun _ _ => rfl)))
      (pss_one (ps_ret (pe_tupK K (pa_cons pe_str (pa_cons (pv 2) (pa_cons (pv 4) (pa_cons (pv 5) (pa_cons (pe_c c_l_term hr (Nat.le_refl _) rfl (pa_cons (pv 0) (pa_cons (pv 1) (pa_cons (pv 5) (pa_cons (pe_lstF K pa_nil) (pa_cons (pe_callTy (list_K K) rfl T.n_list bt_list (pa_cons (pv 4) pa_nil)) (pa_cons pe_int (pa_cons pe_non pa_nil)))))))) pa_nil)))))))))) pss_nil)
      (pss_cons (ps_set (i := 6) sc.nd rfl (Or.inr rfl) (pe_ix (ix_K K) (pv 3) (pe_op (op_addK K) pe_int (pe_c c_l_next hr (Nat.le_refl _) rfl (pa_cons (pv 0) (pa_cons pe_int pa_nil)))) (fun _ _ => rfl)))
      (pss_cons (ps_set (i := 4) sc.nd rfl (Or.inl rfl) (pe_op (op_addK K) (pe_tupK K (pa_cons (pv 6) pa_nil)) (tupleOf_K K rfl T.n_tuple (pe_lc (own := [("_law_k", 11)]) (g := gName 11) (tt := tYes) rfl sc.nd (pi_range1 rfl T.n_range (pa_cons (pe_c c_l_next hr (Nat.le_refl _) rfl (pa_cons (pv 0) (pa_cons pe_int pa_nil))) pa_nil)) (blkOk_by (N := n_l_function) (sc := defScope s_l_function) (by decide +kernel)) (fun _ _ _ _ _ => pg_name (i := 11) sc.nd rfl (Or.inl rfl)) (fun _ _ _ _ _ => pts_nil) (fun _ _ _ _ _ => pe_hide (pe_ix (ix_K K) (pv 3) (pe_c c_l_next hr (Nat.le_refl _) rfl (pa_cons (pv 0) (pa_cons pe_int pa_nil))) (fun _ _ => rfl)))))))
      (pss_cons (ps_set (i := 5) sc.nd rfl (Or.inl rfl) (pe_ix (ix_K K) (pv 3) (pe_op op_mod (pe_c c_l_next hr (Nat.le_refl _) rfl (pa_cons (pv 0) (pa_cons pe_int pa_nil))) pe_int) (fun _ _ => rfl)))
      (pss_cons (ps_set (i := 7) sc.nd rfl (Or.inl rfl) (pe_lstF K pa_nil))
      (pss_cons (ps_for PassesOwn.never rfl (pi_listK K (pe_dgetH hr (pe_ix (ix_K K) (pv 1) pe_int (fun _ _ => rfl)) (pv 6) (fun _ _ => rfl))) (gtK K (pg_tup (n := 2) rfl (pgs_cons (pg_name (i := 8) sc.nd rfl (Or.inl rfl)) (pgs_cons (pg_name (i := 9) sc.nd rfl (Or.inl rfl)) pgs_nil)))) (pss_cons (ps_set (i := 10) sc.nd rfl (Or.inl rfl) (pe_tupK K (pa_cons (pv 2) (pa_cons (pv 4) (pa_cons (pv 5) (pa_cons (pe_lc (own := [("_law_k", 11), ("_law_part", 12)]) (g := g2 K 11 12) (tt := tHideT _) rfl sc.nd (pi_enumTK K rfl T.n_enumerate (pa_cons (pv 9) pa_nil)) (blkOk_by (N := n_l_function) (sc := defScope s_l_function) (by decide +kernel)) (fun _ _ _ _ _ => gtK K (pg_tup (n := 2) rfl (pgs_cons (pg_name (i := 11) sc.nd rfl (Or.inl rfl)) (pgs_cons (pg_name (i := 12) sc.nd rfl (Or.inl rfl)) pgs_nil)))) (fun _ _ _ _ _ => (pts_hide (pt_cmpR (op_eqK K hr) (pv 12) (pv 6) (nomark _)))) (fun _ _ _ _ _ => pe_hide (pv 11))) pa_nil))))))
      (pss_one (ps_expr (bmK K (pe_bm PySem.F.plainAttrs_list PySem.F.slot_list_append PySem.F.type_list_append mt_append (pv 7) (pa_cons (pe_c c_l_term hr (Nat.le_refl _) rfl (pa_cons (pv 0) (pa_cons (pv 1) (pa_cons (pv 5) (pa_cons (pe_lstF K pa_nil) (pa_cons (pe_callTy (list_K K) rfl T.n_list bt_list (pa_cons (pe_op (op_addK K) (pv 9) (pe_slice (sl_K K) (pv 4) (po_some pe_int) po_none)) pa_nil)) (pa_cons pe_int (pa_cons (pv 10) pa_nil)))))))) pa_nil)))))))
      (pss_one (ps_ret (pe_tupK K (pa_cons pe_str (pa_cons (pv 2) (pa_cons (pv 4) (pa_cons (pv 5) (pa_cons (tupleOf_K K rfl T.n_tuple (pv 7)) pa_nil))))))))))))))), ?_⟩
  have hkl : (g.kinds.length : Int) = 3 := rfl
  have hkl' : g.kinds.length = 3 := rfl
  walk_at "v"
  rename_i yk rk
  refine if_join (fun P hP => ?_) fun H1 s1 => ?_
  · walk_at "r"
    · rename_i r1 H1 s1 hr10 hr11 hr1 r2 H2 s2 hr20 hr21
      refine lc_R (K := K) (fun _ e => ∃ z, e = .str z ∧ z ∈ g.kinds) (by omega) (by omega) (fun _ => rfl) (fun i H3 hi s3 Qt hQ => ?_) (fun v3 H3 es s3 r3 hl3 hP3 => ?_)
      · walk_at "r"
        exact hQ _ _ _ (by walk_at "S") (R.str _) ⟨_, rfl, by assumption⟩
      obtain ⟨ks, rfl, hks⟩ := kinds_of hP3
      rw [List.length_map] at hl3
      walk_at "r"
      rename_i va H4 s4 ra rn H5 s5 hrn0 hrn1 zk hzk p0 H6 f6 s6 hl6 ra6 vi H7 s7 ri
      refine use_termK (xs := []) (o := none) (by walk_at "P") (by walk_at "B") ok hzk (.lst (s7 _ _ hl6) (ra6.mono s7)) ri .non ⟨fun _ _ _ _ h => by cases h⟩ (by decide) (by omega) (fun _ h => by cases h) (by decide) (by decide) fun u t H8 s8 ru hkd hd2 hs2 => ?_
      walk_at "r"
      rename_i v9 H9 s9 r9
      exact q _ _ _ _ (by walk_at "S") r9 (.short ks zk t (by omega) hks hzk hkd hd2 hs2)
    · exact hP _ (by walk_at "S")
  walk_at "v"
  rename_i r2 H2 s2 hr20 hr21
  refine add_int ?_
  refine ix_bc (rk.mono (by walk_at "S")) (by omega) (by omega) fun k0 hk0 => ?_
  have hk0m : k0 ∈ g.kinds := by
    rcases hk0 with rfl | rfl <;> simp [Bk.kinds]
  walk_at "v"
  rename_i v3 H3 s3 r3 r4 H4 s4 hr40 hr41
  refine lc_R (K := K) (fun _ e => ∃ z, e = .str z ∧ z ∈ g.kinds) (by omega) (by omega) (fun _ => rfl) (fun i H5 hi s5 Qt hQ => ?_) (fun v5 H5 es s5 r5 hl5 hP5 => ?_)
  · walk_at "r"
    exact hQ _ _ _ (by walk_at "S") (R.str _) ⟨_, rfl, by assumption⟩
  obtain ⟨ks, rfl, hks⟩ := kinds_of hP5
  rw [List.length_map] at hl5
  have hl5' : (ks.map PyData.str).length ≤ 3 := by rw [List.length_map]; omega
  walk_at "v"
  rename_i v6 H6 s6 r6 v7 H7 s7 r7 r8 H8 s8 hr80 hr81
  have r7' : R K H7 v7 (partsD (k0 :: ks)) := r7
  have hm3 : 0 ≤ r8 % 3 ∧ r8 % 3 < 3 := by omega
  refine iC (show (0 : Int) < 3 by decide) ?_
  refine ix_lstS (zs := g.kinds) (rk.mono (by walk_at "S")) hm3.1 (by omega) fun kk hkk => ?_
  obtain ⟨xb, y0, af, lb, lc, y2, y3, y4, y5, rfl, b1, b2, b3, b4, b5, b6, b7⟩ := hb.ex
  walk_at "x"
  rename_i l H9 f9 s9 hl9 ra9
  refine .inr (.inl ⟨xb, _, 1, .ref af, rfl, rfl, (show Same H H9 by walk_at "S").tup b1, atI_pos (by decide) rfl, ?_⟩)
  show tVar 6 _ _ _
  walk_at "r"
  obtain ⟨w1, hw1, rw1⟩ := (val_forms ok b3 b4).1 hk0
  refine dget_at ((show Same H H9 by walk_at "S") _ _ b2) hw1 ?_
  have fok := forms_ok ok k0
  have fl : H l = none := by
    cases e : H l with
    | none => rfl
    | some o => exact absurd ((show Same H H8 by walk_at "S") _ _ e) (by rw [f9]; simp)
  have s09 : Same H H9 := by walk_at "S"
  refine for_L2b (K := K) (Hb := H) (fun i σ' H' => Same H H' ∧ (∃ ys ts, H' l = some (.lst ys) ∧ RA K H' ys (Th.ds ts) ∧ ts.length = i ∧ i ≤ (g.forms k0).length ∧ (∀ (j : Nat) t x, ts[j]? = some t → (g.forms k0)[j]? = some x → t.kd g (g.sig (some (ff, k0 :: ks, kk, ownJs x.2 k0))) [] (x.2 ++ ks) kk ∧ t.dep ≤ 4 ∧ t.sz ≤ 53 ∧ t.fall ff (ownJs x.2 k0))) ∧
      R K H' v7 (partsD (k0 :: ks)) ∧ ∃ (x8 x9 x10 x11 x12 : Option V), σ' = [some (.ref p), some (.ref xb), some (.str ff), some yk, some v7, some (.str kk), some (.str k0), some (.ref l), x8, x9, x10, x11, x12]) rw1 ?_ ?_ ?_ ?_ ?_
  · exact ⟨s09, ⟨[], [], hl9, ra9, rfl, Nat.zero_le _, fun j t x h => by simp at h⟩, r7'.mono (s8.trans s9), _, _, _, _, _, rfl⟩
  · exact fun _ _ _ p => p.1
  · exact fun d hd => by obtain ⟨x, _, rfl⟩ := List.mem_map.mp hd; exact ⟨_, _, rfl⟩
  · rintro i d1 d2 v1 v2 σ' H10 hd r1 r2 ⟨s10, ⟨ys, ts, hl10, ra10, htl, hil, hts⟩, r10, x8, x9, x10, x11, x12, rfl⟩
    rw [List.getElem?_map] at hd
    obtain ⟨⟨nm, ps⟩, hnp, e⟩ := Option.map_eq_some_iff.mp hd
    cases e
    obtain rfl := r1.inv_str
    have hnpm := List.mem_of_getElem? hnp
    obtain ⟨hp4, hpk⟩ := fok.ps _ hnpm
    have hp4' : ps.length ≤ 4 := hp4
    walk_at "r"
    refine lcETT (K := K) (inK k0) (fun j _ => .int (j : Int)) r2 (by rw [List.length_map]; omega) (fun _ _ => rfl) (fun j v3 d H11 hd rv s11 Qt hQ => ?_) (fun j v3 d H11 hd hpd rv s11 Qt hQ => ?_) (fun v11 H11 s11 r11 => ?_)
    · rw [List.getElem?_map] at hd
      obtain ⟨x, _, rfl⟩ := Option.map_eq_some_iff.mp hd
      obtain rfl := rv.inv_str
      walk_at "r"
      exact hQ _ (by walk_at "S")
    · walk_at "r"
      exact hQ _ _ (by walk_at "S") (R.int _)
    rw [ownJs_d] at r11
    have hol := ownJs_len ps k0
    have r2 : R K H10 v2 (partsD ps) := r2
    have hcd : (ps.map PyData.str).length + (cutD ((k0 :: ks).map PyData.str) (some 1) none).length ≤ 1000000 := by
      have := cutD_len ((k0 :: ks).map PyData.str) (some 1) none
      rw [List.length_map, List.length_cons] at this
      rw [List.length_map] at hl5' ⊢
      have hp4' : ps.length ≤ 4 := hp4
      omega
    walk_at "r"
    rename_i vo H12 s12 ro pl H13 f13 s13 hl13 ra13 vs1 H14 s14 r14 vs2 H15 s15 r15 vs3 H16 s16 r16
    have ro' : R K H12 vo (ownD (some (ff, k0 :: ks, kk, ownJs ps k0))) := ro
    have hl16 : H16 l = some (.lst ys) := s16 _ _ (s15 _ _ (s14 _ _ (s13 _ _ (s12 _ _ (s11 _ _ hl10)))))
    have s1016 : Same H10 H16 := ((((s11.trans s12).trans s13).trans s14).trans s15).trans s16
    have ri : R K H16 vs3 (.list ((ps ++ ks).map PyData.str)) := by
      have e : (ps.map PyData.str ++ cutD ((k0 :: ks).map PyData.str) (some 1) none) = (ps ++ ks).map PyData.str := by
        rw [cutD_1, List.map_append]; rfl
      rw [← e]; exact r16
    have pool : ∀ j ∈ ownJs ps k0, (ps ++ ks)[j]? = (k0 :: ks)[0]? := fun j hj => by
      have h := ownJs_mem hj
      rw [List.getElem?_append_left (List.getElem?_eq_some_iff.mp h).1, h]; rfl
    refine use_termKF (xs := []) (o := some (ff, k0 :: ks, kk, ownJs ps k0)) (show H16 p = some (Stt p) from (s10.trans s1016) _ _ hp) (hb.mono (s10.trans s1016)) ok hkk (.lst (s16 _ _ (s15 _ _ (s14 _ _ hl13))) (((ra13.mono s14).mono s15).mono s16)) ri ((((ro'.mono s13).mono s14).mono s15).mono s16) ⟨fun f' ks' k' js' h => ?_⟩ (by decide) (by rw [List.length_append]; rw [List.length_map] at hl5'; omega) (fun _ h => by cases h) (by decide) (by decide) fun u t H17 s17 ru hkd hd2 hs2 hfl => ?_
    · cases h
      refine ⟨hf, by simp, by simp only [List.length_cons]; rw [List.length_map] at hl5'; omega, fun x hx => ?_, hkk, by omega, pool, hfr⟩
      rcases List.mem_cons.mp hx with rfl | hx
      · exact hk0m
      · exact hks x hx
    walk_at "r"
    have hl17 := s17 _ _ hl16
    have ra17 := (ra10.mono s1016).mono s17
    refine appR (K := K) hl17 ra17 ru (by rw [Th.ds_map, List.length_map]; have := fok.len; omega) (Th.noLs _) (Th.noL _) fun ws H18 x18 hl18 ra18 => ?_
    walk_at "r"
    have s18 : Same H H18 := SameX.same ((s10.trans s1016).trans s17) x18 fl
    refine ⟨s18, ⟨ws, ts ++ [t], hl18, by rw [Th.ds_append]; exact ra18, by simp [htl], ?_, fun j t' x' h1 h2 => ?_⟩, (r10.mono (s1016.trans s17)).monoX x18 hl17 (by exact noLs_strs _), _, _, _, _, _, rfl⟩
    · have := (List.getElem?_eq_some_iff.mp hnp).1; omega
    · rw [List.getElem?_append] at h1
      split at h1
      · exact hts j t' x' h1 h2
      · have hj : j = ts.length := by
          have := (List.getElem?_eq_some_iff.mp h1).1
          simp at this; omega
        rw [hj, Nat.sub_self] at h1
        cases h1
        rw [hj, htl, hnp] at h2
        cases h2
        exact ⟨hkd, hd2, hs2, hfl⟩
  · rintro σ' H10 ⟨s10, ⟨ys, ts, hl10, ra10, htl, hil, hts⟩, r10, x8, x9, x10, x11, x12, rfl⟩
    have rl : R K H10 (.ref l) (.list (Th.ds ts)) := .lst hl10 ra10
    walk_at "r"
    rename_i v11 H11 s11 r11 v12 H12 s12 r12
    exact q _ _ _ _ (by walk_at "S") r12 (.rule k0 ks kk ts hk0 (by rw [List.length_map] at hl5'; exact hl5') hks hkk (by rw [htl, List.length_map]) hts)

end
end G

end

section














namespace G
open PySem PySem.Spec PyProof.Rows L2
section
variable {P : Program} {w : World} {K : PySem.W.Frag} {mg : Str → Option Value} {base : Heap} {k n : Nat}
local macro_rules | `(tactic| walk_at "z") => `(tactic| repeat' ((fail_if_success (with_reducible refine' G.sl_lstR ?_ ?_)); walk_at "s"))
local macro_rules | `(tactic| walk_at "y") => `(tactic| repeat' ((fail_if_success (with_reducible refine G.int_bl2 ?_ ?_)); walk_at "s"))
def FbN (n0 n1 n4 b : Str) (fb : List (Str × List Str)) : Prop := fb = [(n0, []), (n1, [b])] ∨ fb = [(n0, []), (n1, [b]), (n4, [b, b])]
def FcN (n2 n3 n5 : Str) (fc : List (Str × List Str)) : Prop := fc.map (fun x => x.1) = [n2, n3] ∨ fc.map (fun x => x.1) = [n2, n5, n3] ∨ fc.map (fun x => x.1) = [n2, n3, n5]
theorem fbc_nd {n0 n1 n2 n3 n4 n5 n6 b : Str} {fb fc : List (Str × List Str)} (nd : [n0, n1, n2, n3, n4, n5, n6].Nodup) (h1 : FbN n0 n1 n4 b fb) (h2 : FcN n2 n3 n5 fc) : ((fb ++ fc).map (·.1)).Nodup ∧ ∀ x ∈ fb, ∀ p ∈ x.2, p = b := by
  simp only [List.nodup_cons, List.mem_cons, List.not_mem_nil, or_false, not_or, List.nodup_nil, and_true, not_false_eq_true] at nd
  constructor
  · rw [List.map_append]
    have h2 : fc.map (·.1) = [n2, n3] ∨ fc.map (·.1) = [n2, n5, n3] ∨ fc.map (·.1) = [n2, n3, n5] := h2
    rcases h1 with rfl | rfl <;> rcases h2 with e | e | e <;> rw [e] <;> simp [nd, eq_comm] <;> grind
  · rcases h1 with rfl | rfl <;> simp
theorem ok_l_book (T : Tp K mg) (c_l_next : Cal P w K mg base k "_law_next" spNext) (c_l_great : Cal P w K mg base k "_law_great" spGreat) (c_l_function : Cal P w K mg base k "_law_function" (spFun K)) : Cal P w K mg base (k + 1) "_law_book" (spBookR K) := by
  refine T.d_l_book.cal sc_l_book (fun vs H Q E h => ?_) (fun f cdv A outer s H vs Q E hr h => ?_)
  · obtain ⟨p, v, zs, rfl, _⟩ := h; rfl
  obtain ⟨p, v, zs, rfl, hp, rz, n42, q⟩ := h
  have sc := @sc_l_book
  refine ⟨_, (pss_cons (ps_asg (pe_slice (sl_K K) (pv 1) po_none (po_some pe_int)) (gtLK K (pg_lst (n := 3) rfl (pgs_cons (pg_name (i := 2) sc.nd rfl (Or.inl rfl)) (pgs_cons (pg_name (i := 3) sc.nd rfl (Or.inl rfl)) (pgs_cons (pg_name (i := 4) sc.nd rfl (Or.inl rfl)) pgs_nil))))))
      (pss_cons (ps_setLc (i := 5) (own := [("_law_name", 14)]) (g := gName 14) (tt := tYes) rfl sc.nd rfl rfl (sw_true rfl rfl rfl (by decide +kernel)) (pi_listK K (pe_slice (sl_K K) (pv 1) (po_some pe_int) (po_some pe_int))) (blkOk_by (N := n_l_book) (sc := defScope s_l_book) (by decide +kernel)) (fun _ _ _ _ _ => pg_name (i := 14) sc.nd rfl (Or.inl rfl)) (fun _ _ _ _ _ => pts_nil) (fun _ _ _ _ _ => pe_hide (pe_c c_l_great hr (Nat.le_refl _) rfl (pa_cons (pv 14) pa_nil))))
      (pss_cons (ps_set (i := 6) sc.nd rfl (Or.inl rfl) (pe_dispK K (pps_cons (pv 3) (pe_lstF K (pa_cons (pe_tupK K (pa_cons (pe_ix (ix_K K) (pv 5) pe_int (fun _ _ => rfl)) (pa_cons (pe_tupK K pa_nil) pa_nil))) (pa_cons (pe_tupK K (pa_cons (pe_ix (ix_K K) (pv 5) pe_int (fun _ _ => rfl)) (pa_cons (pe_tupK K (pa_cons (pv 3) pa_nil)) pa_nil))) pa_nil))) (pps_cons (pv 4) (pe_lstF K (pa_cons (pe_tupK K (pa_cons (pe_ix (ix_K K) (pv 5) pe_int (fun _ _ => rfl)) (pa_cons (pe_tupK K pa_nil) pa_nil))) (pa_cons (pe_tupK K (pa_cons (pe_ix (ix_K K) (pv 5) pe_int (fun _ _ => rfl)) (pa_cons (pe_tupK K (pa_cons (pv 3) (pa_cons (pv 4) pa_nil))) pa_nil))) pa_nil))) pps_nil)) rfl rfl (by simp) (by decide)))
      (pss_cons (ps_if (pt_cmpR (op_eqK K hr) (pe_c c_l_next hr (Nat.le_refl _) rfl (pa_cons (pv 0) (pa_cons pe_int pa_nil))) pe_int (nomark _)) (pss_one (ps_expr (bmK K (pe_bm PySem.F.plainAttrs_list PySem.F.slot_list_append PySem.F.type_list_append mt_append (pe_dgetH hr (pv 6) (pv 3) (fun _ _ => rfl)) (pa_cons (pe_tupK K (pa_cons (pe_ix (ix_K K) (pv 5) pe_int (fun _ _ => rfl)) (pa_cons (pe_tupK K (pa_cons (pv 3) (pa_cons (pv 3) pa_nil))) pa_nil))) pa_nil))))) pss_nil)
      (pss_cons (ps_if (pt_cmpR (op_eqK K hr) (pe_c c_l_next hr (Nat.le_refl _) rfl (pa_cons (pv 0) (pa_cons pe_int pa_nil))) pe_int (nomark _)) (pss_one (ps_expr (bmK K (pe_bm PySem.F.plainAttrs_list PySem.F.slot_list_insert PySem.F.type_list_insert mt_insertR (pe_dgetH hr (pv 6) (pv 4) (fun _ _ => rfl)) (pa_cons (pe_op (op_addK K) pe_int (pe_c c_l_next hr (Nat.le_refl _) rfl (pa_cons (pv 0) (pa_cons pe_int pa_nil)))) (pa_cons (pe_tupK K (pa_cons (pe_ix (ix_K K) (pv 5) pe_int (fun _ _ => rfl)) (pa_cons (pe_tupK K (pa_cons (pv 4) (pa_cons (pv 2) (pa_cons (pv 3) (pa_cons (pv 4) pa_nil))))) pa_nil))) pa_nil)))))) pss_nil)
      (pss_cons (ps_if (pt_cmpR (op_eqK K hr) (pe_c c_l_next hr (Nat.le_refl _) rfl (pa_cons (pv 0) (pa_cons pe_int pa_nil))) pe_int (nomark _)) (pss_one (ps_asg (pe_tupK K (pa_cons (pe_ix (ix_K K) (pv 5) pe_int (fun _ _ => rfl)) (pa_cons (pe_tupK K (pa_cons (pv 2) (pa_cons (pv 3) pa_nil))) pa_nil))) (pg_sub (pe_dgetH hr (pv 6) (pv 4) (fun _ _ => rfl)) pe_int set_list))) pss_nil)
      (pss_cons (ps_set (i := 7) sc.nd rfl (Or.inl rfl) (pe_lstF K (pa_cons (pe_tupK K (pa_cons (pe_ix (ix_K K) (pv 1) pe_int (fun _ _ => rfl)) (pa_cons (pe_tupK K pa_nil) (pa_cons (pv 2) pa_nil)))) (pa_cons (pe_tupK K (pa_cons (pe_ix (ix_K K) (pv 1) pe_int (fun _ _ => rfl)) (pa_cons (pe_tupK K (pa_cons (pv 2) (pa_cons (pv 3) pa_nil))) (pa_cons (pv 2) pa_nil)))) (pa_cons (pe_tupK K (pa_cons (pe_ix (ix_K K) (pv 1) pe_int (fun _ _ => rfl)) (pa_cons (pe_tupK K (pa_cons (pv 3) pa_nil)) (pa_cons (pv 3) pa_nil)))) pa_nil)))))
      (pss_cons (ps_set (i := 8) sc.nd rfl (Or.inl rfl) (pe_lstK K (pa_cons (pe_tupK K (pa_cons pe_str (pa_cons (pv 2) pa_nil))) (pa_cons (pe_tupK K (pa_cons pe_str (pa_cons (pv 3) (pa_cons (tupleOf_K K rfl T.n_tuple (pe_dgetH hr (pv 6) (pv 3) (fun _ _ => rfl))) pa_nil)))) (pa_cons (pe_tupK K (pa_cons pe_str (pa_cons (pv 4) (pa_cons (tupleOf_K K rfl T.n_tuple (pe_dgetH hr (pv 6) (pv 4) (fun _ _ => rfl))) pa_nil)))) pa_nil)))))
      (pss_cons (ps_set (i := 8) sc.nd rfl (Or.inl rfl) (pe_op (op_addK K) (pv 8) (pe_lc (own := [("_law_f", 11), ("_law_parts", 15), ("_law_kind", 16)]) (g := gN K [11, 15, 16]) (tt := tYes) rfl sc.nd (pi_listK K (pv 7)) (blkOk_by (N := n_l_book) (sc := defScope s_l_book) (by decide +kernel)) (fun _ _ _ _ _ => gtK K (pg_tup (n := 3) rfl (pgs_cons (pg_name (i := 11) sc.nd rfl (Or.inl rfl)) (pgs_cons (pg_name (i := 15) sc.nd rfl (Or.inl rfl)) (pgs_cons (pg_name (i := 16) sc.nd rfl (Or.inl rfl)) pgs_nil))))) (fun _ _ _ _ _ => pts_nil) (fun _ _ _ _ _ => pe_hide (pe_tupK K (pa_cons pe_str (pa_cons (pv 11) (pa_cons (pv 15) (pa_cons (pv 16) pa_nil)))))))))
      (pss_cons (ps_set (i := 9) sc.nd rfl (Or.inr rfl) (pe_tupK K (pa_cons (pv 8) (pa_cons (pv 6) (pa_cons (pv 7) (pa_cons (pe_lstF K (pa_cons (pv 2) (pa_cons (pv 3) (pa_cons (pv 4) pa_nil)))) (pa_cons pe_dnewK (pa_cons (pe_lstF K pa_nil) pa_nil))))))))
      (pss_cons (ps_set (i := 10) sc.nd rfl (Or.inl rfl) (pe_callTy call_int1R rfl T.n_int bt_int (pa_cons (pe_cmpR (op_eqK K hr) (pe_c c_l_next hr (Nat.le_refl _) rfl (pa_cons (pv 0) (pa_cons pe_int pa_nil))) pe_int (nomark _)) pa_nil)))
      (pss_cons (ps_for PassesOwn.never rfl (pi_listK K (pe_slice (sl_K K) (pe_op (op_addK K) (pe_slice (sl_K K) (pv 1) (po_some pe_int) (po_some pe_int)) (pe_slice (sl_K K) (pv 1) (po_some pe_int) (po_some pe_int))) po_none (po_some (pe_op (op_addK K) (pe_op (op_addK K) pe_int (pe_op op_mul pe_int (pv 10))) (pe_c c_l_next hr (Nat.le_refl _) rfl (pa_cons (pv 0) (pa_cons (pe_op op_sub pe_int (pv 10)) pa_nil))))))) (pg_name (i := 11) sc.nd rfl (Or.inl rfl)) (pss_cons (ps_set (i := 12) sc.nd rfl (Or.inl rfl) (pe_c c_l_function hr (Nat.le_refl _) rfl (pa_cons (pv 0) (pa_cons (pv 9) (pa_cons (pv 11) pa_nil)))))
      (pss_cons (ps_expr (bmK K (pe_bm PySem.F.plainAttrs_list PySem.F.slot_list_append PySem.F.type_list_append mt_append (pv 8) (pa_cons (pv 12) pa_nil))))
      (pss_one (ps_expr (bmK K (pe_bm PySem.F.plainAttrs_list PySem.F.slot_list_append PySem.F.type_list_append mt_append (pv 7) (pa_cons (pe_tupK K (pa_cons (pe_ix (ix_K K) (pv 12) pe_int (fun _ _ => rfl)) (pa_cons (pe_ix (ix_K K) (pv 12) pe_int (fun _ _ => rfl)) (pa_cons (pe_ix (ix_K K) (pv 12) pe_int (fun _ _ => rfl)) pa_nil)))) pa_nil))))))))
      (pss_cons (ps_for PassesOwn.never rfl (pi_listK K (pe_slice (sl_K K) (pv 8) (po_some pe_int) po_none)) (pg_name (i := 12) sc.nd rfl (Or.inl rfl)) (pss_one (ps_asg (pv 12) (pg_sub (pe_ix (ix_K K) (pv 9) pe_int (fun _ _ => rfl)) (pe_ix (ix_K K) (pv 12) pe_int (fun _ _ => rfl)) (set_dictK hr)))))
      (pss_cons (ps_for PassesOwn.never rfl (pi_listK K (pe_slice (sl_K K) (pe_op (op_addK K) (pe_slice (sl_K K) (pv 1) (po_some pe_int) (po_some pe_int)) (pe_slice (sl_K K) (pv 1) (po_some pe_int) (po_some pe_int))) po_none (po_some (pe_op (op_addK K) pe_int (pe_op op_mul pe_int (pv 10)))))) (pg_name (i := 13) sc.nd rfl (Or.inl rfl)) (pss_cons (ps_expr (bmK K (pe_bm PySem.F.plainAttrs_list PySem.F.slot_list_append PySem.F.type_list_append mt_append (pe_ix (ix_K K) (pv 9) pe_int (fun _ _ => rfl)) (pa_cons (pe_tupK K (pa_cons (pv 13) (pa_cons (tupleOf_K K rfl T.n_tuple (pe_lc (own := [("_law_j", 17)]) (g := gName 17) (tt := tYes) rfl sc.nd (pi_range1 rfl T.n_range (pa_cons (pe_c c_l_next hr (Nat.le_refl _) rfl (pa_cons (pv 0) (pa_cons pe_int pa_nil))) pa_nil)) (blkOk_by (N := n_l_book) (sc := defScope s_l_book) (by decide +kernel)) (fun _ _ _ _ _ => pg_name (i := 17) sc.nd rfl (Or.inl rfl)) (fun _ _ _ _ _ => pts_nil) (fun _ _ _ _ _ => pe_hide (pe_ix (ix_K K) (pe_ix (ix_K K) (pv 9) pe_int (fun _ _ => rfl)) (pe_c c_l_next hr (Nat.le_refl _) rfl (pa_cons (pv 0) (pa_cons pe_int pa_nil))) (fun _ _ => rfl))))) pa_nil))) pa_nil))))
      (pss_one (ps_expr (bmK K (pe_bm PySem.F.plainAttrs_list PySem.F.slot_list_append PySem.F.type_list_append mt_append (pv 8) (pa_cons (pe_op (op_addK K) (pe_tupK K (pa_cons pe_str pa_nil)) (pe_ix (ix_K K) (pe_ix (ix_K K) (pv 9) pe_int (fun _ _ => rfl)) (pe_un un_neg pe_int) (fun _ _ => rfl))) pa_nil)))))))
      (pss_one (ps_ret (pv 9))))))))))))))))), ?_⟩
  have hz : ∀ i : Nat, i < 42 → (zs.map PyData.str)[i]? = some (.str (zs.getD i "")) := fun i hi => by rw [List.getElem?_map, n42_at n42 hi]; rfl
  have zl : (zs.map PyData.str).length = 42 := by rw [List.length_map, n42.len]
  walk_at "r"
  rename_i v0 H1 s1 r1
  rw [show (3 : Int) = ((3 : Nat) : Int) from rfl, cutD_to, take3 (hz 0 (by decide)) (hz 1 (by decide)) (hz 2 (by decide))] at r1
  refine glst3 r1 fun u1 u2 u3 q1 q2 q3 => ?_
  obtain rfl := q1.inv_str
  obtain rfl := q2.inv_str
  obtain rfl := q3.inv_str
  have na := n42_nm n42 (i := 0) (by decide)
  have nb := n42_nm n42 (i := 1) (by decide)
  have nc := n42_nm n42 (i := 2) (by decide)
  have ab := n42_ne n42 (i := 0) (j := 1) (by decide) (by decide) (by decide)
  have ac := n42_ne n42 (i := 0) (j := 2) (by decide) (by decide) (by decide)
  have bc := n42_ne n42 (i := 1) (j := 2) (by decide) (by decide) (by decide)
  generalize zs.getD 0 "" = a at *
  generalize zs.getD 1 "" = b at *
  generalize zs.getD 2 "" = c at *
  walk_at "r"
  rename_i v4 H4 s4 r4
  rw [show (3 : Int) = ((3 : Nat) : Int) from rfl, show (10 : Int) = ((10 : Nat) : Int) from rfl, cutD_mid _ 3 10 (by rw [zl]; decide) (by decide), ← List.map_drop, ← List.map_take] at r4
  have gm : ∀ z ∈ (zs.drop 3).take (10 - 3), Nm z := fun z hz => n42.nm z (List.mem_of_mem_drop (List.mem_of_mem_take hz))
  have gl : ((zs.drop 3).take (10 - 3)).length = 7 := by rw [List.length_take, List.length_drop, n42.len]; rfl
  refine lcL_f (K := K) (fun d => match d with | .str z => .str (greatS z) | _ => .none) r4 (by rw [List.length_map, gl]; decide) (fun _ => rfl) (fun v d H5 hd rv s5 Qt hQ => ?_) (fun v5 H5 s5 r5 => ?_)
  · obtain ⟨z, hzm, rfl⟩ := List.mem_map.mp hd
    obtain rfl := rv.inv_str
    walk_at "r"
    refine ⟨z, rfl, gm z hzm, fun H6 s6 => ?_⟩
    exact hQ _ _ (by walk_at "S") (R.str _)
  have e5 : ((((zs.drop 3).take (10 - 3)).map PyData.str).map fun d => match d with | .str z => PyData.str (greatS z) | _ => .none) = (((zs.drop 3).take (10 - 3)).map greatS).map PyData.str := by rw [List.map_map, List.map_map]; rfl
  rw [e5] at r5
  have gok : ∀ z ∈ ((zs.drop 3).take (10 - 3)).map greatS, isFormS z = true := fun z hz => by
    obtain ⟨y, hy, rfl⟩ := List.mem_map.mp hz
    exact greatS_ok (gm y hy)
  have ggl : (((zs.drop 3).take (10 - 3)).map greatS).length = 7 := by rw [List.length_map, gl]
  have gnd : (((zs.drop 3).take (10 - 3)).map greatS).Nodup := by
    have h1 : ((zs.drop 3).take (10 - 3)).Nodup := (n42.nd.sublist (List.drop_sublist _ _)).sublist (List.take_sublist _ _)
    unfold List.Nodup at *
    rw [List.pairwise_map]
    exact h1.imp_of_mem fun hx hy hne e => hne (greatS_inj (gm _ hx) (gm _ hy) e)
  generalize ((zs.drop 3).take (10 - 3)).map greatS = GL at gok ggl gnd r5
  obtain ⟨n0, n1, n2, n3, n4, n5, n6, rfl⟩ : ∃ n0 n1 n2 n3 n4 n5 n6, GL = [n0, n1, n2, n3, n4, n5, n6] := by
    match GL, ggl with
    | [n0, n1, n2, n3, n4, n5, n6], _ => exact ⟨n0, n1, n2, n3, n4, n5, n6, rfl⟩
  have f0 := gok n0 (by simp)
  have f1 := gok n1 (by simp)
  have f2 := gok n2 (by simp)
  have f3 := gok n3 (by simp)
  have f4 := gok n4 (by simp)
  have f5 := gok n5 (by simp)
  have s05 : Same H H5 := by walk_at "S"
  clear s1 s4 s5
  walk_at "r"
  refine st_disp2 fun F H6 fF s6 hF6 => ?_
  walk_at "r"
  rename_i z1 t1 G1 h1 w1 t2 G2 h2 w2 z2 t3 G3 h3 w3 t4 G4 h4 w4 lb G5 e5 h5 hlb rab z3 t5 G6 h6 w5 t6 G7 h7 w6 z4 t7 G8 h8 w7 t8 G9 h9 w8 lc G10 e10 h10 hlc rac
  clear z1 z2 z3 z4
  have s6_4 : Same H6 G4 := ((h1.trans h2).trans h3).trans h4
  have s5_10 : Same G5 G10 := (((h6.trans h7).trans h8).trans h9).trans h10
  have kb : Lk K G10 lb ([(n0, []), (n1, [b])].map formD) := (Lk.of hlb rab (by rfl)).mono s5_10
  have kc : Lk K G10 lc ([(n2, []), (n3, [b, c])].map formD) := Lk.of hlc rac (by rfl)
  have s6_9 : Same H6 G9 := ((((s6_4.trans h5).trans h6).trans h7).trans h8).trans h9
  have hF10 : G10 F = some (.dK []) := h10 _ _ (s6_9 _ _ hF6)
  have s5_10' : Same H5 G10 := (s6.trans s6_9).trans h10
  have nlb : H5 lb = none := none_of (s6.trans s6_4) e5
  have nlc : H5 lc = none := none_of (s6.trans s6_9) e10
  have hbc : lb ≠ lc := fun e => by
    have q1 := ((((h6.trans h7).trans h8).trans h9) _ _ hlb)
    rw [e] at q1; rw [e10] at q1; cases q1
  refine disp2R hF10 bc fun H7 x7 hF7 => ?_
  have s7 : Same H5 H7 := SameX.same s5_10' x7 fF
  have fs7 : FS K H7 F lb lc b c [(n0, []), (n1, [b])] [(n2, []), (n3, [b, c])] := ⟨hbc, hF7, kb.dx x7 hF10, kc.dx x7 hF10⟩
  clear hF6 hF10 s5_10 s5_10' s6_9 s6_4 h1 h2 h3 h4 h5 h6 h7 h8 h9 h10 w1 w2 w3 w4 w5 w6 w7 w8 rab rac hlb hlc kb kc hF7 x7 s6 e5 e10
  walk_at "u"
  have vb : ∀ {y1 y2 : V}, valV ([(Sum.inr b, y1), (Sum.inr c, y2)] : List (Key × V)) (Sum.inr b) = some y1 := fun {y1 y2} => valV_pos rfl
  have vc : ∀ {y1 y2 : V}, valV ([(Sum.inr b, y1), (Sum.inr c, y2)] : List (Key × V)) (Sum.inr c) = some y2 := fun {y1 y2} => by rw [valV_neg (fun h => bc (Sum.inr.inj h)), valV_pos rfl]
  refine if_joinP (fun H' => Same H5 H' ∧ ∃ fb, FbP a b c fb ∧ FbN n0 n1 n4 b fb ∧ FS K H' F lb lc b c fb [(n2, []), (n3, [b, c])]) (fun P hP => ?_) ?_
  · walk_at "r"
    · rename_i rr Ha sa ra0 ra1 hrr
      have fsa := fs7.mono sa
      refine dget_at fsa.hF vb ?_
      refine fsa.hb.ty ?_
      walk_at "r"
      rename_i z1 t1 Hb sb wb t2 Hc scc wc
      have fsc := (fsa.mono sb).mono scc
      refine app_L fsc.hb wc (by simp) rfl fun Hd xd kd => ?_
      walk_at "r"
      exact hP _ ⟨SameX.same (s7.trans (sa.trans (sb.trans scc))) xd nlb, _, fb_1 f0 f1 f4, .inr rfl, fsc.atB xd kd⟩
    · exact hP _ ⟨by walk_at "S", _, fb_0 f0 f1, .inl rfl, fs7.mono (by walk_at "S")⟩
  rintro H8 ⟨s8, fb, fbp, fbn, fs8⟩
  clear s7 fs7
  walk_at "u"
  refine if_joinP (fun H' => Same H5 H' ∧ ∃ fc, ((∃ r, fc = (n2, []) :: r) ∧ fc.length ≤ 3 ∧ (∀ x ∈ fc, x ∈ [(n2, []), (n3, [b, c]), (n5, [c, a, b, c]), (n2, [a, b])]) ∧ FcN n2 n3 n5 fc) ∧ FS K H' F lb lc b c fb fc) (fun P hP => ?_) ?_
  · walk_at "r"
    · rename_i rr Ha sa ra0 ra1 hrr
      have fsa := fs8.mono sa
      refine dget_at fsa.hF vc ?_
      refine fsa.hc.ty ?_
      walk_at "r"
      rename_i r2 Hb sb rb0 rb1 z1 t1 Hc scc wc t2 Hd sd wd
      have fsd := ((fsa.mono sb).mono scc).mono sd
      refine ins_L fsd.hc wd (by simp) (by omega) (by omega) rfl fun He xe ke => ?_
      walk_at "r"
      have e2 : ([(n2, []), (n3, [b, c])].map formD).take (1 + r2).toNat ++ [PyData.tuple [.str n5, .tuple [.str c, .str a, .str b, .str c]]] ++ ([(n2, []), (n3, [b, c])].map formD).drop (1 + r2).toNat = (([(n2, []), (n3, [b, c])] : List (Str × List Str)).take (1 + r2).toNat ++ [(n5, [c, a, b, c])] ++ ([(n2, []), (n3, [b, c])] : List (Str × List Str)).drop (1 + r2).toNat).map formD := by
        rw [List.map_append, List.map_append, List.map_take, List.map_drop]; rfl
      rw [e2] at ke
      refine hP _ ⟨SameX.same (s8.trans (sa.trans (sb.trans (scc.trans sd)))) xe nlc, _, ?_, fsd.atC xe ke⟩
      rcases (by omega : r2 = 0 ∨ r2 = 1) with rfl | rfl
      · exact ⟨⟨_, rfl⟩, by simp, by simp, .inr (.inl rfl)⟩
      · exact ⟨⟨_, rfl⟩, by simp, by simp, .inr (.inr rfl)⟩
    · exact hP _ ⟨by walk_at "S", _, ⟨⟨_, rfl⟩, by simp, by simp, .inl rfl⟩, fs8.mono (by walk_at "S")⟩
  rintro H9 ⟨s9, fc, ⟨⟨fcr, hfc⟩, fcl, fcm, fcn⟩, fs9⟩
  clear s8 fs8
  walk_at "u"
  refine if_joinP (fun H' => Same H5 H' ∧ ∃ fc, FcP a b c fc ∧ FcN n2 n3 n5 fc ∧ FS K H' F lb lc b c fb fc) (fun P hP => ?_) ?_
  · walk_at "r"
    · rename_i rr Ha sa ra0 ra1 hrr z1 t1 Hb sb wb t2 Hc scc wc
      have fsc := ((fs9.mono sa).mono sb).mono scc
      refine dget_at fsc.hF vc ?_
      walk_at "r"
      have kc := fsc.hc
      rw [hfc, List.map_cons] at kc
      refine set0_L kc wc rfl fun Hd xd kd => ?_
      have kd' : Lk K Hd lc (((n2, [a, b]) :: fcr).map formD) := kd
      refine hP _ ⟨SameX.same (s9.trans (sa.trans (sb.trans scc))) xd nlc, _, ⟨fc_mem f2 f3 f5 (by rw [hfc] at fcl; simpa using fcl) (fun x hx => ?_), n2, fcr, .inr rfl⟩, (by rw [hfc] at fcn; exact fcn), fsc.atC xd kd'⟩
      rcases List.mem_cons.mp hx with rfl | hx
      · simp
      · exact fcm x (by rw [hfc]; exact List.mem_cons_of_mem _ hx)
    · exact hP _ ⟨by walk_at "S", fc, ⟨fc_mem f2 f3 f5 fcl fcm, n2, fcr, .inl hfc⟩, fcn, fs9.mono (by walk_at "S")⟩
  rintro H10 ⟨s10, fc, fcp, fcn', fs10⟩
  clear s9 fs9 hfc fcl fcm fcn
  have fcn := fcn'
  clear fcn'
  have eσ : (((((List.set (L2.start n_l_book [V.ref p, v]) 2 (some (V.str a))).set 3 (some (V.str b))).set 4 (some (V.str c))).set 5 (some v5)).set 6 (some (V.ref F))) = [some (.ref p), some v, some (.str a), some (.str b), some (.str c), some v5, some (.ref F), none, none, none, none, none, none, none, none, none, none, none] := rfl
  rw [eσ]
  clear eσ
  have ix10 : (zs.map PyData.str)[(10 : Int).toNat]? = some (.str (zs.getD 10 "")) := hz 10 (by decide)
  have ix11 : (zs.map PyData.str)[(11 : Int).toNat]? = some (.str (zs.getD 11 "")) := hz 11 (by decide)
  have ix12 : (zs.map PyData.str)[(12 : Int).toNat]? = some (.str (zs.getD 12 "")) := hz 12 (by decide)
  have m1 := (n42_nm n42 (i := 10) (by decide)).ok
  have m2 := (n42_nm n42 (i := 11) (by decide)).ok
  have m3 := (n42_nm n42 (i := 12) (by decide)).ok
  have y12 := n42_ne n42 (i := 10) (j := 11) (by decide) (by decide) (by decide)
  have y13 := n42_ne n42 (i := 10) (j := 12) (by decide) (by decide) (by decide)
  have y23 := n42_ne n42 (i := 11) (j := 12) (by decide) (by decide) (by decide)
  have hat : atI zs [10, 11, 12] = [.str (zs.getD 10 ""), .str (zs.getD 11 ""), .str (zs.getD 12 "")] := rfl
  obtain ⟨y1, hy1⟩ : ∃ y, zs.getD 10 "" = y := ⟨_, rfl⟩
  obtain ⟨y2, hy2⟩ : ∃ y, zs.getD 11 "" = y := ⟨_, rfl⟩
  obtain ⟨y3, hy3⟩ : ∃ y, zs.getD 12 "" = y := ⟨_, rfl⟩
  rw [hy1, hy2, hy3] at hat
  rw [hy1] at ix10 m1 y12 y13
  rw [hy2] at ix11 m2 y12 y23
  rw [hy3] at ix12 m3 y13 y23
  clear hy1 hy2 hy3
  walk_at "u"
  rename_i o1 t1 K1 k1 w1 t2 K2 k2 w2 o2 t3 K3 k3 w3 t4 K4 k4 w4 o3 t5 K5 k5 w5 t6 K6 k6 w6 C K7 eC k7 hlC raC t7 K8 k8 w8
  have s5_6 : Same H5 K6 := (((((s10.trans k1).trans k2).trans k3).trans k4).trans k5).trans k6
  have nC : H5 C = none := none_of s5_6 eC
  have kC : Lk K K7 C ([(y1, [], a), (y2, [a, b], a), (y3, [b], b)].map callD) := Lk.of hlC raC (by rfl)
  have fs8 : FS K K8 F lb lc b c fb fc := fs10.mono ((((((k1.trans k2).trans k3).trans k4).trans k5).trans k6).trans (k7.trans k8))
  have s8 : Same H5 K8 := s5_6.trans (k7.trans k8)
  have kC8 := kC.mono k8
  have fsK6 := fs10.mono (((((k1.trans k2).trans k3).trans k4).trans k5).trans k6)
  have nebC : lb ≠ C := fresh_ne eC fsK6.hb
  have necC : lc ≠ C := fresh_ne eC fsK6.hc
  clear fsK6
  clear k1 k2 k3 k4 k5 k6 k7 s5_6 w1 w2 w3 w4 w5 w6 raC hlC kC
  refine dget_at fs8.hF vb ?_
  have rb8 := fs8.hb.R
  walk_at "u"
  rename_i t9 K9 k9 w9 t10 K10 k10 w10
  have fs10' : FS K K10 F lb lc b c fb fc := (fs8.mono k9).mono k10
  refine dget_at fs10'.hF vc ?_
  have rc10 := fs10'.hc.R
  have kC10 := (kC8.mono k9).mono k10
  walk_at "u"
  rename_i t11 K11 k11 w11 t12 K12 k12 w12 vr K13 k13 wr
  have kC13 := ((kC10.mono k11).mono k12).mono k13
  have rC13 := kC13.R
  have s5_13 : Same H5 K13 := ((((s8.trans k9).trans k10).trans k11).trans k12).trans k13
  have fs13 : FS K K13 F lb lc b c fb fc := ((fs10'.mono k11).mono k12).mono k13
  clear k8 k9 k10 k11 k12 k13 kC10 kC8 rc10 rb8 fs10' fs8 s8 w9 w10 w11 w12 w8 s10 fs10
  walk_at "u"
  refine lcLYn (K := K) (is := [11, 15, 16]) giF rC13 (by simp) (fun ws => hw_all (by simp) ws)
    (fun d hd => by obtain ⟨x, _, rfl⟩ := List.mem_map.mp hd; exact ⟨_, rfl, rfl⟩) (fun ws cs Hx hd hl rws sx Qt hQ => ?_) (fun v14 K14 k14 r14 => ?_)
  · obtain ⟨x, _, e'⟩ := List.mem_map.mp hd
    cases e'
    obtain ⟨v1, ws, rfl, q1, rws⟩ := rws.inv_cons
    obtain ⟨v2, ws, rfl, q2, rws⟩ := rws.inv_cons
    obtain ⟨v3, ws, rfl, q3, rws⟩ := rws.inv_cons
    obtain rfl := rws.inv_nil
    obtain rfl := q1.inv_str
    obtain rfl := q3.inv_str
    walk_at "r"
    rename_i v4 Hy sy ry
    exact hQ _ _ (by walk_at "S") ry
  have nlr : noLs ([PyData.tuple [.str "open", .str a], .tuple [.str "kind", .str b, .tuple (fb.map formD)], .tuple [.str "kind", .str c, .tuple (fc.map formD)]] ++ ([(y1, [], a), (y2, [a, b], a), (y3, [b], b)].map callD).map giF) = true := by
    rw [noLs_append, noLs_gi]
    simp [noLs, noL, noLs_forms]
  refine add_lstF (wr.mono k14) r14 (by simp) nlr fun Rw K15 eR k15 kR => ?_
  have s5_14 : Same H5 K14 := s5_13.trans k14
  have nR : H5 Rw = none := none_of s5_14 eR
  have hCR : C ≠ Rw := fresh_ne eR (kC13.mono k14)
  have nebR : lb ≠ Rw := fresh_ne eR (fs13.mono k14).hb
  have necR : lc ≠ Rw := fresh_ne eR (fs13.mono k14).hc
  have fs15 := (fs13.mono k14).mono k15
  have kC15 := (kC13.mono k14).mono k15
  have s15 : Same H5 K15 := s5_14.trans k15
  have r0ok : TailOk ([PyData.tuple [.str "open", .str a], .tuple [.str "kind", .str b, .tuple (fb.map formD)], .tuple [.str "kind", .str c, .tuple (fc.map formD)]] ++ ([(y1, [], a), (y2, [a, b], a), (y3, [b], b)].map callD).map giF) := by
    refine ⟨by simp, fun d hd => ?_⟩
    have hd : d ∈ ([(y1, [], a), (y2, [a, b], a), (y3, [b], b)].map callD).map giF := hd
    simp only [List.map_cons, List.map_nil, List.mem_cons, List.not_mem_nil, or_false] at hd
    rcases hd with rfl | rfl | rfl <;> exact ⟨_, _, _, rfl⟩
  have r0l : ([PyData.tuple [.str "open", .str a], .tuple [.str "kind", .str b, .tuple (fb.map formD)], .tuple [.str "kind", .str c, .tuple (fc.map formD)]] ++ ([(y1, [], a), (y2, [a, b], a), (y3, [b], b)].map callD).map giF).length ≤ 10 := by simp
  have r0L : ([PyData.tuple [.str "open", .str a], .tuple [.str "kind", .str b, .tuple (fb.map formD)], .tuple [.str "kind", .str c, .tuple (fc.map formD)]] ++ ([(y1, [], a), (y2, [a, b], a), (y3, [b], b)].map callD).map giF) = (hd3 ⟨a, b, c, fb, fc, [(y1, [], a), (y2, [a, b], a), (y3, [b], b)], []⟩ ++ fnsOf ⟨a, b, c, fb, fc, [(y1, [], a), (y2, [a, b], a), (y3, [b], b)], []⟩ [.none, .none, .none]).map Row.d := rfl
  generalize ([PyData.tuple [.str "open", .str a], .tuple [.str "kind", .str b, .tuple (fb.map formD)], .tuple [.str "kind", .str c, .tuple (fc.map formD)]] ++ ([(y1, [], a), (y2, [a, b], a), (y3, [b], b)].map callD).map giF) = rows0 at kR r0ok r0l r0L
  clear k14 k15 s5_14 s5_13 kC13 rC13 fs13 wr r14
  walk_at "u"
  rename_i Kd K16 fK k16 hlK raK
  have kK16 : Lk K K16 Kd ([a, b, c].map PyData.str) := Lk.of hlK raK (by rfl)
  have fs16 := fs15.mono k16
  have kC16 := kC15.mono k16
  have kR16 := kR.mono k16
  refine st_newD (K := K) fun D K17 fD k17 hD => ?_
  walk_at "u"
  rename_i W K18 fW k18 hlW raW
  have kW18 : Lk K K18 W [] := Lk.of hlW raW (by rfl)
  have nDF : D ≠ F := fun e => by rw [e, fs16.hF] at fD; cases fD
  have bn : BN H5 F lb lc C Rw Kd D W := by
    have s16 := s15.trans k16
    refine ⟨?_, nDF, nC, nR, none_of s16 fD, none_of (s16.trans k17) fW⟩
    have a1 := fresh_ne fK fs15.hb
    have a2 := fresh_ne fK fs15.hc
    have a3 := fresh_ne fK kC15
    have a4 := fresh_ne fK kR
    have b1 := fresh_ne fW (fs16.mono k17).hb
    have b2 := fresh_ne fW (fs16.mono k17).hc
    have b3 := fresh_ne fW (kC16.mono k17)
    have b4 := fresh_ne fW (kR16.mono k17)
    have b5 := fresh_ne fW (kK16.mono k17)
    simp [hbc, nebC, necC, hCR, nebR, necR, a1, a2, a3, a4, b1, b2, b3, b4, b5]
  refine st_newTF (K := K) (by simp) fun x K19 fx k19 hx => ?_
  have bs : BS K H5 K19 x F lb lc C Rw Kd D W ⟨a, b, c, fb, fc, [(y1, [], a), (y2, [a, b], a), (y3, [b], b)], []⟩ rows0 [] :=
    ⟨((s15.trans k16).trans (k17.trans k18)).trans k19, hx, (fs16.mono (k17.trans k18)).mono k19, (kC16.mono (k17.trans k18)).mono k19, (kR16.mono (k17.trans k18)).mono k19, (kK16.mono (k17.trans k18)).mono k19, k19 _ _ (k18 _ _ hD), kW18.mono k19⟩
  clear k16 k17 k18 k19 s15 fs15 kC15 kR fs16 kC16 kR16 kK16 kW18 hlK raK hlW raW fK fD hD fW fx hx
  have hp5 : H5 p = some (Stt p) := s05 _ _ hp
  have rz5 := rz.mono s05
  have bok : BkOk ⟨a, b, c, fb, fc, [(y1, [], a), (y2, [a, b], a), (y3, [b], b)], []⟩ := by
    refine ⟨ab, ac, bc, na.ok, nb.ok, nc.ok, ⟨fbp.ok.len, fbp.ok.nm, fbp.ok.ps⟩, ⟨fcp.ok.len, fcp.ok.nm, fcp.ok.ps⟩, fbp.hd, fcp.hd, ⟨_, _, rfl⟩, by simp, fun x hx => ?_, by simp, fun x hx => by cases hx⟩
    simp only [List.mem_cons, List.not_mem_nil, or_false] at hx
    rcases hx with rfl | rfl | rfl <;> simp [m1, m2, m3, Bk.kinds]
  have fbc := fbc_nd gnd fbn fcn
  have l10 : ∀ LL : List PyData, L1 ([PyData.str y1, .str y2, .str y3] ++ LL) 0 ⟨a, b, c, fb, fc, [(y1, [], a), (y2, [a, b], a), (y3, [b], b)], []⟩ rows0 := fun LL => ⟨_, r0L, ⟨rfl, by simp [y12, y13, y23], by simp, fbc.1, fbc.2, fun i c' b' _ hb' => by
    have : b' = .none := by
      have hm := List.mem_of_getElem? hb'
      simp only [List.mem_cons, List.not_mem_nil, or_false, or_self] at hm
      exact hm
    rw [this]; exact True.intro⟩, rfl⟩
  have ga0 : (⟨a, b, c, fb, fc, [(y1, [], a), (y2, [a, b], a), (y3, [b], b)], []⟩ : Bk).a = a ∧ (⟨a, b, c, fb, fc, [(y1, [], a), (y2, [a, b], a), (y3, [b], b)], []⟩ : Bk).b = b ∧ (⟨a, b, c, fb, fc, [(y1, [], a), (y2, [a, b], a), (y3, [b], b)], []⟩ : Bk).c = c ∧ (⟨a, b, c, fb, fc, [(y1, [], a), (y2, [a, b], a), (y3, [b], b)], []⟩ : Bk).words = [] ∧ (⟨a, b, c, fb, fc, [(y1, [], a), (y2, [a, b], a), (y3, [b], b)], []⟩ : Bk).calls.length = 3 := ⟨rfl, rfl, rfl, rfl, rfl⟩
  generalize (⟨a, b, c, fb, fc, [(y1, [], a), (y2, [a, b], a), (y3, [b], b)], []⟩ : Bk) = g at bs bok ga0 l10
  have hp19 : K19 p = some (Stt p) := bs.same _ _ hp5
  have rz19 := rz5.mono bs.same
  walk_at "y"
  rename_i rw0 K20 k20 hrw0 hrw1
  refine int_any fun wd hwd0 hwd1 => ?_
  walk_at "r"
  rename_i vA HA sA rA vB HB sB rB
  have cA := cutD_len (zs.map PyData.str) (some 13) (some 18)
  have cB := cutD_len (zs.map PyData.str) (some 21) (some 26)
  have hmA : ∀ d ∈ cutD (zs.map PyData.str) (some 13) (some 18) ++ cutD (zs.map PyData.str) (some 21) (some 26), ∃ z ∈ zs, d = .str z := fun d hd => by
    rcases List.mem_append.mp hd with h | h <;>
    · obtain ⟨z, hz, e⟩ := List.mem_map.mp (List.mem_of_mem_drop (List.mem_of_mem_take h))
      exact ⟨z, hz, e.symm⟩
  refine add_lst (rA.mono sB) rB (by omega) fun vL HL sL rL => ?_
  have nlA : noLs (cutD (zs.map PyData.str) (some 13) (some 18) ++ cutD (zs.map PyData.str) (some 21) (some 26)) = true := noLs_mem.mpr fun d hd => by
    obtain ⟨z, _, rfl⟩ := hmA d hd; rfl
  have lA : (cutD (zs.map PyData.str) (some 13) (some 18) ++ cutD (zs.map PyData.str) (some 21) (some 26)).length ≤ 84 := by rw [List.length_append]; omega
  have eLA : cutD (zs.map PyData.str) (some 13) (some 18) ++ cutD (zs.map PyData.str) (some 21) (some 26) = atI zs [13, 14, 15, 16, 17, 21, 22, 23, 24, 25] := by
    rw [show (13 : Int) = ((13 : Nat) : Int) from rfl, show (18 : Int) = ((13 + 5 : Nat) : Int) from rfl, cut_atI n42 (by decide), show (21 : Int) = ((21 : Nat) : Int) from rfl, show (26 : Int) = ((21 + 5 : Nat) : Int) from rfl, cut_atI n42 (by decide)]; rfl
  have ndA : ([PyData.str y1, .str y2, .str y3] ++ (cutD (zs.map PyData.str) (some 13) (some 18) ++ cutD (zs.map PyData.str) (some 21) (some 26))).Nodup := by
    rw [eLA, ← hat]
    exact atI_nd n42 (I := [10, 11, 12, 13, 14, 15, 16, 17, 21, 22, 23, 24, 25]) (by decide) (by decide)
  have lA10 : (cutD (zs.map PyData.str) (some 13) (some 18) ++ cutD (zs.map PyData.str) (some 21) (some 26)).length = 10 := by rw [eLA]; rfl
  clear eLA
  generalize cutD (zs.map PyData.str) (some 13) (some 18) ++ cutD (zs.map PyData.str) (some 21) (some 26) = LA at rL hmA nlA lA ndA lA10
  have bsL := bs.mono (k20.trans (sA.trans (sB.trans sL)))
  have hpL : HL p = some (Stt p) := bsL.same _ _ hp5
  clear k20 sA sB sL rA rB bs hp19 rz19
  walk_at "z"
  rename_i rn HM sM hrn0 hrn1
  refine sl_lstF (rL.mono sM) nlA fun l HN fl sN kl => ?_
  have hml : ∀ d ∈ cutD LA none (some (2 + 6 * wd + rn)), ∃ z ∈ zs, d = .str z := fun d hd => hmA d (List.mem_of_mem_drop (List.mem_of_mem_take hd))
  have ll : (cutD LA none (some (2 + 6 * wd + rn))).length ≤ 84 := Nat.le_trans (cutD_len _ _ _) lA
  have ndL : ([PyData.str y1, .str y2, .str y3] ++ cutD LA none (some (2 + 6 * wd + rn))).Nodup := by
    rw [show (2 + 6 * wd + rn : Int) = ((2 + 6 * wd + rn).toNat : Int) from by omega, cutD_to]
    exact ndA.sublist (List.Sublist.append_left (List.take_sublist _ _) _)
  have ll10 : (cutD LA none (some (2 + 6 * wd + rn))).length ≤ 10 := Nat.le_trans (cutD_len _ _ _) (Nat.le_of_eq lA10)
  generalize cutD LA none (some (2 + 6 * wd + rn)) = LL at kl hml ll ndL ll10
  have bsM := bsL.mono sM
  have lC : l ≠ C := (fresh_ne fl bsM.kC).symm
  have lR : l ≠ Rw := (fresh_ne fl bsM.kR).symm
  have bsN := bsM.mono sN
  obtain ⟨xl, hl, ral⟩ := kl.ex
  have nll := kl.no
  clear bsM bsL sM sN rL kl fl hpL
  walk_at "r"
  have ga := ga0
  refine for_LDl (K := K) (ds := LL) (fun i σ' H' => (∃ g rows, BS K H5 H' x F lb lc C Rw Kd D W g rows [] ∧ BkOk g ∧ (g.a = a ∧ g.b = b ∧ g.c = c ∧ g.words = []) ∧ g.calls.length ≤ 3 + i ∧ i ≤ LL.length ∧ rows.length ≤ 10 + i ∧ L1 ([PyData.str y1, .str y2, .str y3] ++ LL) i g rows) ∧ H' l = some (.lst xl) ∧ RA K H' xl LL ∧
      ∃ x11 x12 x13 x14 x15 x16 x17 : Option V, σ' = [some (.ref p), some v, some (.str a), some (.str b), some (.str c), some v5, some (.ref F), some (.ref C), some (.ref Rw), some (.ref x), some (.int wd), x11, x12, x13, x14, x15, x16, x17])
      ⟨⟨g, rows0, bsN, bok, ⟨ga.1, ga.2.1, ga.2.2.1, ga.2.2.2.1⟩, by rw [ga.2.2.2.2]; omega, Nat.zero_le _, by omega, l10 LL⟩, hl, ral, _, _, _, _, _, _, _, rfl⟩ (fun _ _ _ h => ⟨⟨xl, h.2.1, h.2.2.1⟩, nll⟩) ?_ ?_ (fun xs hx k σ' H' h => by rw [hl] at hx; cases hx; exact h.2.1)
  · rintro i d vd σ' HQ hd rd ⟨⟨g, rows, bs, ok, hg, hcl, hil, hrl, htl⟩, hl2, ra2, x11, x12, x13, x14, x15, x16, x17, rfl⟩
    obtain ⟨z, hz, rfl⟩ := hml d (List.mem_of_getElem? hd)
    obtain rfl := rd.inv_str
    have hiL := (List.getElem?_eq_some_iff.mp hd).1
    walk_at "r"
    have hz3 : ([PyData.str y1, .str y2, .str y3] ++ LL)[3 + i]? = some (.str z) := by rw [List.getElem?_append_right (by simp), show 3 + i - [PyData.str y1, .str y2, .str y3].length = i from by simp]; exact hd
    refine use_fun (bs.same _ _ hp5) bs.at ok (n42.nm z hz).ok (htl.fresh ndL hz3) fun u du cu H1 s1 ru row => ?_
    obtain ⟨w, ks, kk, X, rfl, rfl, nrow, hk4, hkm, hkk⟩ := row_is row
    have bs1 := bs.mono s1
    walk_at "r"
    refine bs1.kR.ty ?_
    walk_at "r"
    refine app_L bs1.kR ru (by omega) nrow fun H2 x2 k2 => ?_
    have bs2 := BS.appR bn bs1 x2 k2
    obtain ⟨xr, qr, _⟩ := bs1.kR.ex
    have ru2 : R K H2 u (.tuple [.str w, .str z, partsD ks, .str kk, X]) := ru.monoX x2 qr nrow
    walk_at "r"
    refine bs2.kC.ty ?_
    walk_at "r"
    rename_i q1 uv q2 q3 tv H3 s3 r3
    have bs3 := bs2.mono s3
    refine app_L bs3.kC r3 (by rw [List.length_map]; omega) (by simp [noL, noLs, noLs_strs]) fun H4 x4 k4 => ?_
    have k4' : Lk K H4 C ((g.calls ++ [(z, ks, kk)]).map callD) := by rw [List.map_append]; exact k4
    have bs4 := BS.appC bn bs3 x4 k4'
    obtain ⟨xc, qc, _⟩ := bs3.kC.ex
    walk_at "r"
    refine ⟨⟨{ g with calls := g.calls ++ [(z, ks, kk)] }, _, bs4, bk_call ok ⟨(n42.nm z hz).ok, hk4, hkm, hkk⟩ (by rw [List.length_append, List.length_singleton]; omega), hg, ?_, by omega, by rw [List.length_append, List.length_singleton]; omega, htl.step ndL hz3 row⟩, x4 l _ lC (s3 _ _ (x2 l _ lR (s1 _ _ hl2))), (((ra2.mono s1).monoX x2 qr nll).mono s3).monoX x4 qc nll, _, _, _, _, _, _, _, rfl⟩
    show (g.calls ++ [(z, ks, kk)]).length ≤ _
    rw [List.length_append, List.length_singleton]; omega
  · rintro σ' HQ ⟨⟨g, rows, bs, ok, hg, hcl, hil, hrl, htl⟩, hl2, ra2, x11, x12, x13, x14, x15, x16, x17, rfl⟩
    clear hl ral bsN
    walk_at "r"
    refine sl_lstF bs.kR.R bs.kR.no fun l2 H1 fl2 s1 kl2 => ?_
    rw [show (3 : Int) = ((3 : Nat) : Int) from rfl, cutD_from rows 3] at kl2
    obtain ⟨bb, hrows, B, hnms⟩ := htl
    have hdr : rows.drop 3 = (fnsOf g bb).map Row.d := by rw [hrows]; rfl
    have hfl : (fnsOf g bb).length ≤ 20 := by rw [fnsOf, List.length_map, List.length_zip, B.len]; omega
    rw [hdr] at kl2
    have l2D : l2 ≠ D := fun e => by rw [e, bs.kD] at fl2; cases fl2
    obtain ⟨xl2, hl3, ral3⟩ := kl2.ex
    have nll2 := kl2.no
    have bs1 := bs.mono s1
    refine for_LDl (K := K) (ds := (fnsOf g bb).map Row.d) (fun i σ' H' => (∃ kvs, BS K H5 H' x F lb lc C Rw Kd D W g rows kvs ∧ DAt K H' D (fnD2 ((fnsOf g bb).take i))) ∧ H' l2 = some (.lst xl2) ∧ RA K H' xl2 ((fnsOf g bb).map Row.d) ∧
      ∃ x11 x12 x13 x14 x15 x16 x17 : Option V, σ' = [some (.ref p), some v, some (.str a), some (.str b), some (.str c), some v5, some (.ref F), some (.ref C), some (.ref Rw), some (.ref x), some (.int wd), x11, x12, x13, x14, x15, x16, x17])
      ⟨⟨[], bs1, ⟨⟨[], bs1.kD, .nil⟩, fun _ h => by cases h⟩⟩, hl3, ral3, _, _, _, _, _, _, _, rfl⟩ (fun _ _ _ h => ⟨⟨xl2, h.2.1, h.2.2.1⟩, nll2⟩) ?_ ?_ (fun xs hx k σ' H' h => by rw [hl3] at hx; cases hx; exact h.2.1)
    · rintro i d vd σ' H2 hd rd ⟨⟨kvs, bs2, hD2⟩, hl4, ra4, x11, x12, x13, x14, x15, x16, x17, rfl⟩
      rw [List.getElem?_map] at hd
      obtain ⟨r, hri, rfl⟩ := Option.map_eq_some_iff.mp hd
      have hil2 : i < (fnsOf g bb).length := (List.getElem?_eq_some_iff.mp hri).1
      obtain ⟨⟨c5, b5⟩, _, rfl⟩ := List.mem_map.mp (List.mem_of_getElem? hri)
      obtain ⟨ww, xx, hrd⟩ := fn_row c5.1 c5.2.1 c5.2.2 b5
      have rd' : R K H2 vd (.tuple (.str ww :: .str c5.1 :: partsD c5.2.1 :: .str c5.2.2 :: xx)) := by rw [← hrd]; exact rd
      walk_at "r"
      refine .inr (.inl ⟨x, _, 4, .ref D, rfl, rfl, bs2.tup, atI_pos (by decide) rfl, ?_⟩)
      show tOp (rIx K) _ _ _ _ _
      walk_at "r"
      refine put_D (z := c5.1) hD2 rd (Row.noL _) (by rw [fnD2, List.length_map, List.length_take]; omega) (fnD2_none B hri) fun H3 x3 k3 => ?_
      obtain ⟨kvs', hk3, _⟩ := k3.ex
      have bs3 := BS.putD bn bs2 x3 hk3
      have e3 : fnD2 ((fnsOf g bb).take i) ++ [(c5.1, (fnRow (c5, b5)).d)] = fnD2 ((fnsOf g bb).take (i + 1)) := by
        rw [List.take_add_one, hri, fnD2, fnD2, List.map_append]; rfl
      rw [e3] at k3
      walk_at "r"
      exact ⟨⟨_, bs3, k3⟩, x3 l2 _ l2D hl4, ra4.monoD x3 bs2.kD nll2, _, _, _, _, _, _, _, rfl⟩
    · rintro σ' H2 ⟨⟨kvs, bs2, hD2⟩, hl4, ra4, x11, x12, x13, x14, x15, x16, x17, rfl⟩
      rw [List.length_map, List.take_length] at hD2
      clear hl3 ral3 bs1 bs s1 hl2 ra2
      have rz2 := rz5.mono bs2.same
      walk_at "r"
      rename_i vA HA sA rA vB HB sB rB
      have cA := cutD_len (zs.map PyData.str) (some 18) (some 20)
      have cB := cutD_len (zs.map PyData.str) (some 26) (some 31)
      have hmA : ∀ d ∈ cutD (zs.map PyData.str) (some 18) (some 20) ++ cutD (zs.map PyData.str) (some 26) (some 31), ∃ z ∈ zs, d = .str z := fun d hd => by
        rcases List.mem_append.mp hd with h | h <;>
        · obtain ⟨z, hz, e⟩ := List.mem_map.mp (List.mem_of_mem_drop (List.mem_of_mem_take h))
          exact ⟨z, hz, e.symm⟩
      refine add_lst (rA.mono sB) rB (by omega) fun vL HL sL rL => ?_
      have nlA : noLs (cutD (zs.map PyData.str) (some 18) (some 20) ++ cutD (zs.map PyData.str) (some 26) (some 31)) = true := noLs_mem.mpr fun d hd => by
        obtain ⟨z, _, rfl⟩ := hmA d hd; rfl
      have lA : (cutD (zs.map PyData.str) (some 18) (some 20) ++ cutD (zs.map PyData.str) (some 26) (some 31)).length ≤ 84 := by rw [List.length_append]; omega
      have lB7 : (cutD (zs.map PyData.str) (some 18) (some 20) ++ cutD (zs.map PyData.str) (some 26) (some 31)).length = 7 := by
        rw [List.length_append, show (18 : Int) = ((18 : Nat) : Int) from rfl, show (20 : Int) = ((20 : Nat) : Int) from rfl, show (26 : Int) = ((26 : Nat) : Int) from rfl, show (31 : Int) = ((31 : Nat) : Int) from rfl, cutD_mid _ 18 20 (by rw [zl]; decide) (by decide), cutD_mid _ 26 31 (by rw [zl]; decide) (by decide), List.length_take, List.length_take, List.length_drop, List.length_drop, zl]
        rfl
      have ndB : (cutD (zs.map PyData.str) (some 18) (some 20) ++ cutD (zs.map PyData.str) (some 26) (some 31)).Nodup := by
        have e : cutD (zs.map PyData.str) (some 18) (some 20) ++ cutD (zs.map PyData.str) (some 26) (some 31) = atI zs [18, 19, 26, 27, 28, 29, 30] := by
          rw [show (18 : Int) = ((18 : Nat) : Int) from rfl, show (20 : Int) = ((18 + 2 : Nat) : Int) from rfl, cut_atI n42 (by decide), show (26 : Int) = ((26 : Nat) : Int) from rfl, show (31 : Int) = ((26 + 5 : Nat) : Int) from rfl, cut_atI n42 (by decide)]; rfl
        rw [e]
        exact atI_nd n42 (by decide) (by decide)
      generalize cutD (zs.map PyData.str) (some 18) (some 20) ++ cutD (zs.map PyData.str) (some 26) (some 31) = LB at rL hmA nlA lA lB7 ndB
      have bsM := bs2.mono (sA.trans (sB.trans sL))
      have hDM := hD2.mono (sA.trans (sB.trans sL))
      clear sA sB sL rA rB bs2 rz2
      walk_at "z"
      refine sl_lstF rL nlA fun l4 HN fl4 sN kl4 => ?_
      have hml4 : ∀ d ∈ cutD LB none (some (2 + 5 * wd)), ∃ z ∈ zs, d = .str z := fun d hd => hmA d (List.mem_of_mem_drop (List.mem_of_mem_take hd))
      have ll4 : (cutD LB none (some (2 + 5 * wd))).length ≤ 84 := Nat.le_trans (cutD_len _ _ _) lA
      have hLW : 1 ≤ (cutD LB none (some (2 + 5 * wd))).length := by
        rcases (by omega : wd = 0 ∨ wd = 1) with rfl | rfl
        · rw [show (2 + 5 * 0 : Int) = ((2 : Nat) : Int) from rfl, cutD_to, List.length_take, lB7]; decide
        · rw [show (2 + 5 * 1 : Int) = ((7 : Nat) : Int) from rfl, cutD_to, List.length_take, lB7]; decide
      have ndW : (cutD LB none (some (2 + 5 * wd))).Nodup := by
        rw [show (2 + 5 * wd : Int) = ((2 + 5 * wd).toNat : Int) from by omega, cutD_to]
        exact nd_take ndB _
      have lw7 : (cutD LB none (some (2 + 5 * wd))).length ≤ 7 := Nat.le_trans (cutD_len _ _ _) (Nat.le_of_eq lB7)
      generalize cutD LB none (some (2 + 5 * wd)) = LW at kl4 hml4 ll4 hLW ndW lw7
      have lW : l4 ≠ W := (fresh_ne fl4 bsM.kW).symm
      have lR4 : l4 ≠ Rw := (fresh_ne fl4 bsM.kR).symm
      have bsN := bsM.mono sN
      have hDN := hDM.mono sN
      obtain ⟨xl4, hl5, ral5⟩ := kl4.ex
      have nll4 := kl4.no
      clear bsM sN rL kl4 fl4
      refine for_LDl (K := K) (ds := LW) (fun i σ' H' => (∃ g rows, BS K H5 H' x F lb lc C Rw Kd D W g rows kvs ∧ BkOk g ∧ (g.a = a ∧ g.b = b ∧ g.c = c) ∧ g.words.length = i ∧ i ≤ LW.length ∧ rows.length ≤ 10 + LL.length + i ∧ L3 LW bb i g rows ∧ DAt K H' D (fnD2 (fnsOf g bb)) ∧ g.calls.length ≤ 3 + LL.length) ∧ H' l4 = some (.lst xl4) ∧ RA K H' xl4 LW ∧
        ∃ x11 x12 x13 x14 x15 x16 x17 : Option V, σ' = [some (.ref p), some v, some (.str a), some (.str b), some (.str c), some v5, some (.ref F), some (.ref C), some (.ref Rw), some (.ref x), some (.int wd), x11, x12, x13, x14, x15, x16, x17])
        ⟨⟨g, rows, bsN, ok, ⟨hg.1, hg.2.1, hg.2.2.1⟩, by rw [hg.2.2.2]; rfl, Nat.zero_le _, by omega, L3.start hg.2.2.2 hrows B, hDN, hcl⟩, hl5, ral5, _, _, _, _, _, _, _, rfl⟩ (fun _ _ _ h => ⟨⟨xl4, h.2.1, h.2.2.1⟩, nll4⟩) ?_ ?_ (fun xs hx k σ' H' h => by rw [hl5] at hx; cases hx; exact h.2.1)
      · rintro i d vd σ' HQ2 hd rd ⟨⟨g, rows, bs, ok, hg, hwl, hil3, hrl3, h3, hD3, hcl3⟩, hl6, ra6, x11, x12, x13, x14, x15, x16, x17, rfl⟩
        obtain ⟨z, hz, rfl⟩ := hml4 d (List.mem_of_getElem? hd)
        obtain rfl := rd.inv_str
        have hiL := (List.getElem?_eq_some_iff.mp hd).1
        have hpq := bs.same _ _ hp5
        walk_at "r"
        refine .inr (.inl ⟨x, _, 5, .ref W, rfl, rfl, bs.tup, atI_pos (by decide) rfl, ?_⟩)
        refine bs.kW.ty ?_
        have bat := bs.at
        have hkl : (g.kinds.length : Int) = 3 := rfl
        walk_at "r"
        rename_i rr H1 s1 hrr0 hrr1
        refine lc_R (K := K) (fun _ e => ∃ z, e = .str z ∧ z ∈ g.kinds) (by omega) (by omega) (fun _ => rfl) (fun j H2 hj s2 Qt hQ => ?_) (fun v2 H2 es s2 r2 hl2' hP2 => ?_)
        · walk_at "r"
          exact hQ _ _ _ (by walk_at "S") (R.str _) ⟨_, rfl, by assumption⟩
        obtain ⟨ks, rfl, hks⟩ := kinds_of hP2
        rw [List.length_map] at hl2'
        walk_at "r"
        rename_i v3 H3 s3 r3 v4 H4 s4 r4
        have bs4 := bs.mono (((s1.trans s2).trans s3).trans s4)
        have hD4 := hD3.mono (((s1.trans s2).trans s3).trans s4)
        have hl7 : H4 l4 = some (.lst xl4) := s4 _ _ (s3 _ _ (s2 _ _ (s1 _ _ hl6)))
        have ra7 := (((ra6.mono s1).mono s2).mono s3).mono s4
        clear s1 s2 s3 bat r2 r3 hP2
        refine app_L bs4.kW r4 (by rw [List.length_map]; omega) (by simp [noL, noLs, noLs_strs]) fun H5' x5 k5 => ?_
        have k5' : Lk K H5' W ((g.words ++ [(z, ks)]).map formD) := by rw [List.map_append]; exact k5
        have bs5 := BS.appW bn bs4 x5 k5'
        have hD5 := hD4.ofL bs4.kW x5
        obtain ⟨xw, qw, _⟩ := bs4.kW.ex
        have hl8 := x5 l4 _ lW hl7
        have ra8 := ra7.monoX x5 qw nll4
        clear s4 r4
        have rw5 : R K H5' (.ref W) (.list (g.words.map formD ++ [.tuple [.str z, partsD ks]])) := k5.R
        walk_at "r"
        refine bs5.kR.ty ?_
        walk_at "r"
        rename_i v6 H6 s6 r6
        refine .inr (.inl ⟨x, _, 5, .ref W, rfl, rfl, s6.tup bs5.tup, atI_pos (by decide) rfl, ?_⟩)
        show tUn _ _ _ _ _
        walk_at "r"
        refine ix_last (rw5.mono s6) fun v7 r7 => ?_
        walk_at "r"
        rename_i v8 H8 s8 r8
        have bs8 := (bs5.mono s6).mono s8
        refine app_L bs8.kR r8 (by omega) (by simp [noL, noLs, noLs_strs]) fun H9 x9 k9 => ?_
        have bs9 := BS.appR bn bs8 x9 k9
        have hD9 := ((hD5.mono s6).mono s8).ofL bs8.kR x9
        obtain ⟨xr2, qr2, _⟩ := bs8.kR.ex
        walk_at "r"
        refine ⟨⟨{ g with words := g.words ++ [(z, ks)] }, _, bs9, bk_word ok ⟨(n42.nm z hz).ok, by show ks.length ≤ 4; omega, hks⟩ (by rw [List.length_append, List.length_singleton]; omega), hg, ?_, by omega, by rw [List.length_append, List.length_singleton]; omega, h3.step ndW hd, hD9, hcl3⟩, x9 l4 _ lR4 (s8 _ _ (s6 _ _ hl8)), ((ra8.mono s6).mono s8).monoX x9 qr2 nll4, _, _, _, _, _, _, _, rfl⟩
        show (g.words ++ [(z, ks)]).length = _
        rw [List.length_append, List.length_singleton]; omega
      · rintro σ' HQ2 ⟨⟨g, rows, bs, ok, hg, hwl, hil3, hrl3, h3, hD3, hcl3⟩, hl6, ra6, x11, x12, x13, x14, x15, x16, x17, rfl⟩
        walk_at "r"
        obtain ⟨hr3, B3, _⟩ := h3
        rw [fnD2_all] at hD3
        have kR := bs.kR.R
        rw [hr3] at kR
        exact q _ g bb _ (s05.trans bs.same) ⟨bs.at, _, _, _, _, _, _, _, rfl, bs.tup, kR, hD3⟩ ok B3 (by omega) (by omega) (by omega)

end
end G

end

end
section
/-! the words of the walk: S (a heap keeps), R (a value stands for data), A (a row of them), no (a way that cannot be), s (one step), r (all steps) -/
local macro_rules | `(tactic| walk_at "S") => `(tactic| first | exact G.sm_tr (by assumption) (by walk_at "S") | fail "no")
local macro_rules | `(tactic| walk_at "S") => `(tactic| first | assumption | fail "no")
local macro_rules | `(tactic| walk_at "S") => `(tactic| first | exact L2.Same.refl _ | fail "no")
local macro_rules | `(tactic| walk_at "R") => `(tactic| first | ((with_reducible refine' G.R.lst L2.upd_same ?rl); (case rl => walk_at "A")) | fail "no")
local macro_rules | `(tactic| walk_at "R") => `(tactic| first | exact G.r_mono (by with_reducible assumption) (by walk_at "S") | fail "no")
local macro_rules | `(tactic| walk_at "R") => `(tactic| first | with_reducible assumption | fail "no")
local macro_rules | `(tactic| walk_at "R") => `(tactic| first | with_reducible exact G.R.non | fail "no")
local macro_rules | `(tactic| walk_at "R") => `(tactic| first | with_reducible exact G.R.bl _ | fail "no")
local macro_rules | `(tactic| walk_at "R") => `(tactic| first | with_reducible exact G.R.str _ | fail "no")
local macro_rules | `(tactic| walk_at "R") => `(tactic| first | with_reducible exact G.R.int _ | fail "no")
local macro_rules | `(tactic| walk_at "A") => `(tactic| first | ((with_reducible refine' G.RA.cons ?ra ?rb); (case ra => walk_at "R"); (case rb => walk_at "A")) | fail "no")
local macro_rules | `(tactic| walk_at "A") => `(tactic| first | with_reducible exact G.RA.nil | fail "no")
local macro_rules | `(tactic| walk_at "no") => `(tactic| first | omega | fail "no")
local macro_rules | `(tactic| walk_at "no") => `(tactic| first | contradiction | fail "no")
local macro_rules | `(tactic| walk_at "side") => `(tactic| first | (simp only [List.length_cons, List.length_nil, List.length_map, List.length_append] at *; omega) | fail "no")
local macro_rules | `(tactic| walk_at "side") => `(tactic| first | (simp only [List.length_cons, List.length_nil, List.getElem?_cons_zero, List.getElem?_cons_succ, List.length_map]; done) | fail "no")
local macro_rules | `(tactic| walk_at "side") => `(tactic| first | ((with_reducible refine G.le_up ?_); decide +kernel) | fail "no")
local macro_rules | `(tactic| walk_at "side") => `(tactic| first | exact Int.lt_of_lt_of_le (by with_reducible assumption) (by decide +kernel) | fail "no")
local macro_rules | `(tactic| walk_at "side") => `(tactic| first | omega | fail "no")
local macro_rules | `(tactic| walk_at "side") => `(tactic| first | with_reducible assumption | fail "no")
local macro_rules | `(tactic| walk_at "side") => `(tactic| first | with_reducible rfl | fail "no")
local macro_rules | `(tactic| walk_at "sideC") => `(tactic| first | omega | fail "no")
local macro_rules | `(tactic| walk_at "sideC") => `(tactic| first | (with_reducible refine G.cdiv_r ⟨?_, ?_⟩ <;> omega) | fail "no")
local macro_rules | `(tactic| walk_at "sideC") => `(tactic| first | (with_reducible refine G.cmul_r ⟨?_, ?_⟩ <;> omega) | fail "no")
local macro_rules | `(tactic| walk_at "sideC") => `(tactic| first | (with_reducible refine G.cpow_c ⟨?_, ?_, ?_⟩ <;> decide) | fail "no")
local macro_rules | `(tactic| walk_at "sideC") => `(tactic| first | (with_reducible refine G.cmul_l ⟨?_, ?_⟩ <;> decide) | fail "no")
local macro_rules | `(tactic| walk_at "sideC") => `(tactic| first | (with_reducible refine G.cdiv_r ⟨?_, ?_⟩ <;> decide) | fail "no")
local macro_rules | `(tactic| walk_at "sideC") => `(tactic| first | (with_reducible refine G.cmul_r ⟨?_, ?_⟩ <;> decide) | fail "no")
local macro_rules | `(tactic| walk_at "sideC") => `(tactic| first | with_reducible assumption | fail "no")
local macro_rules | `(tactic| walk_at "got") => `(tactic| (intro v0 r0; first
  | (have e0 := G.R.inv_str r0; subst e0) | (have e0 := G.R.inv_int r0; subst e0) | (have e0 := G.R.inv_bl r0; subst e0) | (have e0 := G.R.inv_non r0; subst e0) | skip))
local macro_rules | `(tactic| walk_at "P") => `(tactic| first | exact G.keep_at (by with_reducible assumption) (by walk_at "S") | fail "no")
local macro_rules | `(tactic| walk_at "P") => `(tactic| first | with_reducible assumption | fail "no")
local macro_rules | `(tactic| walk_at "c") => `(tactic| fail)
local macro_rules | `(tactic| walk_at "Q") => `(tactic| first | exact G.seq_keep (by with_reducible assumption) (by walk_at "S") | fail "no")
local macro_rules | `(tactic| walk_at "Q") => `(tactic| first | with_reducible assumption | fail "no")
local macro_rules | `(tactic| walk_at "c") => `(tactic| ((with_reducible refine' G.use_state ?hp ?h0 ?h1 ?_); (case hp => walk_at "Q"); (case h0 => walk_at "side"); (case h1 => walk_at "side"); intro p0 H0 s0 hp0))
local macro_rules | `(tactic| walk_at "c") => `(tactic| ((with_reducible refine' G.use_draw ?hp ?h0 ?h1 ?_); (case hp => walk_at "P"); (case h0 => walk_at "side"); (case h1 => walk_at "side"); intro r0 hr0 hr1))
local macro_rules | `(tactic| walk_at "s") => `(tactic| first | walk_at "c" | fail "no")
local macro_rules | `(tactic| walk_at "s") => `(tactic| first | (with_reducible refine' G.st_disp1 ?_; intro v0 H0 s0 r0) | fail "no")
local macro_rules | `(tactic| walk_at "s") => `(tactic| first | ((with_reducible refine' G.sl_scr ?s ?_); (case s => walk_at "Q"); intro v0 H0 s0 r0) | fail "no")
local macro_rules | `(tactic| walk_at "s") => `(tactic| first | ((with_reducible refine' G.ix_scr ?s ?h0 ?h1 ?_); (case s => walk_at "Q"); (case h0 => walk_at "side"); (case h1 => walk_at "side"); intro n0) | fail "no")
local macro_rules | `(tactic| walk_at "s") => `(tactic| first | ((with_reducible refine' G.len_scr ?s ?_); (case s => walk_at "Q")) | fail "no")
local macro_rules | `(tactic| walk_at "s") => `(tactic| first | with_reducible refine G.st_forR ?_ | fail "no")
local macro_rules | `(tactic| walk_at "s") => `(tactic| first | with_reducible refine G.st_shut ?_ | fail "no")
local macro_rules | `(tactic| walk_at "s") => `(tactic| first | with_reducible refine G.st_lst2 ?_ | fail "no")
local macro_rules | `(tactic| walk_at "s") => `(tactic| first | ((with_reducible refine' G.set_at ?hp ?hi ?_); (case hp => first | exact L2.upd_same | walk_at "P"); (case hi => rfl)) | fail "no")
local macro_rules | `(tactic| walk_at "s") => `(tactic| first | ((with_reducible refine' G.set_21 ?hp ?_); (case hp => first | exact L2.upd_same | walk_at "P")) | fail "no")
local macro_rules | `(tactic| walk_at "s") => `(tactic| first | ((with_reducible refine' G.set_20 ?hp ?_); (case hp => first | exact L2.upd_same | walk_at "P")) | fail "no")
local macro_rules | `(tactic| walk_at "s") => `(tactic| first | (with_reducible refine G.st_sub ?_) | fail "no")
local macro_rules | `(tactic| walk_at "s") => `(tactic| first | (with_reducible refine G.st_strAnd ?_) | fail "no")
local macro_rules | `(tactic| walk_at "s") => `(tactic| first | ((with_reducible refine' G.upper_R ?l ?_); (case l => walk_at "side")) | fail "no")
local macro_rules | `(tactic| walk_at "s") => `(tactic| first | (with_reducible refine G.upper_one ?_; intro hu0) | fail "no")
local macro_rules | `(tactic| walk_at "s") => `(tactic| first | with_reducible refine G.st_M1 ?_ | fail "no")
local macro_rules | `(tactic| walk_at "s") => `(tactic| first | with_reducible refine G.st_M0 ?_ | fail "no")
local macro_rules | `(tactic| walk_at "s") => `(tactic| first | with_reducible refine G.st_lcR ?_ | fail "no")
local macro_rules | `(tactic| walk_at "s") => `(tactic| first | with_reducible refine G.st_lcS ?_ | fail "no")
local macro_rules | `(tactic| walk_at "s") => `(tactic| first | with_reducible refine G.st_lcT ?_ | fail "no")
local macro_rules | `(tactic| walk_at "s") => `(tactic| first | with_reducible refine G.st_lcL ?_ | fail "no")
local macro_rules | `(tactic| walk_at "s") => `(tactic| first | ((with_reducible refine' G.lstOf_L ?r ?_); (case r => walk_at "R"); intro v0 H0 s0 r0) | fail "no")
local macro_rules | `(tactic| walk_at "s") => `(tactic| first | ((with_reducible refine' G.lstOf_T ?r ?_); (case r => walk_at "R"); intro v0 H0 s0 r0) | fail "no")
local macro_rules | `(tactic| walk_at "s") => `(tactic| first | ((with_reducible refine' G.tupOf_T ?r ?_); (case r => walk_at "R")) | fail "no")
local macro_rules | `(tactic| walk_at "s") => `(tactic| first | ((with_reducible refine' G.tupOf_L ?r ?_); (case r => walk_at "R"); intro v0 H0 s0 r0) | fail "no")
local macro_rules | `(tactic| walk_at "s") => `(tactic| first | ((with_reducible refine' G.sl_lstR ?r ?_); (case r => walk_at "R"); intro v0 H0 s0 r0) | fail "no")
local macro_rules | `(tactic| walk_at "s") => `(tactic| first | ((with_reducible refine' G.sl_tupR ?r ?_); (case r => walk_at "R"); intro v0 H0 s0 r0) | fail "no")
local macro_rules | `(tactic| walk_at "s") => `(tactic| first | ((with_reducible refine' G.sl_strR ?l ?_); (case l => walk_at "side")) | fail "no")
local macro_rules | `(tactic| walk_at "s") => `(tactic| first | ((with_reducible refine' G.ix_lstN ?r ?h0 ?h1 ?_); (case r => walk_at "R"); (case h0 => walk_at "side"); (case h1 => walk_at "side"); intro v0 d0 hd0 r0) | fail "no")
local macro_rules | `(tactic| walk_at "s") => `(tactic| first | ((with_reducible refine' G.ix_lstS ?r ?h0 ?h1 ?_); (case r => walk_at "R"); (case h0 => walk_at "side"); (case h1 => walk_at "side"); intro z0 hz0) | fail "no")
local macro_rules | `(tactic| walk_at "s") => `(tactic| first | ((with_reducible refine' G.ix_tupN ?r ?h0 ?h1 ?_); (case r => walk_at "R"); (case h0 => walk_at "side"); (case h1 => walk_at "side"); intro v0 d0 hd0 r0) | fail "no")
local macro_rules | `(tactic| walk_at "s") => `(tactic| first | ((with_reducible refine' G.ix_strM ?l ?h0 ?h1 ?_); (case l => walk_at "side"); (case h0 => walk_at "side"); (case h1 => walk_at "side"); intro c0 hc0) | fail "no")
local macro_rules | `(tactic| walk_at "s") => `(tactic| first | ((with_reducible refine' G.ix_strR ?l ?h0 ?hd ?_); (case l => walk_at "side"); (case h0 => walk_at "side"); (case hd => first | rfl | assumption)) | fail "no")
local macro_rules | `(tactic| walk_at "s") => `(tactic| first | ((with_reducible refine' G.ix_lstR ?r ?h0 ?hd ?_); (case r => walk_at "R"); (case h0 => walk_at "side"); (case hd => first | rfl | assumption); walk_at "got") | fail "no")
local macro_rules | `(tactic| walk_at "s") => `(tactic| first | ((with_reducible refine' G.ix_tupR ?r ?h0 ?hd ?_); (case r => walk_at "R"); (case h0 => walk_at "side"); (case hd => first | rfl | assumption); walk_at "got") | fail "no")
local macro_rules | `(tactic| walk_at "s") => `(tactic| first | ((with_reducible refine' G.st_newL ?r ?l ?_); (case r => walk_at "A"); (case l => first | exact Nat.le_of_ble_eq_true rfl | walk_at "side"); intro v0 H0 s0 r0) | fail "no")
local macro_rules | `(tactic| walk_at "s") => `(tactic| first | ((with_reducible refine' G.st_newT ?r ?l ?_); (case r => walk_at "A"); (case l => first | exact Nat.le_of_ble_eq_true rfl | walk_at "side"); intro v0 H0 s0 r0) | fail "no")
local macro_rules | `(tactic| walk_at "s") => `(tactic| first | (with_reducible refine G.st_lst ?_) | fail "no")
local macro_rules | `(tactic| walk_at "s") => `(tactic| first | (with_reducible refine G.st_tup ?_) | fail "no")
local macro_rules | `(tactic| walk_at "s") => `(tactic| first | ((with_reducible refine' G.len_lst ?r ?_); (case r => walk_at "R")) | fail "no")
local macro_rules | `(tactic| walk_at "s") => `(tactic| first | ((with_reducible refine' G.len_tup ?r ?_); (case r => walk_at "R")) | fail "no")
local macro_rules | `(tactic| walk_at "s") => `(tactic| first | ((with_reducible refine' G.len_str ?l ?_); (case l => walk_at "side")) | fail "no")
local macro_rules | `(tactic| walk_at "s") => `(tactic| first | ((with_reducible refine' G.isi_R ?r ?t ?_); (case r => walk_at "R"); (case t => simp only [List.mem_cons, true_or, or_true])) | fail "no")
local macro_rules | `(tactic| walk_at "s") => `(tactic| first | ((with_reducible refine' G.isi_0 ?r ?e ?t ?_); (case r => walk_at "R"); (case e => rfl); (case t => simp only [List.mem_cons, true_or, or_true])) | fail "no")
local macro_rules | `(tactic| walk_at "s") => `(tactic| first | ((with_reducible refine' G.isi_1 ?r ?e ?t ?_); (case r => walk_at "R"); (case e => rfl); (case t => simp only [List.mem_cons, true_or, or_true])) | fail "no")
local macro_rules | `(tactic| walk_at "s") => `(tactic| first | ((with_reducible refine' G.add_lst ?r ?s ?l ?_); (case r => walk_at "R"); (case s => walk_at "R"); (case l => walk_at "side"); intro v0 H0 s0 r0) | fail "no")
local macro_rules | `(tactic| walk_at "s") => `(tactic| first | ((with_reducible refine' G.add_tup ?r ?s ?l ?_); (case r => walk_at "R"); (case s => walk_at "R"); (case l => walk_at "side"); intro v0 H0 s0 r0) | fail "no")
local macro_rules | `(tactic| walk_at "s") => `(tactic| first | ((with_reducible refine' G.add_str ?l ?_); (case l => walk_at "side")) | fail "no")
local macro_rules | `(tactic| walk_at "s") => `(tactic| first | ((with_reducible refine' G.nin_intsT ?r ?c ?_); (case r => walk_at "R"); (case c => rfl)) | fail "no")
local macro_rules | `(tactic| walk_at "s") => `(tactic| first | ((with_reducible refine' G.in_intsT ?r ?c ?_); (case r => walk_at "R"); (case c => rfl)) | fail "no")
local macro_rules | `(tactic| walk_at "s") => `(tactic| first | ((with_reducible refine' G.nin_strsT ?r ?c ?_); (case r => walk_at "R"); (case c => rfl)) | fail "no")
local macro_rules | `(tactic| walk_at "s") => `(tactic| first | ((with_reducible refine' G.in_strsT ?r ?c ?_); (case r => walk_at "R"); (case c => rfl)) | fail "no")
local macro_rules | `(tactic| walk_at "s") => `(tactic| first | ((with_reducible refine' G.in_strsT0 ?r ?c ?e ?_); (case r => walk_at "R"); (case c => rfl); (case e => decide +kernel)) | fail "no")
local macro_rules | `(tactic| walk_at "s") => `(tactic| first | ((with_reducible refine' G.in_strsT1 ?r ?c ?e ?_); (case r => walk_at "R"); (case c => rfl); (case e => decide +kernel)) | fail "no")
local macro_rules | `(tactic| walk_at "s") => `(tactic| first | with_reducible refine G.nin_sign ?_ | fail "no")
local macro_rules | `(tactic| walk_at "s") => `(tactic| first | with_reducible refine G.in_sign ?_ | fail "no")
local macro_rules | `(tactic| walk_at "s") => `(tactic| first | with_reducible refine G.isnt_bl ?_ | fail "no")
local macro_rules | `(tactic| walk_at "s") => `(tactic| first | with_reducible refine G.is_bl ?_ | fail "no")
local macro_rules | `(tactic| walk_at "s") => `(tactic| first | ((with_reducible refine' G.isnt_none ?r ?_); (case r => walk_at "R")) | fail "no")
local macro_rules | `(tactic| walk_at "s") => `(tactic| first | ((with_reducible refine' G.is_none ?r ?_); (case r => walk_at "R")) | fail "no")
local macro_rules | `(tactic| walk_at "s") => `(tactic| first | with_reducible refine G.ne_int ?_ | fail "no")
local macro_rules | `(tactic| walk_at "s") => `(tactic| first | with_reducible refine G.ne_str ?_ | fail "no")
local macro_rules | `(tactic| walk_at "s") => `(tactic| first | with_reducible refine G.eq_bl ?_ | fail "no")
local macro_rules | `(tactic| walk_at "s") => `(tactic| first | with_reducible refine G.eq_int ?_ | fail "no")
local macro_rules | `(tactic| walk_at "s") => `(tactic| first | with_reducible refine G.eq_str ?_ | fail "no")
local macro_rules | `(tactic| walk_at "s") => `(tactic| first | ((with_reducible refine' G.eq_str0 ?e ?_); (case e => decide +kernel)) | fail "no")
local macro_rules | `(tactic| walk_at "s") => `(tactic| first | ((with_reducible refine' G.eq_str1 ?e ?_); (case e => with_reducible rfl)) | fail "no")
local macro_rules | `(tactic| walk_at "s") => `(tactic| first | ((with_reducible refine' G.iC ?hc ?_); (case hc => walk_at "sideC")) | fail "no")
local macro_rules | `(tactic| walk_at "s") => `(tactic| first | ((with_reducible refine G.imod3 (by decide) ?_ ?_ ?_) <;> (intro hm; first | (exfalso; walk_at "no"; done) | skip)) | fail "no")
local macro_rules | `(tactic| walk_at "s") => `(tactic| first | ((with_reducible refine G.imod2 (by decide) ?_ ?_) <;> (intro hm; first | (exfalso; walk_at "no"; done) | skip)) | fail "no")
local macro_rules | `(tactic| walk_at "s") => `(tactic| first | with_reducible refine G.i0 ?_ | fail "no")
local macro_rules | `(tactic| walk_at "s") => `(tactic| first | with_reducible refine G.add_int ?_ | fail "no")
local macro_rules | `(tactic| walk_at "s") => `(tactic| first | with_reducible refine G.st_retN ?_ | fail "no")
local macro_rules | `(tactic| walk_at "s") => `(tactic| first | with_reducible refine G.st_next ?_ | fail "no")
local macro_rules | `(tactic| walk_at "s") => `(tactic| first | with_reducible refine G.st_drop ?_ | fail "no")
local macro_rules | `(tactic| walk_at "s") => `(tactic| first | with_reducible refine G.st_exInt ?_ | fail "no")
local macro_rules | `(tactic| walk_at "s") => `(tactic| first | with_reducible refine G.st_part ?_ | fail "no")
local macro_rules | `(tactic| walk_at "s") => `(tactic| first | with_reducible refine G.st_noPart ?_ | fail "no")
local macro_rules | `(tactic| walk_at "s") => `(tactic| first | with_reducible refine G.st_slice ?_ | fail "no")
local macro_rules | `(tactic| walk_at "s") => `(tactic| first | with_reducible refine G.st_then ?_ | fail "no")
local macro_rules | `(tactic| walk_at "s") => `(tactic| first | with_reducible refine G.st_un ?_ | fail "no")
local macro_rules | `(tactic| walk_at "s") => `(tactic| first | with_reducible refine G.st_chain ?_ | fail "no")
local macro_rules | `(tactic| walk_at "s") => `(tactic| first | with_reducible refine G.st_tIf ?_ | fail "no")
local macro_rules | `(tactic| walk_at "s") => `(tactic| first | with_reducible refine G.st_notV ?_ | fail "no")
local macro_rules | `(tactic| walk_at "s") => `(tactic| first | with_reducible refine G.st_andV ?_ | fail "no")
local macro_rules | `(tactic| walk_at "s") => `(tactic| first | with_reducible refine G.st_orV ?_ | fail "no")
local macro_rules | `(tactic| walk_at "s") => `(tactic| first | with_reducible refine G.st_not ?_ | fail "no")
local macro_rules | `(tactic| walk_at "s") => `(tactic| first | with_reducible refine G.st_and ?_ | fail "no")
local macro_rules | `(tactic| walk_at "s") => `(tactic| first | with_reducible refine G.st_or ?_ | fail "no")
local macro_rules | `(tactic| walk_at "s") => `(tactic| first | with_reducible refine G.st_tB ?_ | fail "no")
local macro_rules | `(tactic| walk_at "s") => `(tactic| first | with_reducible refine G.st_tTest ?_ | fail "no")
local macro_rules | `(tactic| walk_at "s") => `(tactic| first | with_reducible refine G.st_CB ?_ | fail "no")
local macro_rules | `(tactic| walk_at "s") => `(tactic| first | with_reducible refine G.st_nil ?_ | fail "no")
local macro_rules | `(tactic| walk_at "s") => `(tactic| first | with_reducible refine G.st_cons ?_ | fail "no")
local macro_rules | `(tactic| walk_at "s") => `(tactic| first | with_reducible refine G.st_call ?_ | fail "no")
local macro_rules | `(tactic| walk_at "s") => `(tactic| first | with_reducible refine G.st_set ?_ | fail "no")
local macro_rules | `(tactic| walk_at "s") => `(tactic| first | with_reducible refine G.st_ret ?_ | fail "no")
local macro_rules | `(tactic| walk_at "s") => `(tactic| first | with_reducible refine G.st_if ?_ | fail "no")
local macro_rules | `(tactic| walk_at "s") => `(tactic| first | ((with_reducible refine G.st_ite ?_ ?_) <;> (intro hb; (try simp only [decide_eq_true_eq, decide_eq_false_iff_not, Bool.not_eq_true', Bool.not_eq_false', beq_iff_eq, Bool.and_eq_true, Bool.or_eq_true, Bool.and_eq_false_iff, Bool.or_eq_false_iff, beq_eq_false_iff_ne, ne_eq, Int.not_lt, Int.not_le, Nat.not_lt, Nat.not_le] at hb); first | (exfalso; walk_at "no"; done) | skip)) | fail "no")
local macro_rules | `(tactic| walk_at "s") => `(tactic| first | with_reducible refine G.ite_nf ?_ | fail "no")
local macro_rules | `(tactic| walk_at "s") => `(tactic| first | with_reducible refine G.ite_nt ?_ | fail "no")
local macro_rules | `(tactic| walk_at "s") => `(tactic| first | with_reducible refine L2.iteF ?_ | fail "no")
local macro_rules | `(tactic| walk_at "s") => `(tactic| first | with_reducible refine L2.iteT ?_ | fail "no")
local macro_rules | `(tactic| walk_at "s") => `(tactic| first | with_reducible refine G.st_bl ?_ | fail "no")
local macro_rules | `(tactic| walk_at "s") => `(tactic| first | with_reducible refine G.st_op ?_ | fail "no")
local macro_rules | `(tactic| walk_at "s") => `(tactic| first | with_reducible refine G.st_c ?_ | fail "no")
local macro_rules | `(tactic| walk_at "s") => `(tactic| first | ((with_reducible refine' G.st_var ?hv ?_); (case hv => exact rfl)) | fail "no")
local macro_rules | `(tactic| walk_at "s") => `(tactic| first | with_reducible refine G.st_seq ?_ | fail "no")
local macro_rules | `(tactic| walk_at "r") => `(tactic| repeat' (walk_at "s"))
local macro_rules | `(tactic| walk_at "side") => `(tactic| first | fail | fail "no")
local macro_rules | `(tactic| walk_at "side") => `(tactic| first | exact G.nm_c (by with_reducible assumption) | fail "no")
local macro_rules | `(tactic| walk_at "side") => `(tactic| first | exact G.nm_b (by with_reducible assumption) | fail "no")
local macro_rules | `(tactic| walk_at "side") => `(tactic| first | exact G.fm_a (by with_reducible assumption) | fail "no")
local macro_rules | `(tactic| walk_at "side") => `(tactic| first | exact G.nm_a (by with_reducible assumption) | fail "no")
local macro_rules | `(tactic| walk_at "c") => `(tactic| ((with_reducible refine' G.use_name ?hp ?_); (case hp => walk_at "P"); intro z0 H0 s0 hz0))
local macro_rules | `(tactic| walk_at "c") => `(tactic| ((with_reducible refine' G.use_form ?hp ?_); (case hp => walk_at "P"); intro z0 H0 s0 hz0))
local macro_rules | `(tactic| walk_at "c") => `(tactic| ((with_reducible refine' G.use_pool ?hp ?_); (case hp => walk_at "P"); intro v0 fs0 gs0 ns0 H0 s0 ok0 r0))
local macro_rules | `(tactic| walk_at "c") => `(tactic| ((with_reducible refine' G.use_leaf ?hp ?r ?ok ?h0 ?h1 ?_); (case hp => walk_at "P"); (case r => walk_at "R"); (case ok => with_reducible assumption); (case h0 => walk_at "side"); (case h1 => walk_at "side"); intro v0 t0 H0 s0 r0 ht0 hd0 hs0))
local macro_rules | `(tactic| walk_at "c") => `(tactic| ((with_reducible refine' G.use_term ?hp ?r ?ok ?h0 ?h1 ?e0 ?e1 ?_); (case hp => walk_at "P"); (case r => walk_at "R"); (case ok => with_reducible assumption); (case h0 => walk_at "side"); (case h1 => walk_at "side"); (case e0 => walk_at "side"); (case e1 => walk_at "side"); intro v0 t0 H0 s0 r0 ht0 hd0 hs0))
local macro_rules | `(tactic| walk_at "c") => `(tactic| ((with_reducible refine' G.use_tall ?hp ?r ?ok ?rt ?ht ?h0 ?h1 ?_); (case hp => walk_at "P"); (case r => walk_at "R"); (case ok => with_reducible assumption); (case rt => walk_at "R"); (case ht => with_reducible assumption); (case h0 => walk_at "side"); (case h1 => walk_at "side"); intro v0 t0 H0 s0 r0 ht0 hd0 hs0))
local macro_rules | `(tactic| walk_at "c") => `(tactic| ((with_reducible refine' G.use_anyT ?hp ?r ?ok ?h0 ?h1 ?_); (case hp => walk_at "P"); (case r => walk_at "R"); (case ok => with_reducible assumption); (case h0 => walk_at "side"); (case h1 => walk_at "side"); intro v0 t0 H0 s0 r0 ht0 hd0 hs0))
local macro_rules | `(tactic| walk_at "w") => `(tactic| first | ((with_reducible refine' G.st_newLF ?r ?l ?_); (case r => walk_at "A"); (case l => first | exact Nat.le_of_ble_eq_true rfl | walk_at "side"); intro p0 H0 f0 s0 hl0 ra0) | fail "no")
local macro_rules | `(tactic| walk_at "w") => `(tactic| first | with_reducible refine G.st_lstF ?_ | fail "no")
local macro_rules | `(tactic| walk_at "w") => `(tactic| first | with_reducible refine G.whB ?_ | fail "no")
local macro_rules | `(tactic| walk_at "w") => `(tactic| first | with_reducible refine G.ipI_int ?_ | fail "no")
local macro_rules | `(tactic| walk_at "w") => `(tactic| first | ((with_reducible refine' G.st_aug ?hx ?_); (case hx => rfl)) | fail "no")
local macro_rules | `(tactic| walk_at "w") => `(tactic| first | with_reducible refine G.max_2 ?_ | fail "no")
local macro_rules | `(tactic| walk_at "w") => `(tactic| first | with_reducible refine G.int_bl ?_ | fail "no")
local macro_rules | `(tactic| walk_at "w") => `(tactic| first | with_reducible refine G.st_asgT ?_ | fail "no")
local macro_rules | `(tactic| walk_at "w") => `(tactic| first | ((with_reducible refine' G.gtup2 ?r ?_); (case r => walk_at "R"); intro v1 v2 r1 r2) | fail "no")
local macro_rules | `(tactic| walk_at "w") => `(tactic| first | ((with_reducible refine' G.extR ?hl ?ra ?r ?hz ?hn ?hn' ?_); (case hl => walk_at "P"); (case ra => first | with_reducible assumption | exact G.ra_mono (by with_reducible assumption) (by walk_at "S")); (case r => walk_at "R"); (case hz => walk_at "side"); (case hn => walk_at "nol"); (case hn' => walk_at "nol"); intro ws0 H0 x0 hl0 ra0) | fail "no")
local macro_rules | `(tactic| walk_at "w") => `(tactic| first | ((with_reducible refine' G.popR ?hl ?ra ?hn ?_); (case hl => walk_at "P"); (case ra => with_reducible assumption); (case hn => with_reducible assumption); intro v0 ws0 H0 x0 hl0 ra0 r0) | fail "no")
local macro_rules | `(tactic| walk_at "w") => `(tactic| first | ((with_reducible refine' G.st_tyl ?hl ?_); (case hl => walk_at "P")) | fail "no")
local macro_rules | `(tactic| walk_at "w") => `(tactic| first | with_reducible refine G.st_BM ?_ | fail "no")
local macro_rules | `(tactic| walk_at "w") => `(tactic| first | with_reducible refine G.st_BM0 ?_ | fail "no")
local macro_rules | `(tactic| walk_at "nol") => `(tactic| first | exact G.Th.noLs _ | fail "no")
local macro_rules | `(tactic| walk_at "nol") => `(tactic| first | exact G.Th.noL _ | fail "no")
local macro_rules | `(tactic| walk_at "nol") => `(tactic| first | rfl | fail "no")
local macro_rules | `(tactic| walk_at "nol") => `(tactic| first | with_reducible assumption | fail "no")
local macro_rules | `(tactic| walk_at "c") => `(tactic| walk_at "w")
local macro_rules | `(tactic| walk_at "c") => `(tactic| first | (with_reducible refine G.absR ?_; intro j0) | fail "no")
local macro_rules | `(tactic| walk_at "c") => `(tactic| first | ((with_reducible refine' G.divmodR ?h0 ?h1 ?_); (case h0 => walk_at "side"); (case h1 => walk_at "side"); intro p0 H0 f0 e0) | fail "no")
local macro_rules | `(tactic| walk_at "c") => `(tactic| first | ((with_reducible refine' G.ix_scrLast ?hs ?h1 ?_); (case hs => walk_at "Q"); (case h1 => walk_at "side"); intro n0) | fail "no")
local macro_rules | `(tactic| walk_at "c") => `(tactic| first | ((with_reducible refine' G.iC ?hc ?_); (case hc => show (0 : Int) < _; decide +kernel)) | fail "no")
local macro_rules | `(tactic| walk_at "c") => `(tactic| first | with_reducible refine G.st_gsub ?_ | fail "no")
local macro_rules | `(tactic| walk_at "c") => `(tactic| first | with_reducible refine G.st_gname ?_ | fail "no")
local macro_rules | `(tactic| walk_at "c") => `(tactic| first | with_reducible refine G.st_gnil ?_ | fail "no")
local macro_rules | `(tactic| walk_at "c") => `(tactic| first | with_reducible refine G.st_gcons ?_ | fail "no")
local macro_rules | `(tactic| walk_at "c") => `(tactic| first | with_reducible refine G.st_tys ?_ | fail "no")
local macro_rules | `(tactic| walk_at "c") => `(tactic| first | with_reducible refine G.st_BMs ?_ | fail "no")
local macro_rules | `(tactic| walk_at "c") => `(tactic| first | with_reducible refine G.neg_i ?_ | fail "no")
local macro_rules | `(tactic| walk_at "B") => `(tactic| first | exact G.bk_keep (by with_reducible assumption) (by walk_at "S") | fail "no")
local macro_rules | `(tactic| walk_at "B") => `(tactic| first | with_reducible assumption | fail "no")
local macro_rules | `(tactic| walk_at "c") => `(tactic| first | with_reducible refine G.st_forT ?_ | fail "no")
local macro_rules | `(tactic| walk_at "c") => `(tactic| first | with_reducible refine G.st_forE ?_ | fail "no")
local macro_rules | `(tactic| walk_at "c") => `(tactic| first | with_reducible refine G.st_forL ?_ | fail "no")
local macro_rules | `(tactic| walk_at "c") => `(tactic| first | with_reducible refine G.st_lcETT ?_ | fail "no")
local macro_rules | `(tactic| walk_at "c") => `(tactic| first | with_reducible refine G.st_lcET ?_ | fail "no")
local macro_rules | `(tactic| walk_at "c") => `(tactic| first | with_reducible refine G.st_lcLT ?_ | fail "no")
local macro_rules | `(tactic| walk_at "c") => `(tactic| first | with_reducible refine G.st_dget2 ?_ | fail "no")
local macro_rules | `(tactic| walk_at "c") => `(tactic| first | with_reducible refine G.st_dget ?_ | fail "no")
local macro_rules | `(tactic| walk_at "c") => `(tactic| first | ((with_reducible refine' G.ix_b5 ?h ?_); (case h => walk_at "B"); intro v0 r0) | fail "no")
local macro_rules | `(tactic| walk_at "c") => `(tactic| first | ((with_reducible refine' G.ix_b3 ?h ?_); (case h => walk_at "B"); intro v0 r0) | fail "no")
local macro_rules | `(tactic| walk_at "c") => `(tactic| first | ((with_reducible refine' G.ix_b2 ?h ?_); (case h => walk_at "B"); intro v0 r0) | fail "no")
local macro_rules | `(tactic| walk_at "c") => `(tactic| first | ((with_reducible refine' G.ix_b1 ?h ?_); (case h => walk_at "B"); intro af0 lb0 lc0 hf0 rb0 rc0) | fail "no")
local macro_rules | `(tactic| walk_at "c") => `(tactic| first | ((with_reducible refine' G.use_nextU ?hp ?h0 ?h1 ?_); (case hp => walk_at "P"); (case h0 => walk_at "side"); (case h1 => walk_at "side"); intro r0 H0 s0 hr0 hr1) | fail "no")
local macro_rules | `(tactic| walk_at "u") => `(tactic| repeat' ((fail_if_success (with_reducible refine G.st_if ?_)); walk_at "s"))
local macro_rules | `(tactic| walk_at "c") => `(tactic| (with_reducible refine G.minR ?_; intro m0 hm0 hm1 hm2))
local macro_rules | `(tactic| walk_at "c") => `(tactic| first | with_reducible refine G.st_forEL ?_ | fail "no")
section












namespace G
open PySem PySem.Spec PyProof.Rows L2
section
variable {P : Program} {w : World} {K : PySem.W.Frag} {mg : Str → Option Value} {base : Heap} {k n : Nat}
/-! the methods of a lore; Cx3 and the defs of the classes -/
structure Tc (K : PySem.W.Frag) (mg : Str → Option Value) (A : CA) : Prop where
  cx : Cx3 K A
  forms : ∀ i, i ≠ Who.be → DfM K (A.at i) "forms" "Lore.forms" s_Lore_forms p_Lore_forms
  has_kind : ∀ i, i ≠ Who.be → DfM K (A.at i) "has_kind" "Lore.has_kind" s_Lore_has_kind p_Lore_has_kind
  form : ∀ i, i ≠ Who.be → DfM K (A.at i) "form" "Lore.form" s_Lore_form p_Lore_form
  function : ∀ i, i ≠ Who.be → DfM K (A.at i) "function" "Lore.function" s_Lore_function p_Lore_function
  word : ∀ i, i ≠ Who.be → DfM K (A.at i) "word" "Lore.word" s_Lore_word p_Lore_word
  add : ∀ i, i ≠ Who.be → DfM K (A.at i) "add" "Lore.add" s_Lore_add p_Lore_add
  formB : DfM K A.be "form" "Beside.form" s_Beside_form p_Beside_form
  functionB : DfM K A.be "function" "Beside.function" s_Beside_function p_Beside_function
  besI : DfI K mg "Beside" A.be "Beside.__init__" s_Beside___init__ p_Beside___init__
  lorI : DfI K mg "Lore" A.lo "Lore.__init__" s_Lore___init__ p_Lore___init__
  booI : DfI K mg "Book" A.bo "Book.__init__" s_Book___init__ p_Book___init__
def spHas (K : PySem.W.Frag) (A : CA) : Sp := fun vs H Q _ => ∃ v z rows, vs = [v, .str z] ∧ LoreAt K A H v rows ∧ Q (.bl ((kindsOf rows).lookup z).isSome) H
def spFormsM (K : PySem.W.Frag) (A : CA) : Sp := fun vs H Q _ => ∃ v z rows, vs = [v, .str z] ∧ LoreAt K A H v rows ∧ (∀ fs, (kindsOf rows).lookup z = some (some fs) → ∀ u H', Same H H' → R K H' u (.list (fs.map formD)) → Q u H') ∧ ((∀ fs, (kindsOf rows).lookup z ≠ some (some fs)) → Q .non H)
def spFormM (K : PySem.W.Frag) (A : CA) : Sp := fun vs H Q _ => ∃ v z rows, vs = [v, .str z] ∧ LoreAt K A H v rows ∧ ∀ u, R K H u (optP (((formsOf rows).lookup z).map shapeD)) → Q u H
def spFunM (K : PySem.W.Frag) (A : CA) : Sp := fun vs H Q _ => ∃ v z rows, vs = [v, .str z] ∧ LoreAt K A H v rows ∧ ∀ u, R K H u (optP (((funsOf rows).lookup z).map Row.d)) → Q u H
def spWordM (K : PySem.W.Frag) (A : CA) : Sp := fun vs H Q _ => ∃ v z rows, vs = [v, .str z] ∧ LoreAt K A H v rows ∧ ∀ u, R K H u (optP (((wordsOf rows).lookup z).map Row.d)) → Q u H
theorem ok_has_kind {A : CA} (U : Tc K mg A) : CalX P w K mg base (k + 1) A noBe "has_kind" (fun _ => spHas K A) := ⟨fun i hi => by
  refine (U.has_kind i hi).cal (U.cx.cl i) sc_Lore_has_kind (fun vs H Q E h => ?_) (fun f cdv A' outer s H vs Q E hr h => ?_)
  · obtain ⟨v, z, rows, rfl, _⟩ := h; rfl
  obtain ⟨v, z, rows, rfl, hl, q⟩ := h
  have sc := @sc_Lore_has_kind
  refine ⟨_, (pss_one (ps_ret (pe_cmpR (op_inDc hr) (pv 1) (pe_fldK K (pv 0) rfl) rfl))), ?_⟩
  walk_at "r"
  refine st_fld ?_
  walk_at "r"
  refine fl_kinds U.cx hl fun p hp => ?_
  refine in_D hp ?_
  rw [show (kindD rows).lookup z = ((kindsOf rows).lookup z).map formsD from lookup_onV _, Option.isSome_map]
  exact q⟩
theorem ok_form {A : CA} (U : Tc K mg A) : CalX P w K mg base (k + 1) A noBe "form" (fun _ => spFormM K A) := ⟨fun i hi => by
  refine (U.form i hi).cal (U.cx.cl i) sc_Lore_form (fun vs H Q E h => ?_) (fun f cdv A' outer s H vs Q E hr h => ?_)
  · obtain ⟨v, z, rows, rfl, _⟩ := h; rfl
  obtain ⟨v, z, rows, rfl, hl, q⟩ := h
  have sc := @sc_Lore_form
  refine ⟨_, (pss_one (ps_ret (pe_dget1H hr (pe_fldK K (pv 0) rfl) (pv 1) ⟨rfl, rfl, rfl, rfl⟩))), ?_⟩
  walk_at "r"
  refine st_dget1 ?_
  refine st_fld ?_
  walk_at "r"
  refine fl_shapes U.cx hl fun p hp => ⟨p, rfl, hp.isD, ?_⟩
  walk_at "r"
  have e : (shapesD rows).lookup z = ((formsOf rows).lookup z).map shapeD := lookup_onV _
  refine dget_D hp (fun v d e1 r => ?_) (fun e1 => ?_)
  · refine q _ ?_
    rw [← e, e1]; exact r
  · refine q _ ?_
    rw [← e, e1]; exact .non⟩
theorem ok_function {A : CA} (U : Tc K mg A) : CalX P w K mg base (k + 1) A noBe "function" (fun _ => spFunM K A) := ⟨fun i hi => by
  refine (U.function i hi).cal (U.cx.cl i) sc_Lore_function (fun vs H Q E h => ?_) (fun f cdv A' outer s H vs Q E hr h => ?_)
  · obtain ⟨v, z, rows, rfl, _⟩ := h; rfl
  obtain ⟨v, z, rows, rfl, hl, q⟩ := h
  have sc := @sc_Lore_function
  refine ⟨_, (pss_one (ps_ret (pe_dget1H hr (pe_fldK K (pv 0) rfl) (pv 1) ⟨rfl, rfl, rfl, rfl⟩))), ?_⟩
  walk_at "r"
  refine st_dget1 ?_
  refine st_fld ?_
  walk_at "r"
  refine fl_functions U.cx hl fun p hp => ⟨p, rfl, hp.isD, ?_⟩
  walk_at "r"
  have e : (funD rows).lookup z = ((funsOf rows).lookup z).map Row.d := lookup_onV _
  refine dget_D hp (fun v d e1 r => ?_) (fun e1 => ?_)
  · refine q _ ?_
    rw [← e, e1]; exact r
  · refine q _ ?_
    rw [← e, e1]; exact .non⟩
theorem ok_word {A : CA} (U : Tc K mg A) : CalX P w K mg base (k + 1) A noBe "word" (fun _ => spWordM K A) := ⟨fun i hi => by
  refine (U.word i hi).cal (U.cx.cl i) sc_Lore_word (fun vs H Q E h => ?_) (fun f cdv A' outer s H vs Q E hr h => ?_)
  · obtain ⟨v, z, rows, rfl, _⟩ := h; rfl
  obtain ⟨v, z, rows, rfl, hl, q⟩ := h
  have sc := @sc_Lore_word
  refine ⟨_, (pss_one (ps_ret (pe_dget1H hr (pe_fldK K (pv 0) rfl) (pv 1) ⟨rfl, rfl, rfl, rfl⟩))), ?_⟩
  walk_at "r"
  refine st_dget1 ?_
  refine st_fld ?_
  walk_at "r"
  refine fl_words U.cx hl fun p hp => ⟨p, rfl, hp.isD, ?_⟩
  walk_at "r"
  have e : (wordD rows).lookup z = ((wordsOf rows).lookup z).map Row.d := lookup_onV _
  refine dget_D hp (fun v d e1 r => ?_) (fun e1 => ?_)
  · refine q _ ?_
    rw [← e, e1]; exact r
  · refine q _ ?_
    rw [← e, e1]; exact .non⟩
theorem ok_forms {A : CA} (U : Tc K mg A) (T : Tp K mg) : CalX P w K mg base (k + 1) A noBe "forms" (fun _ => spFormsM K A) := ⟨fun i hi => by
  refine (U.forms i hi).cal (U.cx.cl i) sc_Lore_forms (fun vs H Q E h => ?_) (fun f cdv A' outer s H vs Q E hr h => ?_)
  · obtain ⟨v, z, rows, rfl, _⟩ := h; rfl
  obtain ⟨v, z, rows, rfl, hl, q1, q2⟩ := h
  have sc := @sc_Lore_forms
  refine ⟨_, (pss_cons (ps_set (i := 2) sc.nd rfl (Or.inl rfl) (pe_dget1H hr (pe_fldK K (pv 0) rfl) (pv 1) ⟨rfl, rfl, rfl, rfl⟩))
      (pss_cons (ps_if (pt_cmpR op_isU (pv 2) pe_non (nomark _)) (pss_one (ps_ret pe_non)) pss_nil)
      (pss_one (ps_ret (pe_callTy (list_KF K) rfl T.n_list bt_list (pa_cons (pv 2) pa_nil)))))), ?_⟩
  walk_at "r"
  refine st_dget1 ?_
  refine st_fld ?_
  walk_at "r"
  refine fl_kinds U.cx hl fun p hp => ⟨p, rfl, hp.isD, ?_⟩
  walk_at "r"
  have e : (kindD rows).lookup z = ((kindsOf rows).lookup z).map formsD := lookup_onV _
  refine dget_D hp (fun v d e1 r => ?_) (fun e1 => ?_)
  · rw [e] at e1
    cases e2 : (kindsOf rows).lookup z with
    | none => rw [e2] at e1; cases e1
    | some o =>
      rw [e2] at e1
      obtain rfl := Option.some.inj e1
      cases o with
      | none =>
        have r' : R K H v .none := r
        obtain rfl : v = .non := by cases r'; rfl
        simp only [Option.getD_some]
        walk_at "r"
        exact q2 fun fs h => by rw [e2] at h; cases h
      | some fs =>
        have r' : R K H v (.tuple (fs.map formD)) := r
        simp only [Option.getD_some]
        walk_at "r"
        refine listF r' fun p2 xs2 H2 f2 s2 hl2 ra2 => ?_
        exact q1 fs e2 _ _ s2 (.lst hl2 ra2)
  · simp only [Option.getD_none]
    have r0 : R K H .non .none := .non
    walk_at "r"
    refine q2 fun fs h => ?_
    rw [e, h] at e1; cases e1⟩

end
end G

end

end
section
/-! the words of the walk: S (a heap keeps), R (a value stands for data), A (a row of them), no (a way that cannot be), s (one step), r (all steps) -/
local macro_rules | `(tactic| walk_at "S") => `(tactic| first | exact G.sm_tr (by assumption) (by walk_at "S") | fail "no")
local macro_rules | `(tactic| walk_at "S") => `(tactic| first | assumption | fail "no")
local macro_rules | `(tactic| walk_at "S") => `(tactic| first | exact L2.Same.refl _ | fail "no")
local macro_rules | `(tactic| walk_at "R") => `(tactic| first | ((with_reducible refine' G.R.lst L2.upd_same ?rl); (case rl => walk_at "A")) | fail "no")
local macro_rules | `(tactic| walk_at "R") => `(tactic| first | exact G.r_mono (by with_reducible assumption) (by walk_at "S") | fail "no")
local macro_rules | `(tactic| walk_at "R") => `(tactic| first | with_reducible assumption | fail "no")
local macro_rules | `(tactic| walk_at "R") => `(tactic| first | with_reducible exact G.R.non | fail "no")
local macro_rules | `(tactic| walk_at "R") => `(tactic| first | with_reducible exact G.R.bl _ | fail "no")
local macro_rules | `(tactic| walk_at "R") => `(tactic| first | with_reducible exact G.R.str _ | fail "no")
local macro_rules | `(tactic| walk_at "R") => `(tactic| first | with_reducible exact G.R.int _ | fail "no")
local macro_rules | `(tactic| walk_at "A") => `(tactic| first | ((with_reducible refine' G.RA.cons ?ra ?rb); (case ra => walk_at "R"); (case rb => walk_at "A")) | fail "no")
local macro_rules | `(tactic| walk_at "A") => `(tactic| first | with_reducible exact G.RA.nil | fail "no")
local macro_rules | `(tactic| walk_at "no") => `(tactic| first | omega | fail "no")
local macro_rules | `(tactic| walk_at "no") => `(tactic| first | contradiction | fail "no")
local macro_rules | `(tactic| walk_at "side") => `(tactic| first | (simp only [List.length_cons, List.length_nil, List.length_map, List.length_append] at *; omega) | fail "no")
local macro_rules | `(tactic| walk_at "side") => `(tactic| first | (simp only [List.length_cons, List.length_nil, List.getElem?_cons_zero, List.getElem?_cons_succ, List.length_map]; done) | fail "no")
local macro_rules | `(tactic| walk_at "side") => `(tactic| first | ((with_reducible refine G.le_up ?_); decide +kernel) | fail "no")
local macro_rules | `(tactic| walk_at "side") => `(tactic| first | exact Int.lt_of_lt_of_le (by with_reducible assumption) (by decide +kernel) | fail "no")
local macro_rules | `(tactic| walk_at "side") => `(tactic| first | omega | fail "no")
local macro_rules | `(tactic| walk_at "side") => `(tactic| first | with_reducible assumption | fail "no")
local macro_rules | `(tactic| walk_at "side") => `(tactic| first | with_reducible rfl | fail "no")
local macro_rules | `(tactic| walk_at "sideC") => `(tactic| first | omega | fail "no")
local macro_rules | `(tactic| walk_at "sideC") => `(tactic| first | (with_reducible refine G.cdiv_r ⟨?_, ?_⟩ <;> omega) | fail "no")
local macro_rules | `(tactic| walk_at "sideC") => `(tactic| first | (with_reducible refine G.cmul_r ⟨?_, ?_⟩ <;> omega) | fail "no")
local macro_rules | `(tactic| walk_at "sideC") => `(tactic| first | (with_reducible refine G.cpow_c ⟨?_, ?_, ?_⟩ <;> decide) | fail "no")
local macro_rules | `(tactic| walk_at "sideC") => `(tactic| first | (with_reducible refine G.cmul_l ⟨?_, ?_⟩ <;> decide) | fail "no")
local macro_rules | `(tactic| walk_at "sideC") => `(tactic| first | (with_reducible refine G.cdiv_r ⟨?_, ?_⟩ <;> decide) | fail "no")
local macro_rules | `(tactic| walk_at "sideC") => `(tactic| first | (with_reducible refine G.cmul_r ⟨?_, ?_⟩ <;> decide) | fail "no")
local macro_rules | `(tactic| walk_at "sideC") => `(tactic| first | with_reducible assumption | fail "no")
local macro_rules | `(tactic| walk_at "got") => `(tactic| (intro v0 r0; first
  | (have e0 := G.R.inv_str r0; subst e0) | (have e0 := G.R.inv_int r0; subst e0) | (have e0 := G.R.inv_bl r0; subst e0) | (have e0 := G.R.inv_non r0; subst e0) | skip))
local macro_rules | `(tactic| walk_at "P") => `(tactic| first | exact G.keep_at (by with_reducible assumption) (by walk_at "S") | fail "no")
local macro_rules | `(tactic| walk_at "P") => `(tactic| first | with_reducible assumption | fail "no")
local macro_rules | `(tactic| walk_at "c") => `(tactic| fail)
local macro_rules | `(tactic| walk_at "Q") => `(tactic| first | exact G.seq_keep (by with_reducible assumption) (by walk_at "S") | fail "no")
local macro_rules | `(tactic| walk_at "Q") => `(tactic| first | with_reducible assumption | fail "no")
local macro_rules | `(tactic| walk_at "c") => `(tactic| ((with_reducible refine' G.use_state ?hp ?h0 ?h1 ?_); (case hp => walk_at "Q"); (case h0 => walk_at "side"); (case h1 => walk_at "side"); intro p0 H0 s0 hp0))
local macro_rules | `(tactic| walk_at "c") => `(tactic| ((with_reducible refine' G.use_draw ?hp ?h0 ?h1 ?_); (case hp => walk_at "P"); (case h0 => walk_at "side"); (case h1 => walk_at "side"); intro r0 hr0 hr1))
local macro_rules | `(tactic| walk_at "s") => `(tactic| first | walk_at "c" | fail "no")
local macro_rules | `(tactic| walk_at "s") => `(tactic| first | (with_reducible refine' G.st_disp1 ?_; intro v0 H0 s0 r0) | fail "no")
local macro_rules | `(tactic| walk_at "s") => `(tactic| first | ((with_reducible refine' G.sl_scr ?s ?_); (case s => walk_at "Q"); intro v0 H0 s0 r0) | fail "no")
local macro_rules | `(tactic| walk_at "s") => `(tactic| first | ((with_reducible refine' G.ix_scr ?s ?h0 ?h1 ?_); (case s => walk_at "Q"); (case h0 => walk_at "side"); (case h1 => walk_at "side"); intro n0) | fail "no")
local macro_rules | `(tactic| walk_at "s") => `(tactic| first | ((with_reducible refine' G.len_scr ?s ?_); (case s => walk_at "Q")) | fail "no")
local macro_rules | `(tactic| walk_at "s") => `(tactic| first | with_reducible refine G.st_forR ?_ | fail "no")
local macro_rules | `(tactic| walk_at "s") => `(tactic| first | with_reducible refine G.st_shut ?_ | fail "no")
local macro_rules | `(tactic| walk_at "s") => `(tactic| first | with_reducible refine G.st_lst2 ?_ | fail "no")
local macro_rules | `(tactic| walk_at "s") => `(tactic| first | ((with_reducible refine' G.set_at ?hp ?hi ?_); (case hp => first | exact L2.upd_same | walk_at "P"); (case hi => rfl)) | fail "no")
local macro_rules | `(tactic| walk_at "s") => `(tactic| first | ((with_reducible refine' G.set_21 ?hp ?_); (case hp => first | exact L2.upd_same | walk_at "P")) | fail "no")
local macro_rules | `(tactic| walk_at "s") => `(tactic| first | ((with_reducible refine' G.set_20 ?hp ?_); (case hp => first | exact L2.upd_same | walk_at "P")) | fail "no")
local macro_rules | `(tactic| walk_at "s") => `(tactic| first | (with_reducible refine G.st_sub ?_) | fail "no")
local macro_rules | `(tactic| walk_at "s") => `(tactic| first | (with_reducible refine G.st_strAnd ?_) | fail "no")
local macro_rules | `(tactic| walk_at "s") => `(tactic| first | ((with_reducible refine' G.upper_R ?l ?_); (case l => walk_at "side")) | fail "no")
local macro_rules | `(tactic| walk_at "s") => `(tactic| first | (with_reducible refine G.upper_one ?_; intro hu0) | fail "no")
local macro_rules | `(tactic| walk_at "s") => `(tactic| first | with_reducible refine G.st_M1 ?_ | fail "no")
local macro_rules | `(tactic| walk_at "s") => `(tactic| first | with_reducible refine G.st_M0 ?_ | fail "no")
local macro_rules | `(tactic| walk_at "s") => `(tactic| first | with_reducible refine G.st_lcR ?_ | fail "no")
local macro_rules | `(tactic| walk_at "s") => `(tactic| first | with_reducible refine G.st_lcS ?_ | fail "no")
local macro_rules | `(tactic| walk_at "s") => `(tactic| first | with_reducible refine G.st_lcT ?_ | fail "no")
local macro_rules | `(tactic| walk_at "s") => `(tactic| first | with_reducible refine G.st_lcL ?_ | fail "no")
local macro_rules | `(tactic| walk_at "s") => `(tactic| first | ((with_reducible refine' G.lstOf_L ?r ?_); (case r => walk_at "R"); intro v0 H0 s0 r0) | fail "no")
local macro_rules | `(tactic| walk_at "s") => `(tactic| first | ((with_reducible refine' G.lstOf_T ?r ?_); (case r => walk_at "R"); intro v0 H0 s0 r0) | fail "no")
local macro_rules | `(tactic| walk_at "s") => `(tactic| first | ((with_reducible refine' G.tupOf_T ?r ?_); (case r => walk_at "R")) | fail "no")
local macro_rules | `(tactic| walk_at "s") => `(tactic| first | ((with_reducible refine' G.tupOf_L ?r ?_); (case r => walk_at "R"); intro v0 H0 s0 r0) | fail "no")
local macro_rules | `(tactic| walk_at "s") => `(tactic| first | ((with_reducible refine' G.sl_lstR ?r ?_); (case r => walk_at "R"); intro v0 H0 s0 r0) | fail "no")
local macro_rules | `(tactic| walk_at "s") => `(tactic| first | ((with_reducible refine' G.sl_tupR ?r ?_); (case r => walk_at "R"); intro v0 H0 s0 r0) | fail "no")
local macro_rules | `(tactic| walk_at "s") => `(tactic| first | ((with_reducible refine' G.sl_strR ?l ?_); (case l => walk_at "side")) | fail "no")
local macro_rules | `(tactic| walk_at "s") => `(tactic| first | ((with_reducible refine' G.ix_lstN ?r ?h0 ?h1 ?_); (case r => walk_at "R"); (case h0 => walk_at "side"); (case h1 => walk_at "side"); intro v0 d0 hd0 r0) | fail "no")
local macro_rules | `(tactic| walk_at "s") => `(tactic| first | ((with_reducible refine' G.ix_lstS ?r ?h0 ?h1 ?_); (case r => walk_at "R"); (case h0 => walk_at "side"); (case h1 => walk_at "side"); intro z0 hz0) | fail "no")
local macro_rules | `(tactic| walk_at "s") => `(tactic| first | ((with_reducible refine' G.ix_tupN ?r ?h0 ?h1 ?_); (case r => walk_at "R"); (case h0 => walk_at "side"); (case h1 => walk_at "side"); intro v0 d0 hd0 r0) | fail "no")
local macro_rules | `(tactic| walk_at "s") => `(tactic| first | ((with_reducible refine' G.ix_strM ?l ?h0 ?h1 ?_); (case l => walk_at "side"); (case h0 => walk_at "side"); (case h1 => walk_at "side"); intro c0 hc0) | fail "no")
local macro_rules | `(tactic| walk_at "s") => `(tactic| first | ((with_reducible refine' G.ix_strR ?l ?h0 ?hd ?_); (case l => walk_at "side"); (case h0 => walk_at "side"); (case hd => first | rfl | assumption)) | fail "no")
local macro_rules | `(tactic| walk_at "s") => `(tactic| first | ((with_reducible refine' G.ix_lstR ?r ?h0 ?hd ?_); (case r => walk_at "R"); (case h0 => walk_at "side"); (case hd => first | rfl | assumption); walk_at "got") | fail "no")
local macro_rules | `(tactic| walk_at "s") => `(tactic| first | ((with_reducible refine' G.ix_tupR ?r ?h0 ?hd ?_); (case r => walk_at "R"); (case h0 => walk_at "side"); (case hd => first | rfl | assumption); walk_at "got") | fail "no")
local macro_rules | `(tactic| walk_at "s") => `(tactic| first | ((with_reducible refine' G.st_newL ?r ?l ?_); (case r => walk_at "A"); (case l => first | exact Nat.le_of_ble_eq_true rfl | walk_at "side"); intro v0 H0 s0 r0) | fail "no")
local macro_rules | `(tactic| walk_at "s") => `(tactic| first | ((with_reducible refine' G.st_newT ?r ?l ?_); (case r => walk_at "A"); (case l => first | exact Nat.le_of_ble_eq_true rfl | walk_at "side"); intro v0 H0 s0 r0) | fail "no")
local macro_rules | `(tactic| walk_at "s") => `(tactic| first | (with_reducible refine G.st_lst ?_) | fail "no")
local macro_rules | `(tactic| walk_at "s") => `(tactic| first | (with_reducible refine G.st_tup ?_) | fail "no")
local macro_rules | `(tactic| walk_at "s") => `(tactic| first | ((with_reducible refine' G.len_lst ?r ?_); (case r => walk_at "R")) | fail "no")
local macro_rules | `(tactic| walk_at "s") => `(tactic| first | ((with_reducible refine' G.len_tup ?r ?_); (case r => walk_at "R")) | fail "no")
local macro_rules | `(tactic| walk_at "s") => `(tactic| first | ((with_reducible refine' G.len_str ?l ?_); (case l => walk_at "side")) | fail "no")
local macro_rules | `(tactic| walk_at "s") => `(tactic| first | ((with_reducible refine' G.isi_R ?r ?t ?_); (case r => walk_at "R"); (case t => simp only [List.mem_cons, true_or, or_true])) | fail "no")
local macro_rules | `(tactic| walk_at "s") => `(tactic| first | ((with_reducible refine' G.isi_0 ?r ?e ?t ?_); (case r => walk_at "R"); (case e => rfl); (case t => simp only [List.mem_cons, true_or, or_true])) | fail "no")
local macro_rules | `(tactic| walk_at "s") => `(tactic| first | ((with_reducible refine' G.isi_1 ?r ?e ?t ?_); (case r => walk_at "R"); (case e => rfl); (case t => simp only [List.mem_cons, true_or, or_true])) | fail "no")
local macro_rules | `(tactic| walk_at "s") => `(tactic| first | ((with_reducible refine' G.add_lst ?r ?s ?l ?_); (case r => walk_at "R"); (case s => walk_at "R"); (case l => walk_at "side"); intro v0 H0 s0 r0) | fail "no")
local macro_rules | `(tactic| walk_at "s") => `(tactic| first | ((with_reducible refine' G.add_tup ?r ?s ?l ?_); (case r => walk_at "R"); (case s => walk_at "R"); (case l => walk_at "side"); intro v0 H0 s0 r0) | fail "no")
local macro_rules | `(tactic| walk_at "s") => `(tactic| first | ((with_reducible refine' G.add_str ?l ?_); (case l => walk_at "side")) | fail "no")
local macro_rules | `(tactic| walk_at "s") => `(tactic| first | ((with_reducible refine' G.nin_intsT ?r ?c ?_); (case r => walk_at "R"); (case c => rfl)) | fail "no")
local macro_rules | `(tactic| walk_at "s") => `(tactic| first | ((with_reducible refine' G.in_intsT ?r ?c ?_); (case r => walk_at "R"); (case c => rfl)) | fail "no")
local macro_rules | `(tactic| walk_at "s") => `(tactic| first | ((with_reducible refine' G.nin_strsT ?r ?c ?_); (case r => walk_at "R"); (case c => rfl)) | fail "no")
local macro_rules | `(tactic| walk_at "s") => `(tactic| first | ((with_reducible refine' G.in_strsT ?r ?c ?_); (case r => walk_at "R"); (case c => rfl)) | fail "no")
local macro_rules | `(tactic| walk_at "s") => `(tactic| first | ((with_reducible refine' G.in_strsT0 ?r ?c ?e ?_); (case r => walk_at "R"); (case c => rfl); (case e => decide +kernel)) | fail "no")
local macro_rules | `(tactic| walk_at "s") => `(tactic| first | ((with_reducible refine' G.in_strsT1 ?r ?c ?e ?_); (case r => walk_at "R"); (case c => rfl); (case e => decide +kernel)) | fail "no")
local macro_rules | `(tactic| walk_at "s") => `(tactic| first | with_reducible refine G.nin_sign ?_ | fail "no")
local macro_rules | `(tactic| walk_at "s") => `(tactic| first | with_reducible refine G.in_sign ?_ | fail "no")
local macro_rules | `(tactic| walk_at "s") => `(tactic| first | with_reducible refine G.isnt_bl ?_ | fail "no")
local macro_rules | `(tactic| walk_at "s") => `(tactic| first | with_reducible refine G.is_bl ?_ | fail "no")
local macro_rules | `(tactic| walk_at "s") => `(tactic| first | ((with_reducible refine' G.isnt_none ?r ?_); (case r => walk_at "R")) | fail "no")
local macro_rules | `(tactic| walk_at "s") => `(tactic| first | ((with_reducible refine' G.is_none ?r ?_); (case r => walk_at "R")) | fail "no")
local macro_rules | `(tactic| walk_at "s") => `(tactic| first | with_reducible refine G.ne_int ?_ | fail "no")
local macro_rules | `(tactic| walk_at "s") => `(tactic| first | with_reducible refine G.ne_str ?_ | fail "no")
local macro_rules | `(tactic| walk_at "s") => `(tactic| first | with_reducible refine G.eq_bl ?_ | fail "no")
local macro_rules | `(tactic| walk_at "s") => `(tactic| first | with_reducible refine G.eq_int ?_ | fail "no")
local macro_rules | `(tactic| walk_at "s") => `(tactic| first | with_reducible refine G.eq_str ?_ | fail "no")
local macro_rules | `(tactic| walk_at "s") => `(tactic| first | ((with_reducible refine' G.eq_str0 ?e ?_); (case e => decide +kernel)) | fail "no")
local macro_rules | `(tactic| walk_at "s") => `(tactic| first | ((with_reducible refine' G.eq_str1 ?e ?_); (case e => with_reducible rfl)) | fail "no")
local macro_rules | `(tactic| walk_at "s") => `(tactic| first | ((with_reducible refine' G.iC ?hc ?_); (case hc => walk_at "sideC")) | fail "no")
local macro_rules | `(tactic| walk_at "s") => `(tactic| first | ((with_reducible refine G.imod3 (by decide) ?_ ?_ ?_) <;> (intro hm; first | (exfalso; walk_at "no"; done) | skip)) | fail "no")
local macro_rules | `(tactic| walk_at "s") => `(tactic| first | ((with_reducible refine G.imod2 (by decide) ?_ ?_) <;> (intro hm; first | (exfalso; walk_at "no"; done) | skip)) | fail "no")
local macro_rules | `(tactic| walk_at "s") => `(tactic| first | with_reducible refine G.i0 ?_ | fail "no")
local macro_rules | `(tactic| walk_at "s") => `(tactic| first | with_reducible refine G.add_int ?_ | fail "no")
local macro_rules | `(tactic| walk_at "s") => `(tactic| first | with_reducible refine G.st_retN ?_ | fail "no")
local macro_rules | `(tactic| walk_at "s") => `(tactic| first | with_reducible refine G.st_next ?_ | fail "no")
local macro_rules | `(tactic| walk_at "s") => `(tactic| first | with_reducible refine G.st_drop ?_ | fail "no")
local macro_rules | `(tactic| walk_at "s") => `(tactic| first | with_reducible refine G.st_exInt ?_ | fail "no")
local macro_rules | `(tactic| walk_at "s") => `(tactic| first | with_reducible refine G.st_part ?_ | fail "no")
local macro_rules | `(tactic| walk_at "s") => `(tactic| first | with_reducible refine G.st_noPart ?_ | fail "no")
local macro_rules | `(tactic| walk_at "s") => `(tactic| first | with_reducible refine G.st_slice ?_ | fail "no")
local macro_rules | `(tactic| walk_at "s") => `(tactic| first | with_reducible refine G.st_then ?_ | fail "no")
local macro_rules | `(tactic| walk_at "s") => `(tactic| first | with_reducible refine G.st_un ?_ | fail "no")
local macro_rules | `(tactic| walk_at "s") => `(tactic| first | with_reducible refine G.st_chain ?_ | fail "no")
local macro_rules | `(tactic| walk_at "s") => `(tactic| first | with_reducible refine G.st_tIf ?_ | fail "no")
local macro_rules | `(tactic| walk_at "s") => `(tactic| first | with_reducible refine G.st_notV ?_ | fail "no")
local macro_rules | `(tactic| walk_at "s") => `(tactic| first | with_reducible refine G.st_andV ?_ | fail "no")
local macro_rules | `(tactic| walk_at "s") => `(tactic| first | with_reducible refine G.st_orV ?_ | fail "no")
local macro_rules | `(tactic| walk_at "s") => `(tactic| first | with_reducible refine G.st_not ?_ | fail "no")
local macro_rules | `(tactic| walk_at "s") => `(tactic| first | with_reducible refine G.st_and ?_ | fail "no")
local macro_rules | `(tactic| walk_at "s") => `(tactic| first | with_reducible refine G.st_or ?_ | fail "no")
local macro_rules | `(tactic| walk_at "s") => `(tactic| first | with_reducible refine G.st_tB ?_ | fail "no")
local macro_rules | `(tactic| walk_at "s") => `(tactic| first | with_reducible refine G.st_tTest ?_ | fail "no")
local macro_rules | `(tactic| walk_at "s") => `(tactic| first | with_reducible refine G.st_CB ?_ | fail "no")
local macro_rules | `(tactic| walk_at "s") => `(tactic| first | with_reducible refine G.st_nil ?_ | fail "no")
local macro_rules | `(tactic| walk_at "s") => `(tactic| first | with_reducible refine G.st_cons ?_ | fail "no")
local macro_rules | `(tactic| walk_at "s") => `(tactic| first | with_reducible refine G.st_call ?_ | fail "no")
local macro_rules | `(tactic| walk_at "s") => `(tactic| first | with_reducible refine G.st_set ?_ | fail "no")
local macro_rules | `(tactic| walk_at "s") => `(tactic| first | with_reducible refine G.st_ret ?_ | fail "no")
local macro_rules | `(tactic| walk_at "s") => `(tactic| first | with_reducible refine G.st_if ?_ | fail "no")
local macro_rules | `(tactic| walk_at "s") => `(tactic| first | ((with_reducible refine G.st_ite ?_ ?_) <;> (intro hb; (try simp only [decide_eq_true_eq, decide_eq_false_iff_not, Bool.not_eq_true', Bool.not_eq_false', beq_iff_eq, Bool.and_eq_true, Bool.or_eq_true, Bool.and_eq_false_iff, Bool.or_eq_false_iff, beq_eq_false_iff_ne, ne_eq, Int.not_lt, Int.not_le, Nat.not_lt, Nat.not_le] at hb); first | (exfalso; walk_at "no"; done) | skip)) | fail "no")
local macro_rules | `(tactic| walk_at "s") => `(tactic| first | with_reducible refine G.ite_nf ?_ | fail "no")
local macro_rules | `(tactic| walk_at "s") => `(tactic| first | with_reducible refine G.ite_nt ?_ | fail "no")
local macro_rules | `(tactic| walk_at "s") => `(tactic| first | with_reducible refine L2.iteF ?_ | fail "no")
local macro_rules | `(tactic| walk_at "s") => `(tactic| first | with_reducible refine L2.iteT ?_ | fail "no")
local macro_rules | `(tactic| walk_at "s") => `(tactic| first | with_reducible refine G.st_bl ?_ | fail "no")
local macro_rules | `(tactic| walk_at "s") => `(tactic| first | with_reducible refine G.st_op ?_ | fail "no")
local macro_rules | `(tactic| walk_at "s") => `(tactic| first | with_reducible refine G.st_c ?_ | fail "no")
local macro_rules | `(tactic| walk_at "s") => `(tactic| first | ((with_reducible refine' G.st_var ?hv ?_); (case hv => exact rfl)) | fail "no")
local macro_rules | `(tactic| walk_at "s") => `(tactic| first | with_reducible refine G.st_seq ?_ | fail "no")
local macro_rules | `(tactic| walk_at "r") => `(tactic| repeat' (walk_at "s"))
local macro_rules | `(tactic| walk_at "side") => `(tactic| first | fail | fail "no")
local macro_rules | `(tactic| walk_at "side") => `(tactic| first | exact G.nm_c (by with_reducible assumption) | fail "no")
local macro_rules | `(tactic| walk_at "side") => `(tactic| first | exact G.nm_b (by with_reducible assumption) | fail "no")
local macro_rules | `(tactic| walk_at "side") => `(tactic| first | exact G.fm_a (by with_reducible assumption) | fail "no")
local macro_rules | `(tactic| walk_at "side") => `(tactic| first | exact G.nm_a (by with_reducible assumption) | fail "no")
local macro_rules | `(tactic| walk_at "c") => `(tactic| ((with_reducible refine' G.use_name ?hp ?_); (case hp => walk_at "P"); intro z0 H0 s0 hz0))
local macro_rules | `(tactic| walk_at "c") => `(tactic| ((with_reducible refine' G.use_form ?hp ?_); (case hp => walk_at "P"); intro z0 H0 s0 hz0))
local macro_rules | `(tactic| walk_at "c") => `(tactic| ((with_reducible refine' G.use_pool ?hp ?_); (case hp => walk_at "P"); intro v0 fs0 gs0 ns0 H0 s0 ok0 r0))
local macro_rules | `(tactic| walk_at "c") => `(tactic| ((with_reducible refine' G.use_leaf ?hp ?r ?ok ?h0 ?h1 ?_); (case hp => walk_at "P"); (case r => walk_at "R"); (case ok => with_reducible assumption); (case h0 => walk_at "side"); (case h1 => walk_at "side"); intro v0 t0 H0 s0 r0 ht0 hd0 hs0))
local macro_rules | `(tactic| walk_at "c") => `(tactic| ((with_reducible refine' G.use_term ?hp ?r ?ok ?h0 ?h1 ?e0 ?e1 ?_); (case hp => walk_at "P"); (case r => walk_at "R"); (case ok => with_reducible assumption); (case h0 => walk_at "side"); (case h1 => walk_at "side"); (case e0 => walk_at "side"); (case e1 => walk_at "side"); intro v0 t0 H0 s0 r0 ht0 hd0 hs0))
local macro_rules | `(tactic| walk_at "c") => `(tactic| ((with_reducible refine' G.use_tall ?hp ?r ?ok ?rt ?ht ?h0 ?h1 ?_); (case hp => walk_at "P"); (case r => walk_at "R"); (case ok => with_reducible assumption); (case rt => walk_at "R"); (case ht => with_reducible assumption); (case h0 => walk_at "side"); (case h1 => walk_at "side"); intro v0 t0 H0 s0 r0 ht0 hd0 hs0))
local macro_rules | `(tactic| walk_at "c") => `(tactic| ((with_reducible refine' G.use_anyT ?hp ?r ?ok ?h0 ?h1 ?_); (case hp => walk_at "P"); (case r => walk_at "R"); (case ok => with_reducible assumption); (case h0 => walk_at "side"); (case h1 => walk_at "side"); intro v0 t0 H0 s0 r0 ht0 hd0 hs0))
local macro_rules | `(tactic| walk_at "w") => `(tactic| first | ((with_reducible refine' G.st_newLF ?r ?l ?_); (case r => walk_at "A"); (case l => first | exact Nat.le_of_ble_eq_true rfl | walk_at "side"); intro p0 H0 f0 s0 hl0 ra0) | fail "no")
local macro_rules | `(tactic| walk_at "w") => `(tactic| first | with_reducible refine G.st_lstF ?_ | fail "no")
local macro_rules | `(tactic| walk_at "w") => `(tactic| first | with_reducible refine G.whB ?_ | fail "no")
local macro_rules | `(tactic| walk_at "w") => `(tactic| first | with_reducible refine G.ipI_int ?_ | fail "no")
local macro_rules | `(tactic| walk_at "w") => `(tactic| first | ((with_reducible refine' G.st_aug ?hx ?_); (case hx => rfl)) | fail "no")
local macro_rules | `(tactic| walk_at "w") => `(tactic| first | with_reducible refine G.max_2 ?_ | fail "no")
local macro_rules | `(tactic| walk_at "w") => `(tactic| first | with_reducible refine G.int_bl ?_ | fail "no")
local macro_rules | `(tactic| walk_at "w") => `(tactic| first | with_reducible refine G.st_asgT ?_ | fail "no")
local macro_rules | `(tactic| walk_at "w") => `(tactic| first | ((with_reducible refine' G.gtup2 ?r ?_); (case r => walk_at "R"); intro v1 v2 r1 r2) | fail "no")
local macro_rules | `(tactic| walk_at "w") => `(tactic| first | ((with_reducible refine' G.extR ?hl ?ra ?r ?hz ?hn ?hn' ?_); (case hl => walk_at "P"); (case ra => first | with_reducible assumption | exact G.ra_mono (by with_reducible assumption) (by walk_at "S")); (case r => walk_at "R"); (case hz => walk_at "side"); (case hn => walk_at "nol"); (case hn' => walk_at "nol"); intro ws0 H0 x0 hl0 ra0) | fail "no")
local macro_rules | `(tactic| walk_at "w") => `(tactic| first | ((with_reducible refine' G.popR ?hl ?ra ?hn ?_); (case hl => walk_at "P"); (case ra => with_reducible assumption); (case hn => with_reducible assumption); intro v0 ws0 H0 x0 hl0 ra0 r0) | fail "no")
local macro_rules | `(tactic| walk_at "w") => `(tactic| first | ((with_reducible refine' G.st_tyl ?hl ?_); (case hl => walk_at "P")) | fail "no")
local macro_rules | `(tactic| walk_at "w") => `(tactic| first | with_reducible refine G.st_BM ?_ | fail "no")
local macro_rules | `(tactic| walk_at "w") => `(tactic| first | with_reducible refine G.st_BM0 ?_ | fail "no")
local macro_rules | `(tactic| walk_at "nol") => `(tactic| first | exact G.Th.noLs _ | fail "no")
local macro_rules | `(tactic| walk_at "nol") => `(tactic| first | exact G.Th.noL _ | fail "no")
local macro_rules | `(tactic| walk_at "nol") => `(tactic| first | rfl | fail "no")
local macro_rules | `(tactic| walk_at "nol") => `(tactic| first | with_reducible assumption | fail "no")
local macro_rules | `(tactic| walk_at "c") => `(tactic| walk_at "w")
local macro_rules | `(tactic| walk_at "c") => `(tactic| first | (with_reducible refine G.absR ?_; intro j0) | fail "no")
local macro_rules | `(tactic| walk_at "c") => `(tactic| first | ((with_reducible refine' G.divmodR ?h0 ?h1 ?_); (case h0 => walk_at "side"); (case h1 => walk_at "side"); intro p0 H0 f0 e0) | fail "no")
local macro_rules | `(tactic| walk_at "c") => `(tactic| first | ((with_reducible refine' G.ix_scrLast ?hs ?h1 ?_); (case hs => walk_at "Q"); (case h1 => walk_at "side"); intro n0) | fail "no")
local macro_rules | `(tactic| walk_at "c") => `(tactic| first | ((with_reducible refine' G.iC ?hc ?_); (case hc => show (0 : Int) < _; decide +kernel)) | fail "no")
local macro_rules | `(tactic| walk_at "c") => `(tactic| first | with_reducible refine G.st_gsub ?_ | fail "no")
local macro_rules | `(tactic| walk_at "c") => `(tactic| first | with_reducible refine G.st_gname ?_ | fail "no")
local macro_rules | `(tactic| walk_at "c") => `(tactic| first | with_reducible refine G.st_gnil ?_ | fail "no")
local macro_rules | `(tactic| walk_at "c") => `(tactic| first | with_reducible refine G.st_gcons ?_ | fail "no")
local macro_rules | `(tactic| walk_at "c") => `(tactic| first | with_reducible refine G.st_tys ?_ | fail "no")
local macro_rules | `(tactic| walk_at "c") => `(tactic| first | with_reducible refine G.st_BMs ?_ | fail "no")
local macro_rules | `(tactic| walk_at "c") => `(tactic| first | with_reducible refine G.neg_i ?_ | fail "no")
local macro_rules | `(tactic| walk_at "B") => `(tactic| first | exact G.bk_keep (by with_reducible assumption) (by walk_at "S") | fail "no")
local macro_rules | `(tactic| walk_at "B") => `(tactic| first | with_reducible assumption | fail "no")
local macro_rules | `(tactic| walk_at "c") => `(tactic| first | with_reducible refine G.st_forT ?_ | fail "no")
local macro_rules | `(tactic| walk_at "c") => `(tactic| first | with_reducible refine G.st_forE ?_ | fail "no")
local macro_rules | `(tactic| walk_at "c") => `(tactic| first | with_reducible refine G.st_forL ?_ | fail "no")
local macro_rules | `(tactic| walk_at "c") => `(tactic| first | with_reducible refine G.st_lcETT ?_ | fail "no")
local macro_rules | `(tactic| walk_at "c") => `(tactic| first | with_reducible refine G.st_lcET ?_ | fail "no")
local macro_rules | `(tactic| walk_at "c") => `(tactic| first | with_reducible refine G.st_lcLT ?_ | fail "no")
local macro_rules | `(tactic| walk_at "c") => `(tactic| first | with_reducible refine G.st_dget2 ?_ | fail "no")
local macro_rules | `(tactic| walk_at "c") => `(tactic| first | with_reducible refine G.st_dget ?_ | fail "no")
local macro_rules | `(tactic| walk_at "c") => `(tactic| first | ((with_reducible refine' G.ix_b5 ?h ?_); (case h => walk_at "B"); intro v0 r0) | fail "no")
local macro_rules | `(tactic| walk_at "c") => `(tactic| first | ((with_reducible refine' G.ix_b3 ?h ?_); (case h => walk_at "B"); intro v0 r0) | fail "no")
local macro_rules | `(tactic| walk_at "c") => `(tactic| first | ((with_reducible refine' G.ix_b2 ?h ?_); (case h => walk_at "B"); intro v0 r0) | fail "no")
local macro_rules | `(tactic| walk_at "c") => `(tactic| first | ((with_reducible refine' G.ix_b1 ?h ?_); (case h => walk_at "B"); intro af0 lb0 lc0 hf0 rb0 rc0) | fail "no")
local macro_rules | `(tactic| walk_at "c") => `(tactic| first | ((with_reducible refine' G.use_nextU ?hp ?h0 ?h1 ?_); (case hp => walk_at "P"); (case h0 => walk_at "side"); (case h1 => walk_at "side"); intro r0 H0 s0 hr0 hr1) | fail "no")
local macro_rules | `(tactic| walk_at "u") => `(tactic| repeat' ((fail_if_success (with_reducible refine G.st_if ?_)); walk_at "s"))
local macro_rules | `(tactic| walk_at "c") => `(tactic| (with_reducible refine G.minR ?_; intro m0 hm0 hm1 hm2))
local macro_rules | `(tactic| walk_at "c") => `(tactic| first | with_reducible refine G.st_forEL ?_ | fail "no")
local macro_rules | `(tactic| walk_at "c") => `(tactic| first | with_reducible refine G.par2 ?_ | fail "no")
local macro_rules | `(tactic| walk_at "c") => `(tactic| first | with_reducible refine G.st_make ?_ | fail "no")
local macro_rules | `(tactic| walk_at "c") => `(tactic| first | with_reducible refine G.st_sfld ?_ | fail "no")
local macro_rules | `(tactic| walk_at "c") => `(tactic| first | with_reducible refine G.st_kget2 ?_ | fail "no")
local macro_rules | `(tactic| walk_at "c") => `(tactic| first | with_reducible refine G.st_stat ?_ | fail "no")
local macro_rules | `(tactic| walk_at "c") => `(tactic| first | with_reducible refine G.st_par ?_ | fail "no")
local macro_rules | `(tactic| walk_at "c") => `(tactic| first | with_reducible refine G.st_dget1 ?_ | fail "no")
local macro_rules | `(tactic| walk_at "c") => `(tactic| first | with_reducible refine G.st_forZL ?_ | fail "no")
local macro_rules | `(tactic| walk_at "c") => `(tactic| first | with_reducible refine G.st_forZ ?_ | fail "no")
local macro_rules | `(tactic| walk_at "c") => `(tactic| first | with_reducible refine G.st_methX ?_ | fail "no")
local macro_rules | `(tactic| walk_at "c") => `(tactic| first | with_reducible refine G.st_fld ?_ | fail "no")
section














namespace G
open PySem PySem.Spec PyProof.Rows L2
section
variable {P : Program} {w : World} {K : PySem.W.Frag} {mg : Str → Option Value} {base : Heap} {k n : Nat}
theorem ok_formB {A : CA} (U : Tc K mg A) (x_form : CalX P w K mg base k A noBe "form" (fun _ => spFormM K A)) : CalM P w K mg base (k + 1) A.be "form" (spFormX K A .be) := by
  refine U.formB.cal (U.cx.cl .be) sc_Beside_form (fun vs H Q E h => ?_) (fun f cdv A' outer s H vs Q E hr h => ?_)
  · obtain ⟨v, z, E, rfl, _⟩ := h; rfl
  obtain ⟨v, z, E, rfl, ⟨rows, ff, ks, kk, b, hb, rfl⟩, q⟩ := h
  have sc := @sc_Beside_form
  refine ⟨_, (pss_one (ps_ret (pe_mx x_form hr (Nat.le_refl _) (pe_fldK K (pv 0) rfl) (pa_cons (pv 1) pa_nil)))), ?_⟩
  obtain ⟨a, dx, fs, vl, vr, rfl, e2, e3, e4, e5, e6, e7, e8⟩ := hb.ex
  walk_at "r"
  refine fld_at e2 (U.cx.cl .be) U.cx.nb.1 e3 ?_
  refine meth_L e7 (fun _ h => h) (by decide +kernel) fun a2 i e hi => ?_
  walk_at "r"
  exact ⟨vl, z, rows, rfl, e7, q⟩
theorem ok_functionB {A : CA} (U : Tc K mg A) (x_function : CalX P w K mg base k A noBe "function" (fun _ => spFunM K A)) : CalM P w K mg base (k + 1) A.be "function" (spFunX K A .be) := by
  refine U.functionB.cal (U.cx.cl .be) sc_Beside_function (fun vs H Q E h => ?_) (fun f cdv A' outer s H vs Q E hr h => ?_)
  · obtain ⟨v, z, E, ks, kk, rfl, _⟩ := h; rfl
  obtain ⟨v, z, E, ks, kk, rfl, ⟨rows, ff, ks', kk', b, hb, rfl⟩, hz, q⟩ := h
  have sc := @sc_Beside_function
  refine ⟨_, (pss_cons (ps_if (pt_cmpR (op_eqK K hr) (pv 1) (pe_ix (ix_K K) (pe_fldK K (pv 0) rfl) pe_int (fun _ _ => rfl)) (nomark _)) (pss_one (ps_ret (pe_fldK K (pv 0) rfl))) pss_nil)
      (pss_one (ps_ret (pe_mx x_function hr (Nat.le_refl _) (pe_fldK K (pv 0) rfl) (pa_cons (pv 1) pa_nil))))), ?_⟩
  obtain ⟨a, dx, fs, vl, vr, rfl, e2, e3, e4, e5, e6, e7, e8⟩ := hb.ex
  obtain ⟨w, x, hd⟩ := fn_row ff ks' kk' b
  rw [hd] at e8
  have hzz : (tabBy rows ff ks' kk').fn z = if z = ff then some (ks', kk') else ((funsOf rows).lookup z).bind Row.sig := rfl
  walk_at "r"
  refine fld_at e2 (U.cx.cl .be) U.cx.nb.2 e4 ?_
  walk_at "r"
  · rename_i heq
    refine fld_at e2 (U.cx.cl .be) U.cx.nb.2 e4 ?_
    walk_at "r"
    rw [hzz, if_pos heq] at hz
    obtain ⟨rfl, rfl⟩ := Prod.mk.inj (Option.some.inj hz)
    exact q _ _ _ _ _ (by walk_at "S") (e8.mono (by walk_at "S"))
  · rename_i heq
    refine fld_at e2 (U.cx.cl .be) U.cx.nb.1 e3 ?_
    refine meth_L e7 (fun _ h => h) (by decide +kernel) fun a2 i e hi => ?_
    walk_at "r"
    rw [hzz, if_neg heq] at hz
    obtain ⟨r, w', f', x', g1, g2⟩ := fun_row hz
    refine ⟨vl, z, rows, rfl, e7, fun u ru => q u w' f' x' _ (Same.refl _) ?_⟩
    rw [g1] at ru
    rw [← g2]; exact ru
theorem ok_formX {A : CA} (U : Tc K mg A) : CalX P w K mg base (k + 2) A anyW "form" (spFormX K A) := ⟨fun i _ => by
  have c := ok_form (P := P) (w := w) (base := base) (k := k) U
  cases i with
  | be => exact ok_formB U c
  | lo => exact ((c.all .lo (by intro h; cases h)).imp fun vs H Q E h => by obtain ⟨v, z, E, rfl, ⟨rows, hl, rfl⟩, q⟩ := h; exact ⟨v, z, rows, rfl, hl, q⟩).lift (by omega)
  | bo => exact ((c.all .bo (by intro h; cases h)).imp fun vs H Q E h => by obtain ⟨v, z, E, rfl, ⟨rows, hl, rfl⟩, q⟩ := h; exact ⟨v, z, rows, rfl, hl, q⟩).lift (by omega)⟩
theorem ok_functionX {A : CA} (U : Tc K mg A) : CalX P w K mg base (k + 2) A anyW "function" (spFunX K A) := ⟨fun i _ => by
  have c := ok_function (P := P) (w := w) (base := base) (k := k) U
  have im : ∀ vs H Q E, (∃ v z E0 ks kk, vs = [v, .str z] ∧ (∃ rows, LoreAt K A H v rows ∧ E0 = tabOf rows) ∧ E0.fn z = some (ks, kk) ∧ ∀ u w f r H', Same H H' → R K H' u (.tuple (.str w :: .str f :: partsD ks :: .str kk :: r)) → Q u H') → spFunM K A vs H Q E := fun vs H Q E h => by
    obtain ⟨v, z, E0, ks, kk, rfl, ⟨rows, hl, rfl⟩, hz, q⟩ := h
    obtain ⟨r, w', f', x', g1, g2⟩ := fun_row hz
    refine ⟨v, z, rows, rfl, hl, fun u ru => q u w' f' x' _ (Same.refl _) ?_⟩
    rw [g1] at ru
    rw [← g2]; exact ru
  cases i with
  | be => exact ok_functionB U c
  | lo => exact ((c.all .lo (by intro h; cases h)).imp im).lift (by omega)
  | bo => exact ((c.all .bo (by intro h; cases h)).imp im).lift (by omega)⟩
theorem ok_told_kinds (T : Tp K mg) {A : CA} (x_form : CalX P w K mg base k A anyW "form" (spFormX K A)) (x_function : CalX P w K mg base k A anyW "function" (spFunX K A)) : Cal P w K mg base (k + 1) "told_kinds" (spTKs K A) := by
  refine T.d_told_kinds.cal sc_told_kinds (fun vs H Q E h => ?_) (fun f cdv A' outer s H vs Q E hr h => ?_)
  · obtain ⟨v, vt, E, ww, c, as, ps, kk, rfl, _⟩ := h; rfl
  obtain ⟨v, vt, E, ww, c, as, ps, kk, rfl, hl, r, he, q⟩ := h
  have sc := @sc_told_kinds
  refine ⟨_, (pss_cons (ps_if (pt_cmpR (op_eqK K hr) (pe_ix (ix_K K) (pv 1) pe_int (fun _ _ => rfl)) pe_str (nomark _)) (pss_cons (ps_set (i := 2) sc.nd rfl (Or.inl rfl) (pe_mx x_form hr (Nat.le_refl _) (pv 0) (pa_cons (pe_ix (ix_K K) (pv 1) pe_int (fun _ _ => rfl)) pa_nil)))
      (pss_cons (ps_if (pt_cmpR op_isU (pv 2) pe_non (nomark _)) (pss_one (ps_ret pe_non)) pss_nil)
      (pss_one (ps_ret (pe_tupK K (pa_cons (pe_ix (ix_K K) (pv 2) pe_int (fun _ _ => rfl)) (pa_cons (pe_ix (ix_K K) (pv 2) pe_int (fun _ _ => rfl)) pa_nil))))))) pss_nil)
      (pss_cons (ps_set (i := 3) sc.nd rfl (Or.inl rfl) (pe_mx x_function hr (Nat.le_refl _) (pv 0) (pa_cons (pe_ix (ix_K K) (pv 1) pe_int (fun _ _ => rfl)) pa_nil)))
      (pss_cons (ps_if (pt_cmpR op_isU (pv 3) pe_non (nomark _)) (pss_one (ps_ret pe_non)) pss_nil)
      (pss_one (ps_ret (pe_tupK K (pa_cons (pe_ix (ix_K K) (pv 3) pe_int (fun _ _ => rfl)) (pa_cons (pe_ix (ix_K K) (pv 3) pe_int (fun _ _ => rfl)) pa_nil)))))))), ?_⟩
  rcases he with ⟨rfl, he⟩ | ⟨rfl, he⟩
  · have r' : R K H vt (.tuple [.str "form", .str c, .tuple (Th.ds as)]) := r
    walk_at "r"
    refine meth_LL hl (.inl rfl) fun a i hv hi => ?_
    walk_at "r"
    refine use_formX hi fun u ru => ?_
    rw [he] at ru
    have ru' : R K H u (.tuple [.str kk, partsD ps]) := ru
    walk_at "r"
    exact q _ _ (by walk_at "S") (by with_reducible assumption)
  · have r' : R K H vt (.tuple [.str "call", .str c, .tuple (Th.ds as)]) := r
    walk_at "r"
    refine meth_LL hl (.inr rfl) fun a i hv hi => ?_
    walk_at "r"
    refine use_funX hi he fun u ww f' x' H1 s1 ru => ?_
    walk_at "r"
    exact q _ _ (by walk_at "S") (by with_reducible assumption)

end
end G

end

section














namespace G
open PySem PySem.Spec PyProof.Rows L2
section
variable {P : Program} {w : World} {K : PySem.W.Frag} {mg : Str → Option Value} {base : Heap} {k n : Nat}
theorem lookup_thg {xs : List (Str × Str)} {z : Str} : (thg xs).lookup z = (xs.lookup z).map PyData.str := lookup_onV xs
theorem ok_kind_in (T : Tp K mg) {A : CA} (c_told_kinds : Cal P w K mg base k "told_kinds" (spTKs K A)) (c_kind_in : Cal P w K mg base k "kind_in" (spKind K A n)) : Cal P w K mg base (k + 1) "kind_in" (spKind K A (n + 1)) := by
  refine T.d_kind_in.cal sc_kind_in (fun vs H Q E h => ?_) (fun f cdv A' outer s H vs Q E hr h => ?_)
  · obtain ⟨v, vi, vt, pt, E, xs, is, t, kk, F, b, rfl, _⟩ := h; rfl
  obtain ⟨v, vi, vt, pt, E, xs, is, t, kk, F, b, rfl, hl, hd, ri, rt, ht, hk, hn, hli, q⟩ := h
  have sc := @sc_kind_in
  refine ⟨_, (pss_cons (ps_if (pt_cmpR (op_eqK K hr) (pe_ix (ix_K K) (pv 3) pe_int (fun _ _ => rfl)) pe_str (nomark _)) (pss_cons (ps_if (pt_cmpR (op_ninDc hr) (pe_ix (ix_K K) (pv 3) pe_int (fun _ _ => rfl)) (pv 1) rfl) (pss_one ps_never) pss_nil)
      (pss_one (ps_ret (pe_dgetH hr (pv 1) (pe_ix (ix_K K) (pv 3) pe_int (fun _ _ => rfl)) (fun _ _ => rfl))))) pss_nil)
      (pss_cons (ps_if (pt_cmpR (op_eqK K hr) (pe_ix (ix_K K) (pv 3) pe_int (fun _ _ => rfl)) pe_str (nomark _)) (pss_cons (ps_if (pt_cmpR op_ge (pe_ix (ix_K K) (pv 3) pe_int (fun _ _ => rfl)) (pe_callB (len_K K) rfl T.n_len bt_len (pa_cons (pv 2) pa_nil)) (nomark _)) (pss_one ps_never) pss_nil)
      (pss_one (ps_ret (pe_ix (ix_K K) (pv 2) (pe_ix (ix_K K) (pv 3) pe_int (fun _ _ => rfl)) (fun _ _ => rfl))))) pss_nil)
      (pss_cons (ps_set (i := 4) sc.nd rfl (Or.inl rfl) (pe_c c_told_kinds hr (Nat.le_refl _) rfl (pa_cons (pv 0) (pa_cons (pv 3) pa_nil))))
      (pss_cons (ps_if (PW.pt (pw_or (pt_cmpR op_isU (pv 4) pe_non (nomark _)) (pw_or1 (pt_cmpR (op_neK K hr) (pe_callB (len_K K) rfl T.n_len bt_len (pa_cons (pe_ix (ix_K K) (pv 4) pe_int (fun _ _ => rfl)) pa_nil)) (pe_callB (len_K K) rfl T.n_len bt_len (pa_cons (pe_ix (ix_K K) (pv 3) pe_int (fun _ _ => rfl)) pa_nil)) (nomark _))))) (pss_one ps_never) pss_nil)
      (pss_cons (ps_for PassesOwn.never rfl (pi_zipK K rfl T.n_zip (pa_cons (pe_ix (ix_K K) (pv 3) pe_int (fun _ _ => rfl)) (pa_cons (pe_ix (ix_K K) (pv 4) pe_int (fun _ _ => rfl)) pa_nil))) (gtK K (pg_tup (n := 2) rfl (pgs_cons (pg_name (i := 5) sc.nd rfl (Or.inl rfl)) (pgs_cons (pg_name (i := 6) sc.nd rfl (Or.inl rfl)) pgs_nil)))) (pss_one (ps_if (pt_cmpR (op_neK K hr) (pe_c c_kind_in hr (Nat.le_refl _) rfl (pa_cons (pv 0) (pa_cons (pv 1) (pa_cons (pv 2) (pa_cons (pv 5) pa_nil))))) (pv 6) (nomark _)) (pss_one ps_never) pss_nil)))
      (pss_one (ps_ret (pe_ix (ix_K K) (pv 4) pe_int (fun _ _ => rfl))))))))), ?_⟩
  cases t with
  | free x =>
    have r' : R K H vt (.tuple [.str "free", .str x]) := rt
    have hx : xs.lookup x = some kk := hk
    have hx' : (thg xs).lookup x = some (.str kk) := by rw [lookup_thg, hx]; rfl
    walk_at "r"
    refine nin_D hd ?_
    rw [hx']
    walk_at "r"
    refine dgetk_D hd hx' fun u ru => ?_
    obtain rfl := ru.inv_str
    exact q _ (by walk_at "S")
  | bnd j =>
    have r' : R K H vt (.tuple [.str "bound", .int (j : Nat)]) := rt
    have hj : is[j]? = some kk := hk
    have hjl : (j : Int) < ((is.map PyData.str).length : Int) := by rw [List.length_map]; have := (List.getElem?_eq_some_iff.mp hj).1; omega
    have hg : (is.map PyData.str)[((j : Nat) : Int).toNat]? = some (.str kk) := by rw [Int.toNat_natCast, List.getElem?_map, hj]; rfl
    walk_at "r"
    exact q _ (by walk_at "S")
  | app wd c as =>
    have main : ∃ ps, ((wd = .form ∧ E.fm c = some (kk, ps)) ∨ (wd = .call ∧ E.fn c = some (ps, kk))) ∧ Th.kns E xs is as ps ∧ as.length ≤ 4 ∧ ∀ a ∈ as, a.isT F b := by
      cases wd with
      | atom => exact absurd ht (by intro h; exact h)
      | form => obtain ⟨ps, h1, h2⟩ := hk; exact ⟨ps, .inl ⟨rfl, h1⟩, h2, isT_app ht⟩
      | call => obtain ⟨ps, h1, h2⟩ := hk; exact ⟨ps, .inr ⟨rfl, h1⟩, h2, isT_app ht⟩
    obtain ⟨ps, he, hks, hla, hat⟩ := main
    have r' : R K H vt (.tuple [.str wd.s, .str c, .tuple (Th.ds as)]) := rt
    have hlen : (ps.map PyData.str).length = (Th.ds as).length := by rw [ds_len, List.length_map, Th.kns_len hks]
    have hdp : ∀ a ∈ as, a.dep ≤ n := fun a ha => by
      have h3 := Th.deps_le.mp (Nat.le_refl (Th.deps as)) _ ha
      simp only [Th.dep] at hn
      omega
    cases wd with
    | atom => exact absurd ht (by intro h; exact h)
    | form | call =>
      walk_at "r"
      refine use_TKs hl rt he fun u H1 s1 ru => ?_
      have r1 := r'.mono s1
      walk_at "r"
      rename_i v1 rv1 v2 rv2 hb1 v3 rv3 v4 rv4
      refine for_ZT (fun _ σ' H' => Same H1 H' ∧ ∃ x5 x6 : Option V, σ' = [some v, some (.ref pt), some vi, some vt, some u, x5, x6]) rv3 rv4 hlen.symm ⟨Same.refl _, _, _, rfl⟩ (fun _ _ _ h => h.1) (fun _ _ _ _ h s => ⟨h.1.trans s, h.2⟩) ?_ ?_
      · rintro i d e va wa σ' H2 hd1 he1 ra rw1 ⟨s2, x5, x6, rfl⟩
        rw [Th.ds_map, List.getElem?_map] at hd1
        obtain ⟨a, ha, rfl⟩ := Option.map_eq_some_iff.mp hd1
        rw [List.getElem?_map] at he1
        obtain ⟨p1, hp1, rfl⟩ := Option.map_eq_some_iff.mp he1
        obtain rfl := rw1.inv_str
        have ham := List.mem_of_getElem? ha
        have hkn := Th.kns_at hks i a p1 ha hp1
        have s12 := s1.trans s2
        clear rv1 rv2 rv3 rv4
        walk_at "r"
        refine use_kind (hl.mono s12) (hd.mono s12) (ri.mono s12) ra (hat a ham) hkn (hdp a ham) hli fun H3 s3 => ?_
        walk_at "r"
        exact ⟨s2.trans s3, _, _, rfl⟩
      · rintro σ' H2 ⟨s2, x5, x6, rfl⟩
        have ru2 := ru.mono s2
        clear rv1 rv2 rv3 rv4
        walk_at "r"
        exact q _ (s1.trans s2)
  | _ => exact absurd ht (by intro h; exact h)
theorem kind_in_n (T : Tp K mg) {A : CA} (c_told_kinds : Cal P w K mg base k "told_kinds" (spTKs K A)) : ∀ n : Nat, Cal P w K mg base (k + n) "kind_in" (spKind K A n)
  | 0 => T.d_kind_in.none fun vs H Q E h => by obtain ⟨v, vi, vt, pt, E, xs, is, t, kk, F, b, _, _, _, _, _, _, _, h0, _⟩ := h; have := t.dep_pos; omega
  | n + 1 => ok_kind_in T (c_told_kinds.lift (k' := k + n) (Nat.le_add_right k n)) (kind_in_n T c_told_kinds n)

end
end G

end

section














namespace G
open PySem PySem.Spec PyProof.Rows L2
section
variable {P : Program} {w : World} {K : PySem.W.Frag} {mg : Str → Option Value} {base : Heap} {k n : Nat}
theorem ok_kind_of (T : Tp K mg) {A : CA} (c_is_term : Cal P w K mg base k "is_term" (spIsTm K 62)) (c_kind_in : Cal P w K mg base k "kind_in" (spKind K A 40)) : Cal P w K mg base (k + 1) "kind_of" (spKind K A 40) := by
  refine T.d_kind_of.cal sc_kind_of (fun vs H Q E h => ?_) (fun f cdv A' outer s H vs Q E hr h => ?_)
  · obtain ⟨v, vi, vt, pt, E, xs, is, t, kk, F, b, rfl, _⟩ := h; rfl
  obtain ⟨v, vi, vt, pt, E, xs, is, t, kk, F, b, rfl, hl, hd, ri, rt, ht, hk, hn, hli, q⟩ := h
  have sc := @sc_kind_of
  refine ⟨_, (pss_cons (ps_if (pt_not (pt_val (pe_c c_is_term hr (Nat.le_refl _) rfl (pa_cons (pv 3) pa_nil)))) (pss_one ps_never) pss_nil)
      (pss_one (ps_ret (pe_c c_kind_in hr (Nat.le_refl _) rfl (pa_cons (pv 0) (pa_cons (pv 1) (pa_cons (pv 2) (pa_cons (pv 3) pa_nil)))))))), ?_⟩
  have dp := Th.depth_le t
  walk_at "r"
  refine use_isTm rt (fine_mono (by decide) _ (Th.fineT t ht)) (by omega) fun H1 s1 => ?_
  rw [Th.isTm 62 t ht (by omega)]
  walk_at "r"
  exact use_kind (hl.mono s1) (hd.mono s1) (ri.mono s1) (rt.mono s1) ht hk hn hli fun H2 s2 => q _ (s1.trans s2)
def spAreKs (K : PySem.W.Frag) (A : CA) : Sp := fun vs H Q _ => ∃ (v vk : V) (rows : List Row) (ks : List Str), vs = [v, vk] ∧ LoreAt K A H v rows ∧ R K H vk (partsD ks) ∧ KsR rows ks ∧ ∀ H', Same H H' → Q (.bl true) H'
theorem use_areKs {A : CA} {H : Hp} {Q : VK} {EE : XK} {v vk : V} {rows : List Row} {ks : List Str} (h : LoreAt K A H v rows) (r : R K H vk (partsD ks)) (hk : KsR rows ks) (q : ∀ H', Same H H' → Q (.bl true) H') : spAreKs K A [v, vk] H Q EE := ⟨v, vk, rows, ks, rfl, h, r, hk, q⟩
theorem short8 {z : Str} (h : isNameS z = true) : short (.str z) := by
  have := isNameS_len h
  show decide (z.length ≤ 100000) = true
  simp; omega
theorem use_has {A : CA} {H : Hp} {Q : VK} {EE : XK} {v : V} {z : Str} {rows : List Row} (h : LoreAt K A H v rows) (q : Q (.bl ((kindsOf rows).lookup z).isSome) H) : spHas K A [v, .str z] H Q EE := ⟨v, z, rows, rfl, h, q⟩
theorem ok_are_kinds (T : Tp K mg) {A : CA} (c_is_name : Cal P w K mg base k "is_name" (spIsName K)) (x_has_kind : CalX P w K mg base k A noBe "has_kind" (fun _ => spHas K A)) : Cal P w K mg base (k + 1) "are_kinds" (spAreKs K A) := by
  refine T.d_are_kinds.cal sc_are_kinds (fun vs H Q E h => ?_) (fun f cdv A' outer s H vs Q E hr h => ?_)
  · obtain ⟨v, vk, rows, ks, rfl, _⟩ := h; rfl
  obtain ⟨v, vk, rows, ks, rfl, hl, r, ⟨hk1, hk2⟩, q⟩ := h
  have sc := @sc_are_kinds
  have g_MOST_KINDS := T.g_MOST_KINDS
  refine ⟨_, (pss_cons (ps_if (PW.pt (pw_or (pt_not (pt_val (pe_callB (isi_K K) rfl T.n_isinstance bt_isinstance (pa_cons (pv 1) (pa_cons (pe_bltn (v := .ty "tuple") rfl T.n_tuple bt_tuple rfl) pa_nil))))) (pw_or1 (pt_cmpR op_gt (pe_callB (len_K K) rfl T.n_len bt_len (pa_cons (pv 1) pa_nil)) (pe_gv rfl g_MOST_KINDS) (nomark _))))) (pss_one (ps_ret pe_bl)) pss_nil)
      (pss_one (ps_ret (pe_callB (all_K K rfl) rfl T.n_all bt_all (pa_cons (pe_lc (own := [("kind", 2)]) (g := gName 2) (tt := tYes) rfl sc.nd (pi_tupK K (pv 1)) (blkOk_by (N := n_are_kinds) (sc := defScope s_are_kinds) (by decide +kernel)) (fun _ _ _ _ _ => pg_name (i := 2) sc.nd rfl (Or.inl rfl)) (fun _ _ _ _ _ => pts_nil) (fun _ _ _ _ _ => pe_hide (pe_and (pe_c c_is_name hr (Nat.le_refl _) rfl (pa_cons (pv 2) pa_nil)) (pe_one (pe_mx x_has_kind hr (Nat.le_refl _) (pv 0) (pa_cons (pv 2) pa_nil)))))) pa_nil))))), ?_⟩
  have hkl : (ks.map PyData.str).length ≤ 4 := by rw [List.length_map]; exact hk1
  walk_at "r"
  refine lc_T (K := K) (fun _ e => e = .bool true) r (by omega) (fun _ => rfl) (fun i v1 d H1 hd rv s1 Qt hQ => ?_) (fun v1 H1 es s1 r1 hl1 hP => ?_)
  · rw [List.getElem?_map] at hd
    obtain ⟨p, hp, rfl⟩ := Option.map_eq_some_iff.mp hd
    obtain ⟨hn, hki⟩ := hk2 p (List.mem_of_getElem? hp)
    obtain rfl := rv.inv_str
    walk_at "r"
    refine use_isName rv (short8 hn) fun H2 s2 => ?_
    rw [show isName (.str p) = true from hn]
    walk_at "r"
    refine meth_L (hl.mono (s1.trans s2)) (fun _ h => h) (by decide +kernel) fun a i e hi => ?_
    walk_at "r"
    refine use_has (hl.mono (s1.trans s2)) ?_
    rw [show ((kindsOf rows).lookup p).isSome = true from hki]
    exact hQ _ _ _ s2 (.bl _) rfl
  · have e1 : es = (ks.map fun _ => true).map PyData.bool := list_of_at (by rw [hl1, List.length_map, List.length_map]) fun i e h => by
      have hi : i < ks.length := by have := (List.getElem?_eq_some_iff.mp h).1; rw [hl1, List.length_map] at this; exact this
      exact ⟨true, by rw [List.getElem?_map, List.getElem?_eq_getElem hi]; rfl, hP i e h⟩
    subst e1
    walk_at "r"
    refine all_R r1 ?_
    rw [show (ks.map fun _ => true).all id = true by simp]
    exact q _ s1

end
end G

end

section














namespace G
open PySem PySem.Spec PyProof.Rows L2
section
variable {P : Program} {w : World} {K : PySem.W.Frag} {mg : Str → Option Value} {base : Heap} {k n : Nat}
def spIsFm (K : PySem.W.Frag) (A : CA) : Sp := fun vs H Q _ => ∃ (v vt : V) (rows : List Row) (c : Str × List Str) (k : Str) (first : Bool), vs = [v, vt, .str k, .bl first] ∧ LoreAt K A H v rows ∧ R K H vt (formD c) ∧ isFormS c.1 = true ∧ c.2.length ≤ 4 ∧ (∀ p ∈ c.2, isNameS p = true ∧ (isKind rows p ∨ (p = k ∧ first = false))) ∧ ∀ H', Same H H' → Q (.bl true) H'
theorem use_isFm {A : CA} {H : Hp} {Q : VK} {EE : XK} {v vt : V} {rows : List Row} {c : Str × List Str} {k : Str} {first : Bool} (h : LoreAt K A H v rows) (r : R K H vt (formD c)) (h1 : isFormS c.1 = true) (h2 : c.2.length ≤ 4) (h3 : ∀ p ∈ c.2, isNameS p = true ∧ (isKind rows p ∨ (p = k ∧ first = false))) (q : ∀ H', Same H H' → Q (.bl true) H') : spIsFm K A [v, vt, .str k, .bl first] H Q EE :=
  ⟨v, vt, rows, c, k, first, rfl, h, r, h1, h2, h3, q⟩
theorem form_short {z : Str} (h : isFormS z = true) : short (.str z) := by
  have h1 : z.length ≤ 8 := by
    unfold isFormS at h
    simp only [Bool.and_eq_true, decide_eq_true_eq] at h
    exact h.1.2
  show decide (z.length ≤ 100000) = true
  simp; omega
theorem ok_is_form (T : Tp K mg) {A : CA} (c_is_name : Cal P w K mg base k "is_name" (spIsName K)) (c_is_form_name : Cal P w K mg base k "is_form_name" (spIsForm K)) (x_has_kind : CalX P w K mg base k A noBe "has_kind" (fun _ => spHas K A)) : Cal P w K mg base (k + 1) "is_form" (spIsFm K A) := by
  refine T.d_is_form.cal sc_is_form (fun vs H Q E h => ?_) (fun f cdv A' outer s H vs Q E hr h => ?_)
  · obtain ⟨v, vt, rows, c, kk, first, rfl, _⟩ := h; rfl
  obtain ⟨v, vt, rows, ⟨c, ps⟩, kk, first, rfl, hl, r, hf, hps, hk, q⟩ := h
  have sc := @sc_is_form
  have g_MOST_KINDS := T.g_MOST_KINDS
  refine ⟨_, (pss_cons (ps_if (PW.pt (pw_or (pt_not (pt_val (pe_callB (isi_K K) rfl T.n_isinstance bt_isinstance (pa_cons (pv 1) (pa_cons (pe_bltn (v := .ty "tuple") rfl T.n_tuple bt_tuple rfl) pa_nil))))) (pw_or (pt_cmpR (op_neK K hr) (pe_callB (len_K K) rfl T.n_len bt_len (pa_cons (pv 1) pa_nil)) pe_int (nomark _)) (pw_or1 (pt_not (pt_val (pe_c c_is_form_name hr (Nat.le_refl _) rfl (pa_cons (pe_ix (ix_K K) (pv 1) pe_int (fun _ _ => rfl)) pa_nil)))))))) (pss_one (ps_ret pe_bl)) pss_nil)
      (pss_cons (ps_if (PW.pt (pw_or (pt_not (pt_val (pe_callB (isi_K K) rfl T.n_isinstance bt_isinstance (pa_cons (pe_ix (ix_K K) (pv 1) pe_int (fun _ _ => rfl)) (pa_cons (pe_bltn (v := .ty "tuple") rfl T.n_tuple bt_tuple rfl) pa_nil))))) (pw_or1 (pt_cmpR op_gt (pe_callB (len_K K) rfl T.n_len bt_len (pa_cons (pe_ix (ix_K K) (pv 1) pe_int (fun _ _ => rfl)) pa_nil)) (pe_gv rfl g_MOST_KINDS) (nomark _))))) (pss_one (ps_ret pe_bl)) pss_nil)
      (pss_one (ps_ret (pe_callB (all_K K rfl) rfl T.n_all bt_all (pa_cons (pe_lc (own := [("kind", 4)]) (g := gName 4) (tt := tYes) rfl sc.nd (pi_tupK K (pe_ix (ix_K K) (pv 1) pe_int (fun _ _ => rfl))) (blkOk_by (N := n_is_form) (sc := defScope s_is_form) (by decide +kernel)) (fun _ _ _ _ _ => pg_name (i := 4) sc.nd rfl (Or.inl rfl)) (fun _ _ _ _ _ => pts_nil) (fun _ _ _ _ _ => pe_hide (pe_and (pe_c c_is_name hr (Nat.le_refl _) rfl (pa_cons (pv 4) pa_nil)) (pe_one (pe_or (pe_mx x_has_kind hr (Nat.le_refl _) (pv 0) (pa_cons (pv 4) pa_nil)) (pe_one (pe_and (pe_cmpR (op_eqK K hr) (pv 4) (pv 2) (nomark _)) (pe_one (pe_not (pv 3)))))))))) pa_nil)))))), ?_⟩
  have hf : isFormS c = true := hf
  have hps : ps.length ≤ 4 := hps
  have hkl : (ps.map PyData.str).length ≤ 4 := by rw [List.length_map]; exact hps
  have r' : R K H vt (.tuple [.str c, partsD ps]) := r
  walk_at "r"
  refine use_isForm (by with_reducible assumption) (form_short hf) fun H1 s1 => ?_
  rw [show isForm (.str c) = true from hf]
  have r1 := r'.mono s1
  walk_at "r"
  rename_i va ra vb rb hb vc rc
  refine lc_T (K := K) (fun _ e => e = .bool true) rc (by omega) (fun _ => rfl) (fun i v1 d H2 hd rv s2 Qt hQ => ?_) (fun v1 H2 es s2 rr hl1 hP => ?_)
  · rw [List.getElem?_map] at hd
    obtain ⟨p, hp, rfl⟩ := Option.map_eq_some_iff.mp hd
    obtain ⟨hn, hki⟩ := hk p (List.mem_of_getElem? hp)
    obtain rfl := rv.inv_str
    clear ra rb rc
    walk_at "r"
    refine use_isName rv (short8 hn) fun H3 s3 => ?_
    rw [show isName (.str p) = true from hn]
    have s03 := (s1.trans s2).trans s3
    walk_at "r"
    refine meth_L (hl.mono s03) (fun _ h => h) (by decide +kernel) fun a i e hi => ?_
    walk_at "r"
    refine use_has (hl.mono s03) ?_
    cases hb : ((kindsOf rows).lookup p).isSome
    · obtain ⟨rfl, rfl⟩ : p = kk ∧ first = false := hki.resolve_left (by intro h; rw [show ((kindsOf rows).lookup p).isSome = true from h] at hb; cases hb)
      walk_at "r"
      exact hQ _ _ _ s3 (.bl _) rfl
    · walk_at "r"
      exact hQ _ _ _ s3 (.bl _) rfl
  · have e1 : es = (ps.map fun _ => true).map PyData.bool := list_of_at (by rw [hl1, List.length_map, List.length_map]) fun i e h => by
      have hi : i < ps.length := by have := (List.getElem?_eq_some_iff.mp h).1; rw [hl1, List.length_map] at this; exact this
      exact ⟨true, by rw [List.getElem?_map, List.getElem?_eq_getElem hi]; rfl, hP i e h⟩
    subst e1
    walk_at "r"
    refine all_R rr ?_
    rw [show (ps.map fun _ => true).all id = true by simp]
    exact q _ (s1.trans s2)
/-- a row that is right -/
def spRRow (K : PySem.W.Frag) (A : CA) (p : Row → Prop) : Sp := fun vs H Q _ => ∃ (v vr : V) (rows : List Row) (r : Row), vs = [v, vr] ∧ LoreAt K A H v rows ∧ R K H vr r.d ∧ p r ∧ RowR rows r ∧ ∀ H', Same H H' → Q (.bl true) H'
theorem use_rRow {A : CA} {p : Row → Prop} {H : Hp} {Q : VK} {EE : XK} {v vr : V} {rows : List Row} {r : Row} (h : LoreAt K A H v rows) (rr : R K H vr r.d) (hp : p r) (hR : RowR rows r) (q : ∀ H', Same H H' → Q (.bl true) H') : spRRow K A p [v, vr] H Q EE := ⟨v, vr, rows, r, rfl, h, rr, hp, hR, q⟩
def Row.isKnd : Row → Prop
  | .knd _ _ => True
  | _ => False
def Row.isFn : Row → Prop
  | .fn _ _ _ _ => True
  | _ => False
def nms (fs : Forms) : List PyData := fs.map fun c => .str c.1
theorem noLs_nms (fs : Forms) : noLs (nms fs) = true := noLs_mem.mpr fun d hd => by
  obtain ⟨z, _, rfl⟩ := List.mem_map.mp hd; rfl
theorem allS_nms (fs : Forms) : allS (nms fs) = true := by
  induction fs with
  | nil => rfl
  | cons c fs ih => simpa [nms, allS] using ih
theorem inS_nms {fs : Forms} {i : Nat} {c : Str × List Str} (hnd : (fs.map fun c => c.1).Nodup) (h : fs[i]? = some c) : inS c.1 (nms (fs.take i)) = false := by
  cases e : inS c.1 (nms (fs.take i)) with
  | false => rfl
  | true =>
    have h1 : ∃ d ∈ fs.take i, d.1 = c.1 := by
      obtain ⟨d, hd, he⟩ := List.mem_map.mp (inS_of_mem (allS_nms _) e)
      exact ⟨d, hd, PyData.str.inj he⟩
    obtain ⟨d, hd, he⟩ := h1
    obtain ⟨j, hj⟩ := List.getElem?_of_mem hd
    rw [List.getElem?_take] at hj
    split at hj
    · rename_i hji
      have := (List.pairwise_iff_getElem.mp hnd) j i (by rw [List.length_map]; exact (List.getElem?_eq_some_iff.mp hj).1) (by rw [List.length_map]; exact (List.getElem?_eq_some_iff.mp h).1) hji
      rw [List.getElem_map, List.getElem_map, (List.getElem?_eq_some_iff.mp hj).2, (List.getElem?_eq_some_iff.mp h).2] at this
      exact absurd he this
    · cases hj
theorem ok_right_kind (T : Tp K mg) {A : CA} (c_is_name : Cal P w K mg base k "is_name" (spIsName K)) (c_is_form : Cal P w K mg base k "is_form" (spIsFm K A)) (x_has_kind : CalX P w K mg base k A noBe "has_kind" (fun _ => spHas K A)) (x_form : CalX P w K mg base k A noBe "form" (fun _ => spFormM K A)) : Cal P w K mg base (k + 1) "right_kind" (spRRow K A Row.isKnd) := by
  refine T.d_right_kind.cal sc_right_kind (fun vs H Q E h => ?_) (fun f cdv A' outer s H vs Q E hr h => ?_)
  · obtain ⟨v, vr, rows, r, rfl, _⟩ := h; rfl
  obtain ⟨v, vr, rows, r, rfl, hl, rr, hp, hR, q⟩ := h
  have sc := @sc_right_kind
  have g_MOST_FORMS := T.g_MOST_FORMS
  refine ⟨_, (pss_cons (ps_par (i := 2) (j := 3) rfl sc.nd rfl rfl (by decide) rfl rfl (pa_cons (pe_ix (ix_K K) (pv 1) pe_int (fun _ _ => rfl)) (pa_cons (pe_ix (ix_K K) (pv 1) pe_int (fun _ _ => rfl)) pa_nil)) rfl)
      (pss_cons (ps_if (PW.pt (pw_or (pt_not (pt_val (pe_c c_is_name hr (Nat.le_refl _) rfl (pa_cons (pv 2) pa_nil)))) (pw_or (pt_val (pe_mx x_has_kind hr (Nat.le_refl _) (pv 0) (pa_cons (pv 2) pa_nil))) (pw_or (pt_not (pt_val (pe_callB (isi_K K) rfl T.n_isinstance bt_isinstance (pa_cons (pv 3) (pa_cons (pe_bltn (v := .ty "tuple") rfl T.n_tuple bt_tuple rfl) pa_nil))))) (pw_or1 (pt_not (pt_chain op_le op_le pe_int (pe_callB (len_K K) rfl T.n_len bt_len (pa_cons (pv 3) pa_nil)) (pe_gv rfl g_MOST_FORMS)))))))) (pss_one (ps_ret pe_bl)) pss_nil)
      (pss_cons (ps_set (i := 4) sc.nd rfl (Or.inl rfl) (pe_lstF K pa_nil))
      (pss_cons (ps_for PassesOwn.never rfl (pi_enumTK K rfl T.n_enumerate (pa_cons (pv 3) pa_nil)) (gtK K (pg_tup (n := 2) rfl (pgs_cons (pg_name (i := 5) sc.nd rfl (Or.inl rfl)) (pgs_cons (pg_name (i := 6) sc.nd rfl (Or.inl rfl)) pgs_nil)))) (pss_cons (ps_if (PW.pt (pw_or (pt_not (pt_val (pe_c c_is_form hr (Nat.le_refl _) rfl (pa_cons (pv 0) (pa_cons (pv 6) (pa_cons (pv 2) (pa_cons (pe_cmpR (op_eqK K hr) (pv 5) pe_int (nomark _)) pa_nil))))))) (pw_or (pt_cmpR op_nisU (pe_mx x_form hr (Nat.le_refl _) (pv 0) (pa_cons (pe_ix (ix_K K) (pv 6) pe_int (fun _ _ => rfl)) pa_nil)) pe_non (nomark _)) (pw_or1 (pt_cmpR (op_inK K) (pe_ix (ix_K K) (pv 6) pe_int (fun _ _ => rfl)) (pv 4) rfl))))) (pss_one (ps_ret pe_bl)) pss_nil)
      (pss_one (ps_expr (bmK K (pe_bm PySem.F.plainAttrs_list PySem.F.slot_list_append PySem.F.type_list_append mt_append (pv 4) (pa_cons (pe_ix (ix_K K) (pv 6) pe_int (fun _ _ => rfl)) pa_nil)))))))
      (pss_one (ps_ret pe_bl)))))), ?_⟩
  cases r with
  | knd kk fs =>
    obtain ⟨hn, hk0, hf1, hf2, hnd, hfs⟩ := hR
    have r' : R K H vr (.tuple [.str "kind", .str kk, .tuple (fs.map formD)]) := rr
    have hfl : (fs.map formD).length = fs.length := List.length_map ..
    walk_at "r"
    rename_i rk vf rf
    refine use_isName rk (short8 hn) fun H1 s1 => ?_
    rw [show isName (.str kk) = true from hn]
    walk_at "r"
    refine meth_L (hl.mono s1) (fun _ h => h) (by decide +kernel) fun a i e hi => ?_
    walk_at "r"
    refine use_has (hl.mono s1) ?_
    rw [show ((kindsOf rows).lookup kk).isSome = false by rw [hk0]; rfl]
    replace rf := rf.mono s1
    obtain ⟨aa, xs, rfl, ha, ra⟩ := rf.inv_tup
    clear rk
    walk_at "r"
    rename_i l H2 f2 s2 hl2 ra2
    have kl : Lk K H2 l (nms (fs.take 0)) := Lk.of hl2 ra2 (by rfl)
    have s12 := s1.trans s2
    have nl : H l = none := none_of s1 f2
    replace ha := s2.tup ha
    replace ra := ra.mono s2
    clear hl2 ra2 rf
    refine for_Ex (K := K) (ds := fs.map formD) (fun i σ' H' => (Same H H' ∧ Lk K H' l (nms (fs.take i))) ∧ (SqT K H' aa xs ∧ RA K H' xs (fs.map formD)) ∧ ∃ x5 x6 : Option V, σ' = [some v, some vr, some (.str kk), some (.ref aa), some (.ref l), x5, x6])
      ⟨⟨s12, kl⟩, ⟨ha, ra⟩, _, _, rfl⟩ (fun _ _ _ h => h.2.1) (fun i σ' H' H'' h s => ⟨⟨h.1.1.trans s, h.1.2.mono s⟩, ⟨s.tup h.2.1.1, h.2.1.2.mono s⟩, h.2.2⟩) ?_ ?_
    · clear kl ha ra s12 s1 s2
      rintro i d vd σ' H4 hd' rd ⟨⟨s4, k4⟩, ⟨ha4, ra4⟩, x5, x6, rfl⟩
      rw [List.getElem?_map] at hd'
      obtain ⟨⟨c, ps⟩, hci, rfl⟩ := Option.map_eq_some_iff.mp hd'
      obtain ⟨hc1, hc2, hc3, hc4⟩ := hfs i _ hci
      have hil : i < fs.length := (List.getElem?_eq_some_iff.mp hci).1
      have rd' : R K H4 vd (.tuple [.str c, partsD ps]) := rd
      walk_at "r"
      refine use_isFm (hl.mono s4) rd hc1 hc3 (fun p hp => ⟨(hc4 p hp).1, (hc4 p hp).2.imp id fun h => ⟨h.1, by have := h.2; simp; omega⟩⟩) fun H5 s5 => ?_
      have s45 := s4.trans s5
      have rd5 := rd'.mono s5
      walk_at "r"
      refine meth_L (hl.mono s45) (fun _ h => h) (by decide +kernel) fun a iw e hi => ?_
      walk_at "r"
      refine ⟨v, c, rows, rfl, hl.mono s45, fun u ru => ?_⟩
      rw [show (formsOf rows).lookup c = none from hc2] at ru
      have ru' : R K H5 u .none := ru
      walk_at "r"
      have k5 := k4.mono s5
      refine in_strsL k5.R (allS_nms _) ?_
      rw [inS_nms hnd hci]
      walk_at "r"
      refine k5.ty ?_
      walk_at "r"
      refine app_L k5 (R.str c) (by rw [nms, List.length_map, List.length_take]; omega) (by rfl) fun H6 x6 k6 => ?_
      have en : nms (fs.take i) ++ [PyData.str c] = nms (fs.take (i + 1)) := by
        rw [List.take_add_one, hci, nms, nms, List.map_append]; rfl
      rw [en] at k6
      obtain ⟨xl, ql, _⟩ := k5.ex
      walk_at "r"
      exact ⟨⟨SameX.same s45 x6 nl, k6⟩, ⟨SameX.tupL x6 k5 (s5.tup ha4), (ra4.mono s5).monoX x6 ql (noL_forms _)⟩, _, _, rfl⟩
    · rintro σ' H4 ⟨⟨s4, k4⟩, _, x5, x6, rfl⟩
      walk_at "r"
      exact q _ s4
  | _ => exact absurd hp (by intro h; exact h)

end
end G

end

section














namespace G
open PySem PySem.Spec PyProof.Rows L2
section
variable {P : Program} {w : World} {K : PySem.W.Frag} {mg : Str → Option Value} {base : Heap} {k n : Nat}
theorem ok_right_function (T : Tp K mg) {A : CA} (c_is_name : Cal P w K mg base k "is_name" (spIsName K)) (c_are_kinds : Cal P w K mg base k "are_kinds" (spAreKs K A)) (x_has_kind : CalX P w K mg base k A noBe "has_kind" (fun _ => spHas K A)) (x_function : CalX P w K mg base k A noBe "function" (fun _ => spFunM K A)) : Cal P w K mg base (k + 1) "right_function" (spRRow K A Row.isFn) := by
  refine T.d_right_function.cal sc_right_function (fun vs H Q E h => ?_) (fun f cdv A' outer s H vs Q E hr h => ?_)
  · obtain ⟨v, vr, rows, r, rfl, _⟩ := h; rfl
  obtain ⟨v, vr, rows, r, rfl, hl, rr, hp, hR, q⟩ := h
  have sc := @sc_right_function
  refine ⟨_, (pss_cons (ps_if (PW.pt (pw_or (pt_not (pt_val (pe_c c_is_name hr (Nat.le_refl _) rfl (pa_cons (pe_ix (ix_K K) (pv 1) pe_int (fun _ _ => rfl)) pa_nil)))) (pw_or (pt_cmpR op_nisU (pe_mx x_function hr (Nat.le_refl _) (pv 0) (pa_cons (pe_ix (ix_K K) (pv 1) pe_int (fun _ _ => rfl)) pa_nil)) pe_non (nomark _)) (pw_or1 (pt_not (pt_val (pe_c c_are_kinds hr (Nat.le_refl _) rfl (pa_cons (pv 0) (pa_cons (pe_ix (ix_K K) (pv 1) pe_int (fun _ _ => rfl)) pa_nil))))))))) (pss_one (ps_ret pe_bl)) pss_nil)
      (pss_one (ps_ret (pe_and (pe_c c_is_name hr (Nat.le_refl _) rfl (pa_cons (pe_ix (ix_K K) (pv 1) pe_int (fun _ _ => rfl)) pa_nil)) (pe_one (pe_mx x_has_kind hr (Nat.le_refl _) (pv 0) (pa_cons (pe_ix (ix_K K) (pv 1) pe_int (fun _ _ => rfl)) pa_nil))))))), ?_⟩
  cases r with
  | fn ff ks kk b =>
    obtain ⟨hn, hf0, hks, hnk, hkk, _⟩ := hR
    obtain ⟨ww, x, hd⟩ := fn_row ff ks kk b
    rw [hd] at rr
    walk_at "r"
    refine use_isName (by with_reducible assumption) (short8 hn) fun H1 s1 => ?_
    rw [show isName (.str ff) = true from hn]
    replace rr := rr.mono s1
    walk_at "r"
    refine meth_L (hl.mono s1) (fun _ h => h) (by decide +kernel) fun a iw e hi => ?_
    walk_at "r"
    refine ⟨v, ff, rows, rfl, hl.mono s1, fun u ru => ?_⟩
    rw [hf0] at ru
    have ru' : R K H1 u .none := ru
    walk_at "r"
    rename_i vk rk
    refine use_areKs (hl.mono s1) rk hks fun H2 s2 => ?_
    replace rr := rr.mono s2
    have s12 := s1.trans s2
    walk_at "r"
    refine use_isName (by with_reducible assumption) (short8 hnk) fun H3 s3 => ?_
    rw [show isName (.str kk) = true from hnk]
    have s13 := s12.trans s3
    walk_at "r"
    refine meth_L (hl.mono s13) (fun _ h => h) (by decide +kernel) fun a iw e hi => ?_
    replace rr := rr.mono s3
    walk_at "r"
    refine use_has (hl.mono s13) ?_
    rw [show ((kindsOf rows).lookup kk).isSome = true from hkk]
    exact q _ s13
  | _ => exact absurd hp (by intro h; exact h)
def spIsOf (K : PySem.W.Frag) (A : CA) : Sp := fun vs H Q _ => ∃ (v vi vt : V) (E : Tab) (is : List Str) (t : Th) (kk : Str) (F : List Str) (b : Nat), vs = [v, vi, vt, .str kk] ∧ LL K A H v E ∧ R K H vi (.list (is.map PyData.str)) ∧ R K H vt t.d ∧ t.isT F b ∧ t.kn E [] is kk ∧ t.dep ≤ 40 ∧ is.length ≤ 1000 ∧ ∀ H', Same H H' → Q (.bl true) H'
theorem use_isOf {A : CA} {H : Hp} {Q : VK} {EE : XK} {v vi vt : V} {E : Tab} {is : List Str} {t : Th} {kk : Str} {F : List Str} {b : Nat} (h : LL K A H v E) (ri : R K H vi (.list (is.map PyData.str))) (rt : R K H vt t.d) (ht : t.isT F b) (hk : t.kn E [] is kk) (hd : t.dep ≤ 40) (hi : is.length ≤ 1000) (q : ∀ H', Same H H' → Q (.bl true) H') : spIsOf K A [v, vi, vt, .str kk] H Q EE :=
  ⟨v, vi, vt, E, is, t, kk, F, b, rfl, h, ri, rt, ht, hk, hd, hi, q⟩
theorem ok_is_of (T : Tp K mg) {A : CA} (c_kind_of : Cal P w K mg base k "kind_of" (spKind K A 40)) : Cal P w K mg base (k + 1) "is_of" (spIsOf K A) := by
  refine T.d_is_of.cal sc_is_of (fun vs H Q E h => ?_) (fun f cdv A' outer s H vs Q E hr h => ?_)
  · obtain ⟨v, vi, vt, E, is, t, kk, F, b, rfl, _⟩ := h; rfl
  obtain ⟨v, vi, vt, E, is, t, kk, F, b, rfl, hl, ri, rt, ht, hk, hd, hi, q⟩ := h
  have sc := @sc_is_of
  refine ⟨_, (pss_cons (ps_try_thru0 (pss_one (ps_set (i := 4) sc.nd rfl (Or.inl rfl) (pe_c c_kind_of hr (Nat.le_refl _) rfl (pa_cons (pv 0) (pa_cons pe_dnewK (pa_cons (pv 1) (pa_cons (pv 2) pa_nil))))))))
      (pss_one (ps_ret (pe_cmpR (op_eqK K hr) (pv 4) (pv 3) (nomark _))))), ?_⟩
  walk_at "r"
  refine st_newD (K := K) fun p H1 f1 s1 e1 => ?_
  have hd0 : DAt K H1 p (thg []) := ⟨⟨[], e1, .nil⟩, fun _ h => by cases h⟩
  walk_at "r"
  refine use_kind (hl.mono s1) hd0 (ri.mono s1) (rt.mono s1) ht hk hd hi fun H2 s2 => ?_
  have rk : R K H2 (.str kk) (.str kk) := .str kk
  walk_at "r"
  exact q _ (s1.trans s2)
def spFalls (K : PySem.W.Frag) (n : Nat) : Sp := fun vs H Q _ => ∃ (vt vp : V) (t : Th) (ff : Str) (ps : List Nat) (F : List Str) (b : Nat), vs = [vt, .str ff, vp] ∧ R K H vt t.d ∧ R K H vp (.list (natsD ps)) ∧ t.isT F b ∧ t.fall ff ps ∧ t.dep ≤ n ∧ ∀ H', Same H H' → Q (.bl true) H'
theorem use_falls {m : Nat} {H : Hp} {Q : VK} {EE : XK} {vt vp : V} {t : Th} {ff : Str} {ps : List Nat} {F : List Str} {b : Nat} (rt : R K H vt t.d) (rp : R K H vp (.list (natsD ps))) (ht : t.isT F b) (hf : t.fall ff ps) (hd : t.dep ≤ m) (q : ∀ H', Same H H' → Q (.bl true) H') : spFalls K m [vt, .str ff, vp] H Q EE :=
  ⟨vt, vp, t, ff, ps, F, b, rfl, rt, rp, ht, hf, hd, q⟩
theorem ok_falls (T : Tp K mg) (c_falls : Cal P w K mg base k "falls" (spFalls K n)) : Cal P w K mg base (k + 1) "falls" (spFalls K (n + 1)) := by
  refine T.d_falls.cal sc_falls (fun vs H Q E h => ?_) (fun f cdv A' outer s H vs Q E hr h => ?_)
  · obtain ⟨vt, vp, t, ff, ps, F, b, rfl, _⟩ := h; rfl
  obtain ⟨vt, vp, t, ff, ps, F, b, rfl, rt, rp, ht, hf, hd, q⟩ := h
  have sc := @sc_falls
  refine ⟨_, (pss_cons (ps_if (pt_cmpR (op_inK K) (pe_ix (ix_K K) (pv 0) pe_int (fun _ _ => rfl)) (pe_tupK K (pa_cons pe_str (pa_cons pe_str pa_nil))) rfl) (pss_one (ps_ret pe_bl)) pss_nil)
      (pss_cons (ps_if (PW.pt (pw_and (pt_cmpR (op_eqK K hr) (pe_ix (ix_K K) (pv 0) pe_int (fun _ _ => rfl)) pe_str (nomark _)) (pw_and (pt_cmpR (op_eqK K hr) (pe_ix (ix_K K) (pv 0) pe_int (fun _ _ => rfl)) (pv 1) (nomark _)) (pw_and1 (PW.pt (pw_or (pt_cmpR (op_neK K hr) (pe_ix (ix_K K) (pe_ix (ix_K K) (pe_ix (ix_K K) (pv 0) pe_int (fun _ _ => rfl)) pe_int (fun _ _ => rfl)) pe_int (fun _ _ => rfl)) pe_str (nomark _)) (pw_or1 (pt_cmpR (op_ninK K) (pe_ix (ix_K K) (pe_ix (ix_K K) (pe_ix (ix_K K) (pv 0) pe_int (fun _ _ => rfl)) pe_int (fun _ _ => rfl)) pe_int (fun _ _ => rfl)) (pv 2) rfl)))))))) (pss_one (ps_ret pe_bl)) pss_nil)
      (pss_one (ps_ret (pe_callB (all_K K rfl) rfl T.n_all bt_all (pa_cons (pe_lc (own := [("arg", 3)]) (g := gName 3) (tt := tYes) rfl sc.nd (pi_tupK K (pe_ix (ix_K K) (pv 0) pe_int (fun _ _ => rfl))) (blkOk_by (N := n_falls) (sc := defScope s_falls) (by decide +kernel)) (fun _ _ _ _ _ => pg_name (i := 3) sc.nd rfl (Or.inl rfl)) (fun _ _ _ _ _ => pts_nil) (fun _ _ _ _ _ => pe_hide (pe_c c_falls hr (Nat.le_refl _) rfl (pa_cons (pv 3) (pa_cons (pv 1) (pa_cons (pv 2) pa_nil)))))) pa_nil)))))), ?_⟩
  cases t with
  | free x =>
    have r' : R K H vt (.tuple [.str "free", .str x]) := rt
    walk_at "r"
    exact q _ (by walk_at "S")
  | bnd j =>
    have r' : R K H vt (.tuple [.str "bound", .int (j : Nat)]) := rt
    walk_at "r"
    exact q _ (by walk_at "S")
  | app wd c as =>
    obtain ⟨hla, hia⟩ := isT_app ht
    have hdp : ∀ a ∈ as, a.dep ≤ n := fun a ha => by
      have h3 := Th.deps_le.mp (Nat.le_refl (Th.deps as)) _ ha
      simp only [Th.dep] at hd
      omega
    have hdl : (Th.ds as).length ≤ 4 := by rw [ds_len]; exact hla
    have last : ∀ (H0 : Hp) (vz : V), Th.falls ff ps as → Same H H0 → R K H0 vz (.tuple (Th.ds as)) → LcT K 3 (tCall (spFalls K n) [] E0 (tCons (tVar 3) (tCons (tVar 1) (tCons (tVar 2) tNil)))) (List.map (fun x => x.2) [(("arg" : Str), 3)]) (L2.start n_falls [vt, .str ff, vp]) vz H0 fun x H1 => tNil (L2.start n_falls [vt, .str ff, vp]) H1 fun xs H2 => rAll K (x :: xs) H2 Q := by
      intro Hz vz hfs sz rz
      refine lc_T (K := K) (fun _ e => e = .bool true) rz (by omega) (fun _ => rfl) (fun i v1 d H2 hd rv s2 Qt hQ => ?_) (fun v1 H2 es s2 rr hl1 hP => ?_)
      · rw [Th.ds_map, List.getElem?_map] at hd
        obtain ⟨a, ha, rfl⟩ := Option.map_eq_some_iff.mp hd
        have ham := List.mem_of_getElem? ha
        walk_at "r"
        refine use_falls rv (rp.mono (sz.trans s2)) (hia a ham) (Th.falls_all.mp hfs a ham) (hdp a ham) fun H3 s3 => ?_
        exact hQ _ _ _ s3 (.bl _) rfl
      · have e1 : es = (as.map fun _ => true).map PyData.bool := list_of_at (by rw [hl1, ds_len, List.length_map]) fun i e h => by
          have hi : i < as.length := by have := (List.getElem?_eq_some_iff.mp h).1; rw [hl1, ds_len] at this; exact this
          exact ⟨true, by rw [List.getElem?_map, List.getElem?_eq_getElem hi]; rfl, hP i e h⟩
        subst e1
        walk_at "r"
        refine all_R rr ?_
        rw [show (as.map fun _ => true).all id = true by simp]
        exact q _ (sz.trans s2)
    cases wd with
    | atom => exact absurd ht (by intro h; exact h)
    | form =>
      have hfs : Th.falls ff ps as := hf
      have r' : R K H vt (.tuple [.str "form", .str c, .tuple (Th.ds as)]) := rt
      walk_at "r"
      exact last _ _ hfs (by walk_at "S") (by with_reducible assumption)
    | call =>
      obtain ⟨hfc, hfs⟩ : (c = ff → ∃ j : Nat, as[0]? = some (Th.bnd j) ∧ j ∈ ps) ∧ Th.falls ff ps as := hf
      have r' : R K H vt (.tuple [.str "call", .str c, .tuple (Th.ds as)]) := rt
      by_cases hcf : c = ff
      · obtain ⟨j, hj, hjp⟩ := hfc hcf
        subst hcf
        have h0 : (Th.ds as)[(0 : Int).toNat]? = some (.tuple [.str "bound", .int (j : Nat)]) := by
          rw [show (0 : Int).toNat = 0 from rfl, Th.ds_map, List.getElem?_map, hj]; rfl
        have hpos : 0 < (Th.ds as).length := by rw [ds_len]; exact (List.getElem?_eq_some_iff.mp hj).1
        walk_at "r"
        refine nin_intsL (rp.mono (by walk_at "S")) (allI_nats ps) ?_
        rw [inI_nats hjp]
        walk_at "r"
        exact last _ _ hfs (by walk_at "S") (by with_reducible assumption)
      · walk_at "r"
        exact last _ _ hfs (by walk_at "S") (by with_reducible assumption)
  | _ => exact absurd ht (by intro h; exact h)
theorem falls_n (T : Tp K mg) : ∀ n : Nat, Cal P w K mg base (n + 1) "falls" (spFalls K n)
  | 0 => T.d_falls.none fun vs H Q E h => by obtain ⟨vt, vp, t, ff, ps, F, b, _, _, _, _, _, h0, _⟩ := h; have := t.dep_pos; omega
  | n + 1 => ok_falls T (falls_n T n)

end
end G

end

section














namespace G
open PySem PySem.Spec PyProof.Rows L2
section
variable {P : Program} {w : World} {K : PySem.W.Frag} {mg : Str → Option Value} {base : Heap} {k n : Nat}
theorem be_lr : ¬ (("lore" : Str) = "row") := by decide +kernel
def beF (vl vr : V) : List (Str × V) := putF "row" vr (putF "lore" vl [])
def spBesI (A : CA) : Sp := fun vs H Q _ => ∃ (x dx : Addr) (vl vr : V), vs = [.ref x, vl, vr] ∧ H x = some (.ins A.be dx []) ∧ Q .non (upd H x (.ins A.be dx (beF vl vr)))
theorem ok_besI (T : Tp K mg) {A : CA} (U : Tc K mg A) : CalI P w K mg base (k + 1) "Beside" A.be (spBesI A) := by
  refine U.besI.cal sc_Beside___init__ (fun vs H Q E h => ?_) (fun f cdv A' outer s H vs Q E hr h => ?_)
  · obtain ⟨x, dx, vl, vr, rfl, _⟩ := h; rfl
  obtain ⟨x, dx, vl, vr, rfl, hx, q⟩ := h
  have sc := @sc_Beside___init__
  refine ⟨_, (pss_cons (ps_fldK K (pv 0) (pv 1) rfl)
      (pss_one (ps_fldK K (pv 0) (pv 2) rfl))), ?_⟩
  walk_at "r"
  refine sfld_at hx (U.cx.cl .be) U.cx.nb.1 (by decide) ?_
  walk_at "r"
  refine sfld_at upd_same (U.cx.cl .be) U.cx.nb.2 (by simp [putF]) ?_
  walk_at "r"
  rw [upd_upd]
  exact q
theorem be_at {A : CA} {H : Hp} {x dx : Addr} {rows : List Row} {r : Row} {vl vr : V} (hx : H x = none) (hd : H dx = none) (hl : LoreAt K A H vl rows) (rr : R K H vr r.d) : Same H (upd (upd (upd H dx (.own x)) x (.ins A.be dx [])) x (.ins A.be dx (beF vl vr))) ∧ BesideAt K A (upd (upd (upd H dx (.own x)) x (.ins A.be dx [])) x (.ins A.be dx (beF vl vr))) (.ref x) rows r := by
  rw [upd_upd]
  have s := same_ins (u := .own x) (o := .ins A.be dx (beF vl vr)) hx hd
  refine ⟨s, ⟨x, dx, beF vl vr, vl, vr, rfl, upd_same, ?_, ?_, ?_, ?_, hl.mono s, rr.mono s⟩⟩
  · unfold beF; rw [lookup_putF, if_neg be_lr, lookup_putF, if_pos rfl]
  · unfold beF; rw [lookup_putF, if_pos rfl]
  · unfold beF; rw [lookup_putF, if_neg (by decide +kernel), lookup_putF, if_neg (by decide +kernel)]; rfl
  · unfold beF; rw [lookup_putF, if_neg (by decide +kernel), lookup_putF, if_neg (by decide +kernel)]; rfl
def Row.isRule : Row → Prop
  | .fn _ _ _ (.rule _) => True
  | _ => False
theorem ok_right_rule (T : Tp K mg) {A : CA} (U : Tc K mg A) (i_Beside : CalI P w K mg base k "Beside" A.be (spBesI A)) (c_is_of : Cal P w K mg base (k + 1) "is_of" (spIsOf K A)) (c_falls : Cal P w K mg base (k + 1) "falls" (spFalls K 40)) (x_forms : CalX P w K mg base (k + 1) A noBe "forms" (fun _ => spFormsM K A)) : Cal P w K mg base (k + 2) "right_rule" (spRRow K A Row.isRule) := by
  refine T.d_right_rule.cal sc_right_rule (fun vs H Q E h => ?_) (fun f cdv A' outer s H vs Q E hr h => ?_)
  · obtain ⟨v, vr, rows, r, rfl, _⟩ := h; rfl
  obtain ⟨v, vr, rows, r, rfl, hl, rr, hp, hR, q⟩ := h
  have sc := @sc_right_rule
  refine ⟨_, (pss_cons (ps_asg (pv 1) (gtK K (pg_tup (n := 5) rfl (pgs_cons (pg_name (i := 2) sc.nd rfl (Or.inl rfl)) (pgs_cons (pg_name (i := 3) sc.nd rfl (Or.inl rfl)) (pgs_cons (pg_name (i := 4) sc.nd rfl (Or.inr rfl)) (pgs_cons (pg_name (i := 5) sc.nd rfl (Or.inl rfl)) (pgs_cons (pg_name (i := 6) sc.nd rfl (Or.inl rfl)) pgs_nil))))))))
      (pss_cons (ps_if (PW.pt (pw_or (pt_cmpR (op_eqK K hr) (pe_callB (len_K K) rfl T.n_len bt_len (pa_cons (pv 4) pa_nil)) pe_int (nomark _)) (pw_or (pt_cmpR op_isU (pe_mx x_forms hr (Nat.le_refl _) (pv 0) (pa_cons (pe_ix (ix_K K) (pv 4) pe_int (fun _ _ => rfl)) pa_nil)) pe_non (nomark _)) (pw_or1 (pt_not (pt_val (pe_callB (isi_K K) rfl T.n_isinstance bt_isinstance (pa_cons (pv 6) (pa_cons (pe_bltn (v := .ty "tuple") rfl T.n_tuple bt_tuple rfl) pa_nil))))))))) (pss_one (ps_ret pe_bl)) pss_nil)
      (pss_cons (ps_set (i := 7) sc.nd rfl (Or.inl rfl) (pe_mx x_forms hr (Nat.le_refl _) (pv 0) (pa_cons (pe_ix (ix_K K) (pv 4) pe_int (fun _ _ => rfl)) pa_nil)))
      (pss_cons (ps_if (pt_cmpR (op_neK K hr) (pe_callB (len_K K) rfl T.n_len bt_len (pa_cons (pv 6) pa_nil)) (pe_callB (len_K K) rfl T.n_len bt_len (pa_cons (pv 7) pa_nil)) (nomark _)) (pss_one (ps_ret pe_bl)) pss_nil)
      (pss_cons (ps_set (i := 8) sc.nd rfl (Or.inl rfl) (pe_mkI i_Beside hr (Nat.le_refl _) rfl (pa_cons (pv 0) (pa_cons (pv 1) pa_nil))))
      (pss_cons (ps_for PassesOwn.never rfl (pi_zipLTK K rfl T.n_zip (pa_cons (pv 7) (pa_cons (pv 6) pa_nil))) (gtK K (pg_tup (n := 2) rfl (pgs_cons (pg_name (i := 9) sc.nd rfl (Or.inl rfl)) (pgs_cons (pg_name (i := 10) sc.nd rfl (Or.inl rfl)) pgs_nil)))) (pss_cons (ps_setLc (i := 11) (own := [("k", 12), ("kind", 13)]) (g := g2 K 12 13) (tt := tHideT _) rfl sc.nd rfl rfl (sw_true rfl rfl rfl (by decide +kernel)) (pi_enumTK K rfl T.n_enumerate (pa_cons (pe_ix (ix_K K) (pv 9) pe_int (fun _ _ => rfl)) pa_nil)) (blkOk_by (N := n_right_rule) (sc := defScope s_right_rule) (by decide +kernel)) (fun _ _ _ _ _ => gtK K (pg_tup (n := 2) rfl (pgs_cons (pg_name (i := 12) sc.nd rfl (Or.inl rfl)) (pgs_cons (pg_name (i := 13) sc.nd rfl (Or.inl rfl)) pgs_nil)))) (fun _ _ _ _ _ => (pts_hide (pt_cmpR (op_eqK K hr) (pv 13) (pe_ix (ix_K K) (pv 4) pe_int (fun _ _ => rfl)) (nomark _)))) (fun _ _ _ _ _ => pe_hide (pv 12)))
      (pss_one (ps_if (PW.pt (pw_or (pt_not (pt_val (pe_c c_is_of hr (Nat.le_refl _) rfl (pa_cons (pv 8) (pa_cons (pe_op (op_addK K) (pe_callTy (list_K K) rfl T.n_list bt_list (pa_cons (pe_ix (ix_K K) (pv 9) pe_int (fun _ _ => rfl)) pa_nil)) (pe_callTy (list_K K) rfl T.n_list bt_list (pa_cons (pe_slice (sl_K K) (pv 4) (po_some pe_int) po_none) pa_nil))) (pa_cons (pv 10) (pa_cons (pv 5) pa_nil))))))) (pw_or1 (pt_not (pt_val (pe_c c_falls hr (Nat.le_refl _) rfl (pa_cons (pv 10) (pa_cons (pv 3) (pa_cons (pv 11) pa_nil))))))))) (pss_one (ps_ret pe_bl)) pss_nil))))
      (pss_one (ps_ret pe_bl)))))))), ?_⟩
  cases r with
  | fn ff ks kk b =>
    cases b with
    | rule ts =>
      obtain ⟨_, _, ⟨hks4, _⟩, _, _, k0, fs, hk0, hkf, htl, ht4, hts⟩ := hR
      obtain ⟨ks', rfl⟩ : ∃ ks', ks = k0 :: ks' := by
        cases ks with
        | nil => cases hk0
        | cons a ks => obtain rfl := Option.some.inj hk0; exact ⟨ks, rfl⟩
      have hdr : (k0 :: ks').drop 1 = ks' := rfl
      rw [hdr] at hts
      have r' : R K H vr (.tuple [.str "rule", .str ff, partsD (k0 :: ks'), .str kk, .tuple (Th.ds ts)]) := rr
      have hkl : ((k0 :: ks').map PyData.str).length = ks'.length + 1 := by rw [List.length_map]; rfl
      have hl4 : ks'.length ≤ 3 := by have : ks'.length + 1 ≤ 4 := hks4; omega
      have hg0 : ((k0 :: ks').map PyData.str)[(0 : Int).toNat]? = some (.str k0) := rfl
      walk_at "r"
      refine gtup5 r' fun v1 v2 v3 v4 v5 r1 r2 r3 r4 r5 => ?_
      obtain rfl := r2.inv_str
      obtain rfl := r4.inv_str
      have eσ : ((((((L2.start n_right_rule [v, vr]) : L2.St).set 2 (some v1)).set 3 (some (.str ff))).set 4 (some v3)).set 5 (some (.str kk))).set 6 (some v5) = [some v, some vr, some v1, some (.str ff), some v3, some (.str kk), some v5, none, none, none, none, none, none, none] := rfl
      rw [eσ]
      clear r' r1 r2 r4
      walk_at "r"
      refine meth_L hl (fun _ h => h) (by decide +kernel) fun a iw e hi => ?_
      walk_at "r"
      refine ⟨v, k0, rows, rfl, hl, fun fs' e2 u H1 s1 ru => ?_, fun hno => absurd hkf (hno fs)⟩
      rw [hkf] at e2
      obtain rfl : fs = fs' := by cases e2; rfl
      replace r3 := r3.mono s1
      replace r5 := r5.mono s1
      walk_at "r"
      refine meth_L (hl.mono s1) (fun _ h => h) (by decide +kernel) fun a2 iw2 e3 hi2 => ?_
      walk_at "r"
      refine ⟨v, k0, rows, rfl, hl.mono s1, fun fs' e2 u2 H2 s2 ru2 => ?_, fun hno => absurd hkf (hno fs)⟩
      rw [hkf] at e2
      obtain rfl : fs = fs' := by cases e2; rfl
      replace r3 := r3.mono s2
      replace r5 := r5.mono s2
      have s12 := s1.trans s2
      have hlf : (fs.map formD).length = (Th.ds ts).length := by rw [List.length_map, ds_len, htl]
      clear ru s1 s2
      walk_at "r"
      intro x dx hx hd hne
      refine ⟨x, dx, v, vr, rfl, upd_same, rfl, ?_⟩
      obtain ⟨sB, hB⟩ := be_at (A := A) hx hd (hl.mono s12) (rr.mono s12)
      generalize (upd (upd (upd H2 dx (.own x)) x (.ins A.be dx [])) x (.ins A.be dx (beF v vr))) = H3 at *
      have s13 := s12.trans sB
      have hLL : LL K A H3 (.ref x) (tabBy rows ff (k0 :: ks') kk) := .inr ⟨rows, ff, k0 :: ks', kk, .rule ts, hB, rfl⟩
      replace r3 := r3.mono sB
      replace r5 := r5.mono sB
      replace ru2 := ru2.mono sB
      clear sB hB s12 hx hd hne
      walk_at "r"
      refine for_ZLT (fun _ σ' H' => Same H3 H' ∧ ∃ x9 x10 x11 x12 x13 : Option V, σ' = [some v, some vr, some v1, some (.str ff), some v3, some (.str kk), some v5, some u2, some (.ref x), x9, x10, x11, x12, x13]) ru2 r5 hlf ⟨Same.refl _, _, _, _, _, _, rfl⟩ (fun _ _ _ h => h.1) (fun _ _ _ _ h s => ⟨h.1.trans s, h.2⟩) ?_ ?_
      · rintro i d e' va wa σ' H4 hd1 he1 ra rwa ⟨s4, x9, x10, x11, x12, x13, rfl⟩
        rw [List.getElem?_map] at hd1
        obtain ⟨⟨c, ps⟩, hc, rfl⟩ := Option.map_eq_some_iff.mp hd1
        rw [Th.ds_map, List.getElem?_map] at he1
        obtain ⟨t, ht, rfl⟩ := Option.map_eq_some_iff.mp he1
        obtain ⟨⟨hT, hTd, hTz⟩, hkn, hfa, hp4⟩ := hts i t (c, ps) ht hc
        have hp4 : ps.length ≤ 4 := hp4
        have ra' : R K H4 va (.tuple [.str c, partsD ps]) := ra
        replace r3 := r3.mono s4
        have hLL4 := hLL.mono s4
        clear ru2 r5
        have eσ2 : ((([some v, some vr, some v1, some (.str ff), some v3, some (.str kk), some v5, some u2, some (.ref x), x9, x10, x11, x12, x13] : L2.St).set 9 (some va)).set 10 (some wa)) = [some v, some vr, some v1, some (.str ff), some v3, some (.str kk), some v5, some u2, some (.ref x), some va, some wa, x11, x12, x13] := rfl
        rw [eσ2]
        walk_at "r"
        rename_i vz rz
        refine lcETT (K := K) (inK k0) (fun j _ => .int (j : Int)) rz (by rw [List.length_map]; omega) (fun _ _ => rfl) (fun j v3' d H11 hd rv s11 Qt hQ => ?_) (fun j v3' d H11 hd hpd rv s11 Qt hQ => ?_) (fun v11 H11 s11 r11 => ?_)
        · rw [List.getElem?_map] at hd
          obtain ⟨y, _, rfl⟩ := Option.map_eq_some_iff.mp hd
          obtain rfl := rv.inv_str
          have r3' := r3.mono s11
          clear rz
          walk_at "r"
          exact hQ _ (by walk_at "S")
        · walk_at "r"
          exact hQ _ _ (by walk_at "S") (R.int _)
        rw [ownJs_d] at r11
        have ra11 := ra'.mono s11
        have r311 := r3.mono s11
        have hcd : (ps.map PyData.str).length + (cutD ((k0 :: ks').map PyData.str) (some 1) none).length ≤ 1000000 := by
          have := cutD_len ((k0 :: ks').map PyData.str) (some 1) none
          rw [List.length_map] at this ⊢
          have h5 : (k0 :: ks').length = ks'.length + 1 := rfl
          omega
        clear rz ra ra' r3
        walk_at "r"
        rename_i va1 ra1 va2 Ha2 sa2 ra2 va3 Ha3 sa3 ra3 va4 Ha4 sa4 ra4 va5 H5 sa5 ra5
        have s5 : Same H11 H5 := ((sa2.trans sa3).trans sa4).trans sa5
        have e5 : ps.map PyData.str ++ cutD ((k0 :: ks').map PyData.str) (some 1) none = (ps ++ ks').map PyData.str := by
          rw [cutD_1, List.map_append]; rfl
        rw [e5] at ra5
        have r11' := r11.mono s5
        have s115 := s11.trans s5
        clear ra1 ra2 ra3 ra4 sa2 sa3 sa4 sa5
        refine use_isOf (hLL4.mono s115) ra5 (rwa.mono s115) hT hkn hTd (by rw [List.length_append]; omega) fun H6 s6 => ?_
        have s116 := s115.trans s6
        walk_at "r"
        refine use_falls (rwa.mono s116) (r11'.mono s6) hT hfa hTd fun H7 s7 => ?_
        walk_at "r"
        exact ⟨s4.trans (s116.trans s7), _, _, _, _, _, rfl⟩
      · rintro σ' H4 ⟨s4, x9, x10, x11, x12, x13, rfl⟩
        walk_at "r"
        exact q _ (s13.trans s4)
    | _ => exact absurd hp (by intro h; exact h)
  | _ => exact absurd hp (by intro h; exact h)

end
end G

end

section














namespace G
open PySem PySem.Spec PyProof.Rows L2
section
variable {P : Program} {w : World} {K : PySem.W.Frag} {mg : Str → Option Value} {base : Heap} {k n : Nat}
def anyR (r : Row) : Prop := True
structure Td (K : PySem.W.Frag) (mg : Str → Option Value) (w : World) : Prop where
  sz : ∃ d, (∃ u, mg "SIZES" = some u ∧ RelV (.ref d) u) ∧ SzOk K w d
theorem ok_is_right (T : Tp K mg) (D : Td K mg w) {A : CA} (c_is_name : Cal P w K mg base k "is_name" (spIsName K)) (c_right_kind : Cal P w K mg base k "right_kind" (spRRow K A Row.isKnd)) (c_right_function : Cal P w K mg base k "right_function" (spRRow K A Row.isFn)) (c_right_rule : Cal P w K mg base k "right_rule" (spRRow K A Row.isRule))
    (c_are_kinds : Cal P w K mg base k "are_kinds" (spAreKs K A)) (c_is_of : Cal P w K mg base k "is_of" (spIsOf K A)) (x_has_kind : CalX P w K mg base k A noBe "has_kind" (fun _ => spHas K A)) (x_word : CalX P w K mg base k A noBe "word" (fun _ => spWordM K A)) : Cal P w K mg base (k + 1) "is_right" (spRRow K A anyR) := by
  refine T.d_is_right.cal sc_is_right (fun vs H Q E h => ?_) (fun f cdv A' outer s H vs Q E hr h => ?_)
  · obtain ⟨v, vr, rows, r, rfl, _⟩ := h; rfl
  obtain ⟨v, vr, rows, r, rfl, hl, rr, hp, hR, q⟩ := h
  have sc := @sc_is_right
  obtain ⟨dd, g_SIZES, hsz⟩ := D.sz
  obtain ⟨es, n, hkd⟩ := hsz.kd
  refine ⟨_, (pss_cons (ps_if (PW.pt (pw_or (pt_not (pt_val (pe_callB (isi_K K) rfl T.n_isinstance bt_isinstance (pa_cons (pv 1) (pa_cons (pe_bltn (v := .ty "tuple") rfl T.n_tuple bt_tuple rfl) pa_nil))))) (pw_or (pt_cmpR (op_eqK K hr) (pe_callB (len_K K) rfl T.n_len bt_len (pa_cons (pv 1) pa_nil)) pe_int (nomark _)) (pw_or1 (pt_not (pt_val (pe_callB (isi_K K) rfl T.n_isinstance bt_isinstance (pa_cons (pe_ix (ix_K K) (pv 1) pe_int (fun _ _ => rfl)) (pa_cons (pe_bltn (v := .ty "str") rfl T.n_str bt_str rfl) pa_nil))))))))) (pss_one (ps_ret pe_bl)) pss_nil)
      (pss_cons (ps_if (pt_cmpR (op_neK K hr) (pe_kget2 K w (pe_gv rfl g_SIZES) (pe_ix (ix_K K) (pv 1) pe_int (fun _ _ => rfl)) pe_int ⟨rfl, rfl, rfl, rfl⟩) (pe_callB (len_K K) rfl T.n_len bt_len (pa_cons (pv 1) pa_nil)) (nomark _)) (pss_one (ps_ret pe_bl)) pss_nil)
      (pss_cons (ps_if (pt_cmpR (op_eqK K hr) (pe_ix (ix_K K) (pv 1) pe_int (fun _ _ => rfl)) pe_str (nomark _)) (pss_one (ps_ret (pe_c c_right_kind hr (Nat.le_refl _) rfl (pa_cons (pv 0) (pa_cons (pv 1) pa_nil))))) pss_nil)
      (pss_cons (ps_if (pt_cmpR (op_eqK K hr) (pe_ix (ix_K K) (pv 1) pe_int (fun _ _ => rfl)) pe_str (nomark _)) (pss_one (ps_ret (pe_and (pe_c c_is_name hr (Nat.le_refl _) rfl (pa_cons (pe_ix (ix_K K) (pv 1) pe_int (fun _ _ => rfl)) pa_nil)) (pe_one (pe_not (pe_mx x_has_kind hr (Nat.le_refl _) (pv 0) (pa_cons (pe_ix (ix_K K) (pv 1) pe_int (fun _ _ => rfl)) pa_nil))))))) pss_nil)
      (pss_cons (ps_if (pt_cmpR (op_eqK K hr) (pe_ix (ix_K K) (pv 1) pe_int (fun _ _ => rfl)) pe_str (nomark _)) (pss_one (ps_ret (pe_and (pe_c c_is_name hr (Nat.le_refl _) rfl (pa_cons (pe_ix (ix_K K) (pv 1) pe_int (fun _ _ => rfl)) pa_nil)) (pe_and (pe_cmpR op_isU (pe_mx x_word hr (Nat.le_refl _) (pv 0) (pa_cons (pe_ix (ix_K K) (pv 1) pe_int (fun _ _ => rfl)) pa_nil)) pe_non (nomark _)) (pe_one (pe_c c_are_kinds hr (Nat.le_refl _) rfl (pa_cons (pv 0) (pa_cons (pe_ix (ix_K K) (pv 1) pe_int (fun _ _ => rfl)) pa_nil)))))))) pss_nil)
      (pss_cons (ps_if (PW.pt (pw_or (pt_cmpR (op_eqK K hr) (pe_ix (ix_K K) (pv 1) pe_int (fun _ _ => rfl)) pe_str (nomark _)) (pw_or1 (pt_cmpR (op_eqK K hr) (pe_ix (ix_K K) (pv 1) pe_int (fun _ _ => rfl)) pe_str (nomark _))))) (pss_one (ps_ret pe_never)) pss_nil)
      (pss_cons (ps_if (pt_not (pt_val (pe_c c_right_function hr (Nat.le_refl _) rfl (pa_cons (pv 0) (pa_cons (pv 1) pa_nil))))) (pss_one (ps_ret pe_bl)) pss_nil)
      (pss_cons (ps_if (pt_cmpR (op_eqK K hr) (pe_ix (ix_K K) (pv 1) pe_int (fun _ _ => rfl)) pe_str (nomark _)) (pss_one (ps_ret (pe_c c_is_of hr (Nat.le_refl _) rfl (pa_cons (pv 0) (pa_cons (pe_callTy (list_K K) rfl T.n_list bt_list (pa_cons (pe_ix (ix_K K) (pv 1) pe_int (fun _ _ => rfl)) pa_nil)) (pa_cons (pe_ix (ix_K K) (pv 1) pe_int (fun _ _ => rfl)) (pa_cons (pe_ix (ix_K K) (pv 1) pe_int (fun _ _ => rfl)) pa_nil))))))) pss_nil)
      (pss_one (ps_ret (pe_or (pe_cmpR (op_eqK K hr) (pe_ix (ix_K K) (pv 1) pe_int (fun _ _ => rfl)) pe_str (nomark _)) (pe_one (pe_c c_right_rule hr (Nat.le_refl _) rfl (pa_cons (pv 0) (pa_cons (pv 1) pa_nil))))))))))))))), ?_⟩
  cases r with
  | opn kk =>
    obtain ⟨hn, hk0⟩ := hR
    have r' : R K H vr (.tuple [.str "open", .str kk]) := rr
    walk_at "r"
    · rename_i hb; simp at hb
    refine ⟨dd, es, n, rfl, hkd, hsz.ne, ?_⟩
    walk_at "r"
    refine sz_at (i := 2) hsz (by simp) ?_
    walk_at "r"
    refine use_isName (by with_reducible assumption) (short8 hn) fun H1 s1 => ?_
    rw [show isName (.str kk) = true from hn]
    have r1 := r'.mono s1
    walk_at "r"
    refine meth_L (hl.mono s1) (fun _ h => h) (by decide +kernel) fun a iw e hi => ?_
    walk_at "r"
    refine use_has (hl.mono s1) ?_
    rw [show ((kindsOf rows).lookup kk).isSome = false by rw [hk0]; rfl]
    walk_at "r"
    exact q _ s1
  | knd kk fs =>
    have r' : R K H vr (.tuple [.str "kind", .str kk, .tuple (fs.map formD)]) := rr
    walk_at "r"
    · rename_i hb; simp at hb
    refine ⟨dd, es, n, rfl, hkd, hsz.ne, ?_⟩
    walk_at "r"
    refine sz_at (i := 3) hsz (by simp) ?_
    walk_at "r"
    exact use_rRow hl rr True.intro hR q
  | atm p ks =>
    obtain ⟨hn, hw0, hks⟩ := hR
    have r' : R K H vr (.tuple [.str "atom", .str p, partsD ks]) := rr
    walk_at "r"
    · rename_i hb; simp at hb
    refine ⟨dd, es, n, rfl, hkd, hsz.ne, ?_⟩
    walk_at "r"
    refine sz_at (i := 3) hsz (by simp) ?_
    walk_at "r"
    refine use_isName (by with_reducible assumption) (short8 hn) fun H1 s1 => ?_
    rw [show isName (.str p) = true from hn]
    have r1 := r'.mono s1
    walk_at "r"
    refine meth_L (hl.mono s1) (fun _ h => h) (by decide +kernel) fun a iw e hi => ?_
    walk_at "r"
    refine ⟨v, p, rows, rfl, hl.mono s1, fun u ru => ?_⟩
    rw [hw0] at ru
    have ru' : R K H1 u .none := ru
    walk_at "r"
    exact use_areKs (hl.mono s1) (by with_reducible assumption) hks fun H2 s2 => q _ (s1.trans s2)
  | fn ff ks kk b =>
    have hBd := hR.2.2.2.2.2
    cases b with
    | none =>
      have r' : R K H vr (.tuple [.str "given", .str ff, partsD ks, .str kk]) := rr
      walk_at "r"
      · rename_i hb; simp at hb
      refine ⟨dd, es, n, rfl, hkd, hsz.ne, ?_⟩
      walk_at "r"
      refine sz_at (i := 4) hsz (by simp) ?_
      walk_at "r"
      refine use_rRow hl rr True.intro hR fun H1 s1 => ?_
      have r1 := r'.mono s1
      walk_at "r"
      exact q _ s1
    | short t =>
      have r' : R K H vr (.tuple [.str "short", .str ff, partsD ks, .str kk, t.d]) := rr
      obtain ⟨⟨hT, hTd, hTz⟩, hkn⟩ := hBd
      walk_at "r"
      · rename_i hb; simp at hb
      refine ⟨dd, es, n, rfl, hkd, hsz.ne, ?_⟩
      walk_at "r"
      refine sz_at (i := 5) hsz (by simp) ?_
      walk_at "r"
      refine use_rRow hl rr True.intro hR fun H1 s1 => ?_
      have r1 := r'.mono s1
      clear r'
      walk_at "r"
      rename_i va ra vb Hb sb rb vc rc rd
      have hk4 : ks.length ≤ 4 := hR.2.2.1.1
      exact use_isOf (E := tabOf rows) (.inl ⟨rows, hl.mono (s1.trans sb), rfl⟩) rb rc hT hkn hTd (by omega) fun H2 s2 => q _ ((s1.trans sb).trans s2)
    | rule ts =>
      have r' : R K H vr (.tuple [.str "rule", .str ff, partsD ks, .str kk, .tuple (Th.ds ts)]) := rr
      walk_at "r"
      · rename_i hb; simp at hb
      refine ⟨dd, es, n, rfl, hkd, hsz.ne, ?_⟩
      walk_at "r"
      refine sz_at (i := 5) hsz (by simp) ?_
      walk_at "r"
      refine use_rRow hl rr True.intro hR fun H1 s1 => ?_
      have r1 := r'.mono s1
      clear r'
      walk_at "r"
      exact use_rRow (hl.mono s1) (rr.mono s1) True.intro hR fun H2 s2 => q _ (s1.trans s2)

end
end G

end

section














namespace G
open PySem PySem.Spec PyProof.Rows L2
section
variable {P : Program} {w : World} {K : PySem.W.Frag} {mg : Str → Option Value} {base : Heap} {k n : Nat}
def spAdd (K : PySem.W.Frag) (A : CA) : Sp := fun vs H Q _ => ∃ (x : Addr) (v : V) (Hb : Hp) (dx : Addr) (C : Who) (fs : List (Str × V)) (o : LO) (rows : List Row) (r : Row), vs = [.ref x, v] ∧ LN Hb x o ∧ LS K A Hb H x dx C fs o rows ∧ R K H v r.d ∧ RowR rows r ∧ rows.length ≤ 1000 ∧ (shapesD rows).length ≤ 1000 ∧
  ∀ H', LS K A Hb H' x dx C fs o (rows ++ [r]) → Q .non H'
theorem flat1 {α β : Type} (g : α → List β) (h : ∀ a, (g a).length ≤ 1) : ∀ xs : List α, (xs.flatMap g).length ≤ xs.length
  | [] => Nat.le_refl _
  | x :: xs => by
    have h1 := h x
    have h2 := flat1 g h xs
    rw [List.flatMap_cons, List.length_append, List.length_cons]
    omega
theorem len_kindD (rows : List Row) : (kindD rows).length ≤ rows.length := by
  unfold kindD kindsOf; rw [List.length_map]; exact flat1 _ (fun r => by cases r <;> simp) rows
theorem len_funD (rows : List Row) : (funD rows).length ≤ rows.length := by
  unfold funD funsOf; rw [List.length_map]; exact flat1 _ (fun r => by cases r <;> simp) rows
theorem len_wordD (rows : List Row) : (wordD rows).length ≤ rows.length := by
  unfold wordD wordsOf; rw [List.length_map]; exact flat1 _ (fun r => by cases r <;> simp) rows
theorem look_kindD {rows : List Row} {z : Str} (h : (kindsOf rows).lookup z = none) : (kindD rows).lookup z = none := by
  rw [show (kindD rows).lookup z = ((kindsOf rows).lookup z).map formsD from lookup_onV _, h]; rfl
theorem look_funD {rows : List Row} {z : Str} (h : (funsOf rows).lookup z = none) : (funD rows).lookup z = none := by
  rw [show (funD rows).lookup z = ((funsOf rows).lookup z).map Row.d from lookup_onV _, h]; rfl
theorem look_wordD {rows : List Row} {z : Str} (h : (wordsOf rows).lookup z = none) : (wordD rows).lookup z = none := by
  rw [show (wordD rows).lookup z = ((wordsOf rows).lookup z).map Row.d from lookup_onV _, h]; rfl
theorem look_shapesD {rows : List Row} {z : Str} (h : (formsOf rows).lookup z = none) : (shapesD rows).lookup z = none := by
  rw [show (shapesD rows).lookup z = ((formsOf rows).lookup z).map shapeD from lookup_onV _, h]; rfl
theorem lookup_none_app {β : Type} {z : Str} : ∀ {xs ys : List (Str × β)}, xs.lookup z = none → ys.lookup z = none → (xs ++ ys).lookup z = none
  | [], ys, _, h => h
  | (s, b) :: xs, ys, h1, h2 => by
    simp only [List.cons_append, List.lookup] at h1 ⊢
    cases e : z == s
    · rw [e] at h1; exact lookup_none_app h1 h2
    · rw [e] at h1; cases h1
def shp (k : Str) (fs : Forms) : List (Str × PyData) := fs.map fun c => (c.1, shapeD (k, c.2))
theorem shp_none {k : Str} {fs : Forms} {i : Nat} {c : Str × List Str} (hnd : (fs.map fun c => c.1).Nodup) (h : fs[i]? = some c) : (shp k (fs.take i)).lookup c.1 = none := by
  have gen : ∀ gs : Forms, (∀ d ∈ gs, d.1 ≠ c.1) → (shp k gs).lookup c.1 = none := by
    intro gs
    induction gs with
    | nil => intro _; rfl
    | cons g gs ih =>
      intro hg
      have h1 : (c.1 == g.1) = false := by simpa using fun e : c.1 = g.1 => hg g (List.mem_cons_self ..) e.symm
      show List.lookup c.1 ((g.1, shapeD (k, g.2)) :: shp k gs) = none
      simp only [List.lookup, h1]
      exact ih fun d hd => hg d (List.mem_cons_of_mem _ hd)
  refine gen _ fun d hd he => ?_
  obtain ⟨j, hj⟩ := List.getElem?_of_mem hd
  rw [List.getElem?_take] at hj
  split at hj
  · rename_i hji
    have := (List.pairwise_iff_getElem.mp hnd) j i (by rw [List.length_map]; exact (List.getElem?_eq_some_iff.mp hj).1) (by rw [List.length_map]; exact (List.getElem?_eq_some_iff.mp h).1) hji
    rw [List.getElem_map, List.getElem_map, (List.getElem?_eq_some_iff.mp hj).2, (List.getElem?_eq_some_iff.mp h).2] at this
    exact absurd he this
  · cases hj
theorem ok_add (T : Tp K mg) {A : CA} (U : Tc K mg A) : CalX P w K mg base (k + 1) A noBe "add" (fun _ => spAdd K A) := ⟨fun i hi => by
  refine (U.add i hi).cal (U.cx.cl i) sc_Lore_add (fun vs H Q E h => ?_) (fun f cdv A' outer s H vs Q E hr h => ?_)
  · obtain ⟨x, v, Hb, dx, C, fs, o, rows, r, rfl, _⟩ := h; rfl
  obtain ⟨x, v, Hb, dx, C, fs, o, rows, r, rfl, n, hs, rr, hR, hrl, hsl, q⟩ := h
  have sc := @sc_Lore_add
  refine ⟨_, (pss_cons (ps_expr (bmK K (pe_bm PySem.F.plainAttrs_list PySem.F.slot_list_append PySem.F.type_list_append mt_append (pe_fldK K (pv 0) rfl) (pa_cons (pv 1) pa_nil))))
      (pss_one (ps_if (pt_cmpR (op_eqK K hr) (pe_ix (ix_K K) (pv 1) pe_int (fun _ _ => rfl)) pe_str (nomark _)) (pss_one (ps_asg pe_non (pg_sub (pe_fldK K (pv 0) rfl) (pe_ix (ix_K K) (pv 1) pe_int (fun _ _ => rfl)) (set_dictK hr)))) (pss_one (ps_if (pt_cmpR (op_eqK K hr) (pe_ix (ix_K K) (pv 1) pe_int (fun _ _ => rfl)) pe_str (nomark _)) (pss_cons (ps_asg (pe_ix (ix_K K) (pv 1) pe_int (fun _ _ => rfl)) (pg_sub (pe_fldK K (pv 0) rfl) (pe_ix (ix_K K) (pv 1) pe_int (fun _ _ => rfl)) (set_dictK hr)))
      (pss_one (ps_for PassesOwn.never rfl (pi_tupK K (pe_ix (ix_K K) (pv 1) pe_int (fun _ _ => rfl))) (gtK K (pg_tup (n := 2) rfl (pgs_cons (pg_name (i := 2) sc.nd rfl (Or.inl rfl)) (pgs_cons (pg_name (i := 3) sc.nd rfl (Or.inl rfl)) pgs_nil)))) (pss_one (ps_asg (pe_tupK K (pa_cons (pe_ix (ix_K K) (pv 1) pe_int (fun _ _ => rfl)) (pa_cons (pv 3) pa_nil))) (pg_sub (pe_fldK K (pv 0) rfl) (pv 2) (set_dictK hr))))))) (pss_one (ps_if (pt_cmpR (op_eqK K hr) (pe_ix (ix_K K) (pv 1) pe_int (fun _ _ => rfl)) pe_str (nomark _)) (pss_one (ps_asg (pv 1) (pg_sub (pe_fldK K (pv 0) rfl) (pe_ix (ix_K K) (pv 1) pe_int (fun _ _ => rfl)) (set_dictK hr)))) (pss_one (ps_if (PW.pt (pw_or (pt_cmpR (op_eqK K hr) (pe_ix (ix_K K) (pv 1) pe_int (fun _ _ => rfl)) pe_str (nomark _)) (pw_or1 (pt_cmpR (op_eqK K hr) (pe_ix (ix_K K) (pv 1) pe_int (fun _ _ => rfl)) pe_str (nomark _))))) (pss_one ps_never) (pss_one (ps_asg (pv 1) (pg_sub (pe_fldK K (pv 0) rfl) (pe_ix (ix_K K) (pv 1) pe_int (fun _ _ => rfl)) (set_dictK hr))))))))))))), ?_⟩
  have h1 := len_kindD rows
  have h2 := len_funD rows
  have h3 := len_wordD rows
  have hC := hs.ne
  have hf := hs.lf
  have p0 := hs.parts
  clear hs
  walk_at "r"
  refine fs_at U.cx hC p0.ins (by decide +kernel) hf.l ?_
  refine p0.t.l.ty ?_
  walk_at "r"
  refine app_L p0.t.l rr (by rw [List.length_map]; omega) (Row.noL r) fun H1 x1 k1 => ?_
  have rr1 := rr.ofL (Row.noL r) p0.t.l x1
  have p1 := p0.setL n x1 k1
  clear p0 rr x1 k1
  cases r with
  | opn kk =>
    obtain ⟨hn, hk0⟩ := hR
    have r' : R K H1 v (.tuple [.str "open", .str kk]) := rr1
    walk_at "r"
    refine fs_at U.cx hC p1.ins (by decide +kernel) hf.k ?_
    walk_at "r"
    refine put_D p1.t.k R.non (by rfl) (by omega) (look_kindD hk0) fun H2 x2 k2 => ?_
    have p2 := p1.setK n x2 k2
    walk_at "r"
    refine q _ (LSs.add hC hf ⟨p2.same, p2.ins, ⟨p2.t.l, p2.t.k, ?_, ?_, ?_, p2.t.h⟩⟩)
    · rw [show shapesD [Row.opn kk] = [] from rfl, List.append_nil]; exact p2.t.s
    · rw [show funD [Row.opn kk] = [] from rfl, List.append_nil]; exact p2.t.f
    · rw [show wordD [Row.opn kk] = [] from rfl, List.append_nil]; exact p2.t.w
  | atm p ks =>
    obtain ⟨hn, hw0, hks⟩ := hR
    have r' : R K H1 v (.tuple [.str "atom", .str p, partsD ks]) := rr1
    walk_at "r"
    refine fs_at U.cx hC p1.ins (by decide +kernel) hf.w ?_
    walk_at "r"
    refine put_D p1.t.w rr1 (Row.noL (.atm p ks)) (by omega) (look_wordD hw0) fun H2 x2 k2 => ?_
    have p2 := p1.setW n x2 k2
    walk_at "r"
    refine q _ (LSs.add hC hf ⟨p2.same, p2.ins, ⟨p2.t.l, ?_, ?_, ?_, p2.t.w, p2.t.h⟩⟩)
    · rw [show kindD [Row.atm p ks] = [] from rfl, List.append_nil]; exact p2.t.k
    · rw [show shapesD [Row.atm p ks] = [] from rfl, List.append_nil]; exact p2.t.s
    · rw [show funD [Row.atm p ks] = [] from rfl, List.append_nil]; exact p2.t.f
  | fn ff ks kk b =>
    have hf0 := hR.2.1
    have fin : ∀ (u : Unit), True := fun _ => True.intro
    have last : ∀ H2, SameX o.f H1 H2 → DAt K H2 o.f (funD rows ++ [(ff, (Row.fn ff ks kk b).d)]) → Q .non H2 := fun H2 x2 k2 => by
      have p2 := p1.setF n x2 k2
      refine q _ (LSs.add hC hf ⟨p2.same, p2.ins, ⟨p2.t.l, ?_, ?_, p2.t.f, ?_, p2.t.h⟩⟩)
      · rw [show kindD [Row.fn ff ks kk b] = [] from rfl, List.append_nil]; exact p2.t.k
      · rw [show shapesD [Row.fn ff ks kk b] = [] from rfl, List.append_nil]; exact p2.t.s
      · rw [show wordD [Row.fn ff ks kk b] = [] from rfl, List.append_nil]; exact p2.t.w
    cases b with
    | none =>
      have r' : R K H1 v (.tuple [.str "given", .str ff, partsD ks, .str kk]) := rr1
      walk_at "r"
      refine fs_at U.cx hC p1.ins (by decide +kernel) hf.f ?_
      walk_at "r"
      exact put_D p1.t.f rr1 (Row.noL _) (by omega) (look_funD hf0) last
    | short t =>
      have r' : R K H1 v (.tuple [.str "short", .str ff, partsD ks, .str kk, t.d]) := rr1
      walk_at "r"
      refine fs_at U.cx hC p1.ins (by decide +kernel) hf.f ?_
      walk_at "r"
      exact put_D p1.t.f rr1 (Row.noL _) (by omega) (look_funD hf0) last
    | rule ts =>
      have r' : R K H1 v (.tuple [.str "rule", .str ff, partsD ks, .str kk, .tuple (Th.ds ts)]) := rr1
      walk_at "r"
      refine fs_at U.cx hC p1.ins (by decide +kernel) hf.f ?_
      walk_at "r"
      exact put_D p1.t.f rr1 (Row.noL _) (by omega) (look_funD hf0) last
  | knd kk fs2 =>
    obtain ⟨hn, hk0, hf1, hf2, hnd, hfs⟩ := hR
    have r' : R K H1 v (.tuple [.str "kind", .str kk, .tuple (fs2.map formD)]) := rr1
    walk_at "r"
    refine fs_at U.cx hC p1.ins (by decide +kernel) hf.k ?_
    walk_at "r"
    rename_i rka rkb vf rf rk
    have nf : noL (.tuple (fs2.map formD)) = true := by simp [noL, noL_forms]
    have rr1' : R K H1 v (Row.knd kk fs2).d := rr1
    refine put_D p1.t.k rf nf (by omega) (look_kindD hk0) fun H2 x2 k2 => ?_
    have p2 := p1.setK n x2 k2
    have r2 : R K H2 v (.tuple [.str "kind", .str kk, .tuple (fs2.map formD)]) := R.ofD (d := (Row.knd kk fs2).d) rr1' (Row.noL _) p1.t.k x2
    have hfl : (fs2.map formD).length = fs2.length := List.length_map ..
    clear rka rkb rf rk rr1 rr1' r' p1 x2 k2
    walk_at "r"
    rename_i vg rg
    obtain ⟨aa, xs, rfl, ha, ra⟩ := rg.inv_tup
    refine for_T2x (K := K) (xs := xs) (ds := fs2.map formD) (fun i σ' H' => (LSs K A Hb H' x dx C fs o (rows.map Row.d ++ [(Row.knd kk fs2).d]) (kindD rows ++ [(kk, .tuple (fs2.map formD))]) (shapesD rows ++ shp kk (fs2.take i)) (funD rows) (wordD rows) ∧ R K H' v (.tuple [.str "kind", .str kk, .tuple (fs2.map formD)])) ∧ (SqT K H' aa xs ∧ RA K H' xs (fs2.map formD)) ∧ ∃ x2 x3 : Option V, σ' = [some (.ref x), some v, x2, x3])
      ⟨⟨by rw [show shp kk (fs2.take 0) = [] from rfl, List.append_nil]; exact p2, r2⟩, ⟨ha, ra⟩, _, _, rfl⟩ (fun _ _ _ h => h.2.1) (fun d hd => by obtain ⟨c, _, rfl⟩ := List.mem_map.mp hd; exact ⟨_, _, rfl⟩) ?_ ?_
    · clear p2 r2 ha ra rg
      rintro i d1 d2 v1 v2 σ' H4 hd' rd1 rd2 ⟨⟨p4, r4⟩, ⟨ha4, ra4⟩, x2, x3, rfl⟩
      rw [List.getElem?_map] at hd'
      obtain ⟨⟨c, ps⟩, hci, he⟩ := Option.map_eq_some_iff.mp hd'
      cases he
      obtain rfl := rd1.inv_str
      obtain ⟨hc1, hc2, hc3, hc4⟩ := hfs i _ hci
      have hil : i < fs2.length := (List.getElem?_eq_some_iff.mp hci).1
      walk_at "r"
      rename_i rkk vt Ht st rt
      have p5 := p4.mono st
      have r5 := r4.mono st
      have ha5 := st.tup ha4
      have ra5 := ra4.mono st
      clear p4 r4 ha4 ra4 rkk
      refine fs_at U.cx hC p5.ins (by decide +kernel) hf.s ?_
      walk_at "r"
      have nt : noL (.tuple [.str kk, partsD ps]) = true := by simp [noL, noLs]; simpa [noL] using noL_parts ps
      have hln : (shapesD rows ++ shp kk (fs2.take i)).length ≤ 1000000 := by rw [List.length_append, shp, List.length_map, List.length_take]; omega
      refine put_D p5.t.s rt nt hln (lookup_none_app (look_shapesD hc2) (shp_none hnd hci)) fun H6 x6 k6 => ?_
      have e6 : shapesD rows ++ shp kk (fs2.take i) ++ [(c, .tuple [.str kk, partsD ps])] = shapesD rows ++ shp kk (fs2.take (i + 1)) := by
        rw [List.take_add_one, hci, shp, shp, List.map_append, List.append_assoc]; rfl
      rw [e6] at k6
      have p6 := p5.setS n x6 k6
      obtain ⟨kvs, hkv, _⟩ := p5.t.s.ex
      have r6 : R K H6 v (.tuple [.str "kind", .str kk, .tuple (fs2.map formD)]) := R.ofD r5 (Row.noL (.knd kk fs2)) p5.t.s x6
      walk_at "r"
      exact ⟨⟨p6, r6⟩, ⟨x6.tupD hkv ha5, ra5.monoD x6 hkv (noL_forms _)⟩, _, _, rfl⟩
    · rintro σ' H4 ⟨⟨p4, r4⟩, _, x2, x3, rfl⟩
      rw [List.length_map, List.take_length] at p4
      walk_at "r"
      refine q _ (LSs.add hC hf ⟨p4.same, p4.ins, ⟨p4.t.l, p4.t.k, ?_, ?_, ?_, p4.t.h⟩⟩)
      · have e : shapesD [Row.knd kk fs2] = shp kk fs2 := by simp [shapesD, formsOf, shp, onV]
        rw [e]; exact p4.t.s
      · rw [show funD [Row.knd kk fs2] = [] from rfl, List.append_nil]; exact p4.t.f
      · rw [show wordD [Row.knd kk fs2] = [] from rfl, List.append_nil]; exact p4.t.w⟩

end
end G

end

section














namespace G
open PySem PySem.Spec PyProof.Rows L2
section
variable {P : Program} {w : World} {K : PySem.W.Frag} {mg : Str → Option Value} {base : Heap} {k n : Nat}
def spLorI (K : PySem.W.Frag) (A : CA) (C : Who) : Sp := fun vs H Q _ => ∃ (x : Addr) (v : V) (Hb : Hp) (dx : Addr) (fs0 : List (Str × V)) (rows : List Row), vs = [.ref x, v] ∧ Same Hb H ∧ Hb x = none ∧ H x = some (.ins (A.at C) dx fs0) ∧ (∀ m ∈ meths, fs0.lookup m = none) ∧ fs0.length ≤ 5 ∧ R K Hb v (.list (rows.map Row.d)) ∧ RowsR rows ∧ rows.length ≤ 40 ∧
  ∀ H', Same Hb H' → LoreAt K A H' (.ref x) rows → Q .non H'
theorem flat4 {α β : Type} (g : α → List β) : ∀ xs : List α, (∀ a ∈ xs, (g a).length ≤ 4) → (xs.flatMap g).length ≤ 4 * xs.length
  | [], _ => Nat.le_refl _
  | x :: xs, h => by
    have h1 := h x (List.mem_cons_self ..)
    have h2 := flat4 g xs fun a ha => h a (List.mem_cons_of_mem _ ha)
    rw [List.flatMap_cons, List.length_append, List.length_cons]
    omega
theorem len_shapesD {rows : List Row} (hR : RowsR rows) (i : Nat) : (shapesD (rows.take i)).length ≤ 4 * rows.length := by
  unfold shapesD formsOf
  rw [List.length_map]
  refine Nat.le_trans (flat4 _ _ fun r hr => ?_) (Nat.mul_le_mul_left 4 (by rw [List.length_take]; exact Nat.min_le_right _ _))
  cases r with
  | knd kk fs =>
    obtain ⟨j, hj⟩ := List.getElem?_of_mem (List.mem_of_mem_take hr)
    have := (hR j _ hj).2.2.2.1
    simpa using this
  | _ => simp
theorem ok_init (T : Tp K mg) {A : CA} (U : Tc K mg A) {C : Who} (hC : C ≠ .be) (c_is_right : Cal P w K mg base k "is_right" (spRRow K A anyR)) (x_add : CalX P w K mg base k A noBe "add" (fun _ => spAdd K A)) {ff : Addr} {fd : FuncData} (FI : Fun K "__init__" "Lore.__init__" s_Lore___init__ ff fd) : FnOk P w K mg base CX0 (k + 1) ff fd p_Lore___init__ (spLorI K A C) := by
  refine FI.ok sc_Lore___init__ (fun vs H Q E h => ?_) (fun cdv A' outer s H vs Q E hr h => ?_)
  · obtain ⟨x, v, Hb, dx, fs0, rows, rfl, _⟩ := h; rfl
  obtain ⟨x, v, Hb, dx, fs0, rows, rfl, s0, hbx, hx, hfs, hfl, rv, hrr, hrl, q⟩ := h
  have sc := @sc_Lore___init__
  have g_MOST_ROWS := T.g_MOST_ROWS
  refine ⟨_, (pss_cons (ps_if (PW.pt (pw_or (pt_not (pt_val (pe_callB (isi_K K) rfl T.n_isinstance bt_isinstance (pa_cons (pv 1) (pa_cons (pe_bltn (v := .ty "list") rfl T.n_list bt_list rfl) pa_nil))))) (pw_or1 (pt_cmpR op_gt (pe_callB (len_K K) rfl T.n_len bt_len (pa_cons (pv 1) pa_nil)) (pe_gv rfl g_MOST_ROWS) (nomark _))))) (pss_one ps_never) pss_nil)
      (pss_cons (ps_fldK K (pv 0) (pe_lstF K pa_nil) rfl)
      (pss_cons (ps_fldK K (pv 0) pe_dnewK rfl)
      (pss_cons (ps_fldK K (pv 0) pe_dnewK rfl)
      (pss_cons (ps_fldK K (pv 0) pe_dnewK rfl)
      (pss_cons (ps_fldK K (pv 0) pe_dnewK rfl)
      (pss_cons (ps_fldK K (pv 0) pe_dnewK rfl)
      (pss_one (ps_for PassesOwn.never rfl (pi_enumLK K rfl T.n_enumerate (pa_cons (pv 1) pa_nil)) (gtK K (pg_tup (n := 2) rfl (pgs_cons (pg_name (i := 2) sc.nd rfl (Or.inl rfl)) (pgs_cons (pg_name (i := 3) sc.nd rfl (Or.inl rfl)) pgs_nil)))) (pss_cons (ps_if (pt_not (pt_val (pe_c c_is_right hr (Nat.le_refl _) rfl (pa_cons (pv 0) (pa_cons (pv 3) pa_nil))))) (pss_one ps_never) pss_nil)
      (pss_one (ps_expr (pe_mx x_add hr (Nat.le_refl _) (pv 0) (pa_cons (pv 3) pa_nil)))))))))))))), ?_⟩
  have hdl : (rows.map Row.d).length = rows.length := List.length_map ..
  obtain ⟨va, xs, rfl, hva, rva⟩ := rv.inv_lst
  have nrows : noLs (rows.map Row.d) = true := noLs_mem.mpr fun d hd => by
    obtain ⟨r, _, rfl⟩ := List.mem_map.mp hd
    exact Row.noL r
  have X0 : Lx K Hb va xs (rows.map Row.d) := ⟨hva, rva, nrows⟩
  have rv' := rv.mono s0
  have I0 : IS Hb H x (A.at C) dx fs0 [] := ⟨s0, hx, (fun _ h => by cases h), .nil⟩
  walk_at "r"
  rename_i l H1 f1 s1 hl1 ra1
  refine sfld_at (s1 _ _ I0.ins) (U.cx.cl C) (U.cx.na (f := "lines") (by decide +kernel) C hC) (by omega) ?_
  have I1 := I0.put hbx "lines" s1 f1 hl1
  have l1 := len_putF (f := "lines") (v := .ref l) hfl
  walk_at "r"
  refine st_newD (K := K) fun p2 H2 f2 s2 e2 => ?_
  walk_at "r"
  refine sfld_at (s2 _ _ I1.ins) (U.cx.cl C) (U.cx.na (f := "kinds") (by decide +kernel) C hC) (by omega) ?_
  have I2 := I1.put hbx "kinds" s2 f2 e2
  have l2 := len_putF (f := "kinds") (v := .ref p2) l1
  walk_at "r"
  refine st_newD (K := K) fun p3 H3 f3 s3 e3 => ?_
  walk_at "r"
  refine sfld_at (s3 _ _ I2.ins) (U.cx.cl C) (U.cx.na (f := "shapes") (by decide +kernel) C hC) (by omega) ?_
  have I3 := I2.put hbx "shapes" s3 f3 e3
  have l3 := len_putF (f := "shapes") (v := .ref p3) l2
  walk_at "r"
  refine st_newD (K := K) fun p4 H4 f4 s4 e4 => ?_
  walk_at "r"
  refine sfld_at (s4 _ _ I3.ins) (U.cx.cl C) (U.cx.na (f := "functions") (by decide +kernel) C hC) (by omega) ?_
  have I4 := I3.put hbx "functions" s4 f4 e4
  have l4 := len_putF (f := "functions") (v := .ref p4) l3
  walk_at "r"
  refine st_newD (K := K) fun p5 H5 f5 s5 e5 => ?_
  walk_at "r"
  refine sfld_at (s5 _ _ I4.ins) (U.cx.cl C) (U.cx.na (f := "words") (by decide +kernel) C hC) (by omega) ?_
  have I5 := I4.put hbx "words" s5 f5 e5
  have l5 := len_putF (f := "words") (v := .ref p5) l4
  walk_at "r"
  refine st_newD (K := K) fun p6 H6 f6 s6 e6 => ?_
  walk_at "r"
  refine sfld_at (s6 _ _ I5.ins) (U.cx.cl C) (U.cx.na (f := "facts") (by decide +kernel) C hC) (by omega) ?_
  have I6 := I5.put hbx "facts" s6 f6 e6
  have l6 := len_putF (f := "facts") (v := .ref p6) l5
  obtain ⟨n, hs⟩ := IS.done (K := K) (A := A) (C := C) (o := ⟨l, p2, p3, p4, p5, p6⟩) (fs0 := fs0) I6 hbx hC hfs
  clear I0 I1 I2 I3 I4 I5 I6 l1 l2 l3 l4 l5 l6 s1 s2 s3 s4 s5 s6 f1 f2 f3 f4 f5 f6
  generalize loF ⟨l, p2, p3, p4, p5, p6⟩ fs0 = fs at *
  generalize (⟨l, p2, p3, p4, p5, p6⟩ : LO) = o at *
  walk_at "r"
  refine for_EL (K := K) (xs := xs) (ds := rows.map Row.d) (fun i σ' H' => LS K A Hb H' x dx C fs o (rows.take i) ∧ ∃ x2 x3 : Option V, σ' = [some (.ref x), some (.ref va), x2, x3]) ⟨hs, _, _, rfl⟩ (fun i σ' H' h => X0.mono h.1.same) (fun i σ' H' H'' h s => ⟨h.1.mono s, h.2⟩) ?_ ?_
  · clear hs rv'
    rintro i d vd σ' H4 hd' rd ⟨h4, x2, x3, rfl⟩
    rw [List.getElem?_map] at hd'
    obtain ⟨r, hr0, rfl⟩ := Option.map_eq_some_iff.mp hd'
    have hRi := hrr i r hr0
    have hil : (rows.take i).length ≤ 40 := by rw [List.length_take]; omega
    have hsl := len_shapesD hrr i
    have en : rows.take i ++ [r] = rows.take (i + 1) := by rw [List.take_add_one, hr0]; rfl
    walk_at "r"
    refine use_rRow h4.at rd True.intro hRi fun H5 s5 => ?_
    have h5 := h4.mono s5
    walk_at "r"
    refine meth_L h5.at (fun _ h => h) (by decide +kernel) fun a iw e hi => ?_
    walk_at "r"
    refine ⟨x, vd, Hb, dx, C, fs, o, rows.take i, r, rfl, n, h5, rd.mono s5, hRi, by omega, by omega, fun H6 h6 => ?_⟩
    rw [en] at h6
    walk_at "r"
    exact ⟨h6, _, _, rfl⟩
  · rintro σ' H4 ⟨h4, x2, x3, rfl⟩
    rw [List.length_map, List.take_length] at h4
    walk_at "r"
    exact q _ h4.same h4.at

end
end G

end

section














namespace G
open PySem PySem.Spec PyProof.Rows L2
section
variable {P : Program} {w : World} {K : PySem.W.Frag} {mg : Str → Option Value} {base : Heap} {k n : Nat}
/-- Lore.__init__ called off the class; the field of a book -/
structure Tb (K : PySem.W.Frag) (mg : Str → Option Value) (A : CA) : Prop where
  glo : ∃ u, mg "Lore" = some u ∧ RelV (.ref A.lo) u
  st : ∃ f fd, Fun K "__init__" "Lore.__init__" s_Lore___init__ f fd ∧ PySem.W.keepIn K (.ref f) = true ∧ Binds K fd p_Lore___init__ [] ∧ ∃ mc, ClX.CRead K A.lo mc ∧ ClX.CVal K A.lo mc "__init__" (.ref f) (.ref f)
  nbh : NoAttr K A.bo "behind"
def spMk (K : PySem.W.Frag) (A : CA) (C : Who) : Sp := fun vs H Q _ => ∃ (x : Addr) (v : V) (Hb : Hp) (dx : Addr) (rows : List Row), vs = [.ref x, v] ∧ Same Hb H ∧ Hb x = none ∧ H x = some (.ins (A.at C) dx []) ∧ R K Hb v (.list (rows.map Row.d)) ∧ RowsR rows ∧ rows.length ≤ 40 ∧
  ∀ H', Same Hb H' → LoreAt K A H' (.ref x) rows → Q .non H'
theorem ok_lorI (T : Tp K mg) {A : CA} (U : Tc K mg A) (c_is_right : Cal P w K mg base k "is_right" (spRRow K A anyR)) (x_add : CalX P w K mg base k A noBe "add" (fun _ => spAdd K A)) : CalI P w K mg base (k + 1) "Lore" A.lo (spMk K A .lo) := by
  obtain ⟨f, fd, F, M, b⟩ := U.lorI.ex
  exact ⟨⟨f, fd, _, (ok_init T U (C := .lo) (by intro h; cases h) c_is_right x_add F).imp fun vs H Q E h => by
    obtain ⟨x, v, Hb, dx, rows, rfl, h1, h2, h3, h4, h5, h6, q⟩ := h
    exact ⟨x, v, Hb, dx, [], rows, rfl, h1, h2, h3, fun _ _ => rfl, by decide, h4, h5, h6, q⟩, M, b⟩, U.lorI.glob⟩
theorem ok_stat (T : Tp K mg) {A : CA} (U : Tc K mg A) (B : Tb K mg A) (c_is_right : Cal P w K mg base k "is_right" (spRRow K A anyR)) (x_add : CalX P w K mg base k A noBe "add" (fun _ => spAdd K A)) : CalS P w K mg base (k + 1) A.lo "__init__" (spLorI K A .bo) := by
  obtain ⟨f, fd, F, kp, b, mc, r, cv⟩ := B.st
  exact ⟨⟨f, fd, _, ok_init T U (C := .bo) (by intro h; cases h) c_is_right x_add F, kp, b, mc, r, cv⟩⟩
theorem ok_booI (T : Tp K mg) {A : CA} (U : Tc K mg A) (B : Tb K mg A) (st_Lore : CalS P w K mg base k A.lo "__init__" (spLorI K A .bo)) : CalI P w K mg base (k + 1) "Book" A.bo (spMk K A .bo) := by
  refine U.booI.cal sc_Book___init__ (fun vs H Q E h => ?_) (fun f cdv A' outer s H vs Q E hr h => ?_)
  · obtain ⟨x, v, Hb, dx, rows, rfl, _⟩ := h; rfl
  obtain ⟨x, v, Hb, dx, rows, rfl, s0, hbx, hx, rv, hrr, hrl, q⟩ := h
  have sc := @sc_Book___init__
  have g_Lore := B.glo
  refine ⟨_, (pss_cons (ps_fldK K (pv 0) pe_dnewK rfl)
      (pss_one (ps_expr (pe_stat st_Lore hr (Nat.le_refl _) (pe_gv rfl g_Lore) (pa_cons (pv 0) (pa_cons (pv 1) pa_nil)))))), ?_⟩
  walk_at "r"
  refine st_newD (K := K) fun p1 H1 f1 s1 e1 => ?_
  walk_at "r"
  refine sfld_at (s1 _ _ hx) (U.cx.cl .bo) B.nbh (by decide) ?_
  walk_at "r"
  refine ⟨rfl, ?_⟩
  walk_at "r"
  refine ⟨x, v, Hb, dx, _, rows, rfl, fun a o ha => ?_, hbx, upd_same, fun m hm => ?_, by simp [putF], rv, hrr, hrl, fun H' s' h' => ?_⟩
  · have hax : a ≠ x := fun z => by rw [z, hbx] at ha; cases ha
    rw [upd_ne hax]
    exact s1 _ _ (s0 _ _ ha)
  · have key : ∀ g ∈ meths, ¬ g = "behind" := by decide +kernel
    rw [lookup_putF, if_neg (key m hm)]; rfl
  · walk_at "r"
    exact q _ s' h'

end
end G

end

section














namespace G
open PySem PySem.Spec PyProof.Rows L2
section
variable {P : Program} {w : World} {K : PySem.W.Frag} {mg : Str → Option Value} {base : Heap} {k n : Nat}
theorem ok_args_of (T : Tp K mg) : Cal P w K mg base (k + 1) "args_of" (spArgs K) := by
  refine T.d_args_of.cal sc_args_of (fun vs H Q E h => ?_) (fun f cdv A outer s H vs Q E hr h => ?_)
  · obtain ⟨v, t, F, b, rfl, _⟩ := h; rfl
  obtain ⟨v, t, F, b, rfl, r, ht, q⟩ := h
  have sc := @sc_args_of
  refine ⟨_, (pss_cons (ps_if (PW.pt (pw_or (pt_cmpR (op_eqK K hr) (pe_ix (ix_K K) (pv 0) pe_int (fun _ _ => rfl)) pe_str (nomark _)) (pw_or1 (pt_cmpR (op_eqK K hr) (pe_ix (ix_K K) (pv 0) pe_int (fun _ _ => rfl)) pe_str (nomark _))))) (pss_one (ps_ret (pe_ix (ix_K K) (pv 0) pe_int (fun _ _ => rfl)))) pss_nil)
      (pss_one (ps_ret (pe_tupK K pa_nil)))), ?_⟩
  cases t with
  | free x =>
    have r' : R K H v (.tuple [.str "free", .str x]) := r
    walk_at "r"
    exact q _ _ (by walk_at "S") (by assumption)
  | bnd j =>
    have r' : R K H v (.tuple [.str "bound", .int (j : Int)]) := r
    walk_at "r"
    exact q _ _ (by walk_at "S") (by assumption)
  | app w c args =>
    cases w with
    | atom => exact absurd ht (by intro h; exact h)
    | form =>
      have r' : R K H v (.tuple [.str "form", .str c, .tuple (Th.ds args)]) := r
      walk_at "r"
      exact q _ _ (by walk_at "S") (by assumption)
    | call =>
      have r' : R K H v (.tuple [.str "call", .str c, .tuple (Th.ds args)]) := r
      walk_at "r"
      exact q _ _ (by walk_at "S") (by assumption)
  | fls => exact absurd ht (by intro h; exact h)
  | qua w c a => exact absurd ht (by intro h; exact h)
  | two w a b => exact absurd ht (by intro h; exact h)
theorem ok_l_args (T : Tp K mg) : Cal P w K mg base (k + 1) "_law_args" (spArgs K) := by
  refine T.d_l_args.cal sc_l_args (fun vs H Q E h => ?_) (fun f cdv A outer s H vs Q E hr h => ?_)
  · obtain ⟨v, t, F, b, rfl, _⟩ := h; rfl
  obtain ⟨v, t, F, b, rfl, r, ht, q⟩ := h
  have sc := @sc_l_args
  refine ⟨_, (pss_cons (ps_if (PW.pt (pw_or (pt_cmpR (op_eqK K hr) (pe_ix (ix_K K) (pv 0) pe_int (fun _ _ => rfl)) pe_str (nomark _)) (pw_or1 (pt_cmpR (op_eqK K hr) (pe_ix (ix_K K) (pv 0) pe_int (fun _ _ => rfl)) pe_str (nomark _))))) (pss_one (ps_ret (pe_ix (ix_K K) (pv 0) pe_int (fun _ _ => rfl)))) pss_nil)
      (pss_one (ps_ret (pe_tupK K pa_nil)))), ?_⟩
  cases t with
  | free x =>
    have r' : R K H v (.tuple [.str "free", .str x]) := r
    walk_at "r"
    exact q _ _ (by walk_at "S") (by assumption)
  | bnd j =>
    have r' : R K H v (.tuple [.str "bound", .int (j : Int)]) := r
    walk_at "r"
    exact q _ _ (by walk_at "S") (by assumption)
  | app w c args =>
    cases w with
    | atom => exact absurd ht (by intro h; exact h)
    | form =>
      have r' : R K H v (.tuple [.str "form", .str c, .tuple (Th.ds args)]) := r
      walk_at "r"
      exact q _ _ (by walk_at "S") (by assumption)
    | call =>
      have r' : R K H v (.tuple [.str "call", .str c, .tuple (Th.ds args)]) := r
      walk_at "r"
      exact q _ _ (by walk_at "S") (by assumption)
  | fls => exact absurd ht (by intro h; exact h)
  | qua w c a => exact absurd ht (by intro h; exact h)
  | two w a b => exact absurd ht (by intro h; exact h)

theorem use_funM {A : CA} {H : Hp} {Q : VK} {E : XK} {v : V} {z : Str} {rows : List Row} (hl : LoreAt K A H v rows) (q : ∀ u, R K H u (optP (((funsOf rows).lookup z).map Row.d)) → Q u H) : spFunM K A [v, .str z] H Q E := ⟨v, z, rows, rfl, hl, q⟩
theorem ok_can_step (T : Tp K mg) {A : CA} (x_function : CalX P w K mg base k A noBe "function" (fun _ => spFunM K A)) : Cal P w K mg base (k + 1) "can_step" (spCan K A) := by
  refine T.d_can_step.cal sc_can_step (fun vs H Q E h => ?_) (fun f cdv A' outer s H vs Q E hr h => ?_)
  · obtain ⟨v, vt, g, bs, t, o, rfl, _⟩ := h; rfl
  obtain ⟨v, vt, g, bs, t, o, rfl, hl, r, hc, q⟩ := h
  have sc := @sc_can_step
  refine ⟨_, (pss_cons (ps_if (pt_cmpR (op_neK K hr) (pe_ix (ix_K K) (pv 1) pe_int (fun _ _ => rfl)) pe_str (nomark _)) (pss_one (ps_ret pe_bl)) pss_nil)
      (pss_cons (ps_set (i := 2) sc.nd rfl (Or.inl rfl) (pe_mx x_function hr (Nat.le_refl _) (pv 0) (pa_cons (pe_ix (ix_K K) (pv 1) pe_int (fun _ _ => rfl)) pa_nil)))
      (pss_one (ps_ret (pe_or (pe_cmpR (op_eqK K hr) (pe_ix (ix_K K) (pv 2) pe_int (fun _ _ => rfl)) pe_str (nomark _)) (pe_one (pe_and (pe_cmpR (op_eqK K hr) (pe_ix (ix_K K) (pv 2) pe_int (fun _ _ => rfl)) pe_str (nomark _)) (pe_one (pe_cmpR (op_eqK K hr) (pe_ix (ix_K K) (pe_ix (ix_K K) (pe_ix (ix_K K) (pv 1) pe_int (fun _ _ => rfl)) pe_int (fun _ _ => rfl)) pe_int (fun _ _ => rfl)) pe_str (nomark _)))))))))), ?_⟩
  cases hc with
  | free x =>
    have r' : R K H vt (.tuple [.str "free", .str x]) := r
    walk_at "r"
    exact q _ (by walk_at "S")
  | bnd j =>
    have r' : R K H vt (.tuple [.str "bound", .int (j : Int)]) := r
    walk_at "r"
    exact q _ (by walk_at "S")
  | form c as =>
    have r' : R K H vt (.tuple [.str "form", .str c, .tuple (Th.ds as)]) := r
    walk_at "r"
    exact q _ (by walk_at "S")
  | given c as ps kk h =>
    have r' : R K H vt (.tuple [.str "call", .str c, .tuple (Th.ds as)]) := r
    walk_at "r"
    refine meth_L hl (fun _ h => h) (by decide +kernel) fun a iw e hi => ?_
    subst e
    walk_at "r"
    refine use_funM hl fun u ru => ?_
    rw [h] at ru
    have ru' : R K H u (.tuple [.str "given", .str c, partsD ps, .str kk]) := ru
    walk_at "r"
    exact q _ (by walk_at "S")
  | short c as ps kk s h h1 h2 h3 =>
    have r' : R K H vt (.tuple [.str "call", .str c, .tuple (Th.ds as)]) := r
    walk_at "r"
    refine meth_L hl (fun _ h => h) (by decide +kernel) fun a iw e hi => ?_
    subst e
    walk_at "r"
    refine use_funM hl fun u ru => ?_
    rw [h] at ru
    have ru' : R K H u (.tuple [.str "short", .str c, partsD ps, .str kk, s.d]) := ru
    walk_at "r"
    exact q _ (by walk_at "S")
  | stay c a0 as ps kk ts h hn =>
    obtain ⟨ww, rr, e0, ne⟩ := hn
    have r' : R K H vt (.tuple [.str "call", .str c, .tuple (a0.d :: Th.ds as)]) := r
    rw [e0] at r'
    walk_at "r"
    refine meth_L hl (fun _ h => h) (by decide +kernel) fun a iw e hi => ?_
    subst e
    walk_at "r"
    refine use_funM hl fun u ru => ?_
    rw [h] at ru
    have ru' : R K H u (.tuple [.str "rule", .str c, partsD ps, .str kk, .tuple (Th.ds ts)]) := ru
    walk_at "r"
    rw [show decide (ww = ("form" : Str)) = false from decide_eq_false (by simpa using ne)]
    exact q _ (by walk_at "S")
  | rule c d qs as k0 ks kk ts i ps2 s h hk hk2 hi nd hs hst hd hf ht hl2 hq =>
    have r' : R K H vt (.tuple [.str "call", .str c, .tuple (.tuple [.str "form", .str d, .tuple (Th.ds qs)] :: Th.ds as)]) := r
    walk_at "r"
    refine meth_L hl (fun _ h => h) (by decide +kernel) fun a iw e hi => ?_
    subst e
    walk_at "r"
    refine use_funM hl fun u ru => ?_
    rw [h] at ru
    have ru' : R K H u (.tuple [.str "rule", .str c, partsD (k0 :: ks), .str kk, .tuple (Th.ds ts)]) := ru
    walk_at "r"
    exact q _ (by walk_at "S")
theorem ok_args_put (T : Tp K mg) (c_args_put : Cal P w K mg base k "args_put" (spPutA K n)) : Cal P w K mg base (k + 1) "args_put" (spPutA K (n + 1)) := by
  refine T.d_args_put.cal sc_args_put (fun vs H Q E h => ?_) (fun f cdv A outer s H vs Q E hr h => ?_)
  · obtain ⟨v, u, t, as, F, rfl, _⟩ := h; rfl
  obtain ⟨v, u, t, as, F, rfl, r, ra, ht, hal, hd, q⟩ := h
  have sc := @sc_args_put
  refine ⟨_, (pss_cons (ps_if (pt_cmpR (op_eqK K hr) (pe_ix (ix_K K) (pv 0) pe_int (fun _ _ => rfl)) pe_str (nomark _)) (pss_one (ps_ret (pe_ix (ix_K K) (pv 1) (pe_ix (ix_K K) (pv 0) pe_int (fun _ _ => rfl)) (fun _ _ => rfl)))) pss_nil)
      (pss_cons (ps_if (pt_cmpR (op_eqK K hr) (pe_ix (ix_K K) (pv 0) pe_int (fun _ _ => rfl)) pe_str (nomark _)) (pss_one (ps_ret (pv 0))) pss_nil)
      (pss_one (ps_ret (pe_tupK K (pa_cons (pe_ix (ix_K K) (pv 0) pe_int (fun _ _ => rfl)) (pa_cons (pe_ix (ix_K K) (pv 0) pe_int (fun _ _ => rfl)) (pa_cons (tupleOf_K K rfl T.n_tuple (pe_lc (own := [("part", 2)]) (g := gName 2) (tt := tYes) rfl sc.nd (pi_tupK K (pe_ix (ix_K K) (pv 0) pe_int (fun _ _ => rfl))) (blkOk_by (N := n_args_put) (sc := defScope s_args_put) (by decide +kernel)) (fun _ _ _ _ _ => pg_name (i := 2) sc.nd rfl (Or.inl rfl)) (fun _ _ _ _ _ => pts_nil) (fun _ _ _ _ _ => pe_hide (pe_c c_args_put hr (Nat.le_refl _) rfl (pa_cons (pv 2) (pa_cons (pv 1) pa_nil)))))) pa_nil)))))))), ?_⟩
  cases t with
  | free x =>
    change R K H v (.tuple [.str "free", .str x]) at r
    walk_at "r"
    exact q _ _ (Same.refl _) r
  | bnd i =>
    change R K H v (.tuple [.str "bound", .int (i : Nat)]) at r
    have hi : i < as.length := ht
    have hg : (Th.ds as)[Int.toNat ((i : Nat) : Int)]? = some (as[i]).d := ds_get (by simp [hi])
    walk_at "r"
    rename_i v1 r1
    refine q _ _ (Same.refl _) ?_
    rw [show Th.putA as (.bnd i) = as[i] by simp [Th.putA, hi]]
    exact r1
  | app w c args =>
    have hw : w = .form ∨ w = .call := by cases w <;> first | simp; done | exact ht.elim
    obtain ⟨hl, hts⟩ : args.length ≤ 4 ∧ Th.areT F as.length args := by rcases hw with rfl | rfl <;> exact ⟨ht.2.1, ht.2.2⟩
    have hda := Th.deps_le.mp (Nat.le_of_succ_le_succ hd)
    rcases hw with rfl | rfl
    all_goals
      first | change R K H v (.tuple [.str "form", .str c, .tuple (Th.ds args)]) at r | change R K H v (.tuple [.str "call", .str c, .tuple (Th.ds args)]) at r
      walk_at "r"
      rename_i va rva
      refine lcT_th (fun t => (t.putA as).d) rva (by omega) (fun _ => rfl) (fun v1 t1 H1 hm r1 s1 Qt hQ => ?_) (fun v1 H1 s1 r1 => ?_)
      · walk_at "r"
        refine use_putA r1 (ra.mono s1) (Th.areT_all.mp hts t1 hm) hal (hda t1 hm) fun u2 H2 s2 r2 => ?_
        exact hQ _ _ s2 r2
      rw [← Th.ds_putAs] at r1
      walk_at "r"
      exact q _ _ (by walk_at "S") (by assumption)
  | fls => exact ht.elim
  | qua w k a => exact ht.elim
  | two w a b => exact ht.elim
theorem args_put_n (T : Tp K mg) : ∀ n : Nat, Cal P w K mg base n "args_put" (spPutA K n)
  | 0 => T.d_args_put.none fun vs H Q E h => by obtain ⟨v, u, t, as, F, _, _, _, _, _, h0, _⟩ := h; have := t.dep_pos; omega
  | n + 1 => ok_args_put T (args_put_n T n)

theorem use_formsM {A : CA} {H : Hp} {Q : VK} {E : XK} {v : V} {z : Str} {rows : List Row} {fs : Forms} (hl : LoreAt K A H v rows) (e : (kindsOf rows).lookup z = some (some fs)) (q : ∀ u H', Same H H' → R K H' u (.list (fs.map formD)) → Q u H') : spFormsM K A [v, .str z] H Q E :=
  ⟨v, z, rows, rfl, hl, fun fs' e' u H' s r => by rw [e] at e'; cases e'; exact q u H' s r, fun h => absurd e (h fs)⟩
theorem ok_gone (T : Tp K mg) {A : CA} (x_function : CalX P w K mg base k A noBe "function" (fun _ => spFunM K A)) (x_forms : CalX P w K mg base k A noBe "forms" (fun _ => spFormsM K A)) (c_args_put : Cal P w K mg base k "args_put" (spPutA K 60)) : Cal P w K mg base (k + 1) "gone" (spGone K A) := by
  refine T.d_gone.cal sc_gone (fun vs H Q E h => ?_) (fun f cdv A' outer s H vs Q E hr h => ?_)
  · obtain ⟨v, vt, g, bs, t, o, rfl, _⟩ := h; rfl
  obtain ⟨v, vt, g, bs, t, o, rfl, hl, r, hc, q⟩ := h
  have sc := @sc_gone
  refine ⟨_, (pss_cons (ps_set (i := 2) sc.nd rfl (Or.inl rfl) (pe_mx x_function hr (Nat.le_refl _) (pv 0) (pa_cons (pe_ix (ix_K K) (pv 1) pe_int (fun _ _ => rfl)) pa_nil)))
      (pss_cons (ps_if (pt_cmpR (op_eqK K hr) (pe_ix (ix_K K) (pv 2) pe_int (fun _ _ => rfl)) pe_str (nomark _)) (pss_one (ps_ret (pe_c c_args_put hr (Nat.le_refl _) rfl (pa_cons (pe_ix (ix_K K) (pv 2) pe_int (fun _ _ => rfl)) (pa_cons (pe_ix (ix_K K) (pv 1) pe_int (fun _ _ => rfl)) pa_nil))))) pss_nil)
      (pss_cons (ps_set (i := 3) sc.nd rfl (Or.inl rfl) (pe_ix (ix_K K) (pe_ix (ix_K K) (pv 1) pe_int (fun _ _ => rfl)) pe_int (fun _ _ => rfl)))
      (pss_cons (ps_setLc (i := 4) (own := [("form", 5)]) (g := gName 5) (tt := tYes) rfl sc.nd rfl rfl (sw_true rfl rfl rfl (by decide +kernel)) (pi_listK K (pe_mx x_forms hr (Nat.le_refl _) (pv 0) (pa_cons (pe_ix (ix_K K) (pe_ix (ix_K K) (pv 2) pe_int (fun _ _ => rfl)) pe_int (fun _ _ => rfl)) pa_nil))) (blkOk_by (N := n_gone) (sc := defScope s_gone) (by decide +kernel)) (fun _ _ _ _ _ => pg_name (i := 5) sc.nd rfl (Or.inl rfl)) (fun _ _ _ _ _ => pts_nil) (fun _ _ _ _ _ => pe_hide (pe_ix (ix_K K) (pv 5) pe_int (fun _ _ => rfl))))
      (pss_one (ps_ret (pe_c c_args_put hr (Nat.le_refl _) rfl (pa_cons (pe_ix (ix_K K) (pe_ix (ix_K K) (pv 2) pe_int (fun _ _ => rfl)) (bmIK K (pe_bm PySem.F.plainAttrs_list PySem.F.slot_list_index PySem.F.type_list_index mt_index (pv 4) (pa_cons (pe_ix (ix_K K) (pv 3) pe_int (fun _ _ => rfl)) pa_nil))) (fun _ _ => rfl)) (pa_cons (pe_op (op_addK K) (pe_ix (ix_K K) (pv 3) pe_int (fun _ _ => rfl)) (pe_slice (sl_K K) (pe_ix (ix_K K) (pv 1) pe_int (fun _ _ => rfl)) (po_some pe_int) po_none)) pa_nil))))))))), ?_⟩
  cases hc with
  | short c as ps kk s h h1 h2 h3 =>
    have r' : R K H vt (.tuple [.str "call", .str c, .tuple (Th.ds as)]) := r
    walk_at "r"
    refine meth_L hl (fun _ h => h) (by decide +kernel) fun a iw e hi => ?_
    subst e
    walk_at "r"
    refine use_funM hl fun u ru => ?_
    rw [h] at ru
    have ru' : R K H u (.tuple [.str "short", .str c, partsD ps, .str kk, s.d]) := ru
    walk_at "r"
    rename_i v4 r4 v5 r5
    refine use_putA r4 r5 h2 (by omega) (by omega) fun x H2 s2 r2 => ?_
    walk_at "r"
    exact q _ _ (by walk_at "S") r2
  | rule c d qs as k0 ks kk ts i ps2 s h hk hk2 hi nd hs hst hd hf ht hl2 hq =>
    have r' : R K H vt (.tuple [.str "call", .str c, .tuple (.tuple [.str "form", .str d, .tuple (Th.ds qs)] :: Th.ds as)]) := r
    walk_at "r"
    refine meth_L hl (fun _ h => h) (by decide +kernel) fun a iw e hiw => ?_
    subst e
    walk_at "r"
    refine use_funM hl fun u ru => ?_
    rw [h] at ru
    have ru' : R K H u (.tuple [.str "rule", .str c, .tuple (.str k0 :: ks.map PyData.str), .str kk, .tuple (Th.ds ts)]) := ru
    walk_at "r"
    refine meth_L hl (fun _ h => h) (by decide +kernel) fun a2 iw2 e2 hiw2 => ?_
    cases e2
    walk_at "r"
    refine use_formsM hl hk fun y H1 s1 ry => ?_
    walk_at "r"
    refine lc_L (K := K) (fun i e => ∃ x : Str × List Str, (g.forms k0)[i]? = some x ∧ e = .str x.1) ry (by rw [List.length_map]; omega) (fun _ => rfl) (fun i v3 d3 H3 hd3 rv s3 Qt hQ => ?_) (fun v3 H3 es s3 r3 hl3 hP3 => ?_)
    · rw [List.getElem?_map] at hd3
      obtain ⟨x, hx, rfl⟩ := Option.map_eq_some_iff.mp hd3
      have rv' : R K H3 v3 (.tuple [.str x.1, partsD x.2]) := rv
      walk_at "r"
      exact hQ _ _ _ (by walk_at "S") (by with_reducible assumption) ⟨x, hx, rfl⟩
    have e3 : es = ((g.forms k0).map (·.1)).map PyData.str := by
      rw [List.map_map]
      exact list_of_at (by rw [hl3, List.length_map]) fun i e h => hP3 i e h
    subst e3
    have hgi : ((g.forms k0).map (·.1))[i]? = some d := by rw [List.getElem?_map, hi]; rfl
    have hgs : (Th.ds ts)[((i : Nat) : Int).toNat]? = some s.d := ds_get (by simpa using hs)
    walk_at "r"
    refine r3.tyl ?_
    walk_at "r"
    refine index_R r3 nd hgi ?_
    walk_at "r"
    rename_i v5 r5 v6 r6 v7 r7 v8 H8 s8 r8
    have r8' : R K H8 v8 (.tuple (Th.ds as)) := by rw [cutD_1] at r8; exact r8
    have l1 : (Th.ds qs).length ≤ 4 := by rw [ds_len]; exact hq
    have l2 : (Th.ds as).length ≤ 3 := by rw [ds_len]; exact hl2
    clear r8
    walk_at "r"
    rename_i v9 H9 s9 r9
    have r9' : R K H9 v9 (.tuple (Th.ds (qs ++ as))) := by rw [ds_app]; exact r9
    refine use_putA (R.mono (by walk_at "S") r5) r9' hst (by rw [List.length_append]; omega) (by omega) fun x H10 s10 r10 => ?_
    walk_at "r"
    exact q _ _ (by walk_at "S") r10

end
end G

end

section














namespace G
open PySem PySem.Spec PyProof.Rows L2
section
variable {P : Program} {w : World} {K : PySem.W.Frag} {mg : Str → Option Value} {base : Heap} {k n : Nat}
theorem ok_steps (T : Tp K mg) {A : CA} (c_args_of : Cal P w K mg base k "args_of" (spArgs K)) (c_can_step : Cal P w K mg base k "can_step" (spCan K A)) : Cal P w K mg base (k + 1) "steps" (spSteps K A) := by
  refine T.d_steps.cal sc_steps (fun vs H Q E h => ?_) (fun f cdv A' outer s H vs Q E hr h => ?_)
  · obtain ⟨v, vt, g, bs, t, k, xs, is, rfl, _⟩ := h; rfl
  obtain ⟨v, vt, g, bs, t, kk, xs, is, rfl, hl, r, ok, B, hk, nx, hd, hz, q⟩ := h
  have sc := @sc_steps
  refine ⟨_, (pss_cons (ps_set (i := 2) sc.nd rfl (Or.inl rfl) (pe_lstF K pa_nil))
      (pss_cons (ps_set (i := 3) sc.nd rfl (Or.inl rfl) (pe_lstF K (pa_cons (pe_tupK K (pa_cons (pe_tupK K pa_nil) (pa_cons (pv 1) pa_nil))) pa_nil)))
      (pss_cons (ps_while PassesOwn.never (pt_cmpR op_gt (pe_callB (len_K K) rfl T.n_len bt_len (pa_cons (pv 3) pa_nil)) pe_int (nomark _)) (pss_cons (ps_asg (bm0K K (pe_bm0 PySem.F.plainAttrs_list PySem.F.slot_list_pop PySem.F.type_list_pop mt_pop (pv 3))) (gtK K (pg_tup (n := 2) rfl (pgs_cons (pg_name (i := 4) sc.nd rfl (Or.inr rfl)) (pgs_cons (pg_name (i := 5) sc.nd rfl (Or.inl rfl)) pgs_nil)))))
      (pss_cons (ps_if (pt_val (pe_c c_can_step hr (Nat.le_refl _) rfl (pa_cons (pv 0) (pa_cons (pv 5) pa_nil)))) (pss_one (ps_expr (bmK K (pe_bm PySem.F.plainAttrs_list PySem.F.slot_list_append PySem.F.type_list_append mt_append (pv 2) (pa_cons (pv 4) pa_nil))))) pss_nil)
      (pss_cons (ps_set (i := 6) sc.nd rfl (Or.inr rfl) (pe_c c_args_of hr (Nat.le_refl _) rfl (pa_cons (pv 5) pa_nil)))
      (pss_one (ps_expr (bmK K (pe_bm PySem.F.plainAttrs_list PySem.F.slot_list_extend PySem.F.type_list_extend mt_extend (pv 3) (pa_cons (pe_lc (own := [("k", 7)]) (g := gName 7) (tt := tYes) rfl sc.nd (pi_revR rfl T.n_reversed (prg_1 rfl T.n_range (pe_callB (len_K K) rfl T.n_len bt_len (pa_cons (pv 6) pa_nil)))) (blkOk_by (N := n_steps) (sc := defScope s_steps) (by decide +kernel)) (fun _ _ _ _ _ => pg_name (i := 7) sc.nd rfl (Or.inl rfl)) (fun _ _ _ _ _ => pts_nil) (fun _ _ _ _ _ => pe_hide (pe_tupK K (pa_cons (pe_op (op_addK K) (pv 4) (pe_tupK K (pa_cons (pv 7) pa_nil))) (pa_cons (pe_ix (ix_K K) (pv 6) (pv 7) (fun _ _ => rfl)) pa_nil))))) pa_nil)))))))))
      (pss_one (ps_ret (pv 2)))))), ?_⟩
  have toT : ∀ {a : Th}, (∃ k, a.kd g g.calls xs is k) → a.isT (xs.map (·.1)) is.length := fun ⟨k, h⟩ => Th.kd_isT ok (fun x hx => ⟨(ok.cn x hx).1, (ok.cn x hx).2.1⟩) nx _ h
  have ht := toT ⟨kk, hk⟩
  walk_at "r"
  rename_i fo H1 f1 s1 hl1 ra1 v2 H2 s2 r2 v3 H3 s3 r3 l H4 f4 s4 hl4 ra4
  have s13 : Same H1 H3 := s2.trans s3
  have kf : Lk K H4 fo ((([] : List (List Nat))).map pls) := (Lk.of hl1 ra1 (by rfl)).mono (s13.trans s4)
  have kl : Lk K H4 l ([(([] : List Nat), t)].map wD) := Lk.of hl4 ra4 (noLs_wD [([], t)])
  have nfo : H fo = none := f1
  have nl : H l = none := none_of (s1.trans s13) f4
  have nfl : fo ≠ l := fresh_ne f4 ((Lk.of hl1 ra1 (by rfl)).mono s13)
  have s14 : Same H H4 := (s1.trans s13).trans s4
  clear s1 s2 s3 s4 s13 ra1 ra4 hl1 hl4 r2 r3
  have lent := Th.here_len (p := canT g bs) t
  refine st_while (fun m σ' H' => ∃ (found : List (List Nat)) (ws : List (List Nat × Th)) (x4 x5 x6 x7 : Option V), m = wsz ws ∧ σ' = [some v, some vt, some (.ref fo), some (.ref l), x4, x5, x6, x7] ∧ Same H H' ∧ Lk K H' fo (found.map pls) ∧ Lk K H' l (ws.map wD) ∧ found ++ stkP (canT g bs) ws = t.here (canT g bs) ∧ (∀ x ∈ ws, (∃ k, x.2.kd g g.calls xs is k) ∧ x.2.dep ≤ 90 ∧ x.1.length + x.2.dep ≤ 200) ∧ wsz ws ≤ t.sz)
    t.sz ⟨[], [([], t)], none, none, none, none, by simp [wsz, Th.szs], rfl, s14, kf, kl, by simp [stkP], by simp [hd]; exact ⟨⟨kk, hk⟩, by omega⟩, by simp [wsz, Th.szs]⟩ ?_
  clear kf kl s14
  rintro m σ' H5 ⟨found, ws, x4, x5, x6, x7, rfl, rfl, s5, kf, kl, hst, hws, hsz⟩
  have rl := kl.R
  have hfl : found.length ≤ t.sz := by have := congrArg List.length hst; rw [List.length_append] at this; omega
  rcases List.eq_nil_or_concat ws with rfl | ⟨ws', x, rfl⟩
  · have h0 : ((([] : List (List Nat × Th)).map wD).length : Int) = 0 := rfl
    walk_at "r"
    have e : found = t.here (canT g bs) := by simpa [stkP] using hst
    rw [← e] at q
    exact q _ _ nfo s5 kf
  · rw [List.concat_eq_append] at *
    have hx := hws x (by simp)
    have hxt := toT hx.1
    have hpos : (0 : Int) < (((ws' ++ [x]).map wD).length : Int) := by simp
    rw [stkP_snoc] at hst
    rw [wsz_snoc] at hsz
    have hxz := x.2.sz_pos
    have hwl := wsz_len ws'
    walk_at "r"
    refine kl.ty ?_
    rw [List.map_append] at kl
    have kl' : Lk K H5 l (ws'.map wD ++ [wD x]) := kl
    refine pop_L kl' fun v6 H6 x6 k6 r6 => ?_
    obtain ⟨xl, ql, _⟩ := kl'.ex
    have s6 : Same H H6 := SameX.same s5 x6 nl
    have kf6 : Lk K H6 fo (found.map pls) := kf.lx x6 kl' nfl
    refine gtup2 (d1 := pls x.1) (d2 := x.2.d) r6 fun u1 u2 q1 q2 => ?_
    clear rl kl kf kl' r6
    obtain ⟨kx, hkx⟩ := hx.1
    have hc := stc ok B hkx
    rw [Th.here_args x.2 hxt] at hst
    walk_at "u"
    refine if_joinP (fun H' => Lk K H' fo ((found ++ (bif canT g bs x.2 then [x.1] else [])).map pls) ∧ Lk K H' l (ws'.map wD) ∧ Same H H' ∧ R K H' u1 (pls x.1) ∧ R K H' u2 x.2.d) (fun P hP => ?_) fun H7 hp7 => ?_
    · walk_at "r"
      refine use_can (hl.mono s6) q2 hc fun H7 s7 => ?_
      have k7 := k6.mono s7
      have kf7 := kf6.mono s7
      have hcs : (stepT g bs x.2).isSome = canT g bs x.2 := rfl
      rw [hcs]
      cases he : canT g bs x.2
      · rw [he] at hP
        walk_at "r"
        exact hP _ ⟨by simpa using kf7, k7, s6.trans s7, q1.mono s7, q2.mono s7⟩
      · rw [he] at hP
        walk_at "r"
        refine kf7.ty ?_
        walk_at "r"
        refine app_L kf7 (q1.mono s7) (by rw [List.length_map]; omega) (noL_pls _) fun H8 x8 k8 => ?_
        obtain ⟨xf, qf, _⟩ := kf7.ex
        refine hP _ ⟨by show Lk K H8 fo ((found ++ [x.1]).map pls); rw [List.map_append]; exact k8, k7.lx x8 kf7 (Ne.symm nfl), SameX.same (s6.trans s7) x8 nfo, R.monoX x8 qf (noL_pls _) (q1.mono s7), R.monoX x8 qf (Th.noL _) (q2.mono s7)⟩
    clear kf6 k6 hc q1 q2
    obtain ⟨kf7, k7, s7, q1, q2⟩ := hp7
    have hst7 : (found ++ (bif canT g bs x.2 then [x.1] else [])) ++ ((Th.hereL (canT g bs) x.2.args 0).map (x.1 ++ ·) ++ stkP (canT g bs) ws') = t.here (canT g bs) := by
      rw [← hst]
      cases canT g bs x.2 <;> simp
    generalize hgf : found ++ (bif canT g bs x.2 then [x.1] else []) = found7 at kf7 hst7
    clear hst hgf hfl found s5 s6 x6 ql
    walk_at "r"
    refine use_args q2 hxt fun y7 H8 s8 r7 => ?_
    have k8 := k7.mono s8
    walk_at "r"
    refine k8.ty ?_
    walk_at "r"
    refine st_lcRv ?_
    have q1' : R K H7 u1 (.tuple (x.1.map fun i : Nat => PyData.int (i : Nat))) := q1
    have hxl : (x.1.map fun i : Nat => PyData.int (i : Nat)).length + 1 ≤ 1000000 := by rw [List.length_map]; omega
    have hal : (Th.ds x.2.args).length = x.2.args.length := ds_len _
    have hza := Th.sz_args x.2 hxt
    have hla := len_szs x.2.args
    walk_at "r"
    rw [hal]
    refine lcRv0 (K := K) (n := x.2.args.length) (fun i e => ∃ a, x.2.args[x.2.args.length - 1 - i]? = some a ∧ e = wD (x.1 ++ [x.2.args.length - 1 - i], a)) (by omega) (fun _ => rfl) (fun i H9 hi s9 Qt hQ => ?_) (fun v9 H9 es s9 r9 hl9 hP9 => ?_)
    · have hk9 : x.2.args.length - 1 - i < x.2.args.length := by omega
      have hg : (Th.ds x.2.args)[(((x.2.args.length - 1 - i : Nat) : Nat) : Int).toNat]? = some (x.2.args[x.2.args.length - 1 - i]).d := by
        rw [Int.toNat_natCast, Th.ds_map, List.getElem?_map, List.getElem?_eq_getElem hk9]; rfl
      walk_at "r"
      rename_i v12 H12 s12 r12
      exact hQ _ _ _ (by walk_at "S") r12 ⟨_, List.getElem?_eq_getElem hk9, by simp [wD, pls]⟩
    have e9 : es = (pushed x.1 x.2.args).map wD := list_of_at (by rw [hl9]; simp [pushed]) fun i e h => by
      obtain ⟨a, ha, rfl⟩ := hP9 i e h
      have hi : i < x.2.args.length := by have := (List.getElem?_eq_some_iff.mp h).1; omega
      exact ⟨_, by rw [pushed_at hi, ha]; rfl, rfl⟩
    subst e9
    have k9 := k8.mono s9
    have kf9 := (kf7.mono s8).mono s9
    have hpl : (pushed x.1 x.2.args).length = x.2.args.length := by simp [pushed]
    walk_at "r"
    refine ext_L k9 r9 (by rw [List.length_map, List.length_map, hpl]; omega) (noLs_wD _) fun H10 x10 k10 => ?_
    walk_at "r"
    refine ⟨_, by rw [wsz_push, wsz_snoc]; omega, found7, ws' ++ pushed x.1 x.2.args, _, _, _, _, rfl, rfl, SameX.same ((s7.trans s8).trans s9) x10 nl, kf9.lx x10 k9 nfl, by rw [List.map_append]; exact k10, by rw [stkP_push]; exact hst7, fun y hy => ?_, by rw [wsz_push]; omega⟩
    rcases List.mem_append.mp hy with hy | hy
    · exact hws y (List.mem_append_left _ hy)
    · unfold pushed at hy
      obtain ⟨⟨a, i⟩, ha, rfl⟩ := List.mem_map.mp (List.mem_reverse.mp hy)
      have h1 := List.mem_zipIdx ha
      simp only [Nat.zero_add, Nat.sub_zero] at h1
      have hm : a ∈ x.2.args := by rw [h1.2.2]; exact List.getElem_mem _
      have hdx := x.2.dep_pos
      have h2 := Th.args_ok (n := x.2.dep - 1) x.2 hxt (by omega) a hm
      exact ⟨args_kd hkx a hm, by have := h2.2; show a.dep ≤ 90; omega, by have := h2.2; rw [List.length_append, List.length_singleton]; show x.1.length + 1 + a.dep ≤ 200; omega⟩

end
end G

end

section














namespace G
open PySem PySem.Spec PyProof.Rows L2
section
variable {P : Program} {w : World} {K : PySem.W.Frag} {mg : Str → Option Value} {base : Heap} {k n : Nat}
local macro_rules | `(tactic| walk_at "c") => `(tactic| ((with_reducible refine' G.use_parts ?r ?_); (case r => walk_at "R"); intro v0 H0 s0 r0))
local macro_rules | `(tactic| walk_at "c") => `(tactic| ((with_reducible refine' G.use_whole ?r ?l ?z ?_); (case r => walk_at "R"); (case l => with_reducible assumption); (case z => walk_at "side"); intro H0 s0))

theorem ok_parts_of_terms (T : Tp K mg) : Cal P w K mg base (k + 1) "parts_of_terms" (spParts K) := by
  refine T.d_parts_of_terms.cal sc_parts_of_terms (fun vs H Q E h => ?_) (fun f cdv A outer s H vs Q E hr h => ?_)
  · obtain ⟨v, t, rfl, _⟩ := h; rfl
  obtain ⟨v, t, rfl, r, q⟩ := h
  have sc := @sc_parts_of_terms
  refine ⟨_, (pss_cons (ps_set (i := 1) sc.nd rfl (Or.inl rfl) (pe_ix (ix_K K) (pv 0) pe_int (fun _ _ => rfl)))
      (pss_cons (ps_if (pt_cmpR (op_inK K) (pv 1) (pe_tupK K (pa_cons pe_str (pa_cons pe_str (pa_cons pe_str pa_nil)))) rfl) (pss_one (ps_ret (pe_lstK K pa_nil))) pss_nil)
      (pss_cons (ps_if (pt_cmpR (op_inK K) (pv 1) (pe_tupK K (pa_cons pe_str (pa_cons pe_str (pa_cons pe_str pa_nil)))) rfl) (pss_one (ps_ret (pe_callTy (list_K K) rfl T.n_list bt_list (pa_cons (pe_ix (ix_K K) (pv 0) pe_int (fun _ _ => rfl)) pa_nil)))) pss_nil)
      (pss_cons (ps_if (pt_cmpR (op_inK K) (pv 1) (pe_tupK K (pa_cons pe_str (pa_cons pe_str pa_nil))) rfl) (pss_one (ps_ret (pe_lstK K (pa_cons (pe_ix (ix_K K) (pv 0) pe_int (fun _ _ => rfl)) pa_nil)))) pss_nil)
      (pss_one (ps_ret (pe_callTy (list_K K) rfl T.n_list bt_list (pa_cons (pe_slice (sl_K K) (pv 0) (po_some pe_int) po_none) pa_nil)))))))), ?_⟩
  cases t with
  | free x =>
    change R K H v (.tuple [.str "free", .str x]) at r
    walk_at "r"
    exact q _ _ (by walk_at "S") (by assumption)
  | bnd i =>
    change R K H v (.tuple [.str "bound", .int (i : Nat)]) at r
    walk_at "r"
    exact q _ _ (by walk_at "S") (by assumption)
  | fls =>
    change R K H v (.tuple [.str "false"]) at r
    walk_at "r"
    exact q _ _ (by walk_at "S") (by assumption)
  | app w c args =>
    cases w
    · change R K H v (.tuple [.str "form", .str c, .tuple (Th.ds args)]) at r
      walk_at "r"
      exact q _ _ (by walk_at "S") (by assumption)
    · change R K H v (.tuple [.str "call", .str c, .tuple (Th.ds args)]) at r
      walk_at "r"
      exact q _ _ (by walk_at "S") (by assumption)
    · change R K H v (.tuple [.str "atom", .str c, .tuple (Th.ds args)]) at r
      walk_at "r"
      exact q _ _ (by walk_at "S") (by assumption)
  | qua w c a =>
    cases w
    · change R K H v (.tuple [.str "all", .str c, a.d]) at r
      walk_at "r"
      exact q _ _ (by walk_at "S") (by assumption)
    · change R K H v (.tuple [.str "some", .str c, a.d]) at r
      walk_at "r"
      exact q _ _ (by walk_at "S") (by assumption)
  | two w a b =>
    have e : ∀ z : Str, cutD [.str z, a.d, b.d] (some 1) none = [a.d, b.d] := fun z => by rw [cutD_1]; rfl
    cases w
    · change R K H v (.tuple [.str "same", a.d, b.d]) at r
      walk_at "r"
      rename_i rr
      rw [e] at rr
      exact q _ _ (by walk_at "S") rr
    · change R K H v (.tuple [.str "and", a.d, b.d]) at r
      walk_at "r"
      rename_i rr
      rw [e] at rr
      exact q _ _ (by walk_at "S") rr
    · change R K H v (.tuple [.str "or", a.d, b.d]) at r
      walk_at "r"
      rename_i rr
      rw [e] at rr
      exact q _ _ (by walk_at "S") rr
    · change R K H v (.tuple [.str "if", a.d, b.d]) at r
      walk_at "r"
      rename_i rr
      rw [e] at rr
      exact q _ _ (by walk_at "S") rr

theorem ok_at_place (T : Tp K mg) (c_parts_of_terms : Cal P w K mg base k "parts_of_terms" (spParts K)) : Cal P w K mg base (k + 1) "at_place" (spAtT K) := by
  refine T.d_at_place.cal sc_at_place (fun vs H Q E h => ?_) (fun f cdv A outer s H vs Q E hr h => ?_)
  · obtain ⟨v, vp, t, ks, F, b, rfl, _⟩ := h; rfl
  obtain ⟨v, vp, t, ks, F, b, rfl, r, rp, ht, ok, q⟩ := h
  have sc := @sc_at_place
  refine ⟨_, (pss_cons (ps_for PassesOwn.never rfl (pi_tupK K (pv 1)) (pg_name (i := 2) sc.nd rfl (Or.inl rfl)) (pss_cons (ps_set (i := 3) sc.nd rfl (Or.inl rfl) (pe_c c_parts_of_terms hr (Nat.le_refl _) rfl (pa_cons (pv 0) pa_nil)))
      (pss_cons (ps_if (pt_not (pt_chain op_le op_lt pe_int (pv 2) (pe_callB (len_K K) rfl T.n_len bt_len (pa_cons (pv 3) pa_nil)))) (pss_one (ps_ret pe_non)) pss_nil)
      (pss_one (ps_set (i := 0) sc.nd rfl (Or.inl rfl) (pe_ix (ix_K K) (pv 3) (pv 2) (fun _ _ => rfl)))))))
      (pss_one (ps_ret (pv 0)))), ?_⟩
  have rp' : R K H vp (.tuple (ks.map fun i : Nat => PyData.int (i : Nat))) := rp
  have hkl := okP_len ks t ok
  walk_at "r"
  refine for_T (fun i σ' H' => Same H H' ∧ ∃ v' t' x2 x3, σ' = [some v', some vp, x2, x3] ∧ R K H' v' (Th.d t') ∧ t'.isT F b ∧ t'.okP (ks.drop i) ∧ t.at ks = t'.at (ks.drop i)) rp ⟨Same.refl _, v, t, _, _, rfl, r, ht, ok, rfl⟩ (fun _ _ _ p => p.1) ?_ ?_
  · rintro i d v1 σ' H1 hd rv ⟨s1, v', t', x2, x3, rfl, rt, ht', ok', hat⟩
    rw [List.getElem?_map] at hd
    obtain ⟨k1, hk1, rfl⟩ := Option.map_eq_some_iff.mp hd
    obtain rfl := rv.inv_int
    have hdr : ks.drop i = k1 :: ks.drop (i + 1) := by
      have hi := (List.getElem?_eq_some_iff.mp hk1)
      obtain ⟨hi, e⟩ := hi
      rw [List.drop_eq_getElem_cons hi, e]
    rw [hdr] at hat ok'
    cases t' with
    | app w c as =>
      obtain ⟨hk2, ok2⟩ := ok'
      have h4 := isT_app ht'
      have hm : as.getD k1 .fls ∈ as := by rw [List.getD_eq_getElem?_getD, List.getElem?_eq_getElem hk2]; exact List.getElem_mem hk2
      have hg : (Th.ds (Th.app w c as).parts)[((k1 : Nat) : Int).toNat]? = some (as.getD k1 .fls).d := ds_get (by
        show as[((k1 : Nat) : Int).toNat]? = _
        rw [List.getD_eq_getElem?_getD, List.getElem?_eq_getElem hk2]
        simpa using List.getElem?_eq_getElem hk2)
      have hl4 : (Th.ds (Th.app w c as).parts).length = as.length := ds_len _
      have h44 := h4.1
      walk_at "r"
      rename_i v3 H3 s3 r3 hb1 hb2 v4 r4
      exact ⟨s1.trans s3, v4, as.getD k1 .fls, _, _, rfl, r4, h4.2 _ hm, ok2, by rw [hat]; rfl⟩
    | free x => exact absurd ok' id
    | bnd x => exact absurd ok' id
    | fls => exact absurd ok' id
    | qua w c a => exact absurd ok' id
    | two w a c => exact absurd ok' id
  · rintro σ' H1 ⟨s1, v', t', x2, x3, rfl, rt, ht', ok', hat⟩
    walk_at "r"
    refine q _ _ (by walk_at "S") ?_
    rw [hat, show ks.drop (ks.map fun i => PyData.int (i : Nat)).length = [] from by rw [List.length_map, List.drop_length]]
    rw [show t'.at [] = t' from by cases t' <;> rfl]
    exact rt.mono (by walk_at "S")

theorem ok_with_place (T : Tp K mg) (c_with_place : Cal P w K mg base k "with_place" (spWith K n)) : Cal P w K mg base (k + 1) "with_place" (spWith K (n + 1)) := by
  refine T.d_with_place.cal sc_with_place (fun vs H Q E h => ?_) (fun f cdv A outer s H vs Q E hr h => ?_)
  · obtain ⟨v, vp, vo, t, o, ks, F, b, rfl, _⟩ := h; rfl
  obtain ⟨v, vp, vo, t, o, ks, F, b, rfl, r, rp, ro, ok, hm, hm', hz, q⟩ := h
  have sc := @sc_with_place
  refine ⟨_, (pss_cons (ps_if (pt_cmpR (op_eqK K hr) (pe_callB (len_K K) rfl T.n_len bt_len (pa_cons (pv 1) pa_nil)) pe_int (nomark _)) (pss_one (ps_ret (pv 2))) pss_nil)
      (pss_cons (ps_set (i := 3) sc.nd rfl (Or.inl rfl) (pe_ix (ix_K K) (pv 1) pe_int (fun _ _ => rfl)))
      (pss_cons (ps_set (i := 4) sc.nd rfl (Or.inl rfl) (pe_ix (ix_K K) (pv 0) pe_int (fun _ _ => rfl)))
      (pss_one (ps_ret (pe_tupK K (pa_cons (pe_ix (ix_K K) (pv 0) pe_int (fun _ _ => rfl)) (pa_cons (pe_ix (ix_K K) (pv 0) pe_int (fun _ _ => rfl)) (pa_cons (pe_op (op_addK K) (pe_op (op_addK K) (pe_slice (sl_K K) (pv 4) po_none (po_some (pv 3))) (pe_tupK K (pa_cons (pe_c c_with_place hr (Nat.le_refl _) rfl (pa_cons (pe_ix (ix_K K) (pv 4) (pv 3) (fun _ _ => rfl)) (pa_cons (pe_slice (sl_K K) (pv 1) (po_some pe_int) po_none) (pa_cons (pv 2) pa_nil)))) pa_nil))) (pe_slice (sl_K K) (pv 4) (po_some (pe_op (op_addK K) (pv 3) pe_int)) po_none)) pa_nil))))))))), ?_⟩
  have rp' : R K H vp (.tuple (ks.map fun i => .int (i : Nat))) := rp
  cases ks with
  | nil =>
    walk_at "r"
    exact q _ _ (by walk_at "S") (ro.mono (by walk_at "S"))
  | cons k1 ks =>
    cases t with
    | app w c args =>
      obtain ⟨hk, ok'⟩ := ok
      have r' : R K H v (.tuple [.str w.s, .str c, .tuple (Th.ds args)]) := r
      obtain ⟨hlen, hia⟩ := isT_app hz
      walk_at "r"
      · rename_i hb
        simp at hb
        omega
      rename_i hb rk va ra r3 r4 vt H1 s1 rt
      have hak : args[k1]? = some (args.getD k1 .fls) := by rw [List.getD_eq_getElem?_getD, List.getElem?_eq_getElem hk]; rfl
      have hsa := hia _ (List.mem_of_getElem? hak)
      refine ix_tupR (ra.mono s1) (by omega) (ds_get (t := args.getD k1 .fls) (by simpa using hak)) fun vx rx => ?_
      walk_at "r"
      rename_i vq H2 s2 rq
      have rq' : R K H2 vq (pls ks) := by rw [cutD_1] at rq; exact rq
      have hc := cutD_len (Th.ds args) none (some (k1 : Int))
      have hc2 := cutD_len (Th.ds args) (some ((k1 : Int) + 1)) none
      rw [ds_len] at hc hc2
      refine use_with (rx.mono s2) rq' (ro.mono (by walk_at "S")) ok' (by simp at hm; omega) (by simp at hm'; omega) hsa fun x3 H3 s3 r3' => ?_
      walk_at "r"
      rename_i vf Hf sf rf
      refine q _ _ (by walk_at "S") ?_
      have e : ((Th.app w c args).withP (k1 :: ks) o).d = .tuple [.str w.s, .str c, .tuple ((cutD (Th.ds args) none (some (k1 : Int)) ++ [((args.getD k1 .fls).withP ks o).d]) ++ cutD (Th.ds args) (some ((k1 : Int) + 1)) none)] := by
        rw [cutD_to, show ((k1 : Int) + 1) = ((k1 + 1 : Nat) : Int) from rfl, cutD_from]
        show PyData.tuple [.str w.s, .str c, .tuple (Th.ds (args.take k1 ++ [(args.getD k1 .fls).withP ks o] ++ args.drop (k1 + 1)))] = _
        rw [Th.ds_map, Th.ds_map, List.map_append, List.map_append, List.map_take, List.map_drop]
        rfl
      rw [e]
      exact rf
    | _ => exact absurd ok id
theorem with_place_n (T : Tp K mg) : ∀ n : Nat, Cal P w K mg base n "with_place" (spWith K n)
  | 0 => T.d_with_place.none fun vs H Q E h => by obtain ⟨v, vp, vo, t, o, ks, F, b, _, _, _, _, _, h0, _⟩ := h; exact absurd h0 (Nat.not_lt_zero _)
  | n + 1 => ok_with_place T (with_place_n T n)

theorem ok_stepped (T : Tp K mg) {A : CA} (c_at_place : Cal P w K mg base k "at_place" (spAtT K)) (c_gone : Cal P w K mg base k "gone" (spGone K A)) (c_with_place : Cal P w K mg base k "with_place" (spWith K 90)) : Cal P w K mg base (k + 1) "stepped" (spStepped K A) := by
  refine T.d_stepped.cal sc_stepped (fun vs H Q E h => ?_) (fun f cdv A' outer s H vs Q E hr h => ?_)
  · obtain ⟨v, vt, vp, g, bs, t, u, ks, F, b, rfl, _⟩ := h; rfl
  obtain ⟨v, vt, vp, g, bs, t, u, ks, F, b, rfl, hl, r, rp, ht, ok, hk, hc, q⟩ := h
  have sc := @sc_stepped
  refine ⟨_, (pss_one (ps_ret (pe_c c_with_place hr (Nat.le_refl _) rfl (pa_cons (pv 1) (pa_cons (pv 2) (pa_cons (pe_c c_gone hr (Nat.le_refl _) rfl (pa_cons (pv 0) (pa_cons (pe_c c_at_place hr (Nat.le_refl _) rfl (pa_cons (pv 1) (pa_cons (pv 2) pa_nil))) pa_nil))) pa_nil)))))), ?_⟩
  walk_at "r"
  refine use_atT r rp ht ok fun x1 H1 s1 r1 => ?_
  walk_at "r"
  refine use_gone (hl.mono s1) r1 hc fun x2 H2 s2 r2 => ?_
  walk_at "r"
  refine use_with (r.mono (s1.trans s2)) (rp.mono (s1.trans s2)) r2 ok (by omega) (by omega) ht fun x3 H3 s3 r3 => ?_
  walk_at "r"
  exact q _ _ (by walk_at "S") r3

end
end G

end

section














namespace G
open PySem PySem.Spec PyProof.Rows L2
section
variable {P : Program} {w : World} {K : PySem.W.Frag} {mg : Str → Option Value} {base : Heap} {k n : Nat}
theorem ok_l_lore (T : Tp K mg) {A : CA} (c_l_next : Cal P w K mg base (k + 1) "_law_next" spNext) (i_Lore : CalI P w K mg base k "Lore" A.lo (spMk K A .lo)) (i_Book : CalI P w K mg base k "Book" A.bo (spMk K A .bo)) : Cal P w K mg base (k + 2) "_law_lore" (spLore K A) := by
  refine T.d_l_lore.cal sc_l_lore (fun vs H Q E h => ?_) (fun f cdv A' outer s H vs Q E hr h => ?_)
  · obtain ⟨p, v, g, bs, rfl, _⟩ := h; rfl
  obtain ⟨p, v, g, bs, rfl, hp, hb, ok, B, hc, hw, q⟩ := h
  have sc := @sc_l_lore
  refine ⟨_, (pss_cons (ps_if (pt_cmpR (op_eqK K hr) (pe_c c_l_next hr (Nat.le_refl _) rfl (pa_cons (pv 0) (pa_cons pe_int pa_nil))) pe_int (nomark _)) (pss_one (ps_ret (pe_mkI i_Lore hr (Nat.le_refl _) rfl (pa_cons (pe_callTy (list_K K) rfl T.n_list bt_list (pa_cons (pe_ix (ix_K K) (pv 1) pe_int (fun _ _ => rfl)) pa_nil)) pa_nil)))) pss_nil)
      (pss_one (ps_ret (pe_mkI i_Book hr (Nat.le_refl _) rfl (pa_cons (pe_callTy (list_K K) rfl T.n_list bt_list (pa_cons (pe_ix (ix_K K) (pv 1) pe_int (fun _ _ => rfl)) pa_nil)) pa_nil))))), ?_⟩
  have rr := rows_right ok B
  have rl := rows_len B
  have key : ∀ (C : Who) (H1 : Hp) (y : V), Same H H1 → R K H1 y (.list ((rowsOf g bs).map Row.d)) → ∀ x dx, H1 x = none → H1 dx = none → dx ≠ x → ∀ vs, vs = [y] → spMk K A C (.ref x :: (vs ++ [])) (upd (upd H1 dx (.own x)) x (.ins (A.at C) dx [])) (fun v H2 => v = .non ∧ Q (.ref x) H2) E0 := by
    rintro C H1 y s1 ry x dx hx hdx hne vs rfl
    exact ⟨x, y, H1, dx, rowsOf g bs, rfl, same_ins hx hdx, hx, upd_same, ry, rr, by omega, fun H3 s3 h3 => ⟨rfl, q _ _ (s1.trans s3) h3⟩⟩
  walk_at "r"
  · refine ix_b0 (hb.mono (by walk_at "S")) fun y ry => ?_
    walk_at "r"
    rename_i v1 H1 s1 r1
    exact fun x dx hx hdx hne => key .lo _ v1 (by walk_at "S") r1 x dx hx hdx hne _ rfl
  · refine ix_b0 (hb.mono (by walk_at "S")) fun y ry => ?_
    walk_at "r"
    rename_i v1 H1 s1 r1
    exact fun x dx hx hdx hne => key .bo _ v1 (by walk_at "S") r1 x dx hx hdx hne _ rfl

end
end G

end

section














namespace G
open PySem PySem.Spec PyProof.Rows L2
section
variable {P : Program} {w : World} {K : PySem.W.Frag} {mg : Str → Option Value} {base : Heap} {k n : Nat}
theorem map_of {α : Type} {f : α → PyData} {P : α → Prop} : ∀ {es : List PyData}, (∀ e ∈ es, ∃ x, e = f x ∧ P x) → ∃ xs : List α, es = xs.map f ∧ ∀ x ∈ xs, P x
  | [], _ => ⟨[], rfl, by simp⟩
  | e :: es, h => by
    obtain ⟨z, rfl, hz⟩ := h e (by simp)
    obtain ⟨ys, rfl, hy⟩ := map_of (es := es) (P := P) fun e he => h e (by simp [he])
    exact ⟨z :: ys, rfl, fun y hy' => by rcases List.mem_cons.mp hy' with rfl | q; exact hz; exact hy y q⟩
theorem ok_l_things (T : Tp K mg) (c_l_next : Cal P w K mg base k "_law_next" spNext) : Cal P w K mg base (k + 1) "_law_things" (spThings K) := by
  refine T.d_l_things.cal sc_l_things (fun vs H Q E h => ?_) (fun f cdv A outer s H vs Q E hr h => ?_)
  · obtain ⟨p, v, vn, g, zs, rfl, _⟩ := h; rfl
  obtain ⟨p, v, vn, g, zs, rfl, hp, hb, ok, rz, n42, q⟩ := h
  have sc := @sc_l_things
  refine ⟨_, (pss_cons (ps_set (i := 3) sc.nd rfl (Or.inl rfl) (pe_c c_l_next hr (Nat.le_refl _) rfl (pa_cons (pv 0) (pa_cons pe_int pa_nil))))
      (pss_cons (ps_set (i := 4) sc.nd rfl (Or.inl rfl) (pe_ix (ix_K K) (pe_lstK K (pa_cons (pe_c c_l_next hr (Nat.le_refl _) rfl (pa_cons (pv 0) (pa_cons pe_int pa_nil))) (pa_cons (pe_op (op_addK K) pe_int (pe_c c_l_next hr (Nat.le_refl _) rfl (pa_cons (pv 0) (pa_cons pe_int pa_nil)))) pa_nil))) (pe_callTy call_int1R rfl T.n_int bt_int (pa_cons (pe_cmpR (op_eqK K hr) (pe_c c_l_next hr (Nat.le_refl _) rfl (pa_cons (pv 0) (pa_cons pe_int pa_nil))) pe_int (nomark _)) pa_nil)) (fun _ _ => rfl)))
      (pss_cons (ps_set (i := 5) sc.nd rfl (Or.inl rfl) (pe_slice (sl_K K) (pe_op (op_addK K) (pe_slice (sl_K K) (pv 2) (po_some (pv 3)) po_none) (pe_slice (sl_K K) (pv 2) po_none (po_some (pv 3)))) po_none (po_some (pv 4))))
      (pss_one (ps_ret (pe_lc (own := [("_law_x", 6)]) (g := gName 6) (tt := tYes) rfl sc.nd (pi_listK K (pv 5)) (blkOk_by (N := n_l_things) (sc := defScope s_l_things) (by decide +kernel)) (fun _ _ _ _ _ => pg_name (i := 6) sc.nd rfl (Or.inl rfl)) (fun _ _ _ _ _ => pts_nil) (fun _ _ _ _ _ => pe_hide (pe_tupK K (pa_cons (pv 6) (pa_cons (pe_ix (ix_K K) (pe_ix (ix_K K) (pv 1) pe_int (fun _ _ => rfl)) (pe_c c_l_next hr (Nat.le_refl _) rfl (pa_cons (pv 0) (pa_cons pe_int pa_nil))) (fun _ _ => rfl)) pa_nil)))))))))), ?_⟩
  have zl : (zs.map PyData.str).length = 42 := by rw [List.length_map, n42.len]
  walk_at "r"
  rename_i cut H1 s1 hc1 hc2 m1 H2 s2 hm1 hm2 m2 H3 s3 hm3 hm4 v4 H4 s4 r4 m5 H5 s5 hm5 hm6 v6 d6 hd6 r6 v7 H7 s7 r7 v8 H8 s8 r8
  obtain ⟨m, rfl, hm9⟩ : ∃ m : Nat, d6 = .int (m : Int) ∧ m ≤ 9 := by
    by_cases h0 : m5 = 0
    · rw [if_pos (by simpa using h0)] at hd6
      have : PyData.int (7 + m2) = d6 := Option.some.inj hd6
      exact ⟨(7 + m2).toNat, by rw [← this]; congr 1; omega, by omega⟩
    · rw [if_neg (by simpa using h0)] at hd6
      have : PyData.int m1 = d6 := Option.some.inj hd6
      exact ⟨m1.toNat, by rw [← this]; congr 1; omega, by omega⟩
  obtain rfl := r6.inv_int
  have l7 := cutD_len (zs.map PyData.str) (some cut) none
  have l8 := cutD_len (zs.map PyData.str) none (some cut)
  rw [zl] at l7 l8
  clear r4 hd6
  walk_at "r"
  rename_i v9 H9 s9 r9 v10 H10 s10 r10
  rw [cutD_to] at r10
  have hS : Same H H10 := ((((((((s1.trans s2).trans s3).trans s4).trans s5).trans s7).trans s8).trans s9).trans s10)
  have hp10 := hS _ _ hp
  have hb10 := hb.mono hS
  have kl3 : (g.kinds.map PyData.str).length = 3 := rfl
  generalize hL : List.take m (cutD (zs.map PyData.str) (some cut) none ++ cutD (zs.map PyData.str) none (some cut)) = L at r10
  have hLl : L.length ≤ 9 := by rw [← hL, List.length_take]; omega
  have hLs : ∀ d ∈ L, ∃ z : Str, d = .str z ∧ isNameS z = true := fun d hd => by
    rw [← hL] at hd
    have hd := List.mem_of_mem_take hd
    have hd : d ∈ zs.map PyData.str := by rcases List.mem_append.mp hd with h | h <;> exact mem_cutD h
    obtain ⟨z, hz, rfl⟩ := List.mem_map.mp hd
    exact ⟨z, rfl, (n42.nm z hz).ok⟩
  clear r7 r8 r9 hL s1 s2 s3 s4 s5 s7 s8 s9 s10
  refine lc_L (K := K) (fun i e => ∃ x : Str × Str, e = thingD x ∧ isNameS x.1 = true ∧ x.2 ∈ g.kinds) r10 (by omega) (fun _ => rfl) (fun i v d H11 hd rv s11 Qt hQ => ?_) (fun v11 H11 es s11 r11 hl11 hP11 => ?_)
  · obtain ⟨z, rfl, hz⟩ := hLs d (List.mem_of_getElem? hd)
    obtain rfl := rv.inv_str
    replace hp10 := s11 _ _ hp10
    replace hb10 := hb10.mono s11
    walk_at "r"
    rename_i w1 q1 n1 H12 s12 e1 e2 k1 hk1 w2 H13 s13 q2
    exact hQ _ _ _ (by walk_at "S") q2 ⟨(z, k1), rfl, hz, hk1⟩
  obtain ⟨xs, rfl, hxs⟩ := map_of (f := thingD) (P := fun x : Str × Str => isNameS x.1 = true ∧ x.2 ∈ g.kinds) (es := es) fun e he => by
    obtain ⟨i, hi⟩ := List.getElem?_of_mem he
    exact hP11 i e hi
  walk_at "r"
  rw [List.length_map] at hl11
  exact q _ xs _ (hS.trans (by walk_at "S")) (by with_reducible first | assumption | walk_at "R") (by omega) (fun x hx => (hxs x hx).1) fun x hx => (hxs x hx).2

end
end G

end

section














namespace G
open PySem PySem.Spec PyProof.Rows L2
section
variable {P : Program} {w : World} {K : PySem.W.Frag} {mg : Str → Option Value} {base : Heap} {k n : Nat}
theorem ok_l_put (T : Tp K mg) (c_l_put : Cal P w K mg base k "_law_put" (spPutA K n)) : Cal P w K mg base (k + 1) "_law_put" (spPutA K (n + 1)) := by
  refine T.d_l_put.cal sc_l_put (fun vs H Q E h => ?_) (fun f cdv A outer s H vs Q E hr h => ?_)
  · obtain ⟨v, u, t, as, F, rfl, _⟩ := h; rfl
  obtain ⟨v, u, t, as, F, rfl, r, ra, ht, hal, hd, q⟩ := h
  have sc := @sc_l_put
  refine ⟨_, (pss_cons (ps_if (pt_cmpR (op_eqK K hr) (pe_ix (ix_K K) (pv 0) pe_int (fun _ _ => rfl)) pe_str (nomark _)) (pss_one (ps_ret (pe_ix (ix_K K) (pv 1) (pe_ix (ix_K K) (pv 0) pe_int (fun _ _ => rfl)) (fun _ _ => rfl)))) pss_nil)
      (pss_cons (ps_if (pt_cmpR (op_eqK K hr) (pe_ix (ix_K K) (pv 0) pe_int (fun _ _ => rfl)) pe_str (nomark _)) (pss_one (ps_ret (pv 0))) pss_nil)
      (pss_one (ps_ret (pe_tupK K (pa_cons (pe_ix (ix_K K) (pv 0) pe_int (fun _ _ => rfl)) (pa_cons (pe_ix (ix_K K) (pv 0) pe_int (fun _ _ => rfl)) (pa_cons (tupleOf_K K rfl T.n_tuple (pe_lc (own := [("_law_part", 2)]) (g := gName 2) (tt := tYes) rfl sc.nd (pi_tupK K (pe_ix (ix_K K) (pv 0) pe_int (fun _ _ => rfl))) (blkOk_by (N := n_l_put) (sc := defScope s_l_put) (by decide +kernel)) (fun _ _ _ _ _ => pg_name (i := 2) sc.nd rfl (Or.inl rfl)) (fun _ _ _ _ _ => pts_nil) (fun _ _ _ _ _ => pe_hide (pe_c c_l_put hr (Nat.le_refl _) rfl (pa_cons (pv 2) (pa_cons (pv 1) pa_nil)))))) pa_nil)))))))), ?_⟩
  cases t with
  | free x =>
    change R K H v (.tuple [.str "free", .str x]) at r
    walk_at "r"
    exact q _ _ (Same.refl _) r
  | bnd i =>
    change R K H v (.tuple [.str "bound", .int (i : Nat)]) at r
    have hi : i < as.length := ht
    have hg : (Th.ds as)[Int.toNat ((i : Nat) : Int)]? = some (as[i]).d := ds_get (by simp [hi])
    walk_at "r"
    rename_i v1 r1
    refine q _ _ (Same.refl _) ?_
    rw [show Th.putA as (.bnd i) = as[i] by simp [Th.putA, hi]]
    exact r1
  | app w c args =>
    have hw : w = .form ∨ w = .call := by cases w <;> first | simp; done | exact ht.elim
    obtain ⟨hl, hts⟩ : args.length ≤ 4 ∧ Th.areT F as.length args := by rcases hw with rfl | rfl <;> exact ⟨ht.2.1, ht.2.2⟩
    have hda := Th.deps_le.mp (Nat.le_of_succ_le_succ hd)
    rcases hw with rfl | rfl
    all_goals
      first | change R K H v (.tuple [.str "form", .str c, .tuple (Th.ds args)]) at r | change R K H v (.tuple [.str "call", .str c, .tuple (Th.ds args)]) at r
      walk_at "r"
      rename_i va rva
      refine lcT_th (fun t => (t.putA as).d) rva (by omega) (fun _ => rfl) (fun v1 t1 H1 hm r1 s1 Qt hQ => ?_) (fun v1 H1 s1 r1 => ?_)
      · walk_at "r"
        refine use_putA r1 (ra.mono s1) (Th.areT_all.mp hts t1 hm) hal (hda t1 hm) fun u2 H2 s2 r2 => ?_
        exact hQ _ _ s2 r2
      rw [← Th.ds_putAs] at r1
      walk_at "r"
      exact q _ _ (by walk_at "S") (by assumption)
  | fls => exact ht.elim
  | qua w k a => exact ht.elim
  | two w a b => exact ht.elim
theorem l_put_n (T : Tp K mg) : ∀ n : Nat, Cal P w K mg base n "_law_put" (spPutA K n)
  | 0 => T.d_l_put.none fun vs H Q E h => by obtain ⟨v, u, t, as, F, _, _, _, _, _, h0, _⟩ := h; have := t.dep_pos; omega
  | n + 1 => ok_l_put T (l_put_n T n)

theorem ok_l_here (T : Tp K mg) (c_l_put : Cal P w K mg base k "_law_put" (spPutA K 60)) : Cal P w K mg base (k + 1) "_law_here" (spHere K) := by
  refine T.d_l_here.cal sc_l_here (fun vs H Q E h => ?_) (fun f cdv A' outer s H vs Q E hr h => ?_)
  · obtain ⟨vb, vt, g, bs, t, o, rfl, _⟩ := h; rfl
  obtain ⟨vb, vt, g, bs, t, o, rfl, hb, ok, r, hc, q⟩ := h
  have sc := @sc_l_here
  refine ⟨_, (pss_cons (ps_if (pt_cmpR (op_neK K hr) (pe_ix (ix_K K) (pv 1) pe_int (fun _ _ => rfl)) pe_str (nomark _)) (pss_one (ps_ret pe_non)) pss_nil)
      (pss_cons (ps_set (i := 2) sc.nd rfl (Or.inl rfl) (pe_dgetH hr (pe_ix (ix_K K) (pv 0) pe_int (fun _ _ => rfl)) (pe_ix (ix_K K) (pv 1) pe_int (fun _ _ => rfl)) (fun _ _ => rfl)))
      (pss_cons (ps_if (pt_cmpR (op_eqK K hr) (pe_ix (ix_K K) (pv 2) pe_int (fun _ _ => rfl)) pe_str (nomark _)) (pss_one (ps_ret (pe_c c_l_put hr (Nat.le_refl _) rfl (pa_cons (pe_ix (ix_K K) (pv 2) pe_int (fun _ _ => rfl)) (pa_cons (pe_ix (ix_K K) (pv 1) pe_int (fun _ _ => rfl)) pa_nil))))) pss_nil)
      (pss_cons (ps_if (PW.pt (pw_or (pt_cmpR (op_eqK K hr) (pe_ix (ix_K K) (pv 2) pe_int (fun _ _ => rfl)) pe_str (nomark _)) (pw_or1 (pt_cmpR (op_neK K hr) (pe_ix (ix_K K) (pe_ix (ix_K K) (pe_ix (ix_K K) (pv 1) pe_int (fun _ _ => rfl)) pe_int (fun _ _ => rfl)) pe_int (fun _ _ => rfl)) pe_str (nomark _))))) (pss_one (ps_ret pe_non)) pss_nil)
      (pss_cons (ps_setLc (i := 3) (own := [("_law_name", 4), ("_law_parts", 5)]) (g := g2 K 4 5) (tt := tYes) rfl sc.nd rfl rfl (sw_true rfl rfl rfl (by decide +kernel)) (pi_listK K (pe_dgetH hr (pe_ix (ix_K K) (pv 0) pe_int (fun _ _ => rfl)) (pe_ix (ix_K K) (pe_ix (ix_K K) (pv 2) pe_int (fun _ _ => rfl)) pe_int (fun _ _ => rfl)) (fun _ _ => rfl))) (blkOk_by (N := n_l_here) (sc := defScope s_l_here) (by decide +kernel)) (fun _ _ _ _ _ => gtK K (pg_tup (n := 2) rfl (pgs_cons (pg_name (i := 4) sc.nd rfl (Or.inl rfl)) (pgs_cons (pg_name (i := 5) sc.nd rfl (Or.inl rfl)) pgs_nil)))) (fun _ _ _ _ _ => pts_nil) (fun _ _ _ _ _ => pe_hide (pv 4)))
      (pss_one (ps_ret (pe_c c_l_put hr (Nat.le_refl _) rfl (pa_cons (pe_ix (ix_K K) (pe_ix (ix_K K) (pv 2) pe_int (fun _ _ => rfl)) (bmIK K (pe_bm PySem.F.plainAttrs_list PySem.F.slot_list_index PySem.F.type_list_index mt_index (pv 3) (pa_cons (pe_ix (ix_K K) (pe_ix (ix_K K) (pe_ix (ix_K K) (pv 1) pe_int (fun _ _ => rfl)) pe_int (fun _ _ => rfl)) pe_int (fun _ _ => rfl)) pa_nil))) (fun _ _ => rfl)) (pa_cons (pe_op (op_addK K) (pe_ix (ix_K K) (pe_ix (ix_K K) (pe_ix (ix_K K) (pv 1) pe_int (fun _ _ => rfl)) pe_int (fun _ _ => rfl)) pe_int (fun _ _ => rfl)) (pe_slice (sl_K K) (pe_ix (ix_K K) (pv 1) pe_int (fun _ _ => rfl)) (po_some pe_int) po_none)) pa_nil)))))))))), ?_⟩
  have fl : ∀ {z : Str} {r : Row}, (funsOf (rowsOf g bs)).lookup z = some r → (funD (rowsOf g bs)).lookup z = some r.d := fun {z r} h => by
    rw [funD, lookup_onV, h]; rfl
  cases hc with
  | free x =>
    have r' : R K H vt (.tuple [.str "free", .str x]) := r
    walk_at "r"
    exact q _ _ (by walk_at "S") .non
  | bnd j =>
    have r' : R K H vt (.tuple [.str "bound", .int (j : Int)]) := r
    walk_at "r"
    exact q _ _ (by walk_at "S") .non
  | form c as =>
    have r' : R K H vt (.tuple [.str "form", .str c, .tuple (Th.ds as)]) := r
    walk_at "r"
    exact q _ _ (by walk_at "S") .non
  | given c as ps kk h =>
    have r' : R K H vt (.tuple [.str "call", .str c, .tuple (Th.ds as)]) := r
    walk_at "r"
    refine ix_b4 hb fun D hD => ?_
    walk_at "r"
    refine dgetk_D hD (fl h) fun u ru => ?_
    have ru' : R K H u (.tuple [.str "given", .str c, partsD ps, .str kk]) := ru
    walk_at "r"
    exact q _ _ (by walk_at "S") .non
  | short c as ps kk s h h1 h2 h3 =>
    have r' : R K H vt (.tuple [.str "call", .str c, .tuple (Th.ds as)]) := r
    walk_at "r"
    refine ix_b4 hb fun D hD => ?_
    walk_at "r"
    refine dgetk_D hD (fl h) fun u ru => ?_
    have ru' : R K H u (.tuple [.str "short", .str c, partsD ps, .str kk, s.d]) := ru
    walk_at "r"
    rename_i v4 r4 v5 r5
    refine use_putA r4 r5 h2 (by omega) (by omega) fun x H2 s2 r2 => ?_
    walk_at "r"
    exact q _ _ (by walk_at "S") r2
  | stay c a0 as ps kk ts h hn =>
    obtain ⟨ww, rr, e0, ne⟩ := hn
    have r' : R K H vt (.tuple [.str "call", .str c, .tuple (a0.d :: Th.ds as)]) := r
    rw [e0] at r'
    have nw : ww ≠ "form" := by simpa using ne
    walk_at "r"
    refine ix_b4 hb fun D hD => ?_
    walk_at "r"
    refine dgetk_D hD (fl h) fun u ru => ?_
    have ru' : R K H u (.tuple [.str "rule", .str c, partsD ps, .str kk, .tuple (Th.ds ts)]) := ru
    walk_at "r"
    · exact q _ _ (by walk_at "S") .non
  | rule c d qs as k0 ks kk ts i ps2 s h hk hk2 hi nd hs hst hd hf ht hl2 hq =>
    have r' : R K H vt (.tuple [.str "call", .str c, .tuple (.tuple [.str "form", .str d, .tuple (Th.ds qs)] :: Th.ds as)]) := r
    walk_at "r"
    refine ix_b4 hb fun D hD => ?_
    walk_at "r"
    refine dgetk_D hD (fl h) fun u ru => ?_
    have ru' : R K H u (.tuple [.str "rule", .str c, .tuple (.str k0 :: ks.map PyData.str), .str kk, .tuple (Th.ds ts)]) := ru
    walk_at "r"
    refine ix_b1 hb.b fun af lb lc hf0 rb0 rc0 => ?_
    walk_at "r"
    obtain ⟨w1, hw1, rw1⟩ := (val_forms ok rb0 rc0).1 hk2
    refine dget_at hf0 hw1 ?_
    refine lcLY (K := K) (fun d => match d with | .tuple (x :: _) => x | _ => .none) rw1 (by rw [List.length_map]; omega) (fun _ _ => rfl) (fun d hd => by obtain ⟨x, _, rfl⟩ := List.mem_map.mp hd; exact ⟨_, _, rfl⟩) (fun v1 v2 d1 d2 H9 hd r1 r2 s9 Qt hQ => ?_) (fun v3 H3 s3 r3 => ?_)
    · obtain ⟨x, _, e'⟩ := List.mem_map.mp hd
      cases e'
      walk_at "r"
      exact hQ _ _ (by walk_at "S") (by with_reducible assumption)
    have e3 : ((g.forms k0).map formD).map (fun d => match d with | .tuple (x :: _) => x | _ => .none) = ((g.forms k0).map (·.1)).map PyData.str := by
      rw [List.map_map, List.map_map]; rfl
    rw [e3] at r3
    have hgi : ((g.forms k0).map (·.1))[i]? = some d := by rw [List.getElem?_map, hi]; rfl
    have hgs : (Th.ds ts)[((i : Nat) : Int).toNat]? = some s.d := ds_get (by simpa using hs)
    walk_at "r"
    refine r3.tyl ?_
    walk_at "r"
    refine index_R r3 nd hgi ?_
    walk_at "r"
    rename_i vs rs v5 r5 v6a r6a v6 r6 v7 r7 v8 H8 s8 r8
    have r8' : R K H8 v8 (.tuple (Th.ds as)) := by rw [cutD_1] at r8; exact r8
    have l1 : (Th.ds qs).length ≤ 4 := by rw [ds_len]; exact hq
    have l2 : (Th.ds as).length ≤ 3 := by rw [ds_len]; exact hl2
    clear r8
    walk_at "r"
    rename_i v9 H9 s9 r9
    have r9' : R K H9 v9 (.tuple (Th.ds (qs ++ as))) := by rw [ds_app]; exact r9
    refine use_putA (R.mono (by walk_at "S") rs) r9' hst (by rw [List.length_append]; omega) (by omega) fun x H10 s10 r10 => ?_
    walk_at "r"
    exact q _ _ (by walk_at "S") r10

end
end G

end

section














namespace G
open PySem PySem.Spec PyProof.Rows L2
section
variable {P : Program} {w : World} {K : PySem.W.Frag} {mg : Str → Option Value} {base : Heap} {k n : Nat}
theorem ok_l_are_places (T : Tp K mg) : Cal P w K mg base (k + 1) "_law_are_places" (spAreP K) := by
  refine T.d_l_are_places.cal sc_l_are_places (fun vs H Q E h => ?_) (fun f cdv A outer s H vs Q E hr h => ?_)
  · obtain ⟨v, ps, rfl, _⟩ := h; rfl
  obtain ⟨v, ps, rfl, r, hl, hq, q⟩ := h
  have sc := @sc_l_are_places
  refine ⟨_, (pss_cons (ps_if (pt_not (pt_val (pe_callB (isi_K K) rfl T.n_isinstance bt_isinstance (pa_cons (pv 0) (pa_cons (pe_bltn (v := .ty "list") rfl T.n_list bt_list rfl) pa_nil))))) (pss_one (ps_ret pe_bl)) pss_nil)
      (pss_cons (ps_for PassesOwn.never rfl (pi_listK K (pv 0)) (pg_name (i := 1) sc.nd rfl (Or.inl rfl)) (pss_one (ps_if (PW.pt (pw_or (pt_not (pt_val (pe_callB (isi_K K) rfl T.n_isinstance bt_isinstance (pa_cons (pv 1) (pa_cons (pe_bltn (v := .ty "tuple") rfl T.n_tuple bt_tuple rfl) pa_nil))))) (pw_or1 (pt_not (pt_val (pe_callB (all_K K rfl) rfl T.n_all bt_all (pa_cons (pe_lc (own := [("_law_k", 2)]) (g := gName 2) (tt := tYes) rfl sc.nd (pi_tupK K (pv 1)) (blkOk_by (N := n_l_are_places) (sc := defScope s_l_are_places) (by decide +kernel)) (fun _ _ _ _ _ => pg_name (i := 2) sc.nd rfl (Or.inl rfl)) (fun _ _ _ _ _ => pts_nil) (fun _ _ _ _ _ => pe_hide (pe_and (pe_callB (isi_K K) rfl T.n_isinstance bt_isinstance (pa_cons (pv 2) (pa_cons (pe_bltn (v := .ty "int") rfl T.n_int bt_int rfl) pa_nil))) (pe_one (pe_not (pe_callB (isi_K K) rfl T.n_isinstance bt_isinstance (pa_cons (pv 2) (pa_cons (pe_bltn (v := .ty "bool") rfl T.n_bool bt_bool rfl) pa_nil)))))))) pa_nil))))))) (pss_one (ps_ret pe_bl)) pss_nil)))
      (pss_one (ps_ret pe_bl)))), ?_⟩
  walk_at "r"
  refine for_LD (fun i σ' H' => Same H H' ∧ ∃ x1 x2 : Option V, σ' = [some v, x1, x2]) r ⟨Same.refl _, _, _, rfl⟩ (fun _ _ _ h => h.1) ?_ ?_
  · rintro i d v1 σ' H1 hd rv ⟨s1, x1, x2, rfl⟩
    rw [List.getElem?_map] at hd
    obtain ⟨ks, hks, rfl⟩ := Option.map_eq_some_iff.mp hd
    have hk1 := hq ks (List.mem_of_getElem? hks)
    have rv' : R K H1 v1 (.tuple (ks.map fun i : Nat => PyData.int (i : Nat))) := rv
    walk_at "r"
    refine lc_T (K := K) (fun i e => e = .bool true) rv' (by rw [List.length_map]; omega) (fun _ => rfl) (fun j v2 d2 H2 hd2 rv2 s2 Qt hQ => ?_) (fun v3 H3 es s3 r3 hl3 hP3 => ?_)
    · rw [List.getElem?_map] at hd2
      obtain ⟨n, _, rfl⟩ := Option.map_eq_some_iff.mp hd2
      obtain rfl := rv2.inv_int
      walk_at "r"
      exact hQ _ _ _ (by walk_at "S") (R.bl true) rfl
    have e3 : es = (List.replicate es.length true).map PyData.bool := by
      rw [List.map_replicate]
      exact List.eq_replicate_iff.mpr ⟨rfl, fun e he => by obtain ⟨j, hj⟩ := List.getElem?_of_mem he; exact hP3 j e hj⟩
    rw [e3] at r3
    walk_at "r"
    refine all_R r3 ?_
    rw [show (List.replicate es.length true).all id = true from by simp]
    walk_at "r"
    exact ⟨by walk_at "S", _, _, rfl⟩
  · rintro σ' H1 ⟨s1, x1, x2, rfl⟩
    walk_at "r"
    exact q _ (by walk_at "S")

end
end G

end

section














namespace G
open PySem PySem.Spec PyProof.Rows L2
section
variable {P : Program} {w : World} {K : PySem.W.Frag} {mg : Str → Option Value} {base : Heap} {k n : Nat}
theorem ok_l_places (T : Tp K mg) (c_l_here : Cal P w K mg base k "_law_here" (spHere K)) (c_l_args : Cal P w K mg base k "_law_args" (spArgs K)) (c_l_places : Cal P w K mg base k "_law_places" (spPlacesL K n)) : Cal P w K mg base (k + 1) "_law_places" (spPlacesL K (n + 1)) := by
  refine T.d_l_places.cal sc_l_places (fun vs H Q E h => ?_) (fun f cdv A outer s H vs Q E hr h => ?_)
  · obtain ⟨vb, vt, vp, g, bs, t, pre, k, xs, is, rfl, _⟩ := h; rfl
  obtain ⟨vb, vt, vp, g, bs, t, pre, kk, xs, is, rfl, hb, ok, B, r, rp, hk, nx, hd, hz, hpn, q⟩ := h
  have sc := @sc_l_places
  refine ⟨_, (pss_cons (ps_set (i := 3) sc.nd rfl (Or.inl rfl) (pe_lstF K pa_nil))
      (pss_cons (ps_if (pt_cmpR op_nisU (pe_c c_l_here hr (Nat.le_refl _) rfl (pa_cons (pv 0) (pa_cons (pv 1) pa_nil))) pe_non (nomark _)) (pss_one (ps_expr (bmK K (pe_bm PySem.F.plainAttrs_list PySem.F.slot_list_append PySem.F.type_list_append mt_append (pv 3) (pa_cons (pv 2) pa_nil))))) pss_nil)
      (pss_cons (ps_for PassesOwn.never rfl (pi_enumTK K rfl T.n_enumerate (pa_cons (pe_c c_l_args hr (Nat.le_refl _) rfl (pa_cons (pv 1) pa_nil)) pa_nil)) (gtK K (pg_tup (n := 2) rfl (pgs_cons (pg_name (i := 4) sc.nd rfl (Or.inl rfl)) (pgs_cons (pg_name (i := 5) sc.nd rfl (Or.inl rfl)) pgs_nil)))) (pss_one (ps_expr (bmK K (pe_bm PySem.F.plainAttrs_list PySem.F.slot_list_extend PySem.F.type_list_extend mt_extend (pv 3) (pa_cons (pe_c c_l_places hr (Nat.le_refl _) rfl (pa_cons (pv 0) (pa_cons (pv 5) (pa_cons (pe_op (op_addK K) (pv 2) (pe_tupK K (pa_cons (pv 4) pa_nil))) pa_nil)))) pa_nil))))))
      (pss_one (ps_ret (pv 3)))))), ?_⟩
  have ht : t.isT (xs.map (·.1)) is.length := Th.kd_isT ok (fun x hx => ⟨(ok.cn x hx).1, (ok.cn x hx).2.1⟩) nx t hk
  have hc := stc ok B hk
  have hargs := args_kd hk
  have hargs2 : ∀ a ∈ t.args, a.isT (xs.map (·.1)) is.length ∧ a.dep ≤ n := Th.args_ok t ht hd
  have hza := Th.sz_args t ht
  rw [Th.here_args t ht] at q
  have rp' : R K H vp (.tuple (pre.map fun i : Nat => PyData.int (i : Nat))) := rp
  have hpl2 : (pre.map fun i : Nat => PyData.int (i : Nat)).length + 1 ≤ 1000000 := by rw [List.length_map]; omega
  walk_at "u"
  rename_i l H2 f2 s2 hl2 ra2
  have kl : Lk K H2 l [] := Lk.of hl2 ra2 (by rfl)
  clear hl2 ra2
  generalize hP0 : (fun q : List Nat => pls (pre ++ q)) = P0 at q
  have fl : H l = none := f2
  refine if_joinP (fun H' => Lk K H' l ((bif canT g bs t then [[]] else []).map P0) ∧ Same H H') (fun P hP => ?_) fun H7 hp7 => ?_
  · walk_at "r"
    refine use_here (hb.mono s2) ok (r.mono s2) hc fun x H3 s3 rx => ?_
    have k3 := kl.mono s3
    unfold canT at hP
    cases ho : stepT g bs t with
    | none =>
      rw [ho] at hP rx
      have rx' : R K H3 x .none := rx
      obtain rfl : x = .non := by cases rx'; rfl
      walk_at "r"
      exact hP _ ⟨k3, s2.trans s3⟩
    | some u =>
      rw [ho] at hP rx
      have rx' : R K H3 x u.d := rx
      have hun : isNone u.d = false := by
        cases u with
        | two w a b => cases w <;> rfl
        | qua w c a => cases w <;> rfl
        | app w c a => cases w <;> rfl
        | _ => rfl
      have hun2 : ¬ isNone u.d = true := by rw [hun]; decide
      walk_at "r"
      refine k3.ty ?_
      walk_at "r"
      refine app_L k3 (rp.mono (s2.trans s3)) (by simp) (noL_pls _) fun H8 x8 k8 => ?_
      refine hP _ ⟨?_, SameX.same (s2.trans s3) x8 fl⟩
      rw [← hP0]
      show Lk K H8 l [pls (pre ++ [])]
      rw [List.append_nil]; exact k8
  · clear kl
    obtain ⟨kl, s7⟩ := hp7
    walk_at "u"
    refine use_args (r.mono s7) ht fun y H3 s3 ry => ?_
    obtain ⟨a, ys, rfl, ha, ra⟩ := ry.inv_tup
    have hal := len_szs t.args
    walk_at "u"
    refine for_Ex (K := K) (ds := Th.ds t.args) (fun i σ' H' => (Same H H' ∧ Lk K H' l ((hereTo (canT g bs) t i).map P0) ∧ i ≤ t.args.length) ∧ (SqT K H' a ys ∧ RA K H' ys (Th.ds t.args)) ∧ ∃ x4 x5 : Option V, σ' = [some vb, some vt, some vp, some (.ref l), x4, x5])
      ⟨⟨s7.trans s3, by rw [hereTo_0]; exact kl.mono s3, Nat.zero_le _⟩, ⟨ha, ra⟩, _, _, rfl⟩ (fun _ _ _ h => h.2.1) (fun i σ' H' H'' h s => ⟨⟨h.1.1.trans s, h.1.2.1.mono s, h.1.2.2⟩, ⟨s.tup h.2.1.1, h.2.1.2.mono s⟩, h.2.2⟩) ?_ ?_
    · rintro i d vd σ' H4 hd' rd ⟨⟨s4, k4, hil⟩, ⟨ha4, ra4⟩, x4, x5, rfl⟩
      rw [Th.ds_map, List.getElem?_map] at hd'
      obtain ⟨p, hpi, rfl⟩ := Option.map_eq_some_iff.mp hd'
      have hpm := List.mem_of_getElem? hpi
      obtain ⟨kp, hkp⟩ := hargs p hpm
      have hp3 := hargs2 p hpm
      have hpz := sz_mem hpm
      have hiL := (List.getElem?_eq_some_iff.mp hpi).1
      clear s2 s7 s3 kl ra ry
      walk_at "r"
      refine k4.ty ?_
      walk_at "r"
      rename_i v5 H5 s5 r5 v6 H6 s6 r6
      have r6' : R K H6 v6 (pls (pre ++ [i])) := by
        have e : pls (pre ++ [i]) = .tuple ((pre.map fun i : Nat => PyData.int (i : Nat)) ++ [.int (i : Nat)]) := by simp [pls]
        rw [e]; exact r6
      refine use_placesL (hb.mono (s4.trans (s5.trans s6))) ok B (R.mono (s5.trans s6) rd) r6' hkp nx hp3.2 (by omega) (by rw [List.length_append, List.length_singleton]; omega) fun y7 H7 f7 s7 r7 => ?_
      walk_at "r"
      have s47 : Same H4 H7 := (s5.trans s6).trans s7
      have k7 := k4.mono s47
      have hl1 := hereTo_len (canT g bs) t i
      have hl3 := Th.here_len (p := canT g bs) p
      refine ext_L k7 r7.R (by rw [List.length_map, List.length_map]; omega) (noLs_mem.mpr fun d hd => by obtain ⟨q, _, rfl⟩ := List.mem_map.mp hd; exact noL_pls _) fun H8 x8 k8 => ?_
      obtain ⟨xl, ql, _⟩ := k7.ex
      walk_at "r"
      have e8 := hereTo_step (canT g bs) t hpi pre
      rw [hP0] at e8
      rw [e8] at k8
      exact ⟨⟨SameX.same (s4.trans s47) x8 fl, k8, by omega⟩, ⟨SameX.tupL x8 k7 (s47.tup ha4), (ra4.mono s47).monoX x8 ql (Th.noLs _)⟩, _, _, rfl⟩
    · rintro σ' H4 ⟨⟨s4, k4, hil⟩, ⟨ha4, ra4⟩, x4, x5, rfl⟩
      rw [ds_len, hereTo_all] at k4
      walk_at "r"
      exact q _ _ fl s4 k4
theorem l_places_n (T : Tp K mg) (c_l_here : Cal P w K mg base k "_law_here" (spHere K)) (c_l_args : Cal P w K mg base k "_law_args" (spArgs K)) : ∀ n : Nat, Cal P w K mg base (k + n) "_law_places" (spPlacesL K n)
  | 0 => T.d_l_places.none fun vs H Q E h => by obtain ⟨vb, vt, vp, g, bs, t, pre, kk, xs, is, _, _, _, _, _, _, _, _, h0, _⟩ := h; have := t.dep_pos; omega
  | n + 1 => ok_l_places T (c_l_here.lift (Nat.le_add_right k n)) (c_l_args.lift (Nat.le_add_right k n)) (l_places_n T c_l_here c_l_args n)

end
end G

end

section














namespace G
open PySem PySem.Spec PyProof.Rows L2
section
variable {P : Program} {w : World} {K : PySem.W.Frag} {mg : Str → Option Value} {base : Heap} {k n : Nat}
theorem ok_l_gone (T : Tp K mg) (c_l_here : Cal P w K mg base k "_law_here" (spHere K)) (c_l_gone : Cal P w K mg base k "_law_gone" (spGoneL K n)) : Cal P w K mg base (k + 1) "_law_gone" (spGoneL K (n + 1)) := by
  refine T.d_l_gone.cal sc_l_gone (fun vs H Q E h => ?_) (fun f cdv A outer s H vs Q E hr h => ?_)
  · obtain ⟨vb, v, vp, g, bs, t, u, ks, F, b, rfl, _⟩ := h; rfl
  obtain ⟨vb, v, vp, g, bs, t, u, ks, F, b, rfl, hb, okg, r, rp, hz, ok, hm, hm', hc, q⟩ := h
  have sc := @sc_l_gone
  refine ⟨_, (pss_cons (ps_if (pt_cmpR (op_eqK K hr) (pv 2) (pe_tupK K pa_nil) (nomark _)) (pss_one (ps_ret (pe_c c_l_here hr (Nat.le_refl _) rfl (pa_cons (pv 0) (pa_cons (pv 1) pa_nil))))) pss_nil)
      (pss_cons (ps_set (i := 3) sc.nd rfl (Or.inl rfl) (pe_ix (ix_K K) (pv 2) pe_int (fun _ _ => rfl)))
      (pss_one (ps_ret (pe_tupK K (pa_cons (pe_ix (ix_K K) (pv 1) pe_int (fun _ _ => rfl)) (pa_cons (pe_ix (ix_K K) (pv 1) pe_int (fun _ _ => rfl)) (pa_cons (pe_op (op_addK K) (pe_op (op_addK K) (pe_slice (sl_K K) (pe_ix (ix_K K) (pv 1) pe_int (fun _ _ => rfl)) po_none (po_some (pv 3))) (pe_tupK K (pa_cons (pe_c c_l_gone hr (Nat.le_refl _) rfl (pa_cons (pv 0) (pa_cons (pe_ix (ix_K K) (pe_ix (ix_K K) (pv 1) pe_int (fun _ _ => rfl)) (pv 3) (fun _ _ => rfl)) (pa_cons (pe_slice (sl_K K) (pv 2) (po_some pe_int) po_none) pa_nil)))) pa_nil))) (pe_slice (sl_K K) (pe_ix (ix_K K) (pv 1) pe_int (fun _ _ => rfl)) (po_some (pe_op (op_addK K) (pv 3) pe_int)) po_none)) pa_nil)))))))), ?_⟩
  have rp' : R K H vp (.tuple (ks.map fun i => .int (i : Nat))) := rp
  cases ks with
  | nil =>
    have e0 : t.at [] = t := by cases t <;> rfl
    rw [e0] at hc
    walk_at "r"
    rename_i v0 H0 s0 r0
    refine eq_R (rp.mono s0) r0 (pls_lay []) (by rfl) (by show min _ (PyData.tuple []).depth ≤ 190; exact Nat.le_trans (Nat.min_le_right _ _) (by decide)) ?_
    rw [show PyData.eqv (pls []) (.tuple []) = true from rfl]
    walk_at "r"
    refine use_here (hb.mono s0) okg (r.mono s0) hc fun x H1 s1 r1 => ?_
    walk_at "r"
    refine q _ _ (by walk_at "S") ?_
    rw [show t.withP [] u = u from by cases t <;> rfl]
    exact r1
  | cons k1 ks =>
    cases t with
    | app w c args =>
      obtain ⟨hk, ok'⟩ := ok
      have r' : R K H v (.tuple [.str w.s, .str c, .tuple (Th.ds args)]) := r
      obtain ⟨hlen, hia⟩ := isT_app hz
      have hcc : StC g bs ((args.getD k1 .fls).at ks) (some u) := hc
      walk_at "r"
      rename_i v0 H0 s0 r0
      refine eq_R (rp.mono s0) r0 (pls_lay (k1 :: ks)) (by rfl) (by show min _ (PyData.tuple []).depth ≤ 190; exact Nat.le_trans (Nat.min_le_right _ _) (by decide)) ?_
      rw [eqv_pls_cons]
      walk_at "r"
      rename_i rz zw zc va ra vt H1 s1 rt vb2 rb
      have hak : args[k1]? = some (args.getD k1 .fls) := by rw [List.getD_eq_getElem?_getD, List.getElem?_eq_getElem hk]; rfl
      have hsa := hia _ (List.mem_of_getElem? hak)
      refine ix_tupR rb (by omega) (ds_get (t := args.getD k1 .fls) (by simpa using hak)) fun vx rx => ?_
      walk_at "r"
      rename_i vq H2 s2 rq
      have rq' : R K H2 vq (pls ks) := by rw [cutD_1] at rq; exact rq
      have hc1 := cutD_len (Th.ds args) none (some (k1 : Int))
      have hc2 := cutD_len (Th.ds args) (some ((k1 : Int) + 1)) none
      rw [ds_len] at hc1 hc2
      refine use_goneL (hb.mono (by walk_at "S")) okg (rx.mono s2) rq' hsa ok' (by simp at hm; omega) (by simp at hm'; omega) hcc fun x3 H3 s3 r3' => ?_
      walk_at "r"
      rename_i vf Hf sf rf
      refine q _ _ (by walk_at "S") ?_
      have e : ((Th.app w c args).withP (k1 :: ks) u).d = .tuple [.str w.s, .str c, .tuple ((cutD (Th.ds args) none (some (k1 : Int)) ++ [((args.getD k1 .fls).withP ks u).d]) ++ cutD (Th.ds args) (some ((k1 : Int) + 1)) none)] := by
        rw [cutD_to, show ((k1 : Int) + 1) = ((k1 + 1 : Nat) : Int) from rfl, cutD_from]
        show PyData.tuple [.str w.s, .str c, .tuple (Th.ds (args.take k1 ++ [(args.getD k1 .fls).withP ks u] ++ args.drop (k1 + 1)))] = _
        rw [Th.ds_map, Th.ds_map, List.map_append, List.map_append, List.map_take, List.map_drop]
        rfl
      rw [e]
      exact rf
    | _ => exact absurd ok id
theorem l_gone_n (T : Tp K mg) (c_l_here : Cal P w K mg base k "_law_here" (spHere K)) : ∀ n : Nat, Cal P w K mg base (k + n) "_law_gone" (spGoneL K n)
  | 0 => T.d_l_gone.none fun vs H Q E h => by obtain ⟨vb, v, vp, g, bs, t, u, ks, F, b, _, _, _, _, _, _, _, h0, _⟩ := h; exact absurd h0 (Nat.not_lt_zero _)
  | n + 1 => ok_l_gone T (c_l_here.lift (Nat.le_add_right k n)) (l_gone_n T c_l_here n)

end
end G

end

section














namespace G
open PySem PySem.Spec PyProof.Rows L2
section
variable {P : Program} {w : World} {K : PySem.W.Frag} {mg : Str → Option Value} {base : Heap} {k n : Nat}
theorem ok_law {f : Addr} {fd : FuncData} (F : Fun K "law" "law" s_law f fd) (T : Tp K mg) {A : CA} (c_l_begin : Cal P w K mg base 199 "_law_begin" (spBegin K)) (c_l_next : Cal P w K mg base 199 "_law_next" spNext) (c_l_names : Cal P w K mg base 199 "_law_names" (spNames K)) (c_l_book : Cal P w K mg base 199 "_law_book" (spBookR K)) (c_l_lore : Cal P w K mg base 199 "_law_lore" (spLore K A)) (c_l_things : Cal P w K mg base 199 "_law_things" (spThings K))
    (c_l_term : Cal P w K mg base 199 "_law_term" (spTermK K 4)) (c_l_places : Cal P w K mg base 199 "_law_places" (spPlacesL K 90)) (c_steps : Cal P w K mg base 199 "steps" (spSteps K A)) (c_l_are_places : Cal P w K mg base 199 "_law_are_places" (spAreP K)) (c_stepped : Cal P w K mg base 199 "stepped" (spStepped K A)) (c_l_gone : Cal P w K mg base 199 "_law_gone" (spGoneL K 90)) : FnOk P w K mg base CX0 200 f fd p_law (spLaw K) := by
  refine F.ok sc_law (fun vs H Q E h => ?_) (fun cdv A' outer s H vs Q E hr h => ?_)
  · obtain ⟨a, ns, rfl, _⟩ := h; rfl
  obtain ⟨a, ns, rfl, hS, hlen, q⟩ := h
  have sc := @sc_law
  refine ⟨_, (pss_cons (ps_set (i := 1) sc.nd rfl (Or.inr rfl) (pe_c c_l_begin hr (Nat.le_refl _) rfl (pa_cons (pv 0) pa_nil)))
      (pss_cons (ps_set (i := 2) sc.nd rfl (Or.inl rfl) (pe_c c_l_names hr (Nat.le_refl _) rfl (pa_cons (pv 1) pa_nil)))
      (pss_cons (ps_set (i := 3) sc.nd rfl (Or.inr rfl) (pe_c c_l_book hr (Nat.le_refl _) rfl (pa_cons (pv 1) (pa_cons (pv 2) pa_nil))))
      (pss_cons (ps_set (i := 4) sc.nd rfl (Or.inr rfl) (pe_c c_l_lore hr (Nat.le_refl _) rfl (pa_cons (pv 1) (pa_cons (pv 3) pa_nil))))
      (pss_cons (ps_set (i := 5) sc.nd rfl (Or.inl rfl) (pe_c c_l_things hr (Nat.le_refl _) rfl (pa_cons (pv 1) (pa_cons (pv 3) (pa_cons (pv 2) pa_nil)))))
      (pss_cons (ps_for PassesOwn.never rfl (pi_range1 rfl T.n_range (pa_cons pe_int pa_nil)) (pg_name (i := 6) sc.nd rfl (Or.inl rfl)) (pss_cons (ps_setLc (i := 7) (own := [("_law_k", 11)]) (g := gName 11) (tt := tYes) rfl sc.nd rfl rfl (sw_true rfl rfl rfl (by decide +kernel)) (pi_range1 rfl T.n_range (pa_cons (pe_c c_l_next hr (Nat.le_refl _) rfl (pa_cons (pv 1) (pa_cons pe_int pa_nil))) pa_nil)) (blkOk_by (N := n_law) (sc := defScope s_law) (by decide +kernel)) (fun _ _ _ _ _ => pg_name (i := 11) sc.nd rfl (Or.inl rfl)) (fun _ _ _ _ _ => pts_nil) (fun _ _ _ _ _ => pe_hide (pe_ix (ix_K K) (pe_ix (ix_K K) (pv 3) pe_int (fun _ _ => rfl)) (pe_c c_l_next hr (Nat.le_refl _) rfl (pa_cons (pv 1) (pa_cons pe_int pa_nil))) (fun _ _ => rfl))))
      (pss_cons (ps_set (i := 8) sc.nd rfl (Or.inr rfl) (pe_c c_l_term hr (Nat.le_refl _) rfl (pa_cons (pv 1) (pa_cons (pv 3) (pa_cons (pe_ix (ix_K K) (pe_ix (ix_K K) (pv 3) pe_int (fun _ _ => rfl)) (pe_c c_l_next hr (Nat.le_refl _) rfl (pa_cons (pv 1) (pa_cons pe_int pa_nil))) (fun _ _ => rfl)) (pa_cons (pv 5) (pa_cons (pv 7) (pa_cons pe_int (pa_cons pe_non pa_nil)))))))))
      (pss_cons (ps_set (i := 9) sc.nd rfl (Or.inl rfl) (pe_c c_l_places hr (Nat.le_refl _) rfl (pa_cons (pv 3) (pa_cons (pv 8) (pa_cons (pe_tupK K pa_nil) pa_nil)))))
      (pss_cons (ps_set (i := 10) sc.nd rfl (Or.inl rfl) (pe_c c_steps hr (Nat.le_refl _) rfl (pa_cons (pv 4) (pa_cons (pv 8) pa_nil))))
      (pss_cons (ps_if (PW.pt (pw_or (pt_not (pt_val (pe_c c_l_are_places hr (Nat.le_refl _) rfl (pa_cons (pv 10) pa_nil)))) (pw_or1 (pt_cmpR (op_neK K hr) (pv 10) (pv 9) (nomark _))))) (pss_one (ps_ret pe_bl)) pss_nil)
      (pss_cons (ps_if (pt_not (pt_val (pe_callB (all_K K rfl) rfl T.n_all bt_all (pa_cons (pe_lc (own := [("_law_place", 12)]) (g := gName 12) (tt := tYes) rfl sc.nd (pi_listK K (pv 9)) (blkOk_by (N := n_law) (sc := defScope s_law) (by decide +kernel)) (fun _ _ _ _ _ => pg_name (i := 12) sc.nd rfl (Or.inl rfl)) (fun _ _ _ _ _ => pts_nil) (fun _ _ _ _ _ => pe_hide (pe_cmpR (op_eqK K hr) (pe_c c_stepped hr (Nat.le_refl _) rfl (pa_cons (pv 4) (pa_cons (pv 8) (pa_cons (pv 12) pa_nil)))) (pe_c c_l_gone hr (Nat.le_refl _) rfl (pa_cons (pv 3) (pa_cons (pv 8) (pa_cons (pv 12) pa_nil)))) (nomark _)))) pa_nil)))) (pss_one (ps_ret pe_bl)) pss_nil)
      (pss_cons (ps_expr (bm0K K (pe_bm0 PySem.F.plainAttrs_list PySem.F.slot_list_clear PySem.F.type_list_clear mt_clear (pv 10))))
      (pss_one (ps_if (pt_cmpR (op_neK K hr) (pe_c c_steps hr (Nat.le_refl _) rfl (pa_cons (pv 4) (pa_cons (pv 8) pa_nil))) (pv 9) (nomark _)) (pss_one (ps_ret pe_bl)) pss_nil))))))))))
      (pss_one (ps_ret pe_bl)))))))), ?_⟩
  walk_at "r"
  refine ⟨a, ns, rfl, hS, by omega, fun p H1 s1 hp => ?_⟩
  clear hS
  walk_at "r"
  refine ⟨p, rfl, hp, fun v zs H2 s2 n42 rz => ?_⟩
  replace hp := s2 _ _ hp
  clear s1 s2
  walk_at "r"
  refine ⟨p, v, zs, rfl, hp, rz, n42, fun vb g bs H3 s3 hb ok B hc hw hw1 => ?_⟩
  replace hp := s3 _ _ hp
  replace rz := rz.mono s3
  clear s3
  walk_at "r"
  refine use_lore hp hb ok B hc hw fun vl H4 s4 hl => ?_
  replace hp := s4 _ _ hp
  replace rz := rz.mono s4
  replace hb := hb.mono s4
  clear s4
  walk_at "r"
  refine use_things hp hb.b ok rz n42 fun vth xs H5 s5 rth hx1 hx2 hx3 => ?_
  replace hp := s5 _ _ hp
  replace hb := hb.mono s5
  replace hl := hl.mono s5
  clear s5 rz n42
  walk_at "r"
  refine for_R (fun _ σ' H' => (H' p = some (Stt p) ∧ BookR K H' vb g bs ∧ LoreAt K A H' vl (rowsOf g bs) ∧ R K H' vth (.list (xs.map thingD))) ∧ ∃ x6 x7 x8 x9 x10 x11 x12 : Option V, σ' = [some (.ref a), some (.ref p), some v, some vb, some vl, some vth, x6, x7, x8, x9, x10, x11, x12]) (by omega) (by omega) ⟨⟨hp, hb, hl, rth⟩, _, _, _, _, _, _, _, rfl⟩ ?_ ?_
  · clear hp hb hl rth
    rintro i σ' H6 hi ⟨⟨hp, hb, hl, rth⟩, x6, x7, x8, x9, x10, x11, x12, rfl⟩
    have hb0 := hb.b
    have kl3 : (g.kinds.map PyData.str).length = 3 := rfl
    walk_at "r"
    rename_i m1 H7 s7 hm1 hm2
    have eσ : ([some (.ref a), some (.ref p), some v, some vb, some vl, some vth, x6, x7, x8, x9, x10, x11, x12].set 6 (some (V.int (i : Nat))) : L2.St) = [some (.ref a), some (.ref p), some v, some vb, some vl, some vth, some (V.int (i : Nat)), x7, x8, x9, x10, x11, x12] := rfl
    rw [eσ]
    refine lc_R (K := K) (fun _ e => ∃ z, e = .str z ∧ z ∈ g.kinds) (by omega) (by omega) (fun _ => rfl) (fun i H8 hi8 s8 Qt hQ => ?_) (fun v8 H8 es s8 r8 hl8 hP8 => ?_)
    · walk_at "r"
      exact hQ _ _ _ (by walk_at "S") (R.str _) ⟨_, rfl, by assumption⟩
    obtain ⟨is, rfl, his⟩ := kinds_of hP8
    rw [List.length_map] at hl8
    replace hp := s8 _ _ (s7 _ _ hp)
    replace hb := hb.mono (s7.trans s8)
    replace hl := hl.mono (s7.trans s8)
    replace rth := rth.mono (s7.trans s8)
    have hb0 := hb.b
    clear s7 s8 hP8 eσ
    walk_at "r"
    rename_i v9 r9 m2 H9 s9 hm3 hm4 k9 hk9
    replace hp := s9 _ _ hp
    replace hb := hb.mono s9
    replace hl := hl.mono s9
    replace rth := rth.mono s9
    replace r8 := r8.mono s9
    clear s9 r9
    refine use_termK (o := none) hp hb.b ok hk9 rth r8 .non ⟨fun _ _ _ _ h => by cases h⟩ (by omega) (by omega) hx2 (by decide) (by decide) fun vt t H10 s10 rt hkd hd2 hs2 => ?_
    replace hb := hb.mono s10
    replace hl := hl.mono s10
    replace rth := rth.mono s10
    replace hp := s10 _ _ hp
    clear s10 r8
    have ht : t.isT (xs.map (·.1)) is.length := Th.kd_isT ok (fun x hx => ⟨(ok.cn x hx).1, (ok.cn x hx).2.1⟩) hx2 t hkd
    have hd5 : t.dep ≤ 5 := hd2
    have hs3 : t.sz ≤ 400000 := Nat.le_trans hs2 (by decide)
    walk_at "r"
    rename_i v11 H11 s11 r11
    refine use_placesL (pre := []) (hb.mono s11) ok B (rt.mono s11) r11 hkd hx2 (by omega) hs3 (by decide) fun du H12 f12 s12 k12 => ?_
    replace hb := hb.mono (s11.trans s12)
    replace hl := hl.mono (s11.trans s12)
    replace rth := rth.mono (s11.trans s12)
    replace hp := s12 _ _ (s11 _ _ hp)
    replace rt := rt.mono (s11.trans s12)
    have k12' : Lk K H12 du ((t.here (canT g bs)).map pls) := k12
    clear s11 s12 r11 k12
    walk_at "r"
    refine use_steps hl rt ok B hkd hx2 (by omega) hs3 fun fo H13 f13 s13 k13 => ?_
    have nfd : fo ≠ du := Ne.symm (fresh_ne f13 k12')
    have hlen := Th.here_len (p := canT g bs) t
    have hok := Th.here_ok (p := canT g bs) t
    have hql : ∀ q ∈ t.here (canT g bs), q.length < t.dep := fun q hq => okP_len q t (hok q hq).1
    have lay := plss_lay (t.here (canT g bs))
    have dep := plss_depth (t.here (canT g bs))
    generalize hL : t.here (canT g bs) = L at k12' k13 hlen hok hql lay dep
    walk_at "r"
    refine use_areP k13.R (by omega) (fun q hq => by have := hql q hq; omega) fun H14 s14 => ?_
    have k14 := k13.mono s14
    have s12 : Same H12 H14 := s13.trans s14
    clear k13 s13 s14
    walk_at "r"
    refine ne_R k14.R (k12'.mono s12).R lay lay (by omega) ?_
    rw [SeqAt.eqv_refl _ lay]
    walk_at "r"
    have eσ2 : (((([some (.ref a), some (.ref p), some v, some vb, some vl, some vth, some (.int (i : Nat)), x7, x8, x9, x10, x11, x12].set 7 (some v8)).set 8 (some vt)).set 9 (some (.ref du))).set 10 (some (.ref fo)) : L2.St) = [some (.ref a), some (.ref p), some v, some vb, some vl, some vth, some (.int (i : Nat)), some v8, some vt, some (.ref du), some (.ref fo), x11, x12] := rfl
    rw [eσ2]
    refine lc_L (K := K) (fun i e => e = .bool true) (k12'.mono s12).R (by rw [List.length_map]; omega) (fun _ => rfl) (fun j v2 d2 H15 hd2 rv2 s15 Qt hQ => ?_) (fun v3 H15 es s15 r3 hl3 hP3 => ?_)
    · rw [List.getElem?_map] at hd2
      obtain ⟨q0, hq0, rfl⟩ := Option.map_eq_some_iff.mp hd2
      have hm := List.mem_of_getElem? hq0
      obtain ⟨ho1, ho2⟩ := hok q0 hm
      have ho3 := hql q0 hm
      obtain ⟨k0, hk0⟩ := at_kd q0 hkd ho1
      have hst := stc ok B hk0
      obtain ⟨u, hu⟩ := Option.isSome_iff_exists.mp (show (stepT g bs (t.at q0)).isSome = true from ho2)
      rw [hu] at hst
      have hat := Th.at_is q0 t ht ho1
      have hui := stc_isT hst hat.1
      have hw1 := Th.withP_is hui.1 q0 t ht ho1
      have hw2 := Th.withP_dep (o := u) q0 t ho1
      have hw3 := Th.depth_le (t.withP q0 u)
      have lay2 := Th.layT _ hw1
      have s16 := s12.trans s15
      walk_at "r"
      refine use_stepped (hl.mono s16) (rt.mono s16) rv2 ht ho1 (by omega) hst fun y1 H16 s17 r16 => ?_
      walk_at "r"
      refine use_goneL (hb.mono (s16.trans s17)) ok (rt.mono (s16.trans s17)) (rv2.mono s17) ht ho1 (by omega) (by omega) hst fun y2 H17 s18 r17 => ?_
      walk_at "r"
      refine eq_R (r16.mono s18) r17 lay2 lay2 (by omega) ?_
      rw [SeqAt.eqv_refl _ lay2]
      exact hQ _ _ _ (s17.trans s18) (R.bl true) rfl
    have e3 : es = (List.replicate es.length true).map PyData.bool := by
      rw [List.map_replicate]
      exact List.eq_replicate_iff.mpr ⟨rfl, fun e he => by obtain ⟨j, hj⟩ := List.getElem?_of_mem he; exact hP3 j e hj⟩
    rw [e3] at r3
    have k15 := k14.mono s15
    have s16 := s12.trans s15
    clear k14 s12 s15
    walk_at "r"
    refine all_R r3 ?_
    rw [show (List.replicate es.length true).all id = true from by simp]
    clear r3 e3 hP3 hl3
    walk_at "r"
    refine k15.ty ?_
    walk_at "r"
    refine clear_L k15 fun H18 x18 k18 => ?_
    have s18 : Same H12 H18 := SameX.same s16 x18 f13
    clear k15 s16 x18 k18
    walk_at "r"
    rw [← hL] at lay dep k12'
    refine use_steps (hl.mono s18) (rt.mono s18) ok B hkd hx2 (by omega) hs3 fun fo2 H19 f19 s19 k19 => ?_
    have s20 := s18.trans s19
    walk_at "r"
    refine ne_R k19.R (k12'.mono s20).R lay lay (by omega) ?_
    rw [SeqAt.eqv_refl _ lay]
    walk_at "r"
    exact ⟨⟨s20 _ _ hp, hb.mono s20, hl.mono s20, rth.mono s20⟩, _, _, _, _, _, _, _, rfl⟩
  · rintro σ' H6 ⟨_, x6, x7, x8, x9, x10, x11, x12, rfl⟩
    walk_at "r"
    exact q _

end
end G

end

section














namespace G
open PySem PySem.Spec PyProof.Rows L2
section
variable {P : Program} {w : World} {K : PySem.W.Frag} {mg : Str → Option Value} {base : Heap} {k n : Nat}
theorem is_term_n (T : Tp K mg) : ∀ m, Cal P w K mg base (2 * m + 1) "is_term" (spIsTm K m)
  | 0 => T.d_is_term.none fun vs H Q E h => by obtain ⟨v, d, _, _, _, h0, _⟩ := h; omega
  | m + 1 => ok_is_term (k := 2 * m + 2) T ((ok_is_number (k := 0) T).lift (by omega)) ((ok_is_name (k := 0) T).lift (by omega)) ((ok_is_form_name (k := 0) T).lift (by omega)) (ok_are_args T (is_term_n T m))
theorem mk_lore (T : Tp K mg) {A : CA} (U : Tc K mg A) (B : Tb K mg A) (D : Td K mg w) : CalI P w K mg base 150 "Lore" A.lo (spMk K A .lo) ∧ CalI P w K mg base 151 "Book" A.bo (spMk K A .bo) := by
  have c_is_name : Cal P w K mg base 140 "is_name" (spIsName K) := (ok_is_name (k := 0) T).lift (by decide)
  have c_is_form_name : Cal P w K mg base 140 "is_form_name" (spIsForm K) := (ok_is_form_name (k := 0) T).lift (by decide)
  have x_has_kind : CalX P w K mg base 140 A noBe "has_kind" (fun _ => spHas K A) := (ok_has_kind (k := 0) U).lift (by decide)
  have x_form : CalX P w K mg base 140 A noBe "form" (fun _ => spFormM K A) := (ok_form (k := 0) U).lift (by decide)
  have x_function : CalX P w K mg base 140 A noBe "function" (fun _ => spFunM K A) := (ok_function (k := 0) U).lift (by decide)
  have x_word : CalX P w K mg base 140 A noBe "word" (fun _ => spWordM K A) := (ok_word (k := 0) U).lift (by decide)
  have x_forms : CalX P w K mg base 140 A noBe "forms" (fun _ => spFormsM K A) := (ok_forms (k := 0) U T).lift (by decide)
  have c_told_kinds : Cal P w K mg base 3 "told_kinds" (spTKs K A) := ok_told_kinds (k := 2) T (ok_formX (k := 0) U) (ok_functionX (k := 0) U)
  have c_kind_in : Cal P w K mg base 130 "kind_in" (spKind K A 40) := (kind_in_n T c_told_kinds 40).lift (by decide)
  have c_kind_of : Cal P w K mg base 131 "kind_of" (spKind K A 40) := ok_kind_of (k := 130) T ((is_term_n T 62).lift (by decide)) c_kind_in
  have c_is_of : Cal P w K mg base 132 "is_of" (spIsOf K A) := ok_is_of T c_kind_of
  have c_falls : Cal P w K mg base 132 "falls" (spFalls K 40) := (falls_n T 40).lift (by decide)
  have c_right_rule : Cal P w K mg base 133 "right_rule" (spRRow K A Row.isRule) := ok_right_rule (k := 131) T U ((ok_besI (k := 0) T U).lift (by decide)) c_is_of c_falls ((ok_forms (k := 0) U T).lift (by decide))
  have c_are_kinds : Cal P w K mg base 141 "are_kinds" (spAreKs K A) := ok_are_kinds T c_is_name x_has_kind
  have c_is_form : Cal P w K mg base 141 "is_form" (spIsFm K A) := ok_is_form T c_is_name c_is_form_name x_has_kind
  have c_right_kind : Cal P w K mg base 142 "right_kind" (spRRow K A Row.isKnd) := ok_right_kind T (c_is_name.lift (by decide)) c_is_form (x_has_kind.lift (by decide)) (x_form.lift (by decide))
  have c_right_function : Cal P w K mg base 142 "right_function" (spRRow K A Row.isFn) := ok_right_function T (c_is_name.lift (by decide)) c_are_kinds (x_has_kind.lift (by decide)) (x_function.lift (by decide))
  have c_is_right : Cal P w K mg base 149 "is_right" (spRRow K A anyR) := (ok_is_right (k := 142) T D (c_is_name.lift (by decide)) c_right_kind c_right_function (c_right_rule.lift (by decide)) (c_are_kinds.lift (by decide)) (c_is_of.lift (by decide)) (x_has_kind.lift (by decide)) (x_word.lift (by decide))).lift (by decide)
  have x_add : CalX P w K mg base 149 A noBe "add" (fun _ => spAdd K A) := (ok_add (k := 0) T U).lift (by decide)
  exact ⟨ok_lorI T U c_is_right x_add, ok_booI T U B (ok_stat T U B c_is_right x_add)⟩
theorem ok_all {f : Addr} {fd : FuncData} (F : Fun K "law" "law" s_law f fd) (T : Tp K mg) {A : CA} (U : Tc K mg A) (B : Tb K mg A) (D : Td K mg w) : FnOk P w K mg base CX0 200 f fd p_law (spLaw K) := by
  have c_l_next : Cal P w K mg base 1 "_law_next" spNext := ok_l_next (k := 0) T
  have c_l_function : Cal P w K mg base 9 "_law_function" (spFun K) := ok_l_function (k := 8) T (c_l_next.lift (by decide)) (termK_n T 4)
  have c_l_here : Cal P w K mg base 62 "_law_here" (spHere K) := ok_l_here (k := 61) T ((l_put_n T 60).lift (by decide))
  have x_function : CalX P w K mg base 100 A noBe "function" (fun _ => spFunM K A) := (ok_function (k := 0) U).lift (by decide)
  have x_forms : CalX P w K mg base 100 A noBe "forms" (fun _ => spFormsM K A) := (ok_forms (k := 0) U T).lift (by decide)
  have c_can_step : Cal P w K mg base 101 "can_step" (spCan K A) := ok_can_step T x_function
  have c_gone : Cal P w K mg base 101 "gone" (spGone K A) := ok_gone T x_function x_forms ((args_put_n T 60).lift (by decide))
  have c_mk := mk_lore (P := P) (base := base) T U B D
  exact ok_law F T ((ok_l_begin (k := 0) T).lift (by decide)) (c_l_next.lift (by decide)) ((ok_l_names (k := 1) T c_l_next).lift (by decide)) ((ok_l_book (k := 9) T (c_l_next.lift (by decide)) ((ok_l_great (k := 0) T).lift (by decide)) c_l_function).lift (by decide))
    ((ok_l_lore (k := 151) T (c_l_next.lift (by decide)) (c_mk.1.lift (by decide)) c_mk.2).lift (by decide)) ((ok_l_things (k := 1) T c_l_next).lift (by decide)) ((termK_n T 4).lift (by decide)) ((l_places_n (k := 62) T c_l_here ((ok_l_args (k := 0) T).lift (by decide)) 90).lift (by decide))
    ((ok_steps (k := 101) T ((ok_args_of (k := 0) T).lift (by decide)) c_can_step).lift (by decide)) ((ok_l_are_places (k := 0) T).lift (by decide)) ((ok_stepped (k := 101) T ((ok_at_place (k := 1) T (ok_parts_of_terms (k := 0) T)).lift (by decide)) c_gone ((with_place_n T 90).lift (by decide))).lift (by decide)) ((l_gone_n (k := 62) T c_l_here 90).lift (by decide))

end
end G

end

end














namespace G
open PySem PySem.Spec PyProof.Rows L2
section
variable {P : Program} {w : World} {K : PySem.W.Frag} {mg : Str → Option Value} {base : Heap} {k n : Nat}

end
theorem all_mk {l : PySem.W.OpenLaw} {w : World} {K : PySem.W.Frag} {h : Heap} {mg : Str → Option Value} {fa : Addr} (X : K.In h) (G : h.Ns mainGlobals mg) (hfa : mg "law" = some (.ref fa))
    {C_Lore C_Book C_Beside : Addr}
    {f0 : Addr} {od0 an0 : Option Addr} {sl0 : Array (Option Value)} {oc0 kV0 dc0 pm0 cd0 ct0 : Value}
    {f1 : Addr} {od1 an1 : Option Addr} {sl1 : Array (Option Value)} {oc1 kV1 dc1 pm1 cd1 ct1 : Value}
    {f2 : Addr} {od2 an2 : Option Addr} {sl2 : Array (Option Value)} {oc2 kV2 dc2 pm2 cd2 ct2 : Value}
    {f3 : Addr} {od3 an3 : Option Addr} {sl3 : Array (Option Value)} {oc3 kV3 dc3 pm3 cd3 ct3 : Value}
    {f4 : Addr} {od4 an4 : Option Addr} {sl4 : Array (Option Value)} {oc4 kV4 dc4 pm4 cd4 ct4 : Value}
    {f5 : Addr} {od5 an5 : Option Addr} {sl5 : Array (Option Value)} {oc5 kV5 dc5 pm5 cd5 ct5 : Value}
    {f6 : Addr} {od6 an6 : Option Addr} {sl6 : Array (Option Value)} {oc6 kV6 dc6 pm6 cd6 ct6 : Value}
    {f7 : Addr} {od7 an7 : Option Addr} {sl7 : Array (Option Value)} {oc7 kV7 dc7 pm7 cd7 ct7 : Value}
    {f8 : Addr} {od8 an8 : Option Addr} {sl8 : Array (Option Value)} {oc8 kV8 dc8 pm8 cd8 ct8 : Value}
    {f9 : Addr} {od9 an9 : Option Addr} {sl9 : Array (Option Value)} {oc9 kV9 dc9 pm9 cd9 ct9 : Value}
    {f10 : Addr} {od10 an10 : Option Addr} {sl10 : Array (Option Value)} {oc10 kV10 dc10 pm10 cd10 ct10 : Value}
    {f11 : Addr} {od11 an11 : Option Addr} {sl11 : Array (Option Value)} {oc11 kV11 dc11 pm11 cd11 ct11 : Value}
    {f12 : Addr} {od12 an12 : Option Addr} {sl12 : Array (Option Value)} {oc12 kV12 dc12 pm12 cd12 ct12 : Value}
    {f13 : Addr} {od13 an13 : Option Addr} {sl13 : Array (Option Value)} {oc13 kV13 dc13 pm13 cd13 ct13 : Value}
    {f14 : Addr} {od14 an14 : Option Addr} {sl14 : Array (Option Value)} {oc14 kV14 dc14 pm14 cd14 ct14 : Value}
    {f15 : Addr} {od15 an15 : Option Addr} {sl15 : Array (Option Value)} {oc15 kV15 dc15 pm15 cd15 ct15 : Value}
    {f16 : Addr} {od16 an16 : Option Addr} {sl16 : Array (Option Value)} {oc16 kV16 dc16 pm16 cd16 ct16 : Value}
    {f17 : Addr} {od17 an17 : Option Addr} {sl17 : Array (Option Value)} {oc17 kV17 dc17 pm17 cd17 ct17 : Value}
    {f18 : Addr} {od18 an18 : Option Addr} {sl18 : Array (Option Value)} {oc18 kV18 dc18 pm18 cd18 ct18 : Value}
    {f19 : Addr} {od19 an19 : Option Addr} {sl19 : Array (Option Value)} {oc19 kV19 dc19 pm19 cd19 ct19 : Value}
    {f20 : Addr} {od20 an20 : Option Addr} {sl20 : Array (Option Value)} {oc20 kV20 dc20 pm20 cd20 ct20 : Value}
    {f21 : Addr} {od21 an21 : Option Addr} {sl21 : Array (Option Value)} {oc21 kV21 dc21 pm21 cd21 ct21 : Value}
    {f22 : Addr} {od22 an22 : Option Addr} {sl22 : Array (Option Value)} {oc22 kV22 dc22 pm22 cd22 ct22 : Value}
    {f23 : Addr} {od23 an23 : Option Addr} {sl23 : Array (Option Value)} {oc23 kV23 dc23 pm23 cd23 ct23 : Value}
    {f24 : Addr} {od24 an24 : Option Addr} {sl24 : Array (Option Value)} {oc24 kV24 dc24 pm24 cd24 ct24 : Value}
    {f25 : Addr} {od25 an25 : Option Addr} {sl25 : Array (Option Value)} {oc25 kV25 dc25 pm25 cd25 ct25 : Value}
    {f26 : Addr} {od26 an26 : Option Addr} {sl26 : Array (Option Value)} {oc26 kV26 dc26 pm26 cd26 ct26 : Value}
    {f27 : Addr} {od27 an27 : Option Addr} {sl27 : Array (Option Value)} {oc27 kV27 dc27 pm27 cd27 ct27 : Value}
    {f28 : Addr} {od28 an28 : Option Addr} {sl28 : Array (Option Value)} {oc28 kV28 dc28 pm28 cd28 ct28 : Value}
    {f29 : Addr} {od29 an29 : Option Addr} {sl29 : Array (Option Value)} {oc29 kV29 dc29 pm29 cd29 ct29 : Value}
    {f30 : Addr} {od30 an30 : Option Addr} {sl30 : Array (Option Value)} {oc30 kV30 dc30 pm30 cd30 ct30 : Value}
    {f31 : Addr} {od31 an31 : Option Addr} {sl31 : Array (Option Value)} {oc31 kV31 dc31 pm31 cd31 ct31 : Value}
    {f32 : Addr} {od32 an32 : Option Addr} {sl32 : Array (Option Value)} {oc32 kV32 dc32 pm32 cd32 ct32 : Value}
    {f33 : Addr} {od33 an33 : Option Addr} {sl33 : Array (Option Value)} {oc33 kV33 dc33 pm33 cd33 ct33 : Value}
    {f34 : Addr} {od34 an34 : Option Addr} {sl34 : Array (Option Value)} {oc34 kV34 dc34 pm34 cd34 ct34 : Value}
    {f35 : Addr} {od35 an35 : Option Addr} {sl35 : Array (Option Value)} {oc35 kV35 dc35 pm35 cd35 ct35 : Value}
    {f36 : Addr} {od36 an36 : Option Addr} {sl36 : Array (Option Value)} {oc36 kV36 dc36 pm36 cd36 ct36 : Value}
    {f37 : Addr} {od37 an37 : Option Addr} {sl37 : Array (Option Value)} {oc37 kV37 dc37 pm37 cd37 ct37 : Value}
    {f38 : Addr} {od38 an38 : Option Addr} {sl38 : Array (Option Value)} {oc38 kV38 dc38 pm38 cd38 ct38 : Value}
    {f39 : Addr} {od39 an39 : Option Addr} {sl39 : Array (Option Value)} {oc39 kV39 dc39 pm39 cd39 ct39 : Value}
    {f40 : Addr} {od40 an40 : Option Addr} {sl40 : Array (Option Value)} {oc40 kV40 dc40 pm40 cd40 ct40 : Value}
    {f41 : Addr} {od41 an41 : Option Addr} {sl41 : Array (Option Value)} {oc41 kV41 dc41 pm41 cd41 ct41 : Value}
    {f42 : Addr} {od42 an42 : Option Addr} {sl42 : Array (Option Value)} {oc42 kV42 dc42 pm42 cd42 ct42 : Value}
    {f43 : Addr} {od43 an43 : Option Addr} {sl43 : Array (Option Value)} {oc43 kV43 dc43 pm43 cd43 ct43 : Value}
    {f44 : Addr} {od44 an44 : Option Addr} {sl44 : Array (Option Value)} {oc44 kV44 dc44 pm44 cd44 ct44 : Value}
    {f45 : Addr} {od45 an45 : Option Addr} {sl45 : Array (Option Value)} {oc45 kV45 dc45 pm45 cd45 ct45 : Value}
    {f46 : Addr} {od46 an46 : Option Addr} {sl46 : Array (Option Value)} {oc46 kV46 dc46 pm46 cd46 ct46 : Value}
    {f47 : Addr} {od47 an47 : Option Addr} {sl47 : Array (Option Value)} {oc47 kV47 dc47 pm47 cd47 ct47 : Value}
    {f48 : Addr} {od48 an48 : Option Addr} {sl48 : Array (Option Value)} {oc48 kV48 dc48 pm48 cd48 ct48 : Value}
    {f49 : Addr} {od49 an49 : Option Addr} {sl49 : Array (Option Value)} {oc49 kV49 dc49 pm49 cd49 ct49 : Value}
    {f50 : Addr} {od50 an50 : Option Addr} {sl50 : Array (Option Value)} {oc50 kV50 dc50 pm50 cd50 ct50 : Value}
    {f51 : Addr} {od51 an51 : Option Addr} {sl51 : Array (Option Value)} {oc51 kV51 dc51 pm51 cd51 ct51 : Value}
    {f52 : Addr} {od52 an52 : Option Addr} {sl52 : Array (Option Value)} {oc52 kV52 dc52 pm52 cd52 ct52 : Value}
    {t_LETTERS t_MOST t_ARGS t_ROWS t_FORMS t_KINDS t0 t1 t2 t3 t4 : Tok} {a_KEPT : Addr} {d_KEPT : Option Addr} {n_KEPT : Nat} {s_KEPT : Array (Option Value)}
    (e_LETTERS : PySem.W.nsIn K mainGlobals "LETTERS" = some (some (.str "abcdefghijklmnopqrstuvwxyz" t_LETTERS))) (e_MOST : PySem.W.nsIn K mainGlobals "MOST_LETTERS" = some (some (.int 8 t_MOST))) (e_ARGS : PySem.W.nsIn K mainGlobals "MOST_ARGS" = some (some (.int 4 t_ARGS)))
    (e_ROWS : PySem.W.nsIn K mainGlobals "MOST_ROWS" = some (some (.int 40 t_ROWS))) (e_FORMS : PySem.W.nsIn K mainGlobals "MOST_FORMS" = some (some (.int 4 t_FORMS))) (e_KINDS : PySem.W.nsIn K mainGlobals "MOST_KINDS" = some (some (.int 4 t_KINDS)))
    (e_KEPT : PySem.W.nsIn K mainGlobals "KEPT" = some (some (.ref a_KEPT))) (o_KEPT : K.lookup a_KEPT = some ⟨.type "tuple", d_KEPT, .seq #[.str "false" t0, .str "all" t1, .str "some" t2, .str "and" t3, .str "or" t4] n_KEPT, s_KEPT⟩)
    {d_SIZES n_SIZES : Nat} {es_SIZES : Array DictEntry} {ts1 ts2 ts3 ts4 ts5 ts6 ts7 ts8 : Tok}
    (g_Lore : PySem.W.nsIn K mainGlobals "Lore" = some (some (.ref C_Lore)))
    (pg_Lore : PySem.W.plainGet K C_Lore Str.empty = true)
    (hd_Lore : PySem.W.hasDictIn K C_Lore = true)
    (po_Lore : PySem.W.plainOver K C_Lore = true)
    (sa_Lore : PySem.W.findIn K (.ref C_Lore) "__setattr__" = some (some (.builtin "object.__setattr__")))
    (mk_Lore : PySem.W.makesIn K C_Lore = true)
    (kc_Lore : PySem.W.keepIn K (.ref C_Lore) = true)
    (g_Book : PySem.W.nsIn K mainGlobals "Book" = some (some (.ref C_Book)))
    (pg_Book : PySem.W.plainGet K C_Book Str.empty = true)
    (hd_Book : PySem.W.hasDictIn K C_Book = true)
    (po_Book : PySem.W.plainOver K C_Book = true)
    (sa_Book : PySem.W.findIn K (.ref C_Book) "__setattr__" = some (some (.builtin "object.__setattr__")))
    (mk_Book : PySem.W.makesIn K C_Book = true)
    (kc_Book : PySem.W.keepIn K (.ref C_Book) = true)
    (g_Beside : PySem.W.nsIn K mainGlobals "Beside" = some (some (.ref C_Beside)))
    (pg_Beside : PySem.W.plainGet K C_Beside Str.empty = true)
    (hd_Beside : PySem.W.hasDictIn K C_Beside = true)
    (po_Beside : PySem.W.plainOver K C_Beside = true)
    (sa_Beside : PySem.W.findIn K (.ref C_Beside) "__setattr__" = some (some (.builtin "object.__setattr__")))
    (mk_Beside : PySem.W.makesIn K C_Beside = true)
    (kc_Beside : PySem.W.keepIn K (.ref C_Beside) = true)
    (a0 : PySem.W.nsIn K mainGlobals "is_number" = some (some (.ref f0)))
    (l0 : K.lookup f0 = some ⟨oc0, od0, .func (PySem.W.fnOf "is_number" "is_number" (defArgs s_is_number) (defBody s_is_number) (defScope s_is_number) .none kV0 dc0 pm0 an0 cd0 ct0), sl0⟩)
    (c0 : PySem.W.codeIn K cd0 "is_number" = true)
    (k0 : PySem.W.keepIn K (.ref f0) = true)
    (a1 : PySem.W.nsIn K mainGlobals "is_name" = some (some (.ref f1)))
    (l1 : K.lookup f1 = some ⟨oc1, od1, .func (PySem.W.fnOf "is_name" "is_name" (defArgs s_is_name) (defBody s_is_name) (defScope s_is_name) .none kV1 dc1 pm1 an1 cd1 ct1), sl1⟩)
    (c1 : PySem.W.codeIn K cd1 "is_name" = true)
    (k1 : PySem.W.keepIn K (.ref f1) = true)
    (a2 : PySem.W.nsIn K mainGlobals "is_form_name" = some (some (.ref f2)))
    (l2 : K.lookup f2 = some ⟨oc2, od2, .func (PySem.W.fnOf "is_form_name" "is_form_name" (defArgs s_is_form_name) (defBody s_is_form_name) (defScope s_is_form_name) .none kV2 dc2 pm2 an2 cd2 ct2), sl2⟩)
    (c2 : PySem.W.codeIn K cd2 "is_form_name" = true)
    (k2 : PySem.W.keepIn K (.ref f2) = true)
    (a3 : PySem.W.nsIn K mainGlobals "are_args" = some (some (.ref f3)))
    (l3 : K.lookup f3 = some ⟨oc3, od3, .func (PySem.W.fnOf "are_args" "are_args" (defArgs s_are_args) (defBody s_are_args) (defScope s_are_args) .none kV3 dc3 pm3 an3 cd3 ct3), sl3⟩)
    (c3 : PySem.W.codeIn K cd3 "are_args" = true)
    (k3 : PySem.W.keepIn K (.ref f3) = true)
    (a4 : PySem.W.nsIn K mainGlobals "is_term" = some (some (.ref f4)))
    (l4 : K.lookup f4 = some ⟨oc4, od4, .func (PySem.W.fnOf "is_term" "is_term" (defArgs s_is_term) (defBody s_is_term) (defScope s_is_term) .none kV4 dc4 pm4 an4 cd4 ct4), sl4⟩)
    (c4 : PySem.W.codeIn K cd4 "is_term" = true)
    (k4 : PySem.W.keepIn K (.ref f4) = true)
    (a5 : PySem.W.nsIn K mainGlobals "parts_of_terms" = some (some (.ref f5)))
    (l5 : K.lookup f5 = some ⟨oc5, od5, .func (PySem.W.fnOf "parts_of" "parts_of" (defArgs s_parts_of_terms) (defBody s_parts_of_terms) (defScope s_parts_of_terms) .none kV5 dc5 pm5 an5 cd5 ct5), sl5⟩)
    (c5 : PySem.W.codeIn K cd5 "parts_of" = true)
    (k5 : PySem.W.keepIn K (.ref f5) = true)
    (a6 : PySem.W.nsIn K mainGlobals "at_place" = some (some (.ref f6)))
    (l6 : K.lookup f6 = some ⟨oc6, od6, .func (PySem.W.fnOf "at_place" "at_place" (defArgs s_at_place) (defBody s_at_place) (defScope s_at_place) .none kV6 dc6 pm6 an6 cd6 ct6), sl6⟩)
    (c6 : PySem.W.codeIn K cd6 "at_place" = true)
    (k6 : PySem.W.keepIn K (.ref f6) = true)
    (a7 : PySem.W.nsIn K mainGlobals "with_place" = some (some (.ref f7)))
    (l7 : K.lookup f7 = some ⟨oc7, od7, .func (PySem.W.fnOf "with_place" "with_place" (defArgs s_with_place) (defBody s_with_place) (defScope s_with_place) .none kV7 dc7 pm7 an7 cd7 ct7), sl7⟩)
    (c7 : PySem.W.codeIn K cd7 "with_place" = true)
    (k7 : PySem.W.keepIn K (.ref f7) = true)
    (a8 : PySem.W.nsIn K mainGlobals "args_put" = some (some (.ref f8)))
    (l8 : K.lookup f8 = some ⟨oc8, od8, .func (PySem.W.fnOf "args_put" "args_put" (defArgs s_args_put) (defBody s_args_put) (defScope s_args_put) .none kV8 dc8 pm8 an8 cd8 ct8), sl8⟩)
    (c8 : PySem.W.codeIn K cd8 "args_put" = true)
    (k8 : PySem.W.keepIn K (.ref f8) = true)
    (a9 : PySem.W.nsIn K mainGlobals "args_of" = some (some (.ref f9)))
    (l9 : K.lookup f9 = some ⟨oc9, od9, .func (PySem.W.fnOf "args_of" "args_of" (defArgs s_args_of) (defBody s_args_of) (defScope s_args_of) .none kV9 dc9 pm9 an9 cd9 ct9), sl9⟩)
    (c9 : PySem.W.codeIn K cd9 "args_of" = true)
    (k9 : PySem.W.keepIn K (.ref f9) = true)
    (a10 : PySem.W.nsIn K mainGlobals "can_step" = some (some (.ref f10)))
    (l10 : K.lookup f10 = some ⟨oc10, od10, .func (PySem.W.fnOf "can_step" "can_step" (defArgs s_can_step) (defBody s_can_step) (defScope s_can_step) .none kV10 dc10 pm10 an10 cd10 ct10), sl10⟩)
    (c10 : PySem.W.codeIn K cd10 "can_step" = true)
    (k10 : PySem.W.keepIn K (.ref f10) = true)
    (a11 : PySem.W.nsIn K mainGlobals "gone" = some (some (.ref f11)))
    (l11 : K.lookup f11 = some ⟨oc11, od11, .func (PySem.W.fnOf "gone" "gone" (defArgs s_gone) (defBody s_gone) (defScope s_gone) .none kV11 dc11 pm11 an11 cd11 ct11), sl11⟩)
    (c11 : PySem.W.codeIn K cd11 "gone" = true)
    (k11 : PySem.W.keepIn K (.ref f11) = true)
    (a12 : PySem.W.nsIn K mainGlobals "steps" = some (some (.ref f12)))
    (l12 : K.lookup f12 = some ⟨oc12, od12, .func (PySem.W.fnOf "steps" "steps" (defArgs s_steps) (defBody s_steps) (defScope s_steps) .none kV12 dc12 pm12 an12 cd12 ct12), sl12⟩)
    (c12 : PySem.W.codeIn K cd12 "steps" = true)
    (k12 : PySem.W.keepIn K (.ref f12) = true)
    (a13 : PySem.W.nsIn K mainGlobals "stepped" = some (some (.ref f13)))
    (l13 : K.lookup f13 = some ⟨oc13, od13, .func (PySem.W.fnOf "stepped" "stepped" (defArgs s_stepped) (defBody s_stepped) (defScope s_stepped) .none kV13 dc13 pm13 an13 cd13 ct13), sl13⟩)
    (c13 : PySem.W.codeIn K cd13 "stepped" = true)
    (k13 : PySem.W.keepIn K (.ref f13) = true)
    (a14 : PySem.W.nsIn K mainGlobals "told_kinds" = some (some (.ref f14)))
    (l14 : K.lookup f14 = some ⟨oc14, od14, .func (PySem.W.fnOf "told_kinds" "told_kinds" (defArgs s_told_kinds) (defBody s_told_kinds) (defScope s_told_kinds) .none kV14 dc14 pm14 an14 cd14 ct14), sl14⟩)
    (c14 : PySem.W.codeIn K cd14 "told_kinds" = true)
    (k14 : PySem.W.keepIn K (.ref f14) = true)
    (a15 : PySem.W.nsIn K mainGlobals "kind_in" = some (some (.ref f15)))
    (l15 : K.lookup f15 = some ⟨oc15, od15, .func (PySem.W.fnOf "kind_in" "kind_in" (defArgs s_kind_in) (defBody s_kind_in) (defScope s_kind_in) .none kV15 dc15 pm15 an15 cd15 ct15), sl15⟩)
    (c15 : PySem.W.codeIn K cd15 "kind_in" = true)
    (k15 : PySem.W.keepIn K (.ref f15) = true)
    (a16 : PySem.W.nsIn K mainGlobals "kind_of" = some (some (.ref f16)))
    (l16 : K.lookup f16 = some ⟨oc16, od16, .func (PySem.W.fnOf "kind_of" "kind_of" (defArgs s_kind_of) (defBody s_kind_of) (defScope s_kind_of) .none kV16 dc16 pm16 an16 cd16 ct16), sl16⟩)
    (c16 : PySem.W.codeIn K cd16 "kind_of" = true)
    (k16 : PySem.W.keepIn K (.ref f16) = true)
    (a17 : PySem.W.nsIn K mainGlobals "are_kinds" = some (some (.ref f17)))
    (l17 : K.lookup f17 = some ⟨oc17, od17, .func (PySem.W.fnOf "are_kinds" "are_kinds" (defArgs s_are_kinds) (defBody s_are_kinds) (defScope s_are_kinds) .none kV17 dc17 pm17 an17 cd17 ct17), sl17⟩)
    (c17 : PySem.W.codeIn K cd17 "are_kinds" = true)
    (k17 : PySem.W.keepIn K (.ref f17) = true)
    (a18 : PySem.W.nsIn K mainGlobals "is_form" = some (some (.ref f18)))
    (l18 : K.lookup f18 = some ⟨oc18, od18, .func (PySem.W.fnOf "is_form" "is_form" (defArgs s_is_form) (defBody s_is_form) (defScope s_is_form) .none kV18 dc18 pm18 an18 cd18 ct18), sl18⟩)
    (c18 : PySem.W.codeIn K cd18 "is_form" = true)
    (k18 : PySem.W.keepIn K (.ref f18) = true)
    (a19 : PySem.W.nsIn K mainGlobals "right_kind" = some (some (.ref f19)))
    (l19 : K.lookup f19 = some ⟨oc19, od19, .func (PySem.W.fnOf "right_kind" "right_kind" (defArgs s_right_kind) (defBody s_right_kind) (defScope s_right_kind) .none kV19 dc19 pm19 an19 cd19 ct19), sl19⟩)
    (c19 : PySem.W.codeIn K cd19 "right_kind" = true)
    (k19 : PySem.W.keepIn K (.ref f19) = true)
    (a20 : PySem.W.nsIn K mainGlobals "right_function" = some (some (.ref f20)))
    (l20 : K.lookup f20 = some ⟨oc20, od20, .func (PySem.W.fnOf "right_function" "right_function" (defArgs s_right_function) (defBody s_right_function) (defScope s_right_function) .none kV20 dc20 pm20 an20 cd20 ct20), sl20⟩)
    (c20 : PySem.W.codeIn K cd20 "right_function" = true)
    (k20 : PySem.W.keepIn K (.ref f20) = true)
    (a21 : PySem.W.nsIn K mainGlobals "is_of" = some (some (.ref f21)))
    (l21 : K.lookup f21 = some ⟨oc21, od21, .func (PySem.W.fnOf "is_of" "is_of" (defArgs s_is_of) (defBody s_is_of) (defScope s_is_of) .none kV21 dc21 pm21 an21 cd21 ct21), sl21⟩)
    (c21 : PySem.W.codeIn K cd21 "is_of" = true)
    (k21 : PySem.W.keepIn K (.ref f21) = true)
    (a22 : PySem.W.nsIn K mainGlobals "falls" = some (some (.ref f22)))
    (l22 : K.lookup f22 = some ⟨oc22, od22, .func (PySem.W.fnOf "falls" "falls" (defArgs s_falls) (defBody s_falls) (defScope s_falls) .none kV22 dc22 pm22 an22 cd22 ct22), sl22⟩)
    (c22 : PySem.W.codeIn K cd22 "falls" = true)
    (k22 : PySem.W.keepIn K (.ref f22) = true)
    (a23 : PySem.W.nsIn K mainGlobals "right_rule" = some (some (.ref f23)))
    (l23 : K.lookup f23 = some ⟨oc23, od23, .func (PySem.W.fnOf "right_rule" "right_rule" (defArgs s_right_rule) (defBody s_right_rule) (defScope s_right_rule) .none kV23 dc23 pm23 an23 cd23 ct23), sl23⟩)
    (c23 : PySem.W.codeIn K cd23 "right_rule" = true)
    (k23 : PySem.W.keepIn K (.ref f23) = true)
    (a24 : PySem.W.nsIn K mainGlobals "is_right" = some (some (.ref f24)))
    (l24 : K.lookup f24 = some ⟨oc24, od24, .func (PySem.W.fnOf "is_right" "is_right" (defArgs s_is_right) (defBody s_is_right) (defScope s_is_right) .none kV24 dc24 pm24 an24 cd24 ct24), sl24⟩)
    (c24 : PySem.W.codeIn K cd24 "is_right" = true)
    (k24 : PySem.W.keepIn K (.ref f24) = true)
    (a25 : PySem.W.nsIn K mainGlobals "_law_begin" = some (some (.ref f25)))
    (l25 : K.lookup f25 = some ⟨oc25, od25, .func (PySem.W.fnOf "_law_begin" "_law_begin" (defArgs s_l_begin) (defBody s_l_begin) (defScope s_l_begin) .none kV25 dc25 pm25 an25 cd25 ct25), sl25⟩)
    (c25 : PySem.W.codeIn K cd25 "_law_begin" = true)
    (k25 : PySem.W.keepIn K (.ref f25) = true)
    (a26 : PySem.W.nsIn K mainGlobals "_law_next" = some (some (.ref f26)))
    (l26 : K.lookup f26 = some ⟨oc26, od26, .func (PySem.W.fnOf "_law_next" "_law_next" (defArgs s_l_next) (defBody s_l_next) (defScope s_l_next) .none kV26 dc26 pm26 an26 cd26 ct26), sl26⟩)
    (c26 : PySem.W.codeIn K cd26 "_law_next" = true)
    (k26 : PySem.W.keepIn K (.ref f26) = true)
    (a27 : PySem.W.nsIn K mainGlobals "_law_names" = some (some (.ref f27)))
    (l27 : K.lookup f27 = some ⟨oc27, od27, .func (PySem.W.fnOf "_law_names" "_law_names" (defArgs s_l_names) (defBody s_l_names) (defScope s_l_names) .none kV27 dc27 pm27 an27 cd27 ct27), sl27⟩)
    (c27 : PySem.W.codeIn K cd27 "_law_names" = true)
    (k27 : PySem.W.keepIn K (.ref f27) = true)
    (a28 : PySem.W.nsIn K mainGlobals "_law_great" = some (some (.ref f28)))
    (l28 : K.lookup f28 = some ⟨oc28, od28, .func (PySem.W.fnOf "_law_great" "_law_great" (defArgs s_l_great) (defBody s_l_great) (defScope s_l_great) .none kV28 dc28 pm28 an28 cd28 ct28), sl28⟩)
    (c28 : PySem.W.codeIn K cd28 "_law_great" = true)
    (k28 : PySem.W.keepIn K (.ref f28) = true)
    (a29 : PySem.W.nsIn K mainGlobals "_law_least" = some (some (.ref f29)))
    (l29 : K.lookup f29 = some ⟨oc29, od29, .func (PySem.W.fnOf "_law_least" "_law_least" (defArgs s_l_least) (defBody s_l_least) (defScope s_l_least) .none kV29 dc29 pm29 an29 cd29 ct29), sl29⟩)
    (c29 : PySem.W.codeIn K cd29 "_law_least" = true)
    (k29 : PySem.W.keepIn K (.ref f29) = true)
    (a30 : PySem.W.nsIn K mainGlobals "_law_term" = some (some (.ref f30)))
    (l30 : K.lookup f30 = some ⟨oc30, od30, .func (PySem.W.fnOf "_law_term" "_law_term" (defArgs s_l_term) (defBody s_l_term) (defScope s_l_term) .none kV30 dc30 pm30 an30 cd30 ct30), sl30⟩)
    (c30 : PySem.W.codeIn K cd30 "_law_term" = true)
    (k30 : PySem.W.keepIn K (.ref f30) = true)
    (a31 : PySem.W.nsIn K mainGlobals "_law_function" = some (some (.ref f31)))
    (l31 : K.lookup f31 = some ⟨oc31, od31, .func (PySem.W.fnOf "_law_function" "_law_function" (defArgs s_l_function) (defBody s_l_function) (defScope s_l_function) .none kV31 dc31 pm31 an31 cd31 ct31), sl31⟩)
    (c31 : PySem.W.codeIn K cd31 "_law_function" = true)
    (k31 : PySem.W.keepIn K (.ref f31) = true)
    (a32 : PySem.W.nsIn K mainGlobals "_law_book" = some (some (.ref f32)))
    (l32 : K.lookup f32 = some ⟨oc32, od32, .func (PySem.W.fnOf "_law_book" "_law_book" (defArgs s_l_book) (defBody s_l_book) (defScope s_l_book) .none kV32 dc32 pm32 an32 cd32 ct32), sl32⟩)
    (c32 : PySem.W.codeIn K cd32 "_law_book" = true)
    (k32 : PySem.W.keepIn K (.ref f32) = true)
    (a33 : PySem.W.nsIn K mainGlobals "_law_lore" = some (some (.ref f33)))
    (l33 : K.lookup f33 = some ⟨oc33, od33, .func (PySem.W.fnOf "_law_lore" "_law_lore" (defArgs s_l_lore) (defBody s_l_lore) (defScope s_l_lore) .none kV33 dc33 pm33 an33 cd33 ct33), sl33⟩)
    (c33 : PySem.W.codeIn K cd33 "_law_lore" = true)
    (k33 : PySem.W.keepIn K (.ref f33) = true)
    (a34 : PySem.W.nsIn K mainGlobals "_law_things" = some (some (.ref f34)))
    (l34 : K.lookup f34 = some ⟨oc34, od34, .func (PySem.W.fnOf "_law_things" "_law_things" (defArgs s_l_things) (defBody s_l_things) (defScope s_l_things) .none kV34 dc34 pm34 an34 cd34 ct34), sl34⟩)
    (c34 : PySem.W.codeIn K cd34 "_law_things" = true)
    (k34 : PySem.W.keepIn K (.ref f34) = true)
    (a35 : PySem.W.nsIn K mainGlobals "_law_args" = some (some (.ref f35)))
    (l35 : K.lookup f35 = some ⟨oc35, od35, .func (PySem.W.fnOf "_law_args" "_law_args" (defArgs s_l_args) (defBody s_l_args) (defScope s_l_args) .none kV35 dc35 pm35 an35 cd35 ct35), sl35⟩)
    (c35 : PySem.W.codeIn K cd35 "_law_args" = true)
    (k35 : PySem.W.keepIn K (.ref f35) = true)
    (a36 : PySem.W.nsIn K mainGlobals "_law_put" = some (some (.ref f36)))
    (l36 : K.lookup f36 = some ⟨oc36, od36, .func (PySem.W.fnOf "_law_put" "_law_put" (defArgs s_l_put) (defBody s_l_put) (defScope s_l_put) .none kV36 dc36 pm36 an36 cd36 ct36), sl36⟩)
    (c36 : PySem.W.codeIn K cd36 "_law_put" = true)
    (k36 : PySem.W.keepIn K (.ref f36) = true)
    (a37 : PySem.W.nsIn K mainGlobals "_law_here" = some (some (.ref f37)))
    (l37 : K.lookup f37 = some ⟨oc37, od37, .func (PySem.W.fnOf "_law_here" "_law_here" (defArgs s_l_here) (defBody s_l_here) (defScope s_l_here) .none kV37 dc37 pm37 an37 cd37 ct37), sl37⟩)
    (c37 : PySem.W.codeIn K cd37 "_law_here" = true)
    (k37 : PySem.W.keepIn K (.ref f37) = true)
    (a38 : PySem.W.nsIn K mainGlobals "_law_places" = some (some (.ref f38)))
    (l38 : K.lookup f38 = some ⟨oc38, od38, .func (PySem.W.fnOf "_law_places" "_law_places" (defArgs s_l_places) (defBody s_l_places) (defScope s_l_places) .none kV38 dc38 pm38 an38 cd38 ct38), sl38⟩)
    (c38 : PySem.W.codeIn K cd38 "_law_places" = true)
    (k38 : PySem.W.keepIn K (.ref f38) = true)
    (a39 : PySem.W.nsIn K mainGlobals "_law_gone" = some (some (.ref f39)))
    (l39 : K.lookup f39 = some ⟨oc39, od39, .func (PySem.W.fnOf "_law_gone" "_law_gone" (defArgs s_l_gone) (defBody s_l_gone) (defScope s_l_gone) .none kV39 dc39 pm39 an39 cd39 ct39), sl39⟩)
    (c39 : PySem.W.codeIn K cd39 "_law_gone" = true)
    (k39 : PySem.W.keepIn K (.ref f39) = true)
    (a40 : PySem.W.nsIn K mainGlobals "_law_are_places" = some (some (.ref f40)))
    (l40 : K.lookup f40 = some ⟨oc40, od40, .func (PySem.W.fnOf "_law_are_places" "_law_are_places" (defArgs s_l_are_places) (defBody s_l_are_places) (defScope s_l_are_places) .none kV40 dc40 pm40 an40 cd40 ct40), sl40⟩)
    (c40 : PySem.W.codeIn K cd40 "_law_are_places" = true)
    (k40 : PySem.W.keepIn K (.ref f40) = true)
    (a41 : PySem.W.nsIn K mainGlobals "law" = some (some (.ref f41)))
    (l41 : K.lookup f41 = some ⟨oc41, od41, .func (PySem.W.fnOf "law" "law" (defArgs s_law) (defBody s_law) (defScope s_law) .none kV41 dc41 pm41 an41 cd41 ct41), sl41⟩)
    (c41 : PySem.W.codeIn K cd41 "law" = true)
    (k41 : PySem.W.keepIn K (.ref f41) = true)
    (m42_Beside : PySem.W.findIn K (.ref C_Beside) "__init__" = some (some (.ref f42)))
    (i42 : PySem.W.isFn K (.ref f42) = true)
    (l42 : K.lookup f42 = some ⟨oc42, od42, .func (PySem.W.fnOf "__init__" "Beside.__init__" (defArgs s_Beside___init__) (defBody s_Beside___init__) (defScope s_Beside___init__) .none kV42 dc42 pm42 an42 cd42 ct42), sl42⟩)
    (c42 : PySem.W.codeIn K cd42 "Beside.__init__" = true)
    (k42 : PySem.W.keepIn K (.ref f42) = true)
    (m43_Beside : PySem.W.findIn K (.ref C_Beside) "form" = some (some (.ref f43)))
    (i43 : PySem.W.isFn K (.ref f43) = true)
    (l43 : K.lookup f43 = some ⟨oc43, od43, .func (PySem.W.fnOf "form" "Beside.form" (defArgs s_Beside_form) (defBody s_Beside_form) (defScope s_Beside_form) .none kV43 dc43 pm43 an43 cd43 ct43), sl43⟩)
    (c43 : PySem.W.codeIn K cd43 "Beside.form" = true)
    (k43 : PySem.W.keepIn K (.ref f43) = true)
    (m44_Beside : PySem.W.findIn K (.ref C_Beside) "function" = some (some (.ref f44)))
    (i44 : PySem.W.isFn K (.ref f44) = true)
    (l44 : K.lookup f44 = some ⟨oc44, od44, .func (PySem.W.fnOf "function" "Beside.function" (defArgs s_Beside_function) (defBody s_Beside_function) (defScope s_Beside_function) .none kV44 dc44 pm44 an44 cd44 ct44), sl44⟩)
    (c44 : PySem.W.codeIn K cd44 "Beside.function" = true)
    (k44 : PySem.W.keepIn K (.ref f44) = true)
    (m45_Lore : PySem.W.findIn K (.ref C_Lore) "__init__" = some (some (.ref f45)))
    (i45 : PySem.W.isFn K (.ref f45) = true)
    (l45 : K.lookup f45 = some ⟨oc45, od45, .func (PySem.W.fnOf "__init__" "Lore.__init__" (defArgs s_Lore___init__) (defBody s_Lore___init__) (defScope s_Lore___init__) .none kV45 dc45 pm45 an45 cd45 ct45), sl45⟩)
    (c45 : PySem.W.codeIn K cd45 "Lore.__init__" = true)
    (k45 : PySem.W.keepIn K (.ref f45) = true)
    (m46_Lore : PySem.W.findIn K (.ref C_Lore) "add" = some (some (.ref f46)))
    (m46_Book : PySem.W.findIn K (.ref C_Book) "add" = some (some (.ref f46)))
    (i46 : PySem.W.isFn K (.ref f46) = true)
    (l46 : K.lookup f46 = some ⟨oc46, od46, .func (PySem.W.fnOf "add" "Lore.add" (defArgs s_Lore_add) (defBody s_Lore_add) (defScope s_Lore_add) .none kV46 dc46 pm46 an46 cd46 ct46), sl46⟩)
    (c46 : PySem.W.codeIn K cd46 "Lore.add" = true)
    (k46 : PySem.W.keepIn K (.ref f46) = true)
    (m47_Lore : PySem.W.findIn K (.ref C_Lore) "forms" = some (some (.ref f47)))
    (m47_Book : PySem.W.findIn K (.ref C_Book) "forms" = some (some (.ref f47)))
    (i47 : PySem.W.isFn K (.ref f47) = true)
    (l47 : K.lookup f47 = some ⟨oc47, od47, .func (PySem.W.fnOf "forms" "Lore.forms" (defArgs s_Lore_forms) (defBody s_Lore_forms) (defScope s_Lore_forms) .none kV47 dc47 pm47 an47 cd47 ct47), sl47⟩)
    (c47 : PySem.W.codeIn K cd47 "Lore.forms" = true)
    (k47 : PySem.W.keepIn K (.ref f47) = true)
    (m48_Lore : PySem.W.findIn K (.ref C_Lore) "has_kind" = some (some (.ref f48)))
    (m48_Book : PySem.W.findIn K (.ref C_Book) "has_kind" = some (some (.ref f48)))
    (i48 : PySem.W.isFn K (.ref f48) = true)
    (l48 : K.lookup f48 = some ⟨oc48, od48, .func (PySem.W.fnOf "has_kind" "Lore.has_kind" (defArgs s_Lore_has_kind) (defBody s_Lore_has_kind) (defScope s_Lore_has_kind) .none kV48 dc48 pm48 an48 cd48 ct48), sl48⟩)
    (c48 : PySem.W.codeIn K cd48 "Lore.has_kind" = true)
    (k48 : PySem.W.keepIn K (.ref f48) = true)
    (m49_Lore : PySem.W.findIn K (.ref C_Lore) "form" = some (some (.ref f49)))
    (m49_Book : PySem.W.findIn K (.ref C_Book) "form" = some (some (.ref f49)))
    (i49 : PySem.W.isFn K (.ref f49) = true)
    (l49 : K.lookup f49 = some ⟨oc49, od49, .func (PySem.W.fnOf "form" "Lore.form" (defArgs s_Lore_form) (defBody s_Lore_form) (defScope s_Lore_form) .none kV49 dc49 pm49 an49 cd49 ct49), sl49⟩)
    (c49 : PySem.W.codeIn K cd49 "Lore.form" = true)
    (k49 : PySem.W.keepIn K (.ref f49) = true)
    (m50_Lore : PySem.W.findIn K (.ref C_Lore) "function" = some (some (.ref f50)))
    (m50_Book : PySem.W.findIn K (.ref C_Book) "function" = some (some (.ref f50)))
    (i50 : PySem.W.isFn K (.ref f50) = true)
    (l50 : K.lookup f50 = some ⟨oc50, od50, .func (PySem.W.fnOf "function" "Lore.function" (defArgs s_Lore_function) (defBody s_Lore_function) (defScope s_Lore_function) .none kV50 dc50 pm50 an50 cd50 ct50), sl50⟩)
    (c50 : PySem.W.codeIn K cd50 "Lore.function" = true)
    (k50 : PySem.W.keepIn K (.ref f50) = true)
    (m51_Lore : PySem.W.findIn K (.ref C_Lore) "word" = some (some (.ref f51)))
    (m51_Book : PySem.W.findIn K (.ref C_Book) "word" = some (some (.ref f51)))
    (i51 : PySem.W.isFn K (.ref f51) = true)
    (l51 : K.lookup f51 = some ⟨oc51, od51, .func (PySem.W.fnOf "word" "Lore.word" (defArgs s_Lore_word) (defBody s_Lore_word) (defScope s_Lore_word) .none kV51 dc51 pm51 an51 cd51 ct51), sl51⟩)
    (c51 : PySem.W.codeIn K cd51 "Lore.word" = true)
    (k51 : PySem.W.keepIn K (.ref f51) = true)
    (m52_Book : PySem.W.findIn K (.ref C_Book) "__init__" = some (some (.ref f52)))
    (i52 : PySem.W.isFn K (.ref f52) = true)
    (l52 : K.lookup f52 = some ⟨oc52, od52, .func (PySem.W.fnOf "__init__" "Book.__init__" (defArgs s_Book___init__) (defBody s_Book___init__) (defScope s_Book___init__) .none kV52 dc52 pm52 an52 cd52 ct52), sl52⟩)
    (c52 : PySem.W.codeIn K cd52 "Book.__init__" = true)
    (k52 : PySem.W.keepIn K (.ref f52) = true)
    (no_Lore_lines : PySem.W.findIn K (.ref C_Lore) "lines" = some none)
    (no_Lore_kinds : PySem.W.findIn K (.ref C_Lore) "kinds" = some none)
    (no_Lore_shapes : PySem.W.findIn K (.ref C_Lore) "shapes" = some none)
    (no_Lore_functions : PySem.W.findIn K (.ref C_Lore) "functions" = some none)
    (no_Lore_words : PySem.W.findIn K (.ref C_Lore) "words" = some none)
    (no_Lore_facts : PySem.W.findIn K (.ref C_Lore) "facts" = some none)
    (no_Book_lines : PySem.W.findIn K (.ref C_Book) "lines" = some none)
    (no_Book_kinds : PySem.W.findIn K (.ref C_Book) "kinds" = some none)
    (no_Book_shapes : PySem.W.findIn K (.ref C_Book) "shapes" = some none)
    (no_Book_functions : PySem.W.findIn K (.ref C_Book) "functions" = some none)
    (no_Book_words : PySem.W.findIn K (.ref C_Book) "words" = some none)
    (no_Book_facts : PySem.W.findIn K (.ref C_Book) "facts" = some none)
    (no_Beside_lore : PySem.W.findIn K (.ref C_Beside) "lore" = some none)
    (no_Beside_row : PySem.W.findIn K (.ref C_Beside) "row" = some none)
    (no_Book_behind : PySem.W.findIn K (.ref C_Book) "behind" = some none)
    (rd_Lore : PySem.W.readsIn K C_Lore (.type "type") = true)
    (ga_Lore : PySem.W.specialIn K (.ref C_Lore) "__getattribute__" = some (some (.builtin "type.__getattribute__")))
    (cv_Lore : PySem.W.findCls K (.ref C_Lore) (.type "type") "__init__" = some (.val (.ref f45)))
    (e_SIZES : PySem.W.nsIn K mainGlobals "SIZES" = some (some (.ref d_SIZES)))
    (o_SIZES : K.lookup d_SIZES = some ⟨.type "dict", none, .dict es_SIZES n_SIZES, #[]⟩)
    (q_SIZES : PySem.W.KeysLit w.params es_SIZES.toList)
    (w_SIZES : (d_SIZES == sysModules) = false)
    (s1_SIZES : PySem.W.nsIn K d_SIZES "kind" = some (some (.int 3 ts1)))
    (s2_SIZES : PySem.W.nsIn K d_SIZES "open" = some (some (.int 2 ts2)))
    (s3_SIZES : PySem.W.nsIn K d_SIZES "given" = some (some (.int 4 ts3)))
    (s4_SIZES : PySem.W.nsIn K d_SIZES "atom" = some (some (.int 3 ts4)))
    (s5_SIZES : PySem.W.nsIn K d_SIZES "short" = some (some (.int 5 ts5)))
    (s6_SIZES : PySem.W.nsIn K d_SIZES "rule" = some (some (.int 5 ts6)))
    (s7_SIZES : PySem.W.nsIn K d_SIZES "taken" = some (some (.int 3 ts7)))
    (s8_SIZES : PySem.W.nsIn K d_SIZES "reasoned" = some (some (.int 4 ts8)))
    (z_abs : PySem.W.nsIn K mainGlobals "abs" = some none)
    (z_all : PySem.W.nsIn K mainGlobals "all" = some none)
    (z_any : PySem.W.nsIn K mainGlobals "any" = some none)
    (z_bool : PySem.W.nsIn K mainGlobals "bool" = some none)
    (z_dict : PySem.W.nsIn K mainGlobals "dict" = some none)
    (z_divmod : PySem.W.nsIn K mainGlobals "divmod" = some none)
    (z_enumerate : PySem.W.nsIn K mainGlobals "enumerate" = some none)
    (z_int : PySem.W.nsIn K mainGlobals "int" = some none)
    (z_isinstance : PySem.W.nsIn K mainGlobals "isinstance" = some none)
    (z_len : PySem.W.nsIn K mainGlobals "len" = some none)
    (z_list : PySem.W.nsIn K mainGlobals "list" = some none)
    (z_range : PySem.W.nsIn K mainGlobals "range" = some none)
    (z_reversed : PySem.W.nsIn K mainGlobals "reversed" = some none)
    (z_sorted : PySem.W.nsIn K mainGlobals "sorted" = some none)
    (z_str : PySem.W.nsIn K mainGlobals "str" = some none)
    (z_tuple : PySem.W.nsIn K mainGlobals "tuple" = some none)
    (z_zip : PySem.W.nsIn K mainGlobals "zip" = some none)
    : ∃ fd : FuncData, (∀ (s : Shared) (v : Value), BindsTo s fd ⟨[v], []⟩ [("_law_script", v)]) ∧ ∀ base : Heap, K.In base → base.Ns mainGlobals mg → FnOk l.prog w K mg base CX0 200 fa fd ["_law_script"] (spLaw K) := by
  have e := hfa.symm.trans (PySem.W.mg_of X G a41)
  cases e
  have F0 := fun_mk (st := s_is_number) l0 c0 k0
  have B0 := F0.binds (ps := p_is_number) fun _ _ _ _ _ _ us hl => match us, hl with | [_], _ => rfl
  have F1 := fun_mk (st := s_is_name) l1 c1 k1
  have B1 := F1.binds (ps := p_is_name) fun _ _ _ _ _ _ us hl => match us, hl with | [_], _ => rfl
  have F2 := fun_mk (st := s_is_form_name) l2 c2 k2
  have B2 := F2.binds (ps := p_is_form_name) fun _ _ _ _ _ _ us hl => match us, hl with | [_], _ => rfl
  have F3 := fun_mk (st := s_are_args) l3 c3 k3
  have B3 := F3.binds (ps := p_are_args) fun _ _ _ _ _ _ us hl => match us, hl with | [_], _ => rfl
  have F4 := fun_mk (st := s_is_term) l4 c4 k4
  have B4 := F4.binds (ps := p_is_term) fun _ _ _ _ _ _ us hl => match us, hl with | [_], _ => rfl
  have F5 := fun_mk (st := s_parts_of_terms) l5 c5 k5
  have B5 := F5.binds (ps := p_parts_of_terms) fun _ _ _ _ _ _ us hl => match us, hl with | [_], _ => rfl
  have F6 := fun_mk (st := s_at_place) l6 c6 k6
  have B6 := F6.binds (ps := p_at_place) fun _ _ _ _ _ _ us hl => match us, hl with | [_, _], _ => rfl
  have F7 := fun_mk (st := s_with_place) l7 c7 k7
  have B7 := F7.binds (ps := p_with_place) fun _ _ _ _ _ _ us hl => match us, hl with | [_, _, _], _ => rfl
  have F8 := fun_mk (st := s_args_put) l8 c8 k8
  have B8 := F8.binds (ps := p_args_put) fun _ _ _ _ _ _ us hl => match us, hl with | [_, _], _ => rfl
  have F9 := fun_mk (st := s_args_of) l9 c9 k9
  have B9 := F9.binds (ps := p_args_of) fun _ _ _ _ _ _ us hl => match us, hl with | [_], _ => rfl
  have F10 := fun_mk (st := s_can_step) l10 c10 k10
  have B10 := F10.binds (ps := p_can_step) fun _ _ _ _ _ _ us hl => match us, hl with | [_, _], _ => rfl
  have F11 := fun_mk (st := s_gone) l11 c11 k11
  have B11 := F11.binds (ps := p_gone) fun _ _ _ _ _ _ us hl => match us, hl with | [_, _], _ => rfl
  have F12 := fun_mk (st := s_steps) l12 c12 k12
  have B12 := F12.binds (ps := p_steps) fun _ _ _ _ _ _ us hl => match us, hl with | [_, _], _ => rfl
  have F13 := fun_mk (st := s_stepped) l13 c13 k13
  have B13 := F13.binds (ps := p_stepped) fun _ _ _ _ _ _ us hl => match us, hl with | [_, _, _], _ => rfl
  have F14 := fun_mk (st := s_told_kinds) l14 c14 k14
  have B14 := F14.binds (ps := p_told_kinds) fun _ _ _ _ _ _ us hl => match us, hl with | [_, _], _ => rfl
  have F15 := fun_mk (st := s_kind_in) l15 c15 k15
  have B15 := F15.binds (ps := p_kind_in) fun _ _ _ _ _ _ us hl => match us, hl with | [_, _, _, _], _ => rfl
  have F16 := fun_mk (st := s_kind_of) l16 c16 k16
  have B16 := F16.binds (ps := p_kind_of) fun _ _ _ _ _ _ us hl => match us, hl with | [_, _, _, _], _ => rfl
  have F17 := fun_mk (st := s_are_kinds) l17 c17 k17
  have B17 := F17.binds (ps := p_are_kinds) fun _ _ _ _ _ _ us hl => match us, hl with | [_, _], _ => rfl
  have F18 := fun_mk (st := s_is_form) l18 c18 k18
  have B18 := F18.binds (ps := p_is_form) fun _ _ _ _ _ _ us hl => match us, hl with | [_, _, _, _], _ => rfl
  have F19 := fun_mk (st := s_right_kind) l19 c19 k19
  have B19 := F19.binds (ps := p_right_kind) fun _ _ _ _ _ _ us hl => match us, hl with | [_, _], _ => rfl
  have F20 := fun_mk (st := s_right_function) l20 c20 k20
  have B20 := F20.binds (ps := p_right_function) fun _ _ _ _ _ _ us hl => match us, hl with | [_, _], _ => rfl
  have F21 := fun_mk (st := s_is_of) l21 c21 k21
  have B21 := F21.binds (ps := p_is_of) fun _ _ _ _ _ _ us hl => match us, hl with | [_, _, _, _], _ => rfl
  have F22 := fun_mk (st := s_falls) l22 c22 k22
  have B22 := F22.binds (ps := p_falls) fun _ _ _ _ _ _ us hl => match us, hl with | [_, _, _], _ => rfl
  have F23 := fun_mk (st := s_right_rule) l23 c23 k23
  have B23 := F23.binds (ps := p_right_rule) fun _ _ _ _ _ _ us hl => match us, hl with | [_, _], _ => rfl
  have F24 := fun_mk (st := s_is_right) l24 c24 k24
  have B24 := F24.binds (ps := p_is_right) fun _ _ _ _ _ _ us hl => match us, hl with | [_, _], _ => rfl
  have F25 := fun_mk (st := s_l_begin) l25 c25 k25
  have B25 := F25.binds (ps := p_l_begin) fun _ _ _ _ _ _ us hl => match us, hl with | [_], _ => rfl
  have F26 := fun_mk (st := s_l_next) l26 c26 k26
  have B26 := F26.binds (ps := p_l_next) fun _ _ _ _ _ _ us hl => match us, hl with | [_, _], _ => rfl
  have F27 := fun_mk (st := s_l_names) l27 c27 k27
  have B27 := F27.binds (ps := p_l_names) fun _ _ _ _ _ _ us hl => match us, hl with | [_], _ => rfl
  have F28 := fun_mk (st := s_l_great) l28 c28 k28
  have B28 := F28.binds (ps := p_l_great) fun _ _ _ _ _ _ us hl => match us, hl with | [_], _ => rfl
  have F29 := fun_mk (st := s_l_least) l29 c29 k29
  have B29 := F29.binds (ps := p_l_least) fun _ _ _ _ _ _ us hl => match us, hl with | [_, _], _ => rfl
  have F30 := fun_mk (st := s_l_term) l30 c30 k30
  have B30 := F30.binds (ps := p_l_term) fun _ _ _ _ _ _ us hl => match us, hl with | [_, _, _, _, _, _, _], _ => rfl
  have F31 := fun_mk (st := s_l_function) l31 c31 k31
  have B31 := F31.binds (ps := p_l_function) fun _ _ _ _ _ _ us hl => match us, hl with | [_, _, _], _ => rfl
  have F32 := fun_mk (st := s_l_book) l32 c32 k32
  have B32 := F32.binds (ps := p_l_book) fun _ _ _ _ _ _ us hl => match us, hl with | [_, _], _ => rfl
  have F33 := fun_mk (st := s_l_lore) l33 c33 k33
  have B33 := F33.binds (ps := p_l_lore) fun _ _ _ _ _ _ us hl => match us, hl with | [_, _], _ => rfl
  have F34 := fun_mk (st := s_l_things) l34 c34 k34
  have B34 := F34.binds (ps := p_l_things) fun _ _ _ _ _ _ us hl => match us, hl with | [_, _, _], _ => rfl
  have F35 := fun_mk (st := s_l_args) l35 c35 k35
  have B35 := F35.binds (ps := p_l_args) fun _ _ _ _ _ _ us hl => match us, hl with | [_], _ => rfl
  have F36 := fun_mk (st := s_l_put) l36 c36 k36
  have B36 := F36.binds (ps := p_l_put) fun _ _ _ _ _ _ us hl => match us, hl with | [_, _], _ => rfl
  have F37 := fun_mk (st := s_l_here) l37 c37 k37
  have B37 := F37.binds (ps := p_l_here) fun _ _ _ _ _ _ us hl => match us, hl with | [_, _], _ => rfl
  have F38 := fun_mk (st := s_l_places) l38 c38 k38
  have B38 := F38.binds (ps := p_l_places) fun _ _ _ _ _ _ us hl => match us, hl with | [_, _, _], _ => rfl
  have F39 := fun_mk (st := s_l_gone) l39 c39 k39
  have B39 := F39.binds (ps := p_l_gone) fun _ _ _ _ _ _ us hl => match us, hl with | [_, _, _], _ => rfl
  have F40 := fun_mk (st := s_l_are_places) l40 c40 k40
  have B40 := F40.binds (ps := p_l_are_places) fun _ _ _ _ _ _ us hl => match us, hl with | [_], _ => rfl
  have F41 := fun_mk (st := s_law) l41 c41 k41
  have B41 := F41.binds (ps := p_law) fun _ _ _ _ _ _ us hl => match us, hl with | [_], _ => rfl
  have F42 := fun_mk (st := s_Beside___init__) l42 c42 k42
  have B42 := F42.binds (ps := p_Beside___init__) fun _ _ _ _ _ _ us hl => match us, hl with | [_, _, _], _ => rfl
  have F43 := fun_mk (st := s_Beside_form) l43 c43 k43
  have B43 := F43.binds (ps := p_Beside_form) fun _ _ _ _ _ _ us hl => match us, hl with | [_, _], _ => rfl
  have F44 := fun_mk (st := s_Beside_function) l44 c44 k44
  have B44 := F44.binds (ps := p_Beside_function) fun _ _ _ _ _ _ us hl => match us, hl with | [_, _], _ => rfl
  have F45 := fun_mk (st := s_Lore___init__) l45 c45 k45
  have B45 := F45.binds (ps := p_Lore___init__) fun _ _ _ _ _ _ us hl => match us, hl with | [_, _], _ => rfl
  have F46 := fun_mk (st := s_Lore_add) l46 c46 k46
  have B46 := F46.binds (ps := p_Lore_add) fun _ _ _ _ _ _ us hl => match us, hl with | [_, _], _ => rfl
  have F47 := fun_mk (st := s_Lore_forms) l47 c47 k47
  have B47 := F47.binds (ps := p_Lore_forms) fun _ _ _ _ _ _ us hl => match us, hl with | [_, _], _ => rfl
  have F48 := fun_mk (st := s_Lore_has_kind) l48 c48 k48
  have B48 := F48.binds (ps := p_Lore_has_kind) fun _ _ _ _ _ _ us hl => match us, hl with | [_, _], _ => rfl
  have F49 := fun_mk (st := s_Lore_form) l49 c49 k49
  have B49 := F49.binds (ps := p_Lore_form) fun _ _ _ _ _ _ us hl => match us, hl with | [_, _], _ => rfl
  have F50 := fun_mk (st := s_Lore_function) l50 c50 k50
  have B50 := F50.binds (ps := p_Lore_function) fun _ _ _ _ _ _ us hl => match us, hl with | [_, _], _ => rfl
  have F51 := fun_mk (st := s_Lore_word) l51 c51 k51
  have B51 := F51.binds (ps := p_Lore_word) fun _ _ _ _ _ _ us hl => match us, hl with | [_, _], _ => rfl
  have F52 := fun_mk (st := s_Book___init__) l52 c52 k52
  have B52 := F52.binds (ps := p_Book___init__) fun _ _ _ _ _ _ us hl => match us, hl with | [_, _], _ => rfl
  have T : Tp K mg := { d_is_number := ⟨_, _, F0, PySem.W.mg_of X G a0, B0⟩, d_is_name := ⟨_, _, F1, PySem.W.mg_of X G a1, B1⟩, d_is_form_name := ⟨_, _, F2, PySem.W.mg_of X G a2, B2⟩, d_are_args := ⟨_, _, F3, PySem.W.mg_of X G a3, B3⟩, d_is_term := ⟨_, _, F4, PySem.W.mg_of X G a4, B4⟩, d_parts_of_terms := ⟨_, _, F5, PySem.W.mg_of X G a5, B5⟩, d_at_place := ⟨_, _, F6, PySem.W.mg_of X G a6, B6⟩, d_with_place := ⟨_, _, F7, PySem.W.mg_of X G a7, B7⟩, d_args_put := ⟨_, _, F8, PySem.W.mg_of X G a8, B8⟩, d_args_of := ⟨_, _, F9, PySem.W.mg_of X G a9, B9⟩, d_can_step := ⟨_, _, F10, PySem.W.mg_of X G a10, B10⟩, d_gone := ⟨_, _, F11, PySem.W.mg_of X G a11, B11⟩, d_steps := ⟨_, _, F12, PySem.W.mg_of X G a12, B12⟩, d_stepped := ⟨_, _, F13, PySem.W.mg_of X G a13, B13⟩, d_told_kinds := ⟨_, _, F14, PySem.W.mg_of X G a14, B14⟩, d_kind_in := ⟨_, _, F15, PySem.W.mg_of X G a15, B15⟩, d_kind_of := ⟨_, _, F16, PySem.W.mg_of X G a16, B16⟩, d_are_kinds := ⟨_, _, F17, PySem.W.mg_of X G a17, B17⟩, d_is_form := ⟨_, _, F18, PySem.W.mg_of X G a18, B18⟩, d_right_kind := ⟨_, _, F19, PySem.W.mg_of X G a19, B19⟩, d_right_function := ⟨_, _, F20, PySem.W.mg_of X G a20, B20⟩, d_is_of := ⟨_, _, F21, PySem.W.mg_of X G a21, B21⟩, d_falls := ⟨_, _, F22, PySem.W.mg_of X G a22, B22⟩, d_right_rule := ⟨_, _, F23, PySem.W.mg_of X G a23, B23⟩, d_is_right := ⟨_, _, F24, PySem.W.mg_of X G a24, B24⟩, d_l_begin := ⟨_, _, F25, PySem.W.mg_of X G a25, B25⟩, d_l_next := ⟨_, _, F26, PySem.W.mg_of X G a26, B26⟩, d_l_names := ⟨_, _, F27, PySem.W.mg_of X G a27, B27⟩, d_l_great := ⟨_, _, F28, PySem.W.mg_of X G a28, B28⟩, d_l_least := ⟨_, _, F29, PySem.W.mg_of X G a29, B29⟩, d_l_term := ⟨_, _, F30, PySem.W.mg_of X G a30, B30⟩, d_l_function := ⟨_, _, F31, PySem.W.mg_of X G a31, B31⟩, d_l_book := ⟨_, _, F32, PySem.W.mg_of X G a32, B32⟩, d_l_lore := ⟨_, _, F33, PySem.W.mg_of X G a33, B33⟩, d_l_things := ⟨_, _, F34, PySem.W.mg_of X G a34, B34⟩, d_l_args := ⟨_, _, F35, PySem.W.mg_of X G a35, B35⟩, d_l_put := ⟨_, _, F36, PySem.W.mg_of X G a36, B36⟩, d_l_here := ⟨_, _, F37, PySem.W.mg_of X G a37, B37⟩, d_l_places := ⟨_, _, F38, PySem.W.mg_of X G a38, B38⟩, d_l_gone := ⟨_, _, F39, PySem.W.mg_of X G a39, B39⟩, d_l_are_places := ⟨_, _, F40, PySem.W.mg_of X G a40, B40⟩, n_abs := PySem.W.mg_none_of X G z_abs, n_all := PySem.W.mg_none_of X G z_all, n_any := PySem.W.mg_none_of X G z_any, n_bool := PySem.W.mg_none_of X G z_bool, n_dict := PySem.W.mg_none_of X G z_dict, n_divmod := PySem.W.mg_none_of X G z_divmod, n_enumerate := PySem.W.mg_none_of X G z_enumerate, n_int := PySem.W.mg_none_of X G z_int, n_isinstance := PySem.W.mg_none_of X G z_isinstance, n_len := PySem.W.mg_none_of X G z_len, n_list := PySem.W.mg_none_of X G z_list, n_range := PySem.W.mg_none_of X G z_range, n_reversed := PySem.W.mg_none_of X G z_reversed, n_sorted := PySem.W.mg_none_of X G z_sorted, n_str := PySem.W.mg_none_of X G z_str, n_tuple := PySem.W.mg_none_of X G z_tuple, n_zip := PySem.W.mg_none_of X G z_zip, g_LETTERS := ⟨_, PySem.W.mg_of X G e_LETTERS, ⟨_, rfl⟩⟩, g_MOST_LETTERS := ⟨_, PySem.W.mg_of X G e_MOST, ⟨_, rfl⟩⟩, g_MOST_ARGS := ⟨_, PySem.W.mg_of X G e_ARGS, ⟨_, rfl⟩⟩, g_KEPT := ⟨a_KEPT, ⟨_, PySem.W.mg_of X G e_KEPT, rfl⟩, fun H => .tup (xs := [.str "false", .str "all", .str "some", .str "and", .str "or"]) (.inr ⟨_, _, _, o_KEPT, rfl, rfl, by show 5 ≤ sizeLine; decide, .cons ⟨_, rfl⟩ (.cons ⟨_, rfl⟩ (.cons ⟨_, rfl⟩ (.cons ⟨_, rfl⟩ (.cons ⟨_, rfl⟩ .nil))))⟩) (.cons (.str _) (.cons (.str _) (.cons (.str _) (.cons (.str _) (.cons (.str _) .nil)))))⟩, g_MOST_ROWS := ⟨_, PySem.W.mg_of X G e_ROWS, ⟨_, rfl⟩⟩, g_MOST_FORMS := ⟨_, PySem.W.mg_of X G e_FORMS, ⟨_, rfl⟩⟩, g_MOST_KINDS := ⟨_, PySem.W.mg_of X G e_KINDS, ⟨_, rfl⟩⟩, g_SIZES := True.intro }
  let A : CA := ⟨C_Lore, C_Book, C_Beside⟩
  have hcx : Cx3 K A := ⟨⟨pg_Lore, hd_Lore, po_Lore, sa_Lore⟩, ⟨pg_Book, hd_Book, po_Book, sa_Book⟩, ⟨pg_Beside, hd_Beside, po_Beside, sa_Beside⟩, fun f hf => by
    simp only [List.mem_cons, List.not_mem_nil, or_false] at hf
    rcases hf with rfl | rfl | rfl | rfl | rfl | rfl
    · exact ⟨no_Lore_lines, no_Book_lines⟩
    · exact ⟨no_Lore_kinds, no_Book_kinds⟩
    · exact ⟨no_Lore_shapes, no_Book_shapes⟩
    · exact ⟨no_Lore_functions, no_Book_functions⟩
    · exact ⟨no_Lore_words, no_Book_words⟩
    · exact ⟨no_Lore_facts, no_Book_facts⟩, ⟨no_Beside_lore, no_Beside_row⟩⟩
  have U : Tc K mg A := {
    cx := hcx
    forms := fun i hi => match i, hi with
      | .lo, _ => ⟨_, _, F47, ⟨m47_Lore, i47, k47⟩, B47⟩
      | .bo, _ => ⟨_, _, F47, ⟨m47_Book, i47, k47⟩, B47⟩
      | .be, h => absurd rfl h
    has_kind := fun i hi => match i, hi with
      | .lo, _ => ⟨_, _, F48, ⟨m48_Lore, i48, k48⟩, B48⟩
      | .bo, _ => ⟨_, _, F48, ⟨m48_Book, i48, k48⟩, B48⟩
      | .be, h => absurd rfl h
    form := fun i hi => match i, hi with
      | .lo, _ => ⟨_, _, F49, ⟨m49_Lore, i49, k49⟩, B49⟩
      | .bo, _ => ⟨_, _, F49, ⟨m49_Book, i49, k49⟩, B49⟩
      | .be, h => absurd rfl h
    function := fun i hi => match i, hi with
      | .lo, _ => ⟨_, _, F50, ⟨m50_Lore, i50, k50⟩, B50⟩
      | .bo, _ => ⟨_, _, F50, ⟨m50_Book, i50, k50⟩, B50⟩
      | .be, h => absurd rfl h
    word := fun i hi => match i, hi with
      | .lo, _ => ⟨_, _, F51, ⟨m51_Lore, i51, k51⟩, B51⟩
      | .bo, _ => ⟨_, _, F51, ⟨m51_Book, i51, k51⟩, B51⟩
      | .be, h => absurd rfl h
    add := fun i hi => match i, hi with
      | .lo, _ => ⟨_, _, F46, ⟨m46_Lore, i46, k46⟩, B46⟩
      | .bo, _ => ⟨_, _, F46, ⟨m46_Book, i46, k46⟩, B46⟩
      | .be, h => absurd rfl h
    formB := ⟨_, _, F43, ⟨m43_Beside, i43, k43⟩, B43⟩
    functionB := ⟨_, _, F44, ⟨m44_Beside, i44, k44⟩, B44⟩
    besI := ⟨⟨_, _, F42, ⟨mk_Beside, m42_Beside, i42, kc_Beside⟩, B42⟩, PySem.W.mg_of X G g_Beside⟩
    lorI := ⟨⟨_, _, F45, ⟨mk_Lore, m45_Lore, i45, kc_Lore⟩, B45⟩, PySem.W.mg_of X G g_Lore⟩
    booI := ⟨⟨_, _, F52, ⟨mk_Book, m52_Book, i52, kc_Book⟩, B52⟩, PySem.W.mg_of X G g_Book⟩ }
  have Bb : Tb K mg A := ⟨⟨_, PySem.W.mg_of X G g_Lore, rfl⟩, ⟨_, _, F45, k45, B45, _, ⟨rd_Lore, ga_Lore⟩, ⟨cv_Lore, rfl⟩⟩, no_Book_behind⟩
  have D : Td K mg w := ⟨d_SIZES, ⟨_, PySem.W.mg_of X G e_SIZES, rfl⟩, ⟨⟨_, _, ⟨o_SIZES, q_SIZES, w_SIZES⟩⟩, w_SIZES, fun x hx => by
    simp only [List.mem_cons, List.not_mem_nil, or_false] at hx
    rcases hx with rfl | rfl | rfl | rfl | rfl | rfl | rfl | rfl
    · exact ⟨_, s1_SIZES⟩
    · exact ⟨_, s2_SIZES⟩
    · exact ⟨_, s3_SIZES⟩
    · exact ⟨_, s4_SIZES⟩
    · exact ⟨_, s5_SIZES⟩
    · exact ⟨_, s6_SIZES⟩
    · exact ⟨_, s7_SIZES⟩
    · exact ⟨_, s8_SIZES⟩⟩⟩
  exact ⟨PySem.W.fnOf "law" "law" (defArgs s_law) (defBody s_law) (defScope s_law) .none kV41 dc41 pm41 an41 cd41 ct41, fun s v => .of_eq rfl, fun base _ _ => ok_all F41 T U Bb D⟩

theorem walk {l : PySem.W.OpenLaw} {q : Program} {loose : List Str} {XP : (Str → Option Value) → Heap → Prop} {YP : World → Heap → Prop} {d : DefRec} {K : Params → PySem.W.Frag} (hn : l.most = some 63) (hdf : d.params.defaults = [])
    (hY : ∀ (w : World) (h : Heap), YP w h → (K w.params).In h)
    (F : ∀ (w : World) (mg : Str → Option Value) (fa : Addr) (h : Heap), (K w.params).In h → h.Ns mainGlobals mg → mg d.name = some (.ref fa) →
      ∃ fd : FuncData, (∀ (s : Shared) (u : Value), BindsTo s fd ⟨[u], []⟩ [("_law_script", u)]) ∧ ∀ base : Heap, (K w.params).In base → base.Ns mainGlobals mg → FnOk l.prog w (K w.params) mg base CX0 200 fa fd ["_law_script"] (spLaw (K w.params))) :
    PySem.W.WalkO q loose XP YP l.row.toRowW d [] (fun f vs => PySem.call f vs) :=
  L2.walk_of (n := 63) (k := 200) (x := "_law_script") (CX := fun _ => CX0) (sp := fun w => spLaw (K w.params)) hn (by decide) hdf ⟨rfl, by decide, by decide⟩ hY F (fun _ _ a ns hl _ hS => ⟨a, ns, rfl, hS, hl, fun _ => rfl⟩) fun _ _ _ _ _ z => z
end G
namespace PySem.W.Fast
def tw3489830462489722879 : Nat := 0
def tw952589768603361577 : Nat := 0
def tw15617657552272329770 : Nat := 0
def tw8332268321425830219 : Nat := 0
def tw13803290657781297683 : Nat := 0
def tw5861261720096272661 : Nat := 0
def tw11218375436472694529 : Nat := 0
def tw1762416292071842302 : Nat := 0
def tw2000544015705839389 : Nat := 0
def tw15676656523472920918 : Nat := 0
def tw5041542471225937540 : Nat := 0
def tw14530261256135658525 : Nat := 0
def tw11038114589543287772 : Nat := 0
def tw12014806617452410532 : Nat := 0
def tw10310946873560854192 : Nat := 0
def tw10594311107711394820 : Nat := 0
def tw8442167538900087038 : Nat := 0
def tw1594448928527657628 : Nat := 0
def tw9108858963789339750 : Nat := 0
end PySem.W.Fast
open PySem PySem.W PyProof.Rows
set_option maxRecDepth 100000 in
set_option maxHeartbeats 0 in
theorem PySem.Challenge.cw_tacticwright_k21_steps_found_holds : PySem.Challenge.rw_tacticwright_k21_steps_found.Holds := by
  w_on; o_law; k_head; (case hw => w_witness2)
  k_fill
  refine G.walk (l := PySem.Challenge.rw_tacticwright_k21_steps_found) rfl rfl (fun w h Y => PySem.W.kIn_of Y) ?F
  case F =>
    intro w mg fa h KX HG hmg
    refine' G.all_mk KX HG hmg ?e_LETTERS ?e_MOST ?e_ARGS ?e_ROWS ?e_FORMS ?e_KINDS ?e_KEPT ?o_KEPT ?g_Lore ?pg_Lore ?hd_Lore ?po_Lore ?sa_Lore ?mk_Lore ?kc_Lore ?g_Book ?pg_Book ?hd_Book ?po_Book ?sa_Book ?mk_Book ?kc_Book ?g_Beside ?pg_Beside ?hd_Beside ?po_Beside ?sa_Beside ?mk_Beside ?kc_Beside ?a0 ?l0 ?c0 ?k0 ?a1 ?l1 ?c1 ?k1 ?a2 ?l2 ?c2 ?k2 ?a3 ?l3 ?c3 ?k3 ?a4 ?l4 ?c4 ?k4 ?a5 ?l5 ?c5 ?k5 ?a6 ?l6 ?c6 ?k6 ?a7 ?l7 ?c7 ?k7 ?a8 ?l8 ?c8 ?k8 ?a9 ?l9 ?c9 ?k9 ?a10 ?l10 ?c10 ?k10 ?a11 ?l11 ?c11 ?k11 ?a12 ?l12 ?c12 ?k12 ?a13 ?l13 ?c13 ?k13 ?a14 ?l14 ?c14 ?k14 ?a15 ?l15 ?c15 ?k15 ?a16 ?l16 ?c16 ?k16 ?a17 ?l17 ?c17 ?k17 ?a18 ?l18 ?c18 ?k18 ?a19 ?l19 ?c19 ?k19 ?a20 ?l20 ?c20 ?k20 ?a21 ?l21 ?c21 ?k21 ?a22 ?l22 ?c22 ?k22 ?a23 ?l23 ?c23 ?k23 ?a24 ?l24 ?c24 ?k24 ?a25 ?l25 ?c25 ?k25 ?a26 ?l26 ?c26 ?k26 ?a27 ?l27 ?c27 ?k27 ?a28 ?l28 ?c28 ?k28 ?a29 ?l29 ?c29 ?k29 ?a30 ?l30 ?c30 ?k30 ?a31 ?l31 ?c31 ?k31 ?a32 ?l32 ?c32 ?k32 ?a33 ?l33 ?c33 ?k33 ?a34 ?l34 ?c34 ?k34 ?a35 ?l35 ?c35 ?k35 ?a36 ?l36 ?c36 ?k36 ?a37 ?l37 ?c37 ?k37 ?a38 ?l38 ?c38 ?k38 ?a39 ?l39 ?c39 ?k39 ?a40 ?l40 ?c40 ?k40 ?a41 ?l41 ?c41 ?k41 ?m42_Beside ?i42 ?l42 ?c42 ?k42 ?m43_Beside ?i43 ?l43 ?c43 ?k43 ?m44_Beside ?i44 ?l44 ?c44 ?k44 ?m45_Lore ?i45 ?l45 ?c45 ?k45 ?m46_Lore ?m46_Book ?i46 ?l46 ?c46 ?k46 ?m47_Lore ?m47_Book ?i47 ?l47 ?c47 ?k47 ?m48_Lore ?m48_Book ?i48 ?l48 ?c48 ?k48 ?m49_Lore ?m49_Book ?i49 ?l49 ?c49 ?k49 ?m50_Lore ?m50_Book ?i50 ?l50 ?c50 ?k50 ?m51_Lore ?m51_Book ?i51 ?l51 ?c51 ?k51 ?m52_Book ?i52 ?l52 ?c52 ?k52 ?no_Lore_lines ?no_Lore_kinds ?no_Lore_shapes ?no_Lore_functions ?no_Lore_words ?no_Lore_facts ?no_Book_lines ?no_Book_kinds ?no_Book_shapes ?no_Book_functions ?no_Book_words ?no_Book_facts ?no_Beside_lore ?no_Beside_row ?no_Book_behind ?rd_Lore ?ga_Lore ?cv_Lore ?e_SIZES ?o_SIZES ?q_SIZES ?w_SIZES ?s1_SIZES ?s2_SIZES ?s3_SIZES ?s4_SIZES ?s5_SIZES ?s6_SIZES ?s7_SIZES ?s8_SIZES ?z_abs ?z_all ?z_any ?z_bool ?z_dict ?z_divmod ?z_enumerate ?z_int ?z_isinstance ?z_len ?z_list ?z_range ?z_reversed ?z_sorted ?z_str ?z_tuple ?z_zip
    (case e_LETTERS => k_is)
    (case e_MOST => k_is)
    (case e_ARGS => k_is)
    (case e_ROWS => k_is)
    (case e_FORMS => k_is)
    (case e_KINDS => k_is)
    (case e_KEPT => k_is)
    (case o_KEPT => k_is)
    (case g_Lore => k_is)
    (case pg_Lore => k_is)
    (case hd_Lore => k_is)
    (case po_Lore => k_is)
    (case sa_Lore => k_is)
    (case mk_Lore => k_is)
    (case kc_Lore => k_is)
    (case g_Book => k_is)
    (case pg_Book => k_is)
    (case hd_Book => k_is)
    (case po_Book => k_is)
    (case sa_Book => k_is)
    (case mk_Book => k_is)
    (case kc_Book => k_is)
    (case g_Beside => k_is)
    (case pg_Beside => k_is)
    (case hd_Beside => k_is)
    (case po_Beside => k_is)
    (case sa_Beside => k_is)
    (case mk_Beside => k_is)
    (case kc_Beside => k_is)
    (case a0 => k_is)
    (case l0 => k_is)
    (case c0 => k_is)
    (case k0 => k_is)
    (case a1 => k_is)
    (case l1 => k_is)
    (case c1 => k_is)
    (case k1 => k_is)
    (case a2 => k_is)
    (case l2 => k_is)
    (case c2 => k_is)
    (case k2 => k_is)
    (case a3 => k_is)
    (case l3 => k_is)
    (case c3 => k_is)
    (case k3 => k_is)
    (case a4 => k_is)
    (case l4 => k_is)
    (case c4 => k_is)
    (case k4 => k_is)
    (case a5 => k_is)
    (case l5 => k_is)
    (case c5 => k_is)
    (case k5 => k_is)
    (case a6 => k_is)
    (case l6 => k_is)
    (case c6 => k_is)
    (case k6 => k_is)
    (case a7 => k_is)
    (case l7 => k_is)
    (case c7 => k_is)
    (case k7 => k_is)
    (case a8 => k_is)
    (case l8 => k_is)
    (case c8 => k_is)
    (case k8 => k_is)
    (case a9 => k_is)
    (case l9 => k_is)
    (case c9 => k_is)
    (case k9 => k_is)
    (case a10 => k_is)
    (case l10 => k_is)
    (case c10 => k_is)
    (case k10 => k_is)
    (case a11 => k_is)
    (case l11 => k_is)
    (case c11 => k_is)
    (case k11 => k_is)
    (case a12 => k_is)
    (case l12 => k_is)
    (case c12 => k_is)
    (case k12 => k_is)
    (case a13 => k_is)
    (case l13 => k_is)
    (case c13 => k_is)
    (case k13 => k_is)
    (case a14 => k_is)
    (case l14 => k_is)
    (case c14 => k_is)
    (case k14 => k_is)
    (case a15 => k_is)
    (case l15 => k_is)
    (case c15 => k_is)
    (case k15 => k_is)
    (case a16 => k_is)
    (case l16 => k_is)
    (case c16 => k_is)
    (case k16 => k_is)
    (case a17 => k_is)
    (case l17 => k_is)
    (case c17 => k_is)
    (case k17 => k_is)
    (case a18 => k_is)
    (case l18 => k_is)
    (case c18 => k_is)
    (case k18 => k_is)
    (case a19 => k_is)
    (case l19 => k_is)
    (case c19 => k_is)
    (case k19 => k_is)
    (case a20 => k_is)
    (case l20 => k_is)
    (case c20 => k_is)
    (case k20 => k_is)
    (case a21 => k_is)
    (case l21 => k_is)
    (case c21 => k_is)
    (case k21 => k_is)
    (case a22 => k_is)
    (case l22 => k_is)
    (case c22 => k_is)
    (case k22 => k_is)
    (case a23 => k_is)
    (case l23 => k_is)
    (case c23 => k_is)
    (case k23 => k_is)
    (case a24 => k_is)
    (case l24 => k_is)
    (case c24 => k_is)
    (case k24 => k_is)
    (case a25 => k_is)
    (case l25 => k_is)
    (case c25 => k_is)
    (case k25 => k_is)
    (case a26 => k_is)
    (case l26 => k_is)
    (case c26 => k_is)
    (case k26 => k_is)
    (case a27 => k_is)
    (case l27 => k_is)
    (case c27 => k_is)
    (case k27 => k_is)
    (case a28 => k_is)
    (case l28 => k_is)
    (case c28 => k_is)
    (case k28 => k_is)
    (case a29 => k_is)
    (case l29 => k_is)
    (case c29 => k_is)
    (case k29 => k_is)
    (case a30 => k_is)
    (case l30 => k_is)
    (case c30 => k_is)
    (case k30 => k_is)
    (case a31 => k_is)
    (case l31 => k_is)
    (case c31 => k_is)
    (case k31 => k_is)
    (case a32 => k_is)
    (case l32 => k_is)
    (case c32 => k_is)
    (case k32 => k_is)
    (case a33 => k_is)
    (case l33 => k_is)
    (case c33 => k_is)
    (case k33 => k_is)
    (case a34 => k_is)
    (case l34 => k_is)
    (case c34 => k_is)
    (case k34 => k_is)
    (case a35 => k_is)
    (case l35 => k_is)
    (case c35 => k_is)
    (case k35 => k_is)
    (case a36 => k_is)
    (case l36 => k_is)
    (case c36 => k_is)
    (case k36 => k_is)
    (case a37 => k_is)
    (case l37 => k_is)
    (case c37 => k_is)
    (case k37 => k_is)
    (case a38 => k_is)
    (case l38 => k_is)
    (case c38 => k_is)
    (case k38 => k_is)
    (case a39 => k_is)
    (case l39 => k_is)
    (case c39 => k_is)
    (case k39 => k_is)
    (case a40 => k_is)
    (case l40 => k_is)
    (case c40 => k_is)
    (case k40 => k_is)
    (case a41 => k_is)
    (case l41 => k_is)
    (case c41 => k_is)
    (case k41 => k_is)
    (case m42_Beside => k_is)
    (case i42 => k_is)
    (case l42 => k_is)
    (case c42 => k_is)
    (case k42 => k_is)
    (case m43_Beside => k_is)
    (case i43 => k_is)
    (case l43 => k_is)
    (case c43 => k_is)
    (case k43 => k_is)
    (case m44_Beside => k_is)
    (case i44 => k_is)
    (case l44 => k_is)
    (case c44 => k_is)
    (case k44 => k_is)
    (case m45_Lore => k_is)
    (case i45 => k_is)
    (case l45 => k_is)
    (case c45 => k_is)
    (case k45 => k_is)
    (case m46_Lore => k_is)
    (case m46_Book => k_is)
    (case i46 => k_is)
    (case l46 => k_is)
    (case c46 => k_is)
    (case k46 => k_is)
    (case m47_Lore => k_is)
    (case m47_Book => k_is)
    (case i47 => k_is)
    (case l47 => k_is)
    (case c47 => k_is)
    (case k47 => k_is)
    (case m48_Lore => k_is)
    (case m48_Book => k_is)
    (case i48 => k_is)
    (case l48 => k_is)
    (case c48 => k_is)
    (case k48 => k_is)
    (case m49_Lore => k_is)
    (case m49_Book => k_is)
    (case i49 => k_is)
    (case l49 => k_is)
    (case c49 => k_is)
    (case k49 => k_is)
    (case m50_Lore => k_is)
    (case m50_Book => k_is)
    (case i50 => k_is)
    (case l50 => k_is)
    (case c50 => k_is)
    (case k50 => k_is)
    (case m51_Lore => k_is)
    (case m51_Book => k_is)
    (case i51 => k_is)
    (case l51 => k_is)
    (case c51 => k_is)
    (case k51 => k_is)
    (case m52_Book => k_is)
    (case i52 => k_is)
    (case l52 => k_is)
    (case c52 => k_is)
    (case k52 => k_is)
    (case no_Lore_lines => k_is)
    (case no_Lore_kinds => k_is)
    (case no_Lore_shapes => k_is)
    (case no_Lore_functions => k_is)
    (case no_Lore_words => k_is)
    (case no_Lore_facts => k_is)
    (case no_Book_lines => k_is)
    (case no_Book_kinds => k_is)
    (case no_Book_shapes => k_is)
    (case no_Book_functions => k_is)
    (case no_Book_words => k_is)
    (case no_Book_facts => k_is)
    (case no_Beside_lore => k_is)
    (case no_Beside_row => k_is)
    (case no_Book_behind => k_is)
    (case rd_Lore => k_is)
    (case ga_Lore => k_is)
    (case cv_Lore => k_is)
    (case e_SIZES => k_is)
    (case o_SIZES => k_is)
    (case q_SIZES => k_keys)
    (case w_SIZES => decide)
    (case s1_SIZES => k_is)
    (case s2_SIZES => k_is)
    (case s3_SIZES => k_is)
    (case s4_SIZES => k_is)
    (case s5_SIZES => k_is)
    (case s6_SIZES => k_is)
    (case s7_SIZES => k_is)
    (case s8_SIZES => k_is)
    (case z_abs => k_is)
    (case z_all => k_is)
    (case z_any => k_is)
    (case z_bool => k_is)
    (case z_dict => k_is)
    (case z_divmod => k_is)
    (case z_enumerate => k_is)
    (case z_int => k_is)
    (case z_isinstance => k_is)
    (case z_len => k_is)
    (case z_list => k_is)
    (case z_range => k_is)
    (case z_reversed => k_is)
    (case z_sorted => k_is)
    (case z_str => k_is)
    (case z_tuple => k_is)
    (case z_zip => k_is)

