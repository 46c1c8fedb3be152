import PyProof.Rows.All
import Wide.All
import OpenK.AllK
import Wide.FinOn
import HandS.ForMost
import HandS.IsInst
import HandS.Flow
import HandS.Walk
import HandS.TupAny
import HandS.Conv
import HandS.Steps
import HandS.Style
import PyProof.NeData
import KE.GoesMore
import HandS.Small
import HandS.More
import HandS.TryOnly
import HandS.RevRange
import HandS.Replace
import PySem.Challenge.RW_tacticwright_k61_walks_told
set_option Elab.async false
set_option linter.all false
set_option maxRecDepth 100000
set_option maxHeartbeats 4000000
namespace G
open PySem PySem.Spec PyProof.Rows L2

/-! ### data and what stands for it -/
mutual
inductive R (K : PySem.W.Frag) (H : Hp) : V → PyData → Prop
  | non : R K H .non .none
  | bl (b : Bool) : R K H (.bl b) (.bool b)
  | int (i : Int) : R K H (.int i) (.int i)
  | str (x : Str) : R K H (.str x) (.str x)
  | lst {a : Addr} {xs : List V} {ds : List PyData} : H a = some (.lst xs) → RA K H xs ds → R K H (.ref a) (.list ds)
  | tup {a : Addr} {xs : List V} {ds : List PyData} : SqT K H a xs → RA K H xs ds → R K H (.ref a) (.tuple ds)
  | dct {a : Addr} {kvs : List (Key × V)} : H a = some (.dK kvs) → R K H (.ref a) (.dict [])
inductive RA (K : PySem.W.Frag) (H : Hp) : List V → List PyData → Prop
  | nil : RA K H [] []
  | cons {v : V} {vs : List V} {d : PyData} {ds : List PyData} : R K H v d → RA K H vs ds → RA K H (v :: vs) (d :: ds)
end
section
variable {K : PySem.W.Frag} {H H' : Hp}
theorem _root_.L2.Same.tup {a : Addr} {xs : List V} (e : Same H H') (h : SqT K H a xs) : SqT K H' a xs := by
  rcases h with (h | ⟨o, h⟩) | h
  · exact .inl (.inl (e _ _ h))
  · exact .inl (.inr ⟨o, e _ _ h⟩)
  · exact .inr h
mutual
theorem R.mono (e : Same H H') : ∀ {v : V} {d : PyData}, R K H v d → R K H' v d
  | _, _, .non => .non
  | _, _, .bl b => .bl b
  | _, _, .int i => .int i
  | _, _, .str x => .str x
  | _, _, .lst h r => .lst (e _ _ h) (RA.mono e r)
  | _, _, .tup h r => .tup (e.tup h) (RA.mono e r)
  | _, _, .dct h => .dct (e _ _ h)
theorem RA.mono (e : Same H H') : ∀ {vs : List V} {ds : List PyData}, RA K H vs ds → RA K H' vs ds
  | _, _, .nil => .nil
  | _, _, .cons h r => .cons (R.mono e h) (RA.mono e r)
end
theorem RA.length : ∀ {vs : List V} {ds : List PyData}, RA K H vs ds → vs.length = ds.length
  | _, _, .nil => rfl
  | _, _, .cons _ r => by simp [RA.length r]
theorem RA.get : ∀ {vs : List V} {ds : List PyData} {i : Nat} {d : PyData}, RA K H vs ds → ds[i]? = some d → ∃ v, vs[i]? = some v ∧ R K H v d
  | _, _, i, _, .nil, e => by simp at e
  | _, _, 0, _, .cons h _, e => by simp at e; subst e; exact ⟨_, rfl, h⟩
  | _, _, i + 1, _, .cons _ r, e => by
    obtain ⟨v, h1, h2⟩ := RA.get (i := i) r (by simpa using e)
    exact ⟨v, by simpa using h1, h2⟩
theorem RA.getV : ∀ {vs : List V} {ds : List PyData} {i : Nat} {v : V}, RA K H vs ds → vs[i]? = some v → ∃ d, ds[i]? = some d ∧ R K H v d
  | _, _, i, _, .nil, e => by simp at e
  | _, _, 0, _, .cons h _, e => by simp at e; subst e; exact ⟨_, rfl, h⟩
  | _, _, i + 1, _, .cons _ r, e => by
    obtain ⟨v, h1, h2⟩ := RA.getV (i := i) r (by simpa using e)
    exact ⟨v, by simpa using h1, h2⟩
theorem RA.append : ∀ {vs ws : List V} {ds es : List PyData}, RA K H vs ds → RA K H ws es → RA K H (vs ++ ws) (ds ++ es)
  | _, _, _, _, .nil, s => s
  | _, _, _, _, .cons h r, s => .cons h (RA.append r s)
theorem RA.drop : ∀ (n : Nat) {vs : List V} {ds : List PyData}, RA K H vs ds → RA K H (vs.drop n) (ds.drop n)
  | 0, _, _, r => r
  | _ + 1, _, _, .nil => .nil
  | n + 1, _, _, .cons _ r => RA.drop n r
theorem RA.take : ∀ (n : Nat) {vs : List V} {ds : List PyData}, RA K H vs ds → RA K H (vs.take n) (ds.take n)
  | 0, _, _, _ => .nil
  | _ + 1, _, _, .nil => .nil
  | n + 1, _, _, .cons h r => .cons h (RA.take n r)
theorem RA.bools : ∀ {vs : List V} {bs : List Bool}, RA K H vs (bs.map PyData.bool) → vs = bs.map V.bl
  | _, [], .nil => rfl
  | _, _ :: _, .cons h r => by cases h; rw [RA.bools r]; rfl
theorem RA.ints : ∀ {vs : List V} {bs : List Int}, RA K H vs (bs.map PyData.int) → vs = bs.map V.int
  | _, [], .nil => rfl
  | _, _ :: _, .cons h r => by cases h; rw [RA.ints r]; rfl
theorem RA.strs : ∀ {vs : List V} {bs : List Str}, RA K H vs (bs.map PyData.str) → vs = bs.map V.str
  | _, [], .nil => rfl
  | _, _ :: _, .cons h r => by cases h; rw [RA.strs r]; rfl
theorem R.inv_str {v : V} {x : Str} (h : R K H v (.str x)) : v = .str x := by cases h; rfl
theorem R.inv_int {v : V} {x : Int} (h : R K H v (.int x)) : v = .int x := by cases h; rfl
theorem R.inv_bl {v : V} {x : Bool} (h : R K H v (.bool x)) : v = .bl x := by cases h; rfl
theorem R.inv_non {v : V} (h : R K H v .none) : v = .non := by cases h; rfl
theorem R.inv_tup {v : V} {ds : List PyData} (h : R K H v (.tuple ds)) : ∃ a xs, v = .ref a ∧ SqT K H a xs ∧ RA K H xs ds := by cases h; exact ⟨_, _, rfl, ‹_›, ‹_›⟩
theorem R.inv_lst {v : V} {ds : List PyData} (h : R K H v (.list ds)) : ∃ a xs, v = .ref a ∧ H a = some (.lst xs) ∧ RA K H xs ds := by cases h; exact ⟨_, _, rfl, ‹_›, ‹_›⟩
theorem RA.inv_cons {vs : List V} {d : PyData} {ds : List PyData} (h : RA K H vs (d :: ds)) : ∃ v ws, vs = v :: ws ∧ R K H v d ∧ RA K H ws ds := by cases h; exact ⟨_, _, rfl, ‹_›, ‹_›⟩
theorem RA.inv_nil {vs : List V} (h : RA K H vs []) : vs = [] := by cases h; rfl
/-- a new object -/
theorem same_new {p : Addr} (h : H p = none) (o : HO) : Same H (upd H p o) := fun b u q => by rw [upd_ne (ne_of_none q h)]; exact q
mutual
theorem R.dp : ∀ {v : V} {d : PyData}, R K H v d → d.canLay0 = true → Dp K H v d
  | _, _, .non, _ => .non
  | _, _, .bl b, _ => .bl b
  | _, _, .int i, _ => .int i
  | _, _, .str x, _ => .str x
  | _, _, .lst h r, c => .lst (.inl (.inl h)) (RA.dp r (by simpa [PyData.canLay0] using c))
  | _, _, .tup h r, c => .tup h (RA.dp r (by simpa [PyData.canLay0] using c))
  | _, _, .dct h, c => by simp [PyData.canLay0] at c
theorem RA.dp : ∀ {vs : List V} {ds : List PyData}, RA K H vs ds → PyData.canLayAll0 ds = true → DpAll K H vs ds
  | _, _, .nil, _ => .nil
  | _, _, .cons h r, c => by
    simp only [PyData.canLayAll0, Bool.and_eq_true] at c
    exact .cons (R.dp h c.1) (RA.dp r c.2)
end
end

/-! ### calls of defs -/
structure Cal (P : Program) (w : World) (K : PySem.W.Frag) (mg : Str → Option Value) (base : Heap) (k : Nat) (x : Str) (sp : Sp) : Prop where
  ex : ∃ (f : Addr) (fd : FuncData) (ps : List Str), FnOk P w K mg base CX0 k f fd ps sp ∧ mg x = some (.ref f) ∧ PySem.W.keepIn K (.ref f) = true ∧ Binds K fd ps []
structure Df (K : PySem.W.Frag) (mg : Str → Option Value) (x : Str) (st : Stmt) (ps : List Str) : Prop where
  ex : ∃ f fd, Fun K x x st f fd ∧ mg x = some (.ref f) ∧ Binds K fd ps []
section
variable {X : Cx}
theorem pe_c {j k : Nat} {x : Str} {sp : Sp} {e : Expr} {es : List Expr} {t : TA} {p pos : Pos} (c : Cal X.prog X.w X.K X.mg X.base k x sp) (hr : Room j X.A) (hk : k ≤ j) (hg : Gl X x) (ha : PA X (e :: es) t)
    (hdb : (x == ("__debug__" : Str)) = false := by decide) (he : starEach (e :: es) X.env = (false, eval e X.env) :: starEach es X.env := by rfl) (hpl : (backTo pos (starEach es X.env)).any (·.1) = false := by rfl) :
    PE X (.Call (.Name x p) (e :: es) [] pos) (tCall sp [] E0 t) := by
  obtain ⟨f, fd, ps, F, hm, kp, b⟩ := c.ex
  exact pe_call F (hr.mono hk) hg hm kp b .nil pass0 ha hdb he hpl
theorem Df.cal {P : Program} {w : World} {K : PySem.W.Frag} {mg : Str → Option Value} {base : Heap} {x : Str} {st : Stmt} {N ps : List Str} {k : Nat} {sp : Sp} (D : Df K mg x st ps) (S : FnScope N ps (defScope st)) (len : ∀ vs H Q E, sp vs H Q E → vs.length = ps.length)
    (hbody : ∀ (f : Addr) (cdv : Value) (A : Around) (outer : List Env) (s : Shared) (H : Hp) (vs : List V) (Q : VK) (E : XK), Room k (A.deeper (envOfC x (defScope st) s.heap.objs.size f cdv)) → sp vs H Q E →
      ∃ t, PSs (cxOf CX0 P w K mg base N x (defScope st) f cdv A outer s H E).nox (defBody st) t ∧ t { nx := fun _ H' => Q .non H', rt := Q } (start N vs) H) : Cal P w K mg base (k + 1) x sp := by
  obtain ⟨f, fd, F, hm, b⟩ := D.ex
  exact ⟨f, fd, ps, F.ok S len (hbody f), hm, F.kp, b⟩
theorem Cal.mono {P : Program} {w : World} {K : PySem.W.Frag} {mg : Str → Option Value} {base : Heap} {k : Nat} {x : Str} {sp sp' : Sp} (c : Cal P w K mg base k x sp) (h : ∀ vs H Q E, sp' vs H Q E → sp vs H Q E) : Cal P w K mg base k x sp' := by
  obtain ⟨f, fd, ps, F, hm, kp, b⟩ := c.ex
  exact ⟨f, fd, ps, ⟨fun vs H Q E q => F.1 vs H Q E (h vs H Q E q), fun A outer s H args us vs Q E a1 a2 a3 a4 q => F.2 A outer s H args us vs Q E a1 a2 a3 a4 (h vs H Q E q)⟩, hm, kp, b⟩

/-! ### redescribing a thing -/
theorem redesc {pins : List (Addr × Obj)} {σ : L2.St} {H : Hp} {s : Shared} {d : Addr} {u o : HO} (I : Inv X pins σ H s) (h : H d = some u) (mu : Mut (some u)) (new : ObjOk X.prog X.w (upd H d o) s.heap d o) : Inv X pins σ (upd H d o) s :=
  I.write (x := d) (e := d) (t' := s.toks) (h' := s.heap) (by rw [h]; exact mu) (.inl rfl) (fun b v _ q => q) (by
    have x := I.hok d u h
    cases u with
    | lst xs => obtain ⟨_, _, _, _, e⟩ := x; exact ⟨_, e⟩
    | dK kvs => obtain ⟨_, _, _, _, o, _, _, e, _⟩ := x; exact ⟨o, e⟩
    | dT kvs => obtain ⟨_, _, _, _, o, _, _, e, _⟩ := x; exact ⟨o, e⟩
    | set S n => obtain ⟨o, _, _, _, e, _⟩ := x; exact ⟨o, e⟩
    | ins C dx fs => obtain ⟨_, _, _, e, _⟩ := x; exact ⟨_, e⟩
    | ext φ => obtain ⟨_, ⟨_, e⟩, _⟩ := x; exact ⟨_, e⟩
    | _ => exact False.elim mu) new
end
/-! ### the state: a list of two ints, told by no more -/
def StP (p : Addr) (h : Heap) : Prop := ∃ (a b : Int) (t u : Tok) (n : Nat), h.get? p = some { cls := .type "list", data := .seq #[.int a t, .int b u] n }
def Stt (p : Addr) : HO := .ext (StP p)
theorem st_open {X : Cx} {pins : List (Addr × Obj)} {σ : L2.St} {H : Hp} {s : Shared} {p : Addr} (I : Inv X pins σ H s) (h : H p = some (Stt p)) : ∃ a b : Int, Inv X pins σ (upd H p (.lst [.int a, .int b])) s := by
  obtain ⟨⟨a, b, t, u, n, e⟩, _, _⟩ := I.hok p _ h
  refine ⟨a, b, redesc I h True.intro ?_⟩
  exact ⟨by show 2 ≤ sizeLine; decide, [.int a t, .int b u], n, .cons ⟨_, rfl⟩ (.cons ⟨_, rfl⟩ .nil), e⟩
theorem st_close {X : Cx} {pins : List (Addr × Obj)} {σ : L2.St} {H : Hp} {s : Shared} {p : Addr} {a b : Int} (I : Inv X pins σ H s) (h : H p = some (.lst [.int a, .int b])) : Inv X pins σ (upd H p (Stt p)) s := by
  obtain ⟨_, its, n, r, e⟩ := I.hok p _ h
  refine redesc I h True.intro ?_
  have z : StP p s.heap := by
    cases r with
    | cons r1 r =>
      cases r with
      | cons r2 r =>
        cases r
        obtain ⟨t, rfl⟩ := r1
        obtain ⟨u, rfl⟩ := r2
        exact ⟨a, b, t, u, n, e⟩
  exact ⟨z, ⟨_, e⟩, fun h1 h2 ⟨a, b, t, u, n, e⟩ k => ⟨a, b, t, u, n, k _ e⟩⟩
/-- a block that has the state's two ints open -/
def tOpen (t : TS) : TS := fun D σ H => ∃ p, H p = some (Stt p) ∧ ∀ a b : Int,
  t ⟨fun σ' H' => ∃ a b : Int, H' p = some (.lst [.int a, .int b]) ∧ D.nx σ' (upd H' p (Stt p)), fun v H' => ∃ a b : Int, H' p = some (.lst [.int a, .int b]) ∧ D.rt v (upd H' p (Stt p)), fun _ _ => False, fun _ _ => False⟩ σ (upd H p (.lst [.int a, .int b]))
theorem pss_open {X : Cx} {st : List Stmt} {t : TS} (h : PSs X st t) : PSs X st (tOpen t) := by
  refine ⟨fun pins s σ H D I hw => ?_⟩
  obtain ⟨p, hp, hw⟩ := hw
  obtain ⟨a, b, I1⟩ := st_open I hp
  refine thn (h.run pins s σ _ _ I1 (hw a b)) fun f s1 q => ?_
  cases f with
  | next => obtain ⟨σ', H', I2, a, b, e, q⟩ := q; exact ⟨σ', _, st_close I2 e, q⟩
  | brk => obtain ⟨σ', H', I2, q⟩ := q; exact q.elim
  | cont => obtain ⟨σ', H', I2, q⟩ := q; exact q.elim
  | ret v => obtain ⟨x, σ', H', I2, r, a, b, e, q⟩ := q; exact ⟨x, σ', _, st_close I2 e, r, q⟩
/-- a block that hands back a new list of two ints: told as a state -/
def tShut (t : TS) : TS := fun D σ H => t { D with rt := fun v H' => ∃ (p : Addr) (a b : Int), v = .ref p ∧ H' p = some (.lst [.int a, .int b]) ∧ D.rt v (upd H' p (Stt p)) } σ H
theorem pss_shut {X : Cx} {st : List Stmt} {t : TS} (h : PSs X st t) : PSs X st (tShut t) := by
  refine ⟨fun pins s σ H D I hw => ?_⟩
  refine thn (h.run pins s σ _ _ I hw) fun f s1 q => ?_
  cases f with
  | next => exact q
  | brk => exact q
  | cont => exact q
  | ret v => obtain ⟨x, σ', H', I2, r, p, a, b, e1, e, q⟩ := q; exact ⟨x, σ', _, st_close I2 e, r, q⟩
end G

namespace G
open PySem PySem.Spec PyProof.Rows L2

theorem big_le {n : Nat} (h : n ≤ 1000000) : n ≤ sizeLine := Nat.le_trans h (by decide)

def NewT (_K : PySem.W.Frag) (xs : List V) (H : Hp) (Q : VK) : Prop := xs.length ≤ sizeLine ∧ ∀ p, H p = none → Q (.ref p) (upd H p (.tup xs))
def NewL (_K : PySem.W.Frag) (xs : List V) (H : Hp) (Q : VK) : Prop := xs.length ≤ sizeLine ∧ ∀ p, H p = none → Q (.ref p) (upd H p (.lst xs))
def tTupK (_K : PySem.W.Frag) (t : TA) : TE := tTup t
def tLstK (_K : PySem.W.Frag) (t : TA) : TE := tLst t
theorem pe_tupK (K : PySem.W.Frag) {X : Cx} {es : List Expr} {t : TA} {pos : Pos} {x1 : Nat} (h : PA X es t) : PE X (.Tuple es x1 pos) (tTupK K t) := pe_tup h
theorem pe_lstK (K : PySem.W.Frag) {X : Cx} {es : List Expr} {t : TA} {pos : Pos} (h : PA X es t) : PE X (.List es pos) (tLstK K t) := pe_lst h
/-! ### control: what a reading asks next -/
section
variable {K : PySem.W.Frag} {σ : L2.St} {H : Hp} {nx : L2.St → Hp → Prop} {rt : VK} {bk ct : L2.St → Hp → Prop} {t u : TS} {te ta tb : TE} {c d : TT} {Q : VK} {QB : Bool → Hp → Prop} {v : V} {i : Nat}
theorem st_seq (h : t ⟨fun σ H => u ⟨nx, rt, bk, ct⟩ σ H, rt, bk, ct⟩ σ H) : tSeq t u ⟨nx, rt, bk, ct⟩ σ H := h
theorem st_next (h : nx σ H) : tNext ⟨nx, rt, bk, ct⟩ σ H := h
theorem st_break (h : bk σ H) : tBreak ⟨nx, rt, bk, ct⟩ σ H := h
theorem st_cont (h : ct σ H) : tCont ⟨nx, rt, bk, ct⟩ σ H := h
theorem st_drop (h : te σ H fun _ H1 => nx σ H1) : tDrop te ⟨nx, rt, bk, ct⟩ σ H := h
theorem st_ret (h : te σ H rt) : tRet te ⟨nx, rt, bk, ct⟩ σ H := h
theorem st_retN (h : rt .non H) : tRetN ⟨nx, rt, bk, ct⟩ σ H := h
theorem st_if (h : c σ H fun b H1 => if b = true then t ⟨nx, rt, bk, ct⟩ σ H1 else u ⟨nx, rt, bk, ct⟩ σ H1) : tIfS c t u ⟨nx, rt, bk, ct⟩ σ H := h
theorem st_set (h : te σ H fun x H1 => nx (σ.set i (some x)) H1) : tAsg te (gName i) ⟨nx, rt, bk, ct⟩ σ H := h
theorem st_var (hv : σ[i]? = some (some v)) (h : Q v H) : tVar i σ H Q := ⟨v, hv, h⟩
theorem st_c (h : Q v H) : tC v σ H Q := h
theorem st_tB (h : te σ H fun x H1 => ∃ k, x = .bl k ∧ QB k H1) : tB te σ H QB := h
theorem st_tTest (h : te σ H fun x H1 => ∃ k, x = .bl k ∧ QB k H1) : tTest te σ H QB := h
theorem st_bl {b : Bool} {P : Bool → Prop} (h : P b) : ∃ k, V.bl b = .bl k ∧ P k := ⟨b, rfl, h⟩
theorem st_and (h : c σ H fun b H1 => if b = true then d σ H1 QB else QB false H1) : tAnd c d σ H QB := h
theorem st_or (h : c σ H fun b H1 => if b = true then QB true H1 else d σ H1 QB) : tOr c d σ H QB := h
theorem st_not (h : c σ H fun b H1 => QB (!b) H1) : tNot c σ H QB := h
theorem st_andV (h : ta σ H fun x H1 => ∃ k, x = .bl k ∧ if k = true then tb σ H1 Q else Q (.bl false) H1) : tAndV ta tb σ H Q := h
theorem st_orV (h : ta σ H fun x H1 => ∃ k, x = .bl k ∧ if k = true then Q (.bl true) H1 else tb σ H1 Q) : tOrV ta tb σ H Q := h
theorem st_notV (h : ta σ H fun x H1 => ∃ k, x = .bl k ∧ Q (.bl (!k)) H1) : tNotV ta σ H Q := h
theorem st_tIf (h : c σ H fun b H1 => if b = true then ta σ H1 Q else tb σ H1 Q) : tIf c ta tb σ H Q := h
theorem st_op {r : R2} (h : ta σ H fun x H1 => tb σ H1 fun y H2 => r x y H2 Q) : tOp r ta tb σ H Q := h
theorem st_un {r : V → Hp → VK → Prop} (h : ta σ H fun x H1 => r x H1 Q) : tUn r ta σ H Q := h
theorem st_chain {r r' : R2} {tc : TE} (h : ta σ H fun x H1 => tb σ H1 fun y H2 => r x y H2 fun z H3 => ∃ k, z = .bl k ∧ if k = true then tc σ H3 fun w H4 => r' y w H4 Q else Q (.bl false) H3) : tChain r r' ta tb tc σ H Q := by
  unfold tChain
  exact h
theorem st_nil {QA : List V → Hp → Prop} (h : QA [] H) : tNil σ H QA := h
theorem st_cons {QA : List V → Hp → Prop} {tr : TA} (h : te σ H fun x H1 => tr σ H1 fun xs H2 => QA (x :: xs) H2) : tCons te tr σ H QA := h
theorem st_call {sp : Sp} {E : XK} {a : TA} (h : a σ H fun vs H1 => sp vs H1 Q E) : tCall sp [] E a σ H Q := by
  unfold tCall
  simp only [List.append_nil]
  exact h
theorem st_CB {r : List V → Hp → VK → Prop} {a : TA} (h : a σ H fun vs H1 => r vs H1 Q) : tCB r a σ H Q := h
theorem st_ite {b : Bool} {A B : Prop} (h1 : b = true → A) (h2 : b = false → B) : if b = true then A else B := by
  cases b with
  | true => rw [if_pos rfl]; exact h1 rfl
  | false => rw [if_neg Bool.false_ne_true]; exact h2 rfl
theorem st_slice {r : V → Option Int → Option Int → Hp → VK → Prop} {tl th : TO} (h : te σ H fun x H1 => tl σ H1 fun l H2 => th σ H2 fun u H3 => r x l u H3 Q) : tSl r te tl th σ H Q := h
theorem st_noPart {QO : Option Int → Hp → Prop} (h : QO none H) : tNoPart σ H QO := h
theorem st_part {QO : Option Int → Hp → Prop} (h : te σ H fun x H1 => ∃ i, x = .int i ∧ QO (some i) H1) : tPart te σ H QO := h
theorem st_exInt {P : Int → Prop} {j : Int} (h : P j) : ∃ i, V.int j = .int i ∧ P i := ⟨j, rfl, h⟩
/-- a new tuple | list -/
theorem st_tup {a : TA} (h : a σ H fun xs H1 => NewT K xs H1 Q) : tTupK K a σ H Q := h
theorem st_lst {a : TA} (h : a σ H fun xs H1 => NewL K xs H1 Q) : tLstK K a σ H Q := h
theorem st_newT {xs : List V} {ds : List PyData} (r : RA K H xs ds) (hl : xs.length ≤ 1000000) (h : ∀ v H', Same H H' → R K H' v (.tuple ds) → Q v H') : NewT K xs H Q :=
  ⟨big_le hl, fun p hp => h _ _ (same_new hp _) (.tup (.inl (.inl upd_same)) (r.mono (same_new hp _)))⟩
theorem st_newL {xs : List V} {ds : List PyData} (r : RA K H xs ds) (hl : xs.length ≤ 1000000) (h : ∀ v H', Same H H' → R K H' v (.list ds) → Q v H') : NewL K xs H Q :=
  ⟨big_le hl, fun p hp => h _ _ (same_new hp _) (.lst upd_same (r.mono (same_new hp _)))⟩
end

/-! ### operators, by what they are given -/
section
variable {X : Cx}
abbrev rI2 (g : Int → Int → V) : R2 := rI0 g
def rAddS2 : R2 := fun x y H Q => ∃ i j, x = .str i ∧ y = .str j ∧ i.length + j.length ≤ sizeLine ∧ Q (.str (i ++ j)) H
def rAddU (K : PySem.W.Frag) : R2 := fun x y H Q => rI0 (fun i j => .int (i + j)) x y H Q ∨ rAddS2 x y H Q ∨ rCat x y H Q ∨ rCatA K x y H Q
theorem op_addU : OpR X (binaryOp .Add) (rAddU X.K) := OpR.or op_add (OpR.or op_add_str (OpR.or op_cat op_catA))
def rEqX (K : PySem.W.Frag) : R2 := fun x y H Q => ∃ d e, Dp K H x d ∧ Dp K H y e ∧ d.canLay0 = true ∧ e.canLay0 = true ∧ min d.depth e.depth ≤ 190 ∧ Q (.bl (PyData.eqv d e)) H
def rNeX (K : PySem.W.Frag) : R2 := fun x y H Q => ∃ d e, Dp K H x d ∧ Dp K H y e ∧ d.canLay0 = true ∧ e.canLay0 = true ∧ min d.depth e.depth ≤ 190 ∧ Q (.bl (!PyData.eqv d e)) H
theorem op_eqX {k : Nat} (hr : Room k X.A) : OpR X (compareOp .Eq) (rEqX X.K) := by
  intro pins s σ H x y v u Q I rx ry h
  obtain ⟨d, e, hd, he, sd, se, hm, q⟩ := h
  obtain ⟨as, r1⟩ := Dp.reads I d x v hd rx
  obtain ⟨bs, r2⟩ := Dp.reads I e y u he ry
  exact SeqAt.compareEq_reads r1 r2 sd se (by have := hr.un; omega) ⟨.bl _, H, I, rfl, q⟩
theorem op_neX {k : Nat} (hr : Room k X.A) : OpR X (compareOp .NotEq) (rNeX X.K) := by
  intro pins s σ H x y v u Q I rx ry h
  obtain ⟨d, e, hd, he, sd, se, hm, q⟩ := h
  obtain ⟨as, r1⟩ := Dp.reads I d x v hd rx
  obtain ⟨bs, r2⟩ := Dp.reads I e y u he ry
  exact SeqAt.compareNe_reads r1 r2 sd se (by have := hr.un; omega) ⟨.bl _, H, I, rfl, q⟩
def rEqU (K : PySem.W.Frag) : R2 := fun x y H Q => rEq x y H Q ∨ rEqX K x y H Q
def rNeU (K : PySem.W.Frag) : R2 := fun x y H Q => rNe x y H Q ∨ rNeX K x y H Q
theorem op_eqU {k : Nat} (hr : Room k X.A) : OpR X (compareOp .Eq) (rEqU X.K) := OpR.or op_eq (op_eqX hr)
theorem op_neU {k : Nat} (hr : Room k X.A) : OpR X (compareOp .NotEq) (rNeU X.K) := OpR.or op_ne (op_neX hr)
def rIsU : R2 := fun x y H Q => rIsN x y H Q ∨ rIsB x y H Q
def rNisU : R2 := fun x y H Q => rNotN x y H Q ∨ rNotB x y H Q
theorem op_isU : OpR X (compareOp .Is) rIsU := OpR.or op_isN1 op_isBl
theorem op_nisU : OpR X (compareOp .IsNot) rNisU := OpR.or op_notN1 op_notBl
def rInU (K : PySem.W.Frag) : R2 := fun x y H Q => rInS x y H Q ∨ rIn K false x y H Q
def rNinU (K : PySem.W.Frag) : R2 := fun x y H Q => rNotInS x y H Q ∨ rIn K true x y H Q
theorem op_inU : OpR X (compareOp .In) (rInU X.K) := OpR.or op_inS op_in_seq
theorem op_ninU : OpR X (compareOp .NotIn) (rNinU X.K) := OpR.or op_notInS op_notIn_seq
def rSlU (K : PySem.W.Frag) : V → Option Int → Option Int → Hp → VK → Prop := fun x lo hi H Q => rSlS x lo hi H Q ∨ rSlL K x lo hi H Q ∨ rSlA K x lo hi H Q
theorem sl_U : SlR X (rSlU X.K) := SlR.or sl_str (SlR.or sl_list sl_tupA)
end

/-! ### what they give, by data -/
def inS (w : Str) : List PyData → Bool
  | [] => false
  | .str z :: ds => decide (z = w) || inS w ds
  | _ :: ds => inS w ds
def allS : List PyData → Bool
  | [] => true
  | .str _ :: ds => allS ds
  | _ :: _ => false
def inI (w : Int) : List PyData → Bool
  | [] => false
  | .int z :: ds => decide (z = w) || inI w ds
  | _ :: ds => inI w ds
def allI : List PyData → Bool
  | [] => true
  | .int _ :: ds => allI ds
  | _ :: _ => false
def isNone : PyData → Bool
  | .none => true
  | _ => false
def cutD (xs : List PyData) (lo hi : Option Int) : List PyData := (xs.drop (HT.sIx xs.length 0 lo)).take (HT.sIx xs.length xs.length hi - HT.sIx xs.length 0 lo)
section
variable {K : PySem.W.Frag} {σ : L2.St} {H : Hp} {Q : VK} {x y : V}
theorem add_int {i j : Int} (h : Q (.int (i + j)) H) : rAddU K (.int i) (.int j) H Q := .inl ⟨i, j, rfl, rfl, h⟩
theorem add_str {i j : Str} (hl : i.length + j.length ≤ 1000000) (h : Q (.str (i ++ j)) H) : rAddU K (.str i) (.str j) H Q := .inr (.inl ⟨i, j, rfl, rfl, big_le hl, h⟩)
theorem add_lst {ds es : List PyData} (r : R K H x (.list ds)) (s : R K H y (.list es)) (hl : ds.length + es.length ≤ 1000000) (h : ∀ v H', Same H H' → R K H' v (.list (ds ++ es)) → Q v H') : rAddU K x y H Q := by
  obtain ⟨a, xs, rfl, ha, ra⟩ := r.inv_lst
  obtain ⟨b, ys, rfl, hb, rb⟩ := s.inv_lst
  refine .inr (.inr (.inl ⟨a, b, xs, ys, rfl, rfl, ha, hb, big_le (by rw [ra.length, rb.length]; exact hl), fun p hp => ?_⟩))
  exact h _ _ (same_new hp _) (.lst upd_same ((ra.append rb).mono (same_new hp _)))
theorem add_tup {ds es : List PyData} (r : R K H x (.tuple ds)) (s : R K H y (.tuple es)) (hl : ds.length + es.length ≤ 1000000) (h : ∀ v H', Same H H' → R K H' v (.tuple (ds ++ es)) → Q v H') : rAddU K x y H Q := by
  obtain ⟨a, xs, rfl, ha, ra⟩ := r.inv_tup
  obtain ⟨b, ys, rfl, hb, rb⟩ := s.inv_tup
  refine .inr (.inr (.inr ⟨a, b, xs, ys, rfl, rfl, ha, hb, big_le (by rw [ra.length, rb.length]; exact hl), fun e => ?_, fun e1 e2 => ?_, fun e1 e2 p hp => ?_⟩))
  · subst e
    cases ra
    exact h _ _ (Same.refl _) (.tup hb rb)
  · subst e2
    cases rb
    exact h _ _ (Same.refl _) (by rw [List.append_nil]; exact .tup ha ra)
  · exact h _ _ (same_new hp _) (.tup (.inl (.inl upd_same)) ((ra.append rb).mono (same_new hp _)))
theorem i0 {g : Int → Int → V} {i j : Int} (h : Q (g i j) H) : rI0 g (.int i) (.int j) H Q := ⟨i, j, rfl, rfl, h⟩
theorem iC {C : Int → Int → Prop} {g : Int → Int → V} {i j : Int} (hc : C i j) (h : Q (g i j) H) : rI C g (.int i) (.int j) H Q := ⟨i, j, rfl, rfl, hc, h⟩
theorem eq_str {i j : Str} (h : Q (.bl (decide (i = j))) H) : rEqU K (.str i) (.str j) H Q := .inl ⟨rfl, by
  have e : decide (V.str i = V.str j) = decide (i = j) := by simp
  rw [e]; exact h⟩
theorem eq_int {i j : Int} (h : Q (.bl (decide (i = j))) H) : rEqU K (.int i) (.int j) H Q := .inl ⟨rfl, by
  have e : decide (V.int i = V.int j) = decide (i = j) := by simp
  rw [e]; exact h⟩
theorem eq_bl {i j : Bool} (h : Q (.bl (i == j)) H) : rEqU K (.bl i) (.bl j) H Q := .inl ⟨rfl, by
  have e : decide (V.bl i = V.bl j) = (i == j) := by cases i <;> cases j <;> rfl
  rw [e]; exact h⟩
theorem ne_str {i j : Str} (h : Q (.bl (!decide (i = j))) H) : rNeU K (.str i) (.str j) H Q := .inl ⟨rfl, by
  have e : decide (V.str i = V.str j) = decide (i = j) := by simp
  rw [e]; exact h⟩
theorem ne_int {i j : Int} (h : Q (.bl (!decide (i = j))) H) : rNeU K (.int i) (.int j) H Q := .inl ⟨rfl, by
  have e : decide (V.int i = V.int j) = decide (i = j) := by simp
  rw [e]; exact h⟩
theorem eq_R {d e : PyData} (r : R K H x d) (s : R K H y e) (c : d.canLay0 = true) (c' : e.canLay0 = true) (hm : min d.depth e.depth ≤ 190) (h : Q (.bl (PyData.eqv d e)) H) : rEqU K x y H Q := .inr ⟨d, e, r.dp c, s.dp c', c, c', hm, h⟩
theorem ne_R {d e : PyData} (r : R K H x d) (s : R K H y e) (c : d.canLay0 = true) (c' : e.canLay0 = true) (hm : min d.depth e.depth ≤ 190) (h : Q (.bl (!PyData.eqv d e)) H) : rNeU K x y H Q := .inr ⟨d, e, r.dp c, s.dp c', c, c', hm, h⟩
theorem is_none {d : PyData} (r : R K H x d) (h : Q (.bl (isNone d)) H) : rIsU x .non H Q := .inl ⟨rfl, by
  have e : decide (x = V.non) = isNone d := by cases r <;> simp [isNone]
  rw [e]; exact h⟩
theorem isnt_none {d : PyData} (r : R K H x d) (h : Q (.bl (!isNone d)) H) : rNisU x .non H Q := .inl ⟨rfl, by
  have e : decide (x = V.non) = isNone d := by cases r <;> simp [isNone]
  rw [e]; exact h⟩
theorem is_bl {a b : Bool} (h : Q (.bl (a == b)) H) : rIsU (.bl a) (.bl b) H Q := .inr ⟨a, b, rfl, rfl, by
  have e : decide (a = b) = (a == b) := by cases a <;> cases b <;> rfl
  rw [e]; exact h⟩
theorem isnt_bl {a b : Bool} (h : Q (.bl (!(a == b))) H) : rNisU (.bl a) (.bl b) H Q := .inr ⟨a, b, rfl, rfl, by
  have e : decide (a = b) = (a == b) := by cases a <;> cases b <;> rfl
  rw [e]; exact h⟩
theorem in_sign {c : Nat} {z : Str} (h : Q (.bl (decide (c ∈ z.cps.toList))) H) : rInU K (.str ⟨#[c]⟩) (.str z) H Q := .inl ⟨c, z, rfl, rfl, h⟩
theorem nin_sign {c : Nat} {z : Str} (h : Q (.bl (!decide (c ∈ z.cps.toList))) H) : rNinU K (.str ⟨#[c]⟩) (.str z) H Q := .inl ⟨c, z, rfl, rfl, h⟩
theorem flat_S : ∀ {xs : List V} {ds : List PyData}, RA K H xs ds → allS ds = true → xs.all flatV = true ∧ ∀ w, inV (.str w) xs = inS w ds
  | _, [], .nil, _ => ⟨rfl, fun _ => rfl⟩
  | _, .str z :: ds, .cons h r, c => by
    have e := h.inv_str
    subst e
    obtain ⟨q1, q2⟩ := flat_S r c
    refine ⟨by simpa [flatV] using q1, fun w => ?_⟩
    show (eqV (.str z) (.str w) || inV (.str w) _) = (decide (z = w) || inS w ds)
    rw [q2]
    congr 1
  | _, .none :: _, _, c => by simp [allS] at c
  | _, .bool _ :: _, _, c => by simp [allS] at c
  | _, .int _ :: _, _, c => by simp [allS] at c
  | _, .list _ :: _, _, c => by simp [allS] at c
  | _, .tuple _ :: _, _, c => by simp [allS] at c
  | _, .dict _ :: _, _, c => by simp [allS] at c
theorem flat_I : ∀ {xs : List V} {ds : List PyData}, RA K H xs ds → allI ds = true → xs.all flatV = true ∧ ∀ w, inV (.int w) xs = inI w ds
  | _, [], .nil, _ => ⟨rfl, fun _ => rfl⟩
  | _, .int z :: ds, .cons h r, c => by
    have e := h.inv_int
    subst e
    obtain ⟨q1, q2⟩ := flat_I r c
    refine ⟨by simpa [flatV] using q1, fun w => ?_⟩
    show (eqV (.int z) (.int w) || inV (.int w) _) = (decide (z = w) || inI w ds)
    rw [q2]
    congr 1
  | _, .none :: _, _, c => by simp [allI] at c
  | _, .bool _ :: _, _, c => by simp [allI] at c
  | _, .str _ :: _, _, c => by simp [allI] at c
  | _, .list _ :: _, _, c => by simp [allI] at c
  | _, .tuple _ :: _, _, c => by simp [allI] at c
  | _, .dict _ :: _, _, c => by simp [allI] at c
theorem in_strsT {w : Str} {ds : List PyData} (r : R K H y (.tuple ds)) (c : allS ds = true) (h : Q (.bl (inS w ds)) H) : rInU K (.str w) y H Q := by
  obtain ⟨a, xs, rfl, ha, ra⟩ := r.inv_tup
  obtain ⟨q1, q2⟩ := flat_S ra c
  exact .inr ⟨a, xs, rfl, .inr ha, rfl, q1, by rw [if_neg Bool.false_ne_true, q2]; exact h⟩
theorem nin_strsT {w : Str} {ds : List PyData} (r : R K H y (.tuple ds)) (c : allS ds = true) (h : Q (.bl (!inS w ds)) H) : rNinU K (.str w) y H Q := by
  obtain ⟨a, xs, rfl, ha, ra⟩ := r.inv_tup
  obtain ⟨q1, q2⟩ := flat_S ra c
  exact .inr ⟨a, xs, rfl, .inr ha, rfl, q1, by rw [if_pos rfl, q2]; exact h⟩
theorem in_strsL {w : Str} {ds : List PyData} (r : R K H y (.list ds)) (c : allS ds = true) (h : Q (.bl (inS w ds)) H) : rInU K (.str w) y H Q := by
  obtain ⟨a, xs, rfl, ha, ra⟩ := r.inv_lst
  obtain ⟨q1, q2⟩ := flat_S ra c
  exact .inr ⟨a, xs, rfl, .inl (.inl (.inl ha)), rfl, q1, by rw [if_neg Bool.false_ne_true, q2]; exact h⟩
theorem nin_strsL {w : Str} {ds : List PyData} (r : R K H y (.list ds)) (c : allS ds = true) (h : Q (.bl (!inS w ds)) H) : rNinU K (.str w) y H Q := by
  obtain ⟨a, xs, rfl, ha, ra⟩ := r.inv_lst
  obtain ⟨q1, q2⟩ := flat_S ra c
  exact .inr ⟨a, xs, rfl, .inl (.inl (.inl ha)), rfl, q1, by rw [if_pos rfl, q2]; exact h⟩
theorem in_intsT {w : Int} {ds : List PyData} (r : R K H y (.tuple ds)) (c : allI ds = true) (h : Q (.bl (inI w ds)) H) : rInU K (.int w) y H Q := by
  obtain ⟨a, xs, rfl, ha, ra⟩ := r.inv_tup
  obtain ⟨q1, q2⟩ := flat_I ra c
  exact .inr ⟨a, xs, rfl, .inr ha, rfl, q1, by rw [if_neg Bool.false_ne_true, q2]; exact h⟩
theorem nin_intsT {w : Int} {ds : List PyData} (r : R K H y (.tuple ds)) (c : allI ds = true) (h : Q (.bl (!inI w ds)) H) : rNinU K (.int w) y H Q := by
  obtain ⟨a, xs, rfl, ha, ra⟩ := r.inv_tup
  obtain ⟨q1, q2⟩ := flat_I ra c
  exact .inr ⟨a, xs, rfl, .inr ha, rfl, q1, by rw [if_pos rfl, q2]; exact h⟩
theorem atI_pos {α : Type} {xs : List α} {i : Int} {v : α} (h0 : 0 ≤ i) (h : xs[i.toNat]? = some v) : atI xs i = some v := by
  have e := atI_nat h
  rwa [show ((i.toNat : Nat) : Int) = i by omega] at e
theorem ix_tupR {ds : List PyData} {i : Int} {d : PyData} (r : R K H x (.tuple ds)) (h0 : 0 ≤ i) (hd : ds[i.toNat]? = some d) (h : ∀ v, R K H v d → Q v H) : rIx K x (.int i) H Q := by
  obtain ⟨a, xs, rfl, ha, ra⟩ := r.inv_tup
  obtain ⟨v, e, rv⟩ := ra.get hd
  exact .inr (.inl ⟨a, xs, i, v, rfl, rfl, ha, atI_pos h0 e, h v rv⟩)
theorem ix_lstR {ds : List PyData} {i : Int} {d : PyData} (r : R K H x (.list ds)) (h0 : 0 ≤ i) (hd : ds[i.toNat]? = some d) (h : ∀ v, R K H v d → Q v H) : rIx K x (.int i) H Q := by
  obtain ⟨a, xs, rfl, ha, ra⟩ := r.inv_lst
  obtain ⟨v, e, rv⟩ := ra.get hd
  exact .inl ⟨a, xs, i, v, rfl, rfl, .inl (.inl ha), atI_pos h0 e, h v rv⟩
/-- any of them -/
theorem ix_tupM {ds : List PyData} {i : Int} (r : R K H x (.tuple ds)) (h0 : 0 ≤ i) (h1 : i < (ds.length : Int)) (h : ∀ v d, d ∈ ds → R K H v d → Q v H) : rIx K x (.int i) H Q :=
  ix_tupR r h0 (List.getElem?_eq_getElem (by omega)) fun v rv => h v _ (List.getElem_mem (by omega)) rv
theorem ix_lstM {ds : List PyData} {i : Int} (r : R K H x (.list ds)) (h0 : 0 ≤ i) (h1 : i < (ds.length : Int)) (h : ∀ v d, d ∈ ds → R K H v d → Q v H) : rIx K x (.int i) H Q :=
  ix_lstR r h0 (List.getElem?_eq_getElem (by omega)) fun v rv => h v _ (List.getElem_mem (by omega)) rv
theorem ix_strR {z : Str} {i : Int} {c : Nat} (hl : z.length ≤ 1000000) (h0 : 0 ≤ i) (hc : z.cps.toList[i.toNat]? = some c) (h : Q (.str ⟨#[c]⟩) H) : rIx K (.str z) (.int i) H Q :=
  .inr (.inr ⟨z, i, c, rfl, rfl, big_le hl, atI_pos h0 hc, h⟩)
theorem ix_strM {z : Str} {i : Int} (hl : z.length ≤ 1000000) (h0 : 0 ≤ i) (h1 : i < (z.length : Int)) (h : ∀ c, c ∈ z.cps.toList → Q (.str ⟨#[c]⟩) H) : rIx K (.str z) (.int i) H Q := by
  have e : z.length = z.cps.toList.length := by simp [Str.length]
  have hi : i.toNat < z.cps.toList.length := by omega
  exact ix_strR hl h0 (List.getElem?_eq_getElem hi) (h _ (List.getElem_mem hi))
theorem cut_RA {xs : List V} {ds : List PyData} (r : RA K H xs ds) (lo hi : Option Int) : RA K H (cutV xs lo hi) (cutD ds lo hi) := by
  unfold cutV cutD
  rw [r.length]
  exact (r.drop _).take _
theorem sl_strR {z : Str} {lo hi : Option Int} (hl : z.length ≤ 1000000) (h : Q (.str (cutS z lo hi)) H) : rSlU K (.str z) lo hi H Q := .inl ⟨z, rfl, big_le hl, h⟩
theorem sl_lstR {ds : List PyData} {lo hi : Option Int} (r : R K H x (.list ds)) (h : ∀ v H', Same H H' → R K H' v (.list (cutD ds lo hi)) → Q v H') : rSlU K x lo hi H Q := by
  obtain ⟨a, xs, rfl, ha, ra⟩ := r.inv_lst
  exact .inr (.inl ⟨a, xs, rfl, .inl (.inl ha), fun p hp => h _ _ (same_new hp _) (.lst upd_same ((cut_RA ra lo hi).mono (same_new hp _)))⟩)
theorem cutV_whole {xs : List V} {lo hi : Option Int} (h : HT.sIx xs.length 0 lo = 0 ∧ HT.sIx xs.length xs.length hi = xs.length) : cutV xs lo hi = xs := by
  unfold cutV
  rw [h.1, h.2]
  simp
theorem sl_tupR {ds : List PyData} {lo hi : Option Int} (r : R K H x (.tuple ds)) (h : ∀ v H', Same H H' → R K H' v (.tuple (cutD ds lo hi)) → Q v H') : rSlU K x lo hi H Q := by
  obtain ⟨a, xs, rfl, ha, ra⟩ := r.inv_tup
  refine .inr (.inr ⟨a, xs, rfl, ha, fun e => ?_, fun e p hp => ?_⟩)
  · have q := cut_RA ra lo hi
    rw [cutV_whole e] at q
    exact h _ _ (Same.refl _) (.tup ha q)
  · exact h _ _ (same_new hp _) (.tup (.inl (.inl upd_same)) ((cut_RA ra lo hi).mono (same_new hp _)))
end
end G

namespace G
open PySem PySem.Spec PyProof.Rows L2

/-! ### a list that is put aside while an expression runs -/
def hide (H : Hp) (d : Addr) : Hp := fun b => if b = d then none else H b
theorem hide_same {H : Hp} {d : Addr} : hide H d d = none := by unfold hide; rw [if_pos rfl]
theorem hide_ne {H : Hp} {b d : Addr} (h : b ≠ d) : hide H d b = H b := by unfold hide; rw [if_neg h]
theorem hide_upd {H : Hp} {d : Addr} {o : HO} (h : H d = none) : hide (upd H d o) d = H := by
  funext b
  by_cases e : b = d
  · rw [e, hide_same, h]
  · rw [hide_ne e, upd_ne e]
section
variable {X : Cx} {pins : List (Addr × Obj)} {σ : L2.St} {H : Hp} {s : Shared} {d : Addr} {xs : List V}
theorem inv_hide (I : Inv X pins σ H s) (h : H d = some (.lst xs)) : ∃ ob, s.heap.get? d = some ob ∧ Inv X ((d, ob) :: pins) σ (hide H d) s := by
  obtain ⟨hz, its, n, r, e⟩ := I.hok d _ h
  have nof : d ∉ X.fs := fun hb => by
    have h0 := I.ok.frf d hb
    obtain ⟨_, o, ho, _⟩ := I.ok.funs.mem hb
    have q := I.base.free d o ho h0 (fun hx => I.ok.exfs d hx hb)
    rw [h] at q; cases q
  have neN : ∀ b, H b = none → b ≠ d := fun b e z => by rw [z, h] at e; cases e
  refine ⟨_, e, ⟨I.ok, I.os, I.bare, ⟨I.base.keep, I.base.slot, fun b o e n hx => ?_, I.base.there, fun b ys e => ?_, fun b o x e => ?_, fun b ps e => ?_⟩, I.loc, I.cell, ?_, fun x c e => ?_, fun p hp => ?_, fun b o q => ?_, I.len⟩⟩
  · rw [hide_ne (neN b (I.base.free b o e n hx))]; exact I.base.free b o e n hx
  · have q := I.base.tups b ys e
    rw [hide_ne (fun z => by rw [z, h] at q; cases q)]; exact q
  · have q := I.base.frzs b o x e
    rw [hide_ne (fun z => by rw [z, h] at q; cases q)]; exact q
  · obtain ⟨m, q⟩ := I.base.tbls b ps e
    exact ⟨m, by rw [hide_ne (fun z => by rw [z, h] at q; cases q)]; exact q⟩
  · rw [hide_ne (neN _ I.free)]; exact I.free
  · rw [hide_ne (neN c (I.freeC x c e))]; exact I.freeC x c e
  · have hp' : p = (d, { cls := Value.type "list", data := Data.seq its.toArray n }) ∨ p ∈ X.pn ++ pins := by
      simp only [List.mem_append, List.mem_cons] at hp ⊢
      rcases hp with hp | hp | hp
      · exact .inr (.inl hp)
      · exact .inl hp
      · exact .inr (.inr hp)
    rcases hp' with hp' | hp'
    · rw [hp']
      exact ⟨e, hide_same, fun z => neN _ I.free z.symm, nof, fun v z => by cases z⟩
    · obtain ⟨e, n, q⟩ := I.pin p hp'
      exact ⟨e, by rw [hide_ne (neN _ n)]; exact n, q⟩
  · by_cases hb : b = d
    · rw [hb, hide_same] at q; cases q
    · rw [hide_ne hb] at q
      refine (I.hok b o q).stay (fun c v _ q => q) (fun c q => ?_) fun c ys q => ?_
      · rw [hide_ne (fun z => by rw [z, h] at q; cases q)]; exact q
      · rw [hide_ne (fun z => by rw [z, h] at q; cases q)]; exact q
theorem inv_show {σ' : L2.St} {H' : Hp} {s' : Shared} {ob : Obj} (I : Inv X pins σ H s) (h : H d = some (.lst xs)) (e : s.heap.get? d = some ob) (J : Inv X ((d, ob) :: pins) σ' H' s') : H' d = none ∧ Inv X pins σ' (upd H' d (.lst xs)) s' := by
  obtain ⟨e', n', nl, nf, nc⟩ := J.pin (d, ob) (by simp)
  refine ⟨n', ?_⟩
  have neN : ∀ b, H b = none → b ≠ d := fun b e z => by rw [z, h] at e; cases e
  have neS : ∀ b o, H' b = some o → b ≠ d := fun b o e z => by rw [z] at e; rw [show H' d = none from n'] at e; cases e
  refine ⟨J.ok, J.os, J.bare, ⟨J.base.keep, J.base.slot, fun b o e n hx => ?_, J.base.there, fun b ys e => ?_, fun b o x e => ?_, fun b ps e => ?_⟩, J.loc, J.cell, ?_, fun x c e => ?_, fun p hp => ?_, fun b o q => ?_, J.len⟩
  · rw [upd_ne (neN b (I.base.free b o e n hx))]; exact J.base.free b o e n hx
  · have q := J.base.tups b ys e
    rw [upd_ne (neS _ _ q)]; exact q
  · have q := J.base.frzs b o x e
    rw [upd_ne (neS _ _ q)]; exact q
  · obtain ⟨m, q⟩ := J.base.tbls b ps e
    exact ⟨m, by rw [upd_ne (neS _ _ q)]; exact q⟩
  · rw [upd_ne (fun z => nl z.symm)]; exact J.free
  · rw [upd_ne (neN c (I.freeC x c (by exact e)))]; exact J.freeC x c e
  · obtain ⟨e, n, q⟩ := J.pin p (by simp only [List.mem_append, List.mem_cons] at hp ⊢; rcases hp with hp | hp; exact .inl hp; exact .inr (.inr hp))
    have n0 := (I.pin p hp).2.1
    exact ⟨e, by rw [upd_ne (neN _ n0)]; exact n, q⟩
  · by_cases hb : b = d
    · rw [hb, upd_same] at q
      cases q
      rw [hb]
      obtain ⟨hz, its, n, r, e2⟩ := I.hok d _ h
      have z : ob = _ := Option.some.inj (e.symm.trans e2)
      exact ⟨hz, its, n, r, by rw [← z]; exact e'⟩
    · rw [upd_ne hb] at q
      refine (J.hok b o q).stay (fun c v _ q => q) (fun c q => ?_) fun c ys q => ?_
      · rw [upd_ne (neS _ _ q)]; exact q
      · rw [upd_ne (neS _ _ q)]; exact q
def tHide (t : TE) : TE := fun σ H Q => ∃ D xs, H D = some (.lst xs) ∧ t σ (hide H D) fun v H' => H' D = none → Q v (upd H' D (.lst xs))
theorem pe_hide {e : Expr} {t : TE} (h : PE X e t) : PE X e (tHide t) := by
  refine ⟨fun pins s σ H Q I hw => ?_⟩
  obtain ⟨d, xs, hd, hw⟩ := hw
  obtain ⟨ob, e1, I1⟩ := inv_hide I hd
  refine thn (h.run _ s σ _ _ I1 hw) fun v s1 ⟨x, H1, I2, r, q⟩ => ?_
  obtain ⟨n, I3⟩ := inv_show I hd e1 I2
  exact ⟨x, _, I3, r, q n⟩
end

/-! ### list comprehensions over anything that walks; the list that grows is put aside at each turn -/
section
variable {K : PySem.W.Frag} {J : It} {n : Nat} {G : Hp → Prop} {Y : Nat → Hp → V → Hp → Prop} {te : TE} {vs : List Nat} {σ : L2.St} {H : Hp} {Q : VK} {j : Nat}
theorem lc_gen (w : L2.Walk J n G Y) (It : Nat → V → Prop) (hY : ∀ i H x H', Y i H x H' → H' = H ∧ It i x) (hG : ∀ H', Same H H' → G H') (hn : n ≤ 1000000) (hw : ∀ x, wipe ((wipe σ vs).set j (some x)) vs = wipe σ vs)
    (P : Nat → PyData → Prop)
    (he : ∀ i x H1, i < n → It i x → Same H H1 → ∀ Qt : VK, (∀ y H2 e, Same H1 H2 → R K H2 y e → P i e → Qt y H2) → te ((wipe σ vs).set j (some x)) H1 Qt)
    (hq : ∀ v H1 es, Same H H1 → R K H1 v (.list es) → es.length = n → (∀ i e, es[i]? = some e → P i e) → Q v H1) :
    ∀ D, H D = none → ∃ W : Nat → Nat → Hp → Prop, (∃ m, W 0 m (upd H D (.lst []))) ∧ ∀ i m H, W i m H →
      (J.stop i H ∧ Q (.ref D) H) ∨ (J.go i H ∧ ∃ Nx : Hp → Prop, (∀ H', Nx H' → ∃ m', m' < m ∧ W (i + 1) m' H') ∧ ∀ x H', J.yld i H x H' → gName j x (wipe σ vs) H' fun σ2 H2 => wipe σ2 vs = wipe σ vs ∧ tYes σ2 H2 fun b H3 =>
        if b = true then (tHide te) σ2 H3 fun y H4 => ∃ acc, H4 D = some (.lst acc) ∧ acc.length < sizeLine ∧ Nx (upd H4 D (.lst (acc ++ [y]))) else Nx H3) := by
  intro D hD
  let Pv : Nat → Hp → Prop := fun i H' => ∃ Hb xs es, H' = upd Hb D (.lst xs) ∧ Hb D = none ∧ Same H Hb ∧ RA K Hb xs es ∧ es.length = i ∧ ∀ i e, es[i]? = some e → P i e
  refine L2.lc_it w Pv ?_ ?_ ?_ ?_
  · exact ⟨H, [], [], rfl, hD, Same.refl _, .nil, rfl, fun i e h => by simp at h⟩
  · rintro i H' hi ⟨Hb, xs, es, rfl, hb, sm, _⟩
    exact hG _ (sm.trans (same_new hb _))
  · rintro i x H' H'' hi ⟨Hb, xs, es, rfl, hb, sm, ra, hl, hP⟩ y
    obtain ⟨rfl, hit⟩ := hY _ _ _ _ y
    refine ⟨hw x, ?_⟩
    unfold tYes
    dsimp only
    rw [if_pos rfl]
    refine ⟨D, xs, upd_same, ?_⟩
    rw [hide_upd hb]
    have hxl : xs.length = i := by rw [ra.length, hl]
    refine he i x Hb hi hit sm _ fun y H2 e s2 re pe n2 => ⟨xs, upd_same, ?_, ?_⟩
    · exact Nat.lt_of_le_of_lt (by omega : xs.length ≤ 1000000) (by decide)
    · rw [upd_upd]
      refine ⟨H2, xs ++ [y], es ++ [e], rfl, n2, sm.trans s2, (ra.mono s2).append (.cons re .nil), by simp [hl], fun i' e' h' => ?_⟩
      rw [List.getElem?_append] at h'
      split at h'
      · exact hP _ _ h'
      · have h1 : i' - es.length = 0 := by
          rcases Nat.eq_zero_or_pos (i' - es.length) with z | z
          · exact z
          · rw [List.getElem?_eq_none (by simp; omega)] at h'; cases h'
        rw [h1] at h'
        simp at h'
        have h2 : i' = i := by omega
        rw [h2, ← h']
        exact pe
  · rintro H' ⟨Hb, xs, es, rfl, hb, sm, ra, hl, hP⟩
    exact hq _ _ es (sm.trans (same_new hb _)) (.lst upd_same (ra.mono (same_new hb _))) hl hP
/-- the same over the four things that are walked; l is what the iter's expression gives -/
def LcG (J : It) (j : Nat) (te : TE) (vs : List Nat) (σ : L2.St) (H : Hp) (Q : VK) : Prop :=
    ∀ D, H D = none → ∃ W : Nat → Nat → Hp → Prop, (∃ m, W 0 m (upd H D (.lst []))) ∧ ∀ i m H, W i m H →
      (J.stop i H ∧ Q (.ref D) H) ∨ (J.go i H ∧ ∃ Nx : Hp → Prop, (∀ H', Nx H' → ∃ m', m' < m ∧ W (i + 1) m' H') ∧ ∀ x H', J.yld i H x H' → gName j x (wipe σ vs) H' fun σ2 H2 => wipe σ2 vs = wipe σ vs ∧ tYes σ2 H2 fun b H3 =>
        if b = true then (tHide te) σ2 H3 fun y H4 => ∃ acc, H4 D = some (.lst acc) ∧ acc.length < sizeLine ∧ Nx (upd H4 D (.lst (acc ++ [y]))) else Nx H3)
def LcL (K : PySem.W.Frag) (j : Nat) (te : TE) (vs : List Nat) (σ : L2.St) (x : V) (H : Hp) (Q : VK) : Prop := ∃ a, x = .ref a ∧ (∃ xs, SqL K H a xs) ∧ LcG (Itl K a) j te vs σ H Q
def LcT (K : PySem.W.Frag) (j : Nat) (te : TE) (vs : List Nat) (σ : L2.St) (x : V) (H : Hp) (Q : VK) : Prop := ∃ a, x = .ref a ∧ (∃ xs, SqT K H a xs) ∧ LcG (Itt K a) j te vs σ H Q
def LcS (j : Nat) (te : TE) (vs : List Nat) (σ : L2.St) (x : V) (H : Hp) (Q : VK) : Prop := ∃ z, x = .str z ∧ LcG (Its z) j te vs σ H Q
def LcR (j : Nat) (te : TE) (vs : List Nat) (σ : L2.St) (xs : List V) (H : Hp) (Q : VK) : Prop := ∃ i : Int, xs = [.int i] ∧ -(2 ^ 62) ≤ i ∧ i < 2 ^ 62 ∧ LcG (Itr 0 i.toNat) j te vs σ H Q
theorem st_lcL {tl : TE} (h : tl σ H fun x H1 => LcL K j te vs σ x H1 Q) : tLc (iList K tl) (gName j) tYes (tHide te) vs σ H Q := h
theorem st_lcT {tl : TE} (h : tl σ H fun x H1 => LcT K j te vs σ x H1 Q) : tLc (iTup K tl) (gName j) tYes (tHide te) vs σ H Q := h
theorem st_lcS {tl : TE} (h : tl σ H fun x H1 => LcS j te vs σ x H1 Q) : tLc (iStr tl) (gName j) tYes (tHide te) vs σ H Q := h
theorem st_lcR {ta : TA} (h : ta σ H fun x H1 => LcR j te vs σ x H1 Q) : tLc (iRng1 ta) (gName j) tYes (tHide te) vs σ H Q := h
theorem lc_R (P : Nat → PyData → Prop) {i : Int} (h0 : 0 ≤ i) (h1 : i ≤ 1000000) (hw : ∀ x, wipe ((wipe σ vs).set j (some x)) vs = wipe σ vs)
    (he : ∀ (k : Nat) H1, (k : Int) < i → Same H H1 → ∀ Qt : VK, (∀ y H2 e, Same H1 H2 → R K H2 y e → P k e → Qt y H2) → te ((wipe σ vs).set j (some (.int (k : Int)))) H1 Qt)
    (hq : ∀ v H1 es, Same H H1 → R K H1 v (.list es) → es.length = i.toNat → (∀ i e, es[i]? = some e → P i e) → Q v H1) : LcR j te vs σ [.int i] H Q := by
  refine ⟨i, rfl, by omega, by omega, ?_⟩
  refine lc_gen (K := K) (walk_range (lo := 0) (n := i.toNat)) (fun k x => x = .int (k : Int)) (fun k H x H' y => ⟨y.1, by rw [y.2]; show V.int (0 + (k : Int)) = _; rw [Int.zero_add]⟩) (fun _ _ => True.intro) (by show i.toNat ≤ 1000000; omega) hw P (fun k x H1 hk hx sm Qt hQ => ?_) hq
  subst hx
  exact he k H1 (by omega) sm Qt hQ
theorem lc_L (P : Nat → PyData → Prop) {x : V} {ds : List PyData} (r : R K H x (.list ds)) (hl : ds.length ≤ 1000000) (hw : ∀ x, wipe ((wipe σ vs).set j (some x)) vs = wipe σ vs)
    (he : ∀ k v d H1, ds[k]? = some d → R K H1 v d → Same H H1 → ∀ Qt : VK, (∀ y H2 e, Same H1 H2 → R K H2 y e → P k e → Qt y H2) → te ((wipe σ vs).set j (some v)) H1 Qt)
    (hq : ∀ v H1 es, Same H H1 → R K H1 v (.list es) → es.length = ds.length → (∀ i e, es[i]? = some e → P i e) → Q v H1) : LcL K j te vs σ x H Q := by
  obtain ⟨a, xs, rfl, ha, ra⟩ := r.inv_lst
  refine ⟨a, rfl, ⟨xs, .inl (.inl ha)⟩, ?_⟩
  rw [← ra.length] at hl hq
  refine lc_gen (K := K) (walk_list (K := K) (a := a) (xs := xs)) (fun k x => xs[k]? = some x) (fun k H x H' y => ⟨y.1, y.2⟩) (fun H' s => s.seq (.inl (.inl ha))) hl hw P (fun k x H1 hk hx sm Qt hQ => ?_) hq
  obtain ⟨d, e1, e2⟩ := ra.getV hx
  exact he k x d H1 e1 (e2.mono sm) sm Qt hQ
theorem lc_T (P : Nat → PyData → Prop) {x : V} {ds : List PyData} (r : R K H x (.tuple ds)) (hl : ds.length ≤ 1000000) (hw : ∀ x, wipe ((wipe σ vs).set j (some x)) vs = wipe σ vs)
    (he : ∀ k v d H1, ds[k]? = some d → R K H1 v d → Same H H1 → ∀ Qt : VK, (∀ y H2 e, Same H1 H2 → R K H2 y e → P k e → Qt y H2) → te ((wipe σ vs).set j (some v)) H1 Qt)
    (hq : ∀ v H1 es, Same H H1 → R K H1 v (.list es) → es.length = ds.length → (∀ i e, es[i]? = some e → P i e) → Q v H1) : LcT K j te vs σ x H Q := by
  obtain ⟨a, xs, rfl, ha, ra⟩ := r.inv_tup
  refine ⟨a, rfl, ⟨xs, ha⟩, ?_⟩
  rw [← ra.length] at hl hq
  refine lc_gen (K := K) (walk_tup (K := K) (a := a) (xs := xs)) (fun k x => xs[k]? = some x) (fun k H x H' y => ⟨y.1, y.2⟩) (fun H' s => s.tup ha) hl hw P (fun k x H1 hk hx sm Qt hQ => ?_) hq
  obtain ⟨d, e1, e2⟩ := ra.getV hx
  exact he k x d H1 e1 (e2.mono sm) sm Qt hQ
theorem lc_S (P : Nat → PyData → Prop) {z : Str} (hl : z.cps.toList.length ≤ 1000000) (hw : ∀ x, wipe ((wipe σ vs).set j (some x)) vs = wipe σ vs)
    (he : ∀ k c H1, z.cps.toList[k]? = some c → Same H H1 → ∀ Qt : VK, (∀ y H2 e, Same H1 H2 → R K H2 y e → P k e → Qt y H2) → te ((wipe σ vs).set j (some (.str ⟨#[c]⟩))) H1 Qt)
    (hq : ∀ v H1 es, Same H H1 → R K H1 v (.list es) → es.length = z.cps.toList.length → (∀ i e, es[i]? = some e → P i e) → Q v H1) : LcS j te vs σ (.str z) H Q := by
  refine ⟨z, rfl, ?_⟩
  have hs : z.cps.toList.length = z.cps.size := by simp
  rw [hs] at hl hq
  refine lc_gen (K := K) (walk_str (z := z)) (fun k x => ∃ c, z.cps[k]? = some c ∧ x = .str ⟨#[c]⟩) (fun k H x H' y => ⟨y.1, y.2⟩) (fun _ _ => True.intro) hl hw P (fun k x H1 hk hx sm Qt hQ => ?_) hq
  obtain ⟨c, e1, rfl⟩ := hx
  exact he k c H1 (by simpa using e1) sm Qt hQ
/-- exact: each the value of a function -/
theorem list_of_at {α β : Type} {f : α → β} {xs : List α} {es : List β} (hl : es.length = xs.length) (h : ∀ (i : Nat) (e : β), es[i]? = some e → ∃ x, xs[i]? = some x ∧ e = f x) : es = xs.map f := by
  apply List.ext_getElem?
  intro i
  rw [List.getElem?_map]
  cases e : es[i]? with
  | none =>
    have q : xs[i]? = none := List.getElem?_eq_none (by have := List.getElem?_eq_none_iff.mp e; omega)
    rw [q]; rfl
  | some v =>
    obtain ⟨x, h1, h2⟩ := h i v e
    rw [h1, h2]; rfl
end

/-! ### built-in calls by data -/
def lenD : PyData → Option Nat
  | .str z => some z.length
  | .tuple ds => some ds.length
  | .list ds => some ds.length
  | _ => none
def tyD : PyData → String
  | .none => "NoneType"
  | .bool _ => "bool"
  | .int _ => "int"
  | .str _ => "str"
  | .list _ => "list"
  | .tuple _ => "tuple"
  | .dict _ => "dict"
def isaD (T : String) (d : PyData) : Bool := decide (tyD d = T) || (decide (T = "int") && decide (tyD d = "bool"))
section
variable {K : PySem.W.Frag} {H : Hp} {Q : VK} {x y : V}
theorem R.ty {d : PyData} (r : R K H x d) : TyX K H x (.type (tyD d)) := by
  cases r with
  | non => exact .base .non
  | bl b => exact .base (.bl b)
  | int i => exact .base (.int i)
  | str z => exact .base (.str z)
  | lst h _ => exact .base (.lst h)
  | tup h _ =>
    rcases h with (h | ⟨o, h⟩) | ⟨o, its, n, h, c, _⟩
    · exact .base (.tup h)
    · exact .fTuple h
    · exact .kTuple h c
  | dct h => exact .base (.dK h)
theorem kit_tab : ∀ t ∈ ["NoneType", "bool", "int", "str", "list", "tuple", "dict"], ∀ T ∈ ["str", "int", "bool", "tuple", "list", "dict"], L2.kitB t T = some (decide (t = T) || (decide (T = "int") && decide (t = "bool"))) := by decide +kernel
theorem kit_all (d : PyData) (T : String) (h : T ∈ ["str", "int", "bool", "tuple", "list", "dict"]) : L2.kitB (tyD d) T = some (isaD T d) :=
  kit_tab (tyD d) (by cases d <;> simp [tyD]) T h
theorem isi_R {d : PyData} {T : String} (r : R K H x d) (hT : T ∈ ["str", "int", "bool", "tuple", "list", "dict"]) (h : Q (.bl (isaD T d)) H) : rIsi K [x, .ty T] H Q :=
  ⟨x, .ty T, .type (tyD d), .type T, isaD T d, rfl, .ty T, r.ty, kit_ty (kit_all d T hT), h⟩
def rLen (K : PySem.W.Frag) : List V → Hp → VK → Prop := fun xs H Q => ∃ x n, xs = [x] ∧ LenV K x H n ∧ Q (.int (n : Nat)) H
theorem len_str {z : Str} (hl : z.length ≤ 1000000) (h : Q (.int (z.length : Nat)) H) : rLen K [.str z] H Q := ⟨_, _, rfl, ⟨big_le hl, rfl⟩, h⟩
theorem len_tup {ds : List PyData} (r : R K H x (.tuple ds)) (h : Q (.int (ds.length : Nat)) H) : rLen K [x] H Q := by
  obtain ⟨a, xs, rfl, ha, ra⟩ := r.inv_tup
  exact ⟨_, _, rfl, .inr ⟨xs, ha, rfl⟩, by rw [ra.length]; exact h⟩
theorem len_lst {ds : List PyData} (r : R K H x (.list ds)) (h : Q (.int (ds.length : Nat)) H) : rLen K [x] H Q := by
  obtain ⟨a, xs, rfl, ha, ra⟩ := r.inv_lst
  exact ⟨_, _, rfl, .inl ⟨xs, .inl (.inl ha), rfl⟩, by rw [ra.length]; exact h⟩
theorem all_R {bs : List Bool} (r : R K H x (.list (bs.map PyData.bool))) (h : Q (.bl (bs.all id)) H) : rAll K [x] H Q := by
  obtain ⟨a, xs, rfl, ha, ra⟩ := r.inv_lst
  exact ⟨a, bs, rfl, .inl (.inl (by rw [ha, ra.bools])), h⟩
theorem any_R {bs : List Bool} (r : R K H x (.list (bs.map PyData.bool))) (h : Q (.bl (bs.any id)) H) : rAny K [x] H Q := by
  obtain ⟨a, xs, rfl, ha, ra⟩ := r.inv_lst
  exact ⟨a, bs, rfl, .inl (.inl (by rw [ha, ra.bools])), h⟩
theorem sum_R {ns : List Int} (r : R K H x (.list (ns.map PyData.int))) (h : Q (.int ns.sum) H) : rSum K [x] H Q := by
  obtain ⟨a, xs, rfl, ha, ra⟩ := r.inv_lst
  exact ⟨a, ns, rfl, .inl (.inl (by rw [ha, ra.ints])), h⟩
theorem tupOf_L {ds : List PyData} (r : R K H x (.list ds)) (h : ∀ v H', Same H H' → R K H' v (.tuple ds) → Q v H') : kTup K x H Q := by
  obtain ⟨a, xs, rfl, ha, ra⟩ := r.inv_lst
  exact .inl ⟨a, xs, rfl, .inl (.inl ha), fun q hq => h _ _ (same_new hq _) (.tup (.inl (.inl upd_same)) (ra.mono (same_new hq _)))⟩
theorem tupOf_T {ds : List PyData} (r : R K H x (.tuple ds)) (h : Q x H) : kTup K x H Q := by
  obtain ⟨a, xs, rfl, ha, ra⟩ := r.inv_tup
  exact .inr ⟨a, xs, rfl, ha, h⟩
theorem st_then {σ : L2.St} {ta : TE} {k : V → Hp → VK → Prop} (h : ta σ H fun x H1 => k x H1 Q) : tThen ta k σ H Q := h
def rListOf (K : PySem.W.Frag) : List V → Hp → VK → Prop := fun xs H Q => ∃ p ys, xs = [.ref p] ∧ (SqL K H p ys ∨ SqT K H p ys) ∧ ∀ l, H l = none → Q (.ref l) (upd H l (.lst ys))
theorem lstOf_T {ds : List PyData} (r : R K H x (.tuple ds)) (h : ∀ v H', Same H H' → R K H' v (.list ds) → Q v H') : rListOf K [x] H Q := by
  obtain ⟨a, xs, rfl, ha, ra⟩ := r.inv_tup
  exact ⟨a, xs, rfl, .inr ha, fun q hq => h _ _ (same_new hq _) (.lst upd_same (ra.mono (same_new hq _)))⟩
theorem lstOf_L {ds : List PyData} (r : R K H x (.list ds)) (h : ∀ v H', Same H H' → R K H' v (.list ds) → Q v H') : rListOf K [x] H Q := by
  obtain ⟨a, xs, rfl, ha, ra⟩ := r.inv_lst
  exact ⟨a, xs, rfl, .inl (.inl (.inl ha)), fun q hq => h _ _ (same_new hq _) (.lst upd_same (ra.mono (same_new hq _)))⟩
/-- methods of a text -/
theorem st_M0 {σ : L2.St} {r : V → List V → Hp → VK → Prop} {to : TE} (h : to σ H fun x H1 => (∃ a, x = .str a) ∧ r x [] H1 Q) : tM0 r to σ H Q := h
theorem st_M1 {σ : L2.St} {r : V → List V → Hp → VK → Prop} {to te : TE} (h : to σ H fun x H1 => (∃ a, x = .str a) ∧ te σ H1 fun y H2 => r x [y] H2 Q) : tM1 r to te σ H Q := h
def rJoin (K : PySem.W.Frag) : V → List V → Hp → VK → Prop := fun x xs H Q => ∃ a p, ∃ ys : List Str, x = .str a ∧ xs = [.ref p] ∧ (SqL K H p (ys.map V.str) ∨ SqT K H p (ys.map V.str)) ∧ (ys.map (·.length)).sum + ys.length * a.length ≤ 16777216 ∧ Q (.str (Txt.join a ys)) H
theorem join_R {a : Str} {ys : List Str} (r : R K H x (.list (ys.map PyData.str))) (hl : (ys.map (·.length)).sum + ys.length * a.length ≤ 16777216) (h : Q (.str (Txt.join a ys)) H) : rJoin K (.str a) [x] H Q := by
  obtain ⟨b, xs, rfl, ha, ra⟩ := r.inv_lst
  exact ⟨a, b, ys, rfl, rfl, .inl (.inl (.inl (by rw [ha, ra.strs]))), hl, h⟩
def rUpper : V → List V → Hp → VK → Prop := fun x xs H Q => ∃ a, x = .str a ∧ xs = [] ∧ a.length ≤ 5592405 ∧ Q (.str (Txt.upper a)) H
theorem upper_R {a : Str} (hl : a.length ≤ 1000000) (h : Q (.str (Txt.upper a)) H) : rUpper (.str a) [] H Q := ⟨a, rfl, rfl, Nat.le_trans hl (by decide), h⟩
end
end G

namespace G
open PySem PySem.Spec PyProof.Rows L2
section
variable {X : Cx}
theorem pe_gv {x : Str} {v : V} {pos : Pos} (hg : Gl X x) (h : ∃ u, X.mg x = some u ∧ RelV v u) (hdb : (x == ("__debug__" : Str)) = false := by decide) : PE X (.Name x pos) (tC v) := by
  obtain ⟨u, hm, r⟩ := h
  exact pe_glob hg hm r hdb
theorem call_lenR : CallR X (.builtin "len") (rLen X.K) := call_len
theorem call_listR : CallR X (.type "list") (rListOf X.K) := call_list_of
theorem pe_joinR {o e : Expr} {to te : TE} {apos pos : Pos} (ho : PE X o to) (he : PE X e te) (h1 : starEach [e] X.env = [(false, eval e X.env)] := by rfl)
    (h2 : attributeBase o (Str.ofString "join") X.env (eval o X.env) = eval o X.env := by rfl) (h3 : (apos.endLine == pos.line) = true := by rfl) : PE X (.Call (.Attribute o (Str.ofString "join") apos) [e] [] pos) (tM1 (rJoin X.K) to te) := pe_join ho he h1 h2 h3
theorem pe_upperR {o : Expr} {to : TE} {apos pos : Pos} (ho : PE X o to) (h2 : attributeBase o (Str.ofString "upper") X.env (eval o X.env) = eval o X.env := by rfl) (h3 : (apos.endLine == pos.line) = true := by rfl) :
    PE X (.Call (.Attribute o (Str.ofString "upper") apos) [] [] pos) (tM0 rUpper to) := pe_upper ho h2 h3
/-! the same, the written part named -/
variable {K : PySem.W.Frag}
theorem op_addK (K : PySem.W.Frag) (hK : X.K = K := by rfl) : OpR X (binaryOp .Add) (rAddU K) := hK ▸ op_addU
theorem op_eqK (K : PySem.W.Frag) {k : Nat} (hr : Room k X.A) (hK : X.K = K := by rfl) : OpR X (compareOp .Eq) (rEqU K) := hK ▸ op_eqU hr
theorem op_neK (K : PySem.W.Frag) {k : Nat} (hr : Room k X.A) (hK : X.K = K := by rfl) : OpR X (compareOp .NotEq) (rNeU K) := hK ▸ op_neU hr
theorem op_inK (K : PySem.W.Frag) (hK : X.K = K := by rfl) : OpR X (compareOp .In) (rInU K) := hK ▸ op_inU
theorem op_ninK (K : PySem.W.Frag) (hK : X.K = K := by rfl) : OpR X (compareOp .NotIn) (rNinU K) := hK ▸ op_ninU
theorem ix_K (K : PySem.W.Frag) (hK : X.K = K := by rfl) : IxR X (rIx K) := hK ▸ ix_seq
theorem sl_K (K : PySem.W.Frag) (hK : X.K = K := by rfl) : SlR X (rSlU K) := hK ▸ sl_U
theorem isi_K (K : PySem.W.Frag) (hK : X.K = K := by rfl) : CallR X (.builtin "isinstance") (rIsi K) := hK ▸ call_isi
theorem len_K (K : PySem.W.Frag) (hK : X.K = K := by rfl) : CallR X (.builtin "len") (rLen K) := hK ▸ call_lenR
theorem list_K (K : PySem.W.Frag) (hK : X.K = K := by rfl) : CallR X (.type "list") (rListOf K) := hK ▸ call_listR
theorem all_K (K : PySem.W.Frag) (hc : X.calm = true) (hK : X.K = K := by rfl) : CallR X (.builtin "all") (rAll K) := hK ▸ cr_all hc
theorem any_K (K : PySem.W.Frag) (hc : X.calm = true) (hK : X.K = K := by rfl) : CallR X (.builtin "any") (rAny K) := hK ▸ cr_any hc
theorem sum_K (K : PySem.W.Frag) (hc : X.calm = true) (hK : X.K = K := by rfl) : CallR X (.builtin "sum") (rSum K) := hK ▸ cr_sum hc
theorem pi_listK (K : PySem.W.Frag) {tg l : Expr} {tl : TE} (h : PE X l tl) (hK : X.K = K := by rfl) : PI X tg l (iList K tl) := hK ▸ pi_list h
theorem pi_tupK (K : PySem.W.Frag) {tg l : Expr} {tl : TE} (h : PE X l tl) (hK : X.K = K := by rfl) : PI X tg l (iTup K tl) := hK ▸ pi_tup h
theorem tupleOf_K (K : PySem.W.Frag) {a : Expr} {ta : TE} {p pos : Pos} (hg : Gl X "tuple") (hm : X.mg "tuple" = none) (ha : PE X a ta) (hK : X.K = K := by rfl) (na : starEach [a] X.env = (false, eval a X.env) :: starEach [] X.env := by rfl) :
    PE X (.Call (.Name "tuple" p) [a] [] pos) (tThen ta (kTup K)) := by
  subst hK
  exact pe_tupleOf hg hm ha na
theorem joinK (K : PySem.W.Frag) {o e : Expr} {to te : TE} {apos pos : Pos} (ho : PE X o to) (he : PE X e te) (hK : X.K = K := by rfl) (h1 : starEach [e] X.env = [(false, eval e X.env)] := by rfl)
    (h2 : attributeBase o (Str.ofString "join") X.env (eval o X.env) = eval o X.env := by rfl) (h3 : (apos.endLine == pos.line) = true := by rfl) : PE X (.Call (.Attribute o (Str.ofString "join") apos) [e] [] pos) (tM1 (rJoin K) to te) := by
  subst hK
  exact pe_joinR ho he h1 h2 h3
end
theorem bt_len : bootBuiltins "len" = some (.builtin "len") := PySem.boot_len
theorem bt_isinstance : bootBuiltins "isinstance" = some (.builtin "isinstance") := by decide +kernel
theorem bt_all : bootBuiltins "all" = some (.builtin "all") := by decide +kernel
theorem bt_any : bootBuiltins "any" = some (.builtin "any") := by decide +kernel
theorem bt_sum : bootBuiltins "sum" = some (.builtin "sum") := by decide +kernel
theorem bt_sorted : bootBuiltins "sorted" = some (.builtin "sorted") := by decide +kernel
theorem bt_max : bootBuiltins "max" = some (.builtin "max") := by decide +kernel
theorem bt_min : bootBuiltins "min" = some (.builtin "min") := by decide +kernel
theorem bt_str : bootBuiltins "str" = some (.type "str") := by decide +kernel
theorem bt_int : bootBuiltins "int" = some (.type "int") := by decide +kernel
theorem bt_bool : bootBuiltins "bool" = some (.type "bool") := by decide +kernel
theorem bt_tuple : bootBuiltins "tuple" = some (.type "tuple") := by decide +kernel
theorem bt_list : bootBuiltins "list" = some (.type "list") := by decide +kernel
theorem bt_dict : bootBuiltins "dict" = some (.type "dict") := by decide +kernel
theorem isi_1 {K : PySem.W.Frag} {H : Hp} {Q : VK} {x : V} {d : PyData} {T : String} (r : R K H x d) (e : isaD T d = true) (hT : T ∈ ["str", "int", "bool", "tuple", "list", "dict"]) (h : Q (.bl true) H) : rIsi K [x, .ty T] H Q := isi_R r hT (by rw [e]; exact h)
theorem isi_0 {K : PySem.W.Frag} {H : Hp} {Q : VK} {x : V} {d : PyData} {T : String} (r : R K H x d) (e : isaD T d = false) (hT : T ∈ ["str", "int", "bool", "tuple", "list", "dict"]) (h : Q (.bl false) H) : rIsi K [x, .ty T] H Q := isi_R r hT (by rw [e]; exact h)
theorem ite_nt {A B : Prop} (h : B) : if (!true) = true then A else B := h
theorem ite_nf {A B : Prop} (h : A) : if (!false) = true then A else B := h
theorem st_strAnd {z : Str} {A : Prop} (h : A) : (∃ a, V.str z = .str a) ∧ A := ⟨⟨z, rfl⟩, h⟩
theorem cmul_r {x j : Int} (h : -(2 ^ 64) < j ∧ j < 2 ^ 64) : CMul x j := .inr h
theorem cmul_l {x j : Int} (h : -(2 ^ 64) < x ∧ x < 2 ^ 64) : CMul x j := .inl h
theorem cdiv_r {x j : Int} (h : 0 < j ∧ j < 1073741824) : CDiv x j := h
theorem le_up {a b : Nat} (h : decide (a ≤ b) = true) : a ≤ b := of_decide_eq_true h
theorem sm_tr {H H1 H2 : Hp} (b : Same H1 H2) (a : Same H H1) : Same H H2 := a.trans b
theorem r_mono {K : PySem.W.Frag} {H H' : Hp} {v : V} {d : PyData} (r : R K H v d) (e : Same H H') : R K H' v d := r.mono e
theorem Cal.lift {P : Program} {w : World} {K : PySem.W.Frag} {mg : Str → Option Value} {base : Heap} {k k' : Nat} {x : Str} {sp : Sp} (c : Cal P w K mg base k x sp) (h : k ≤ k') : Cal P w K mg base k' x sp := by
  obtain ⟨f, fd, ps, F, hm, kp, b⟩ := c.ex
  exact ⟨f, fd, ps, ⟨F.1, fun A outer s H args us vs Q E a1 a2 a3 a4 q => F.2 A outer s H args us vs Q E (a1.mono h) a2 a3 a4 q⟩, hm, kp, b⟩
end G

namespace G
open PySem PySem.Spec PyProof.Rows L2
theorem upd_eta {H : Hp} {p : Addr} {o : HO} (h : H p = some o) : upd H p o = H := by
  funext b
  by_cases e : b = p
  · rw [e, upd_same, h]
  · rw [upd_ne e]
/-! cuts -/
theorem cutD_from (xs : List PyData) (k : Nat) : cutD xs (some (k : Int)) none = xs.drop k := by
  unfold cutD
  rw [HT.sIx_nat, HT.sIx_none]
  by_cases h : k ≤ xs.length
  · rw [Nat.min_eq_left h]
    exact List.take_of_length_le (by simp)
  · rw [Nat.min_eq_right (by omega), List.drop_length, List.take_nil, List.drop_eq_nil_of_le (by omega)]
theorem cutD_to (xs : List PyData) (k : Nat) : cutD xs none (some (k : Int)) = xs.take k := by
  unfold cutD
  rw [HT.sIx_nat, HT.sIx_none, List.drop_zero, Nat.sub_zero]
  by_cases h : k ≤ xs.length
  · rw [Nat.min_eq_left h]
  · rw [Nat.min_eq_right (by omega), List.take_length, List.take_of_length_le (by omega)]
theorem cutD_len (xs : List PyData) (lo hi : Option Int) : (cutD xs lo hi).length ≤ xs.length := by
  unfold cutD
  rw [List.length_take, List.length_drop]
  omega
theorem cutS_from (z : Str) (k : Nat) : cutS z (some (k : Int)) none = ⟨(z.cps.toList.drop k).toArray⟩ := by
  have e : z.length = z.cps.toList.length := by simp [Str.length]
  unfold cutS
  rw [HT.sIx_nat, HT.sIx_none, e]
  congr 2
  by_cases h : k ≤ z.cps.toList.length
  · rw [Nat.min_eq_left h]
    exact List.take_of_length_le (by simp)
  · rw [Nat.min_eq_right (by omega), List.drop_length, List.take_nil, List.drop_eq_nil_of_le (by omega)]
theorem cutS_to (z : Str) (k : Nat) : cutS z none (some (k : Int)) = ⟨(z.cps.toList.take k).toArray⟩ := by
  have e : z.length = z.cps.toList.length := by simp [Str.length]
  unfold cutS
  rw [HT.sIx_nat, HT.sIx_none, e, List.drop_zero, Nat.sub_zero]
  congr 2
  by_cases h : k ≤ z.cps.toList.length
  · rw [Nat.min_eq_left h]
  · rw [Nat.min_eq_right (by omega), List.take_length, List.take_of_length_le (by omega)]
theorem cutS_1 (z : Str) : (cutS z (some 1) none).cps.toList = z.cps.toList.drop 1 := by
  rw [show (1 : Int) = ((1 : Nat) : Int) from rfl, cutS_from]
theorem cutS_t1 (z : Str) : (cutS z none (some 1)).cps.toList = z.cps.toList.take 1 := by
  rw [show (1 : Int) = ((1 : Nat) : Int) from rfl, cutS_to]
theorem cutD_1 (xs : List PyData) : cutD xs (some 1) none = xs.drop 1 := cutD_from xs 1
theorem cutD_2 (xs : List PyData) : cutD xs (some 2) none = xs.drop 2 := cutD_from xs 2
theorem len_cps (z : Str) : z.length = z.cps.toList.length := by simp [Str.length]
section
variable {K : PySem.W.Frag} {σ : L2.St} {H : Hp} {Q : VK} {te ta : TE} {vs : List Nat} {j : Nat} {x : V}
/-! comprehensions: each the value of a function | each with a property -/
theorem lcS_f (f : Nat → PyData) {z : Str} (hl : z.cps.toList.length ≤ 1000000) (hw : ∀ x, wipe ((wipe σ vs).set j (some x)) vs = wipe σ vs)
    (he : ∀ c H1, c ∈ z.cps.toList → Same H H1 → ∀ Qt : VK, (∀ y H2, Same H1 H2 → R K H2 y (f c) → Qt y H2) → te ((wipe σ vs).set j (some (.str ⟨#[c]⟩))) H1 Qt)
    (hq : ∀ v H1, Same H H1 → R K H1 v (.list (z.cps.toList.map f)) → Q v H1) : LcS j te vs σ (.str z) H Q :=
  lc_S (K := K) (fun i e => ∃ c, z.cps.toList[i]? = some c ∧ e = f c) hl hw (fun k c H1 hc s1 Qt hQ => he c H1 (List.mem_of_getElem? hc) s1 Qt fun y H2 s2 r2 => hQ y H2 _ s2 r2 ⟨c, hc, rfl⟩)
    (fun v H1 es s1 r1 hl hP => hq v H1 s1 (by rw [← list_of_at hl hP]; exact r1))
theorem lcL_f (f : PyData → PyData) {ds : List PyData} (r : R K H x (.list ds)) (hl : ds.length ≤ 1000000) (hw : ∀ x, wipe ((wipe σ vs).set j (some x)) vs = wipe σ vs)
    (he : ∀ v d H1, d ∈ ds → R K H1 v d → Same H H1 → ∀ Qt : VK, (∀ y H2, Same H1 H2 → R K H2 y (f d) → Qt y H2) → te ((wipe σ vs).set j (some v)) H1 Qt)
    (hq : ∀ v H1, Same H H1 → R K H1 v (.list (ds.map f)) → Q v H1) : LcL K j te vs σ x H Q :=
  lc_L (fun i e => ∃ d, ds[i]? = some d ∧ e = f d) r hl hw (fun k v d H1 hd rv s1 Qt hQ => he v d H1 (List.mem_of_getElem? hd) rv s1 Qt fun y H2 s2 r2 => hQ y H2 _ s2 r2 ⟨d, hd, rfl⟩)
    (fun v H1 es s1 r1 hl hP => hq v H1 s1 (by rw [← list_of_at hl hP]; exact r1))
theorem lcT_f (f : PyData → PyData) {ds : List PyData} (r : R K H x (.tuple ds)) (hl : ds.length ≤ 1000000) (hw : ∀ x, wipe ((wipe σ vs).set j (some x)) vs = wipe σ vs)
    (he : ∀ v d H1, d ∈ ds → R K H1 v d → Same H H1 → ∀ Qt : VK, (∀ y H2, Same H1 H2 → R K H2 y (f d) → Qt y H2) → te ((wipe σ vs).set j (some v)) H1 Qt)
    (hq : ∀ v H1, Same H H1 → R K H1 v (.list (ds.map f)) → Q v H1) : LcT K j te vs σ x H Q :=
  lc_T (fun i e => ∃ d, ds[i]? = some d ∧ e = f d) r hl hw (fun k v d H1 hd rv s1 Qt hQ => he v d H1 (List.mem_of_getElem? hd) rv s1 Qt fun y H2 s2 r2 => hQ y H2 _ s2 r2 ⟨d, hd, rfl⟩)
    (fun v H1 es s1 r1 hl hP => hq v H1 s1 (by rw [← list_of_at hl hP]; exact r1))
theorem lcR_p (P : PyData → Prop) {i : Int} (h0 : 0 ≤ i) (h1 : i ≤ 1000000) (hw : ∀ x, wipe ((wipe σ vs).set j (some x)) vs = wipe σ vs)
    (he : ∀ (k : Nat) H1, (k : Int) < i → Same H H1 → ∀ Qt : VK, (∀ y H2 e, Same H1 H2 → R K H2 y e → P e → Qt y H2) → te ((wipe σ vs).set j (some (.int (k : Int)))) H1 Qt)
    (hq : ∀ v H1 es, Same H H1 → R K H1 v (.list es) → es.length = i.toNat → (∀ e ∈ es, P e) → Q v H1) : LcR j te vs σ [.int i] H Q :=
  lc_R (K := K) (fun _ e => P e) h0 h1 hw he fun v H1 es s1 r1 hl hP => hq v H1 es s1 r1 hl fun e he => by
    obtain ⟨i, hi⟩ := List.getElem?_of_mem he
    exact hP i e hi
/-! for over range -/
def ForR (j : Nat) (tb : TS) (nx : L2.St → Hp → Prop) (rt : VK) (σ : L2.St) (xs : List V) (H : Hp) : Prop := ∃ i : Int, xs = [.int i] ∧ -(2 ^ 62) ≤ i ∧ i < 2 ^ 62 ∧
  ∃ W : Nat → Nat → L2.St → Hp → Prop, (∃ m, W 0 m σ H) ∧ ∀ i' m σ H, W i' m σ H → ((Itr 0 i.toNat).stop i' H ∧ nx σ H) ∨ ((Itr 0 i.toNat).go i' H ∧ ∃ N : L2.St → Hp → Prop, (∀ σ' H', N σ' H' → ∃ m', m' < m ∧ W (i' + 1) m' σ' H') ∧ ∀ x H', (Itr 0 i.toNat).yld i' H x H' → gName j x σ H' fun σ2 H2 => tb ⟨N, rt, nx, N⟩ σ2 H2)
theorem st_forR {a : TA} {tb : TS} {nx bk ct : L2.St → Hp → Prop} {rt : VK} (h : a σ H fun xs H1 => ForR j tb nx rt σ xs H1) : tFor (iRng1 a) (gName j) tb ⟨nx, rt, bk, ct⟩ σ H := h
theorem for_R (Pv : Nat → L2.St → Hp → Prop) {i : Int} {tb : TS} {nx : L2.St → Hp → Prop} {rt : VK} (h0 : 0 ≤ i) (h1 : i ≤ 1000000) (start : Pv 0 σ H)
    (turn : ∀ (k : Nat) σ' H', (k : Int) < i → Pv k σ' H' → tb ⟨Pv (k + 1), rt, nx, Pv (k + 1)⟩ (σ'.set j (some (.int (k : Int)))) H') (fin : ∀ σ' H', Pv i.toNat σ' H' → nx σ' H') : ForR j tb nx rt σ [.int i] H := by
  refine ⟨i, rfl, by omega, by omega, for_range (lo := 0) (n := i.toNat) (g := gName j) (tb := tb) (D := ⟨nx, rt, nx, nx⟩) Pv start (fun k σ' H' hk p => ?_) fin⟩
  have q := turn k σ' H' (by omega) p
  show tb _ (σ'.set j (some (.int (0 + (k : Int))))) H'
  rw [Int.zero_add]
  exact q
/-! stores -/
theorem st_sub {to ti : TE} {t : TSet} {nx bk ct : L2.St → Hp → Prop} {rt : VK} (h : te σ H fun v H1 => to σ H1 fun o H2 => ti σ H2 fun i H3 => t o i v H3 fun H4 => nx σ H4) : tAsg te (gSub to ti t) ⟨nx, rt, bk, ct⟩ σ H := h
theorem set_at {p : Addr} {xs : List V} {k : Int} {i : Nat} {v : V} {QH : Hp → Prop} (hp : H p = some (.lst xs)) (hi : ixN xs.length k = some i) (h : QH (upd H p (.lst (xs.set i v)))) : rSetL (.ref p) (.int k) v H QH := ⟨p, xs, k, i, rfl, rfl, hp, hi, h⟩
theorem set_20 {p : Addr} {x y v : V} {QH : Hp → Prop} (hp : H p = some (.lst [x, y])) (h : QH (upd H p (.lst [v, y]))) : rSetL (.ref p) (.int 0) v H QH := set_at hp rfl h
theorem set_21 {p : Addr} {x y v : V} {QH : Hp → Prop} (hp : H p = some (.lst [x, y])) (h : QH (upd H p (.lst [x, v]))) : rSetL (.ref p) (.int 1) v H QH := set_at hp rfl h
/-! the script -/
theorem RA_ints {K : PySem.W.Frag} {H : Hp} : ∀ ns : List Int, RA K H (ns.map V.int) (ns.map PyData.int)
  | [] => .nil
  | n :: ns => .cons (.int n) (RA_ints ns)
theorem sl_scr {a : Addr} {ns : List Int} {lo hi : Option Int} (hs : SqL K H a (ns.map V.int)) (h : ∀ v H', Same H H' → R K H' v (.list (cutD (ns.map PyData.int) lo hi)) → Q v H') : rSlU K (.ref a) lo hi H Q := by
  refine .inr (.inl ⟨a, _, rfl, hs, fun p hp => h _ _ (same_new hp _) (.lst upd_same (RA.mono (same_new hp _) ?_))⟩)
  exact cut_RA (RA_ints ns) lo hi
theorem len_scr {a : Addr} {ns : List Int} (hs : SqL K H a (ns.map V.int)) (h : Q (.int (ns.length : Nat)) H) : rLen K [.ref a] H Q := ⟨_, _, rfl, .inl ⟨_, hs, rfl⟩, by rw [List.length_map]; exact h⟩
theorem seq_keep {a : Addr} {xs : List V} {H' : Hp} (h : SqL K H a xs) (s : Same H H') : SqL K H' a xs := s.seq h
def Lst2 (xs : List V) (H : Hp) (Q : VK) : Prop := xs.length ≤ sizeLine ∧ ∀ p, H p = none → Q (.ref p) (upd H p (.lst xs))
def tLst2 (t : TA) : TE := fun σ H Q => t σ H fun xs H1 => Lst2 xs H1 Q
theorem pe_lst2 {X : Cx} {es : List Expr} {t : TA} {pos : Pos} (h : PA X es t) : PE X (.List es pos) (tLst2 t) := pe_lst h
theorem st_lst2 {a : TA} (h : a σ H fun xs H1 => Lst2 xs H1 Q) : tLst2 a σ H Q := h
theorem st_shut {t : TS} {nx bk ct : L2.St → Hp → Prop} {rt : VK} (h : t ⟨nx, fun v H' => ∃ (p : Addr) (a b : Int), v = .ref p ∧ H' p = some (.lst [.int a, .int b]) ∧ rt v (upd H' p (Stt p)), bk, ct⟩ σ H) : tShut t ⟨nx, rt, bk, ct⟩ σ H := h
theorem cpow_c {i j : Int} (h : 0 ≤ j ∧ j ≤ 1000000 ∧ i.natAbs < 2 ^ 64) : CPow i j := h
theorem ix_scr {a : Addr} {ns : List Int} {i : Int} (hs : SqL K H a (ns.map V.int)) (h0 : 0 ≤ i) (h1 : i < (ns.length : Int)) (h : ∀ n : Int, Q (.int n) H) : rIx K (.ref a) (.int i) H Q := by
  have hi : i.toNat < ns.length := by omega
  exact .inl ⟨a, _, i, .int ns[i.toNat], rfl, rfl, hs, atI_pos h0 (by simp [hi]), h _⟩
/-! a dict of one pair, told as a dict -/
def tDispK (_K : PySem.W.Frag) (trs : List (TE × TE)) : TE := tDisp trs
theorem pe_dispK (K : PySem.W.Frag) {X : Cx} {pos : Pos} {keys : List (Option Expr)} {values : List Expr} {trs : List (TE × TE)} (h : PPs X pos keys values trs) (hall : keys.all (·.isSome) = true) (hl : keys.length = values.length) (h0 : keys ≠ []) (h15 : keys.length ≤ 15) : PE X (.Dict keys values pos) (tDispK K trs) := pe_disp h hall hl h0 h15
theorem st_disp1 {a : Str} {u : V} (h : ∀ v H', Same H H' → R K H' v (.dict []) → Q v H') : tDispK K [(tC (.str a), tC u)] σ H Q := by
  intro p hp
  refine ⟨upd_same, [(.inr a, u)], rfl, by simp, ?_⟩
  rw [upd_upd]
  exact h _ _ (same_new hp _) (.dct upd_same)
end
/-! texts -/
theorem cps_append (x y : Str) : (x ++ y).cps.toList = x.cps.toList ++ y.cps.toList := by
  show (x.cps ++ y.cps).toList = _
  simp
theorem str_ext {x y : Str} (h : x.cps.toList = y.cps.toList) : x = y := by
  cases x; cases y
  congr
  exact Array.toList_inj.mp h
theorem join_eq (sep : Str) (ys : List Str) : Txt.join sep ys = Str.join sep ys := StrLaws.glued_eq_join sep ys
theorem join_e : ∀ ys : List Str, (Txt.join "" ys).cps.toList = (ys.map fun y => y.cps.toList).flatten
  | [] => by rw [join_eq]; rfl
  | [x] => by
    rw [join_eq]
    show x.cps.toList = _
    simp
  | x :: y :: r => by
    have h := join_e (y :: r)
    rw [join_eq] at h ⊢
    show (x ++ "" ++ Str.join "" (y :: r)).cps.toList = _
    rw [cps_append, cps_append, h]
    have e : ("" : Str).cps.toList = [] := rfl
    rw [e]
    simp
/-- a list of texts, told one by one -/
theorem strs_of {P : Str → Prop} : ∀ {es : List PyData}, (∀ e ∈ es, ∃ z : Str, e = .str z ∧ P z) → ∃ ys : List Str, es = ys.map PyData.str ∧ ∀ y ∈ ys, P y
  | [], _ => ⟨[], rfl, by simp⟩
  | e :: es, h => by
    obtain ⟨z, rfl, hz⟩ := h e (by simp)
    obtain ⟨ys, rfl, hy⟩ := strs_of (es := es) (P := P) fun e he => h e (by simp [he])
    exact ⟨z :: ys, rfl, fun y hy' => by rcases List.mem_cons.mp hy' with rfl | q; exact hz; exact hy y q⟩
theorem one_len (c : Nat) : (⟨#[c]⟩ : Str).length = 1 := rfl
theorem sum_ones : ∀ ys : List Str, (∀ y ∈ ys, y.length = 1) → (ys.map (·.length)).sum = ys.length
  | [], _ => rfl
  | y :: ys, h => by
    simp only [List.map_cons, List.sum_cons, List.length_cons]
    rw [h y (by simp), sum_ones ys fun z hz => h z (by simp [hz])]
    omega
theorem join_len (ys : List Str) : (Txt.join "" ys).length = (ys.map (·.length)).sum := by
  rw [len_cps, join_e]
  induction ys with
  | nil => rfl
  | cons y ys ih => simp only [List.map_cons, List.flatten_cons, List.length_append, List.sum_cons, ih, len_cps]
theorem pos_of_ne {z : Str} (h : ¬ z = "") : 0 < z.length := by
  rcases Nat.eq_zero_or_pos z.length with e | e
  · rw [len_cps] at e
    exact absurd (str_ext (y := "") (by rw [List.length_eq_zero_iff.mp e]; rfl)) h
  · exact e
theorem keep_at {H H' : Hp} {a : Addr} {o : HO} (h : H a = some o) (s : Same H H') : H' a = some o := s _ _ h
/-! the state's defs: what they promise -/
def spDraw : Sp := fun vs H Q _ => ∃ (p : Addr) (n : Int), vs = [.ref p, .int n] ∧ H p = some (Stt p) ∧ 0 < n ∧ n < 1000000000 ∧ ∀ r : Int, 0 ≤ r → r < n → Q (.int r) H
def spState (K : PySem.W.Frag) : Sp := fun vs H Q _ => ∃ (a : Addr) (ns : List Int) (k : Int), vs = [.ref a, .int k] ∧ SqL K H a (ns.map V.int) ∧ 0 ≤ k ∧ k ≤ 1000 ∧ ∀ p H', Same H H' → H' p = some (Stt p) → Q (.ref p) H'
def spLaw (K : PySem.W.Frag) : Sp := fun vs H Q _ => ∃ (a : Addr) (ns : List Int), vs = [.ref a] ∧ SqL K H a (ns.map V.int) ∧ ns.length ≤ 63 ∧ ∀ H', Q (.bl true) H'
theorem upper_one {H : Hp} {Q : VK} {c : Nat} (h : (Txt.upper ⟨#[c]⟩).length ≤ 3 → Q (.str (Txt.upper ⟨#[c]⟩)) H) : rUpper (.str ⟨#[c]⟩) [] H Q :=
  upper_R (by show 1 ≤ 1000000; decide) (h (PyProof.Rows.len_upper ⟨#[c]⟩))
theorem imod2 {H : Hp} {Q : VK} {C : Int → Int → Prop} {i : Int} (hc : C i 2) (h0 : i % 2 = 0 → Q (.int 0) H) (h1 : i % 2 = 1 → Q (.int 1) H) : rI C (fun i j => .int (i % j)) (.int i) (.int 2) H Q := by
  refine ⟨i, 2, rfl, rfl, hc, ?_⟩
  show Q (.int (i % 2)) H
  rcases (by omega : i % 2 = 0 ∨ i % 2 = 1) with e | e
  · rw [e]; exact h0 e
  · rw [e]; exact h1 e
theorem imod3 {H : Hp} {Q : VK} {C : Int → Int → Prop} {i : Int} (hc : C i 3) (h0 : i % 3 = 0 → Q (.int 0) H) (h1 : i % 3 = 1 → Q (.int 1) H) (h2 : i % 3 = 2 → Q (.int 2) H) : rI C (fun i j => .int (i % j)) (.int i) (.int 3) H Q := by
  refine ⟨i, 3, rfl, rfl, hc, ?_⟩
  show Q (.int (i % 3)) H
  rcases (by omega : i % 3 = 0 ∨ i % 3 = 1 ∨ i % 3 = 2) with e | e | e
  · rw [e]; exact h0 e
  · rw [e]; exact h1 e
  · rw [e]; exact h2 e
theorem ix_lstS {K : PySem.W.Frag} {H : Hp} {Q : VK} {x : V} {zs : List Str} {i : Int} (r : R K H x (.list (zs.map PyData.str))) (h0 : 0 ≤ i) (h1 : i < (zs.length : Int)) (h : ∀ z, z ∈ zs → Q (.str z) H) : rIx K x (.int i) H Q := by
  refine ix_lstM r h0 (by rw [List.length_map]; exact h1) fun v d hd rv => ?_
  obtain ⟨z, hz, rfl⟩ := List.mem_map.mp hd
  rw [rv.inv_str]
  exact h z hz
theorem Df.none {P : Program} {w : World} {K : PySem.W.Frag} {mg : Str → Option Value} {base : Heap} {x : Str} {st : Stmt} {ps : List Str} {k : Nat} {sp : Sp} (D : Df K mg x st ps) (h : ∀ vs H Q E, ¬ sp vs H Q E) : Cal P w K mg base k x sp := by
  obtain ⟨f, fd, F, hm, b⟩ := D.ex
  exact ⟨f, fd, ps, ⟨fun vs H Q E q => absurd q (h vs H Q E), fun A outer s H args us vs Q E _ _ _ _ q => absurd q (h vs H Q E)⟩, hm, F.kp, b⟩
section
variable {K : PySem.W.Frag} {H : Hp} {Q : VK} {y : V}
theorem eq_str1 {i j : Str} (e : i = j) (h : Q (.bl true) H) : rEqU K (.str i) (.str j) H Q := eq_str (by rw [decide_eq_true e]; exact h)
theorem eq_str0 {i j : Str} (e : decide (i = j) = false) (h : Q (.bl false) H) : rEqU K (.str i) (.str j) H Q := eq_str (by rw [e]; exact h)
theorem in_strsT1 {w : Str} {ds : List PyData} (r : R K H y (.tuple ds)) (c : allS ds = true) (e : inS w ds = true) (h : Q (.bl true) H) : rInU K (.str w) y H Q := in_strsT r c (by rw [e]; exact h)
theorem in_strsT0 {w : Str} {ds : List PyData} (r : R K H y (.tuple ds)) (c : allS ds = true) (e : inS w ds = false) (h : Q (.bl false) H) : rInU K (.str w) y H Q := in_strsT r c (by rw [e]; exact h)
theorem eq_int1 {i j : Int} (e : decide (i = j) = true) (h : Q (.bl true) H) : rEqU K (.int i) (.int j) H Q := eq_int (by rw [e]; exact h)
theorem eq_int0 {i j : Int} (e : decide (i = j) = false) (h : Q (.bl false) H) : rEqU K (.int i) (.int j) H Q := eq_int (by rw [e]; exact h)
end
theorem use_state {K : PySem.W.Frag} {H : Hp} {Q : VK} {E : XK} {a : Addr} {ns : List Int} {k : Int} (hs : SqL K H a (ns.map V.int)) (h0 : 0 ≤ k) (h1 : k ≤ 1000) (h : ∀ p H', Same H H' → H' p = some (Stt p) → Q (.ref p) H') : spState K [.ref a, .int k] H Q E := ⟨a, ns, k, rfl, hs, h0, h1, h⟩
theorem use_draw {H : Hp} {Q : VK} {E : XK} {p : Addr} {n : Int} (hp : H p = some (Stt p)) (h0 : 0 < n) (h1 : n < 1000000000) (h : ∀ r : Int, 0 ≤ r → r < n → Q (.int r) H) : spDraw [.ref p, .int n] H Q E := ⟨p, n, rfl, hp, h0, h1, h⟩
end G

namespace G
open PySem PySem.Spec PyProof.Rows L2
/-! names -/
def abc : Str := "abcdefghijklmnopqrstuvwxyz"
def ABC : Str := "ABCDEFGHIJKLMNOPQRSTUVWXYZ"
def kept : List PyData := [.str "false", .str "all", .str "some", .str "and", .str "or"]
def low (c : Nat) : Bool := decide (c ∈ abc.cps.toList)
def great (c : Nat) : Bool := decide (c ∈ ABC.cps.toList)
def isNameS (z : Str) : Bool := decide (1 ≤ z.length) && decide (z.length ≤ 8) && !inS z kept && z.cps.toList.all low
def isName : PyData → Bool
  | .str z => isNameS z
  | _ => false
def isFormS (z : Str) : Bool := decide (1 ≤ z.length) && decide (z.length ≤ 8) && (match z.cps.toList with | [] => false | c :: cs => great c && cs.all low)
def isForm : PyData → Bool
  | .str z => isFormS z
  | _ => false
theorem all_low (xs : List Nat) : (xs.map low).all id = xs.all low := by simp [List.all_map]
theorem upper_abc : Txt.upper abc = ABC := by decide +kernel
theorem low_great {c : Nat} (h : low c = true) : great c = false := by
  have a : ∀ c ∈ abc.cps.toList, great c = false := by decide +kernel
  exact a c (of_decide_eq_true h)
theorem isNameS_len {z : Str} (h : isNameS z = true) : 1 ≤ z.length ∧ z.length ≤ 8 := by
  unfold isNameS at h
  simp only [Bool.and_eq_true, decide_eq_true_eq] at h
  exact h.1.1
theorem isFormS_len {z : Str} (h : isFormS z = true) : 1 ≤ z.length ∧ z.length ≤ 8 := by
  unfold isFormS at h
  simp only [Bool.and_eq_true, decide_eq_true_eq] at h
  exact h.1
def sign (c : Nat) : Str := ⟨#[c]⟩
theorem signs_of {P : Nat → Prop} : ∀ {es : List PyData}, (∀ e ∈ es, ∃ c : Nat, e = .str ⟨#[c]⟩ ∧ P c) → ∃ cs : List Nat, es = (cs.map sign).map PyData.str ∧ ∀ c ∈ cs, P c
  | [], _ => ⟨[], rfl, by simp⟩
  | e :: es, h => by
    obtain ⟨c, rfl, hc⟩ := h e (by simp)
    obtain ⟨cs, rfl, hs⟩ := signs_of (es := es) (P := P) fun e he => h e (by simp [he])
    exact ⟨c :: cs, rfl, fun y hy' => by rcases List.mem_cons.mp hy' with rfl | q; exact hc; exact hs y q⟩
theorem join_signs (cs : List Nat) : (Txt.join "" (cs.map sign)).cps.toList = cs := by
  rw [join_e]
  induction cs with
  | nil => rfl
  | cons c cs ih =>
    simp only [List.map_cons, List.flatten_cons] at ih ⊢
    rw [ih]
    rfl
theorem sum_signs (cs : List Nat) : ((cs.map sign).map (·.length)).sum = cs.length := by
  rw [sum_ones]
  · simp
  · intro y hy
    obtain ⟨c, _, rfl⟩ := List.mem_map.mp hy
    rfl
/-- a text of one to eight small letters that is not kept *)-/
theorem name_of {z : Str} (h1 : 1 ≤ z.length) (h2 : z.length ≤ 8) (h3 : inS z kept = false) (h4 : ∀ c ∈ z.cps.toList, low c = true) : isNameS z = true := by
  unfold isNameS
  rw [decide_eq_true h1, decide_eq_true h2, h3, List.all_eq_true.mpr h4]
  rfl
theorem one_name {z : Str} {c : Nat} (h : z.cps.toList = [c]) (hc : low c = true) : isNameS z = true := by
  have e : z = sign c := str_ext h
  have hz : z.length = 1 := by rw [len_cps, h]; rfl
  refine name_of (by omega) (by omega) ?_ (by rw [h]; simpa using hc)
  have a : ∀ w ∈ (["false", "all", "some", "and", "or"] : List Str), w.length ≠ 1 := by decide +kernel
  have n : ∀ w : Str, w.length ≠ 1 → decide (w = z) = false := fun w hw => decide_eq_false fun q => hw (by rw [q, hz])
  unfold kept inS
  simp only [inS, n _ (a "false" (by simp)), n _ (a "all" (by simp)), n _ (a "some" (by simp)), n _ (a "and" (by simp)), n _ (a "or" (by simp)), Bool.or_self]
theorem upper_low {c : Nat} (h : low c = true) : Txt.upper ⟨#[c]⟩ = ⟨#[c - 32]⟩ ∧ great (c - 32) = true := by
  have a : ∀ c ∈ abc.cps.toList, Txt.upper ⟨#[c]⟩ = ⟨#[c - 32]⟩ ∧ great (c - 32) = true := by decide +kernel
  exact a c (of_decide_eq_true h)
theorem isNameS_low {z : Str} (h : isNameS z = true) : ∀ c ∈ z.cps.toList, low c = true := by
  unfold isNameS at h
  simp only [Bool.and_eq_true] at h
  exact List.all_eq_true.mp h.2
theorem form_of {z : Str} (h : isNameS z = true) : isFormS (Txt.upper (cutS z none (some 1)) ++ cutS z (some 1) none) = true := by
  have hl := isNameS_len h
  have hc := len_cps z
  have lw := isNameS_low h
  rcases hcs : z.cps.toList with _ | ⟨c, cs⟩
  · rw [hcs, List.length_nil] at hc; omega
  · have e1 : cutS z none (some 1) = ⟨#[c]⟩ := str_ext (by rw [cutS_t1, hcs]; rfl)
    have e2 : (cutS z (some 1) none).cps.toList = cs := by rw [cutS_1, hcs]; rfl
    rw [hcs] at lw hc
    obtain ⟨u1, u2⟩ := upper_low (lw c (by simp))
    have e3 : (Txt.upper (cutS z none (some 1)) ++ cutS z (some 1) none).cps.toList = (c - 32) :: cs := by
      rw [cps_append, e1, u1, e2]; rfl
    have e4 : (Txt.upper (cutS z none (some 1)) ++ cutS z (some 1) none).length = cs.length + 1 := by rw [len_cps, e3]; rfl
    unfold isFormS
    rw [e3, e4]
    rw [List.length_cons] at hc
    rw [decide_eq_true (by omega), decide_eq_true (by omega)]
    simp only [u2, Bool.true_and]
    exact List.all_eq_true.mpr fun x hx => lw x (by simp [hx])
theorem nm_a {z : Str} (h : isNameS z = true) : z.length ≤ 1000000 := by have := isNameS_len h; omega
theorem fm_a {z : Str} (h : isFormS z = true) : z.length ≤ 1000000 := by have := isFormS_len h; omega
theorem nm_b {z : Str} {lo hi : Option Int} (h : isNameS z = true) : (cutS z lo hi).length ≤ 1000000 := by have := isNameS_len h; have := cutS_length z lo hi; omega
theorem nm_c {z : Str} {lo hi lo' hi' : Option Int} (h : isNameS z = true) : (Txt.upper (cutS z lo hi)).length + (cutS z lo' hi').length ≤ 1000000 := by
  have := isNameS_len h; have := cutS_length z lo hi; have := cutS_length z lo' hi'; have := PyProof.Rows.len_upper (cutS z lo hi); omega
/-! terms and statements, one kind of tree -/
inductive AW | form | call | atom deriving DecidableEq
inductive QW | all | some deriving DecidableEq
inductive BW | same | and | or | iff deriving DecidableEq
def AW.s : AW → Str
  | .form => "form"
  | .call => "call"
  | .atom => "atom"
def QW.s : QW → Str
  | .all => "all"
  | .some => "some"
def BW.s : BW → Str
  | .same => "same"
  | .and => "and"
  | .or => "or"
  | .iff => "if"
inductive Th where
  | free (x : Str)
  | bnd (k : Nat)
  | fls
  | app (w : AW) (c : Str) (args : List Th)
  | qua (w : QW) (k : Str) (a : Th)
  | two (w : BW) (a b : Th)
mutual
def Th.d : Th → PyData
  | .free x => .tuple [.str "free", .str x]
  | .bnd k => .tuple [.str "bound", .int k]
  | .fls => .tuple [.str "false"]
  | .app w c args => .tuple [.str w.s, .str c, .tuple (Th.ds args)]
  | .qua w k a => .tuple [.str w.s, .str k, a.d]
  | .two w a b => .tuple [.str w.s, a.d, b.d]
def Th.ds : List Th → List PyData
  | [] => []
  | t :: ts => t.d :: Th.ds ts
end
theorem Th.ds_map : ∀ ts : List Th, Th.ds ts = ts.map Th.d
  | [] => rfl
  | t :: ts => by rw [Th.ds, Th.ds_map ts]; rfl
mutual
def Th.dep : Th → Nat
  | .app _ _ args => Th.deps args + 1
  | .qua _ _ a => a.dep + 1
  | .two _ a b => max a.dep b.dep + 1
  | _ => 1
def Th.deps : List Th → Nat
  | [] => 0
  | t :: ts => max t.dep (Th.deps ts)
end
mutual
def Th.sz : Th → Nat
  | .app _ _ args => Th.szs args + 1
  | .qua _ _ a => a.sz + 1
  | .two _ a b => a.sz + b.sz + 1
  | _ => 1
def Th.szs : List Th → Nat
  | [] => 0
  | t :: ts => t.sz + Th.szs ts
end
mutual
/-- a term all of whose bounds are below n -/
def Th.isT (F : List Str) (n : Nat) : Th → Prop
  | .free x => isNameS x = true ∧ x ∈ F
  | .bnd k => k < n
  | .app .form c args => isFormS c = true ∧ args.length ≤ 4 ∧ Th.areT F n args
  | .app .call c args => isNameS c = true ∧ args.length ≤ 4 ∧ Th.areT F n args
  | _ => False
def Th.areT (F : List Str) (n : Nat) : List Th → Prop
  | [] => True
  | t :: ts => t.isT F n ∧ Th.areT F n ts
end
def Th.isS (F : List Str) (n : Nat) : Th → Prop
  | .fls => True
  | .two .same a b => a.isT F n ∧ b.isT F n
  | .app .atom c args => isNameS c = true ∧ args.length ≤ 4 ∧ Th.areT F n args
  | .two _ a b => a.isS F n ∧ b.isS F n
  | .qua _ k a => isNameS k = true ∧ a.isS F (n + 1)
  | _ => False
theorem Th.areT_all {F : List Str} {n : Nat} : ∀ {ts : List Th}, Th.areT F n ts ↔ ∀ t ∈ ts, t.isT F n
  | [] => by simp [Th.areT]
  | t :: ts => by simp [Th.areT, Th.areT_all (ts := ts)]
mutual
theorem Th.isT_mono {F : List Str} {n m : Nat} (h : n ≤ m) : ∀ {t : Th}, t.isT F n → t.isT F m
  | .free x, q => q
  | .bnd k, q => Nat.lt_of_lt_of_le q h
  | .app .form c args, q => ⟨q.1, q.2.1, Th.areT_mono h q.2.2⟩
  | .app .call c args, q => ⟨q.1, q.2.1, Th.areT_mono h q.2.2⟩
theorem Th.areT_mono {F : List Str} {n m : Nat} (h : n ≤ m) : ∀ {ts : List Th}, Th.areT F n ts → Th.areT F m ts
  | [], _ => True.intro
  | t :: ts, q => ⟨Th.isT_mono h q.1, Th.areT_mono h q.2⟩
end
theorem Th.deps_le {m : Nat} : ∀ {ts : List Th}, Th.deps ts ≤ m ↔ ∀ t ∈ ts, t.dep ≤ m
  | [] => by simp [Th.deps]
  | t :: ts => by simp [Th.deps, Th.deps_le (ts := ts), Nat.max_le]
theorem Th.szs_le {m : Nat} : ∀ {ts : List Th}, (∀ t ∈ ts, t.sz ≤ m) → Th.szs ts ≤ ts.length * m
  | [], _ => Nat.zero_le _
  | t :: ts, h => by
    have h1 := h t (by simp)
    have h2 := Th.szs_le (ts := ts) (m := m) fun x hx => h x (by simp [hx])
    simp only [Th.szs, List.length_cons, Nat.succ_mul]
    omega
/-- data each of which is a tree of a kind -/
theorem ths_of {P : Th → Prop} : ∀ {es : List PyData}, (∀ e ∈ es, ∃ t : Th, e = t.d ∧ P t) → ∃ ts : List Th, es = Th.ds ts ∧ ∀ t ∈ ts, P t
  | [], _ => ⟨[], rfl, by simp⟩
  | e :: es, h => by
    obtain ⟨t, rfl, ht⟩ := h e (by simp)
    obtain ⟨ts, rfl, hs⟩ := ths_of (es := es) (P := P) fun e he => h e (by simp [he])
    exact ⟨t :: ts, rfl, fun y hy' => by rcases List.mem_cons.mp hy' with rfl | q; exact ht; exact hs y q⟩
theorem low_small {c : Nat} (h : low c = true) : c < 0x110000 := by
  have a : ∀ c ∈ abc.cps.toList, c < 0x110000 := by decide +kernel
  exact a c (of_decide_eq_true h)
theorem great_small {c : Nat} (h : great c = true) : c < 0x110000 := by
  have a : ∀ c ∈ ABC.cps.toList, c < 0x110000 := by decide +kernel
  exact a c (of_decide_eq_true h)
theorem strOk_of {z : Str} (h : ∀ c ∈ z.cps.toList, c < 0x110000) : PyData.strOk z = true := by
  unfold PyData.strOk
  rw [Array.all_eq_true']
  intro c hc
  exact decide_eq_true (h c (by simpa using hc))
theorem name_ok {z : Str} (h : isNameS z = true) : PyData.strOk z = true := strOk_of fun c hc => low_small (isNameS_low h c hc)
theorem form_ok {z : Str} (h : isFormS z = true) : PyData.strOk z = true := by
  refine strOk_of fun c hc => ?_
  unfold isFormS at h
  simp only [Bool.and_eq_true] at h
  obtain ⟨_, h⟩ := h
  split at h
  · rename_i e; rw [e] at hc; simp at hc
  · rename_i c0 cs e
    simp only [Bool.and_eq_true] at h
    rw [e] at hc
    rcases List.mem_cons.mp hc with rfl | hc
    · exact great_small h.1
    · exact low_small (List.all_eq_true.mp h.2 c hc)
theorem AW.ok (w : AW) : PyData.strOk w.s = true := by cases w <;> decide +kernel
theorem QW.ok (w : QW) : PyData.strOk w.s = true := by cases w <;> decide +kernel
theorem BW.ok (w : BW) : PyData.strOk w.s = true := by cases w <;> decide +kernel
theorem free_ok : PyData.strOk "free" = true := by decide +kernel
theorem bound_ok : PyData.strOk "bound" = true := by decide +kernel
theorem false_ok : PyData.strOk "false" = true := by decide +kernel
mutual
theorem Th.layT {F : List Str} {n : Nat} : ∀ t : Th, t.isT F n → t.d.canLay0 = true
  | .free x, h => by simp [Th.d, PyData.canLay0, PyData.canLayAll0, free_ok, name_ok (show isNameS x = true ∧ x ∈ F from h).1]
  | .bnd k, h => by simp [Th.d, PyData.canLay0, PyData.canLayAll0, bound_ok]
  | .app .form c args, h => by simp [Th.d, PyData.canLay0, PyData.canLayAll0, Th.layTs args h.2.2, AW.ok, form_ok h.1]
  | .app .call c args, h => by simp [Th.d, PyData.canLay0, PyData.canLayAll0, Th.layTs args h.2.2, AW.ok, name_ok h.1]
theorem Th.layTs {F : List Str} {n : Nat} : ∀ ts : List Th, Th.areT F n ts → PyData.canLayAll0 (Th.ds ts) = true
  | [], _ => rfl
  | t :: ts, h => by simp [Th.ds, PyData.canLayAll0, Th.layT t h.1, Th.layTs ts h.2]
end
theorem Th.layS {F : List Str} : ∀ (t : Th) {n : Nat}, t.isS F n → t.d.canLay0 = true
  | .fls, _, _ => by simp [Th.d, PyData.canLay0, PyData.canLayAll0, false_ok]
  | .two .same a b, _, h => by simp [Th.d, PyData.canLay0, PyData.canLayAll0, BW.ok, Th.layT a h.1, Th.layT b h.2]
  | .app .atom c args, _, h => by simp [Th.d, PyData.canLay0, PyData.canLayAll0, Th.layTs args h.2.2, AW.ok, name_ok h.1]
  | .two .and a b, _, h => by simp [Th.d, PyData.canLay0, PyData.canLayAll0, BW.ok, Th.layS a h.1, Th.layS b h.2]
  | .two .or a b, _, h => by simp [Th.d, PyData.canLay0, PyData.canLayAll0, BW.ok, Th.layS a h.1, Th.layS b h.2]
  | .two .iff a b, _, h => by simp [Th.d, PyData.canLay0, PyData.canLayAll0, BW.ok, Th.layS a h.1, Th.layS b h.2]
  | .qua w k a, _, h => by simp [Th.d, PyData.canLay0, PyData.canLayAll0, QW.ok, name_ok h.1, Th.layS a h.2]
mutual
theorem Th.depth_le : ∀ t : Th, t.d.depth ≤ 2 * t.dep
  | .free x => by simp [Th.d, PyData.depth, PyData.depthAll, Th.dep]
  | .bnd k => by simp [Th.d, PyData.depth, PyData.depthAll, Th.dep]
  | .fls => by simp [Th.d, PyData.depth, PyData.depthAll, Th.dep]
  | .app w c args => by
    have := Th.depths_le args
    simp only [Th.d, PyData.depth, PyData.depthAll, Th.dep]
    omega
  | .qua w k a => by
    have := Th.depth_le a
    simp only [Th.d, PyData.depth, PyData.depthAll, Th.dep]
    omega
  | .two w a b => by
    have := Th.depth_le a
    have := Th.depth_le b
    simp only [Th.d, PyData.depth, PyData.depthAll, Th.dep]
    omega
theorem Th.depths_le : ∀ ts : List Th, PyData.depthAll (Th.ds ts) ≤ 2 * Th.deps ts
  | [] => by simp [Th.ds, PyData.depthAll]
  | t :: ts => by
    have := Th.depth_le t
    have := Th.depths_le ts
    simp only [Th.ds, PyData.depthAll, Th.deps]
    omega
end
theorem Th.dep_pos : ∀ t : Th, 1 ≤ t.dep := by intro t; cases t <;> simp [Th.dep]
theorem Th.sz_pos : ∀ t : Th, 1 ≤ t.sz := by intro t; cases t <;> simp [Th.sz]

theorem Th.ds_append (xs : List Th) (t : Th) : Th.ds (xs ++ [t]) = Th.ds xs ++ [t.d] := by rw [Th.ds_map, Th.ds_map, List.map_append]; rfl
theorem Th.deps_append (xs : List Th) (t : Th) : Th.deps (xs ++ [t]) = max (Th.deps xs) t.dep := by
  induction xs with
  | nil => simp [Th.deps]
  | cons x xs ih => simp only [List.cons_append, Th.deps, ih]; omega
theorem Th.szs_append (xs : List Th) (t : Th) : Th.szs (xs ++ [t]) = Th.szs xs + t.sz := by
  induction xs with
  | nil => simp [Th.szs]
  | cons x xs ih => simp only [List.cons_append, Th.szs, ih]; omega
theorem tall_ok {F : List Str} {b : Nat} {ts : List Th} {t : Th} (hl : ts.length ≤ 2) (hts : ∀ t ∈ ts, t.isT F b ∧ t.dep = 1 ∧ t.sz = 1) (ht : t.isT F b) :
    (ts ++ [t]).length ≤ 4 ∧ Th.areT F b (ts ++ [t]) ∧ Th.deps (ts ++ [t]) + 1 ≤ t.dep + 1 ∧ Th.szs (ts ++ [t]) + 1 ≤ t.sz + 3 := by
  refine ⟨by simp; omega, Th.areT_all.mpr fun x hx => ?_, ?_, ?_⟩
  · rcases List.mem_append.mp hx with h | h
    · exact (hts x h).1
    · rw [List.mem_singleton.mp h]; exact ht
  · have h1 : Th.deps ts ≤ 1 := Th.deps_le.mpr fun x hx => Nat.le_of_eq (hts x hx).2.1
    have h2 := t.dep_pos
    rw [Th.deps_append]
    omega
  · have h1 := Th.szs_le (ts := ts) (m := 1) fun x hx => Nat.le_of_eq (hts x hx).2.2
    rw [Th.szs_append]
    omega
/-! what the makers of trees promise -/
def szT : Nat → Nat
  | 0 => 1
  | n + 1 => 1 + 4 * szT n
theorem szT_pos (n : Nat) : 1 ≤ szT n := by cases n <;> simp [szT]
abbrev poolD (fs gs ns : List Str) : PyData := .tuple [.list (fs.map PyData.str), .list (gs.map PyData.str), .list (ns.map PyData.str)]
structure PoolOk (fs gs ns : List Str) : Prop where
  lf : fs.length = 9
  lg : gs.length = 3
  ln : ns.length = 3
  hf : ∀ z ∈ fs, isNameS z = true
  hg : ∀ z ∈ gs, isFormS z = true
  hn : ∀ z ∈ ns, isNameS z = true
def spName : Sp := fun vs H Q _ => ∃ (p : Addr), vs = [.ref p] ∧ H p = some (Stt p) ∧ ∀ z H', Same H H' → isNameS z = true → Q (.str z) H'
def spForm : Sp := fun vs H Q _ => ∃ (p : Addr), vs = [.ref p] ∧ H p = some (Stt p) ∧ ∀ z H', Same H H' → isFormS z = true → Q (.str z) H'
def spPool (K : PySem.W.Frag) : Sp := fun vs H Q _ => ∃ (p : Addr), vs = [.ref p] ∧ H p = some (Stt p) ∧ ∀ v fs gs ns H', Same H H' → PoolOk fs gs ns → R K H' v (poolD fs gs ns) → Q v H'
def spLeaf (K : PySem.W.Frag) : Sp := fun vs H Q _ => ∃ (p : Addr) (v : V) (fs gs ns : List Str) (b : Int), vs = [.ref p, v, .int b] ∧ H p = some (Stt p) ∧ R K H v (poolD fs gs ns) ∧ PoolOk fs gs ns ∧ 0 ≤ b ∧ b ≤ 1000 ∧
  ∀ u t H', Same H H' → R K H' u (Th.d t) → t.isT fs b.toNat → t.dep = 1 → t.sz = 1 → Q u H'
def spTerm (K : PySem.W.Frag) (n : Nat) : Sp := fun vs H Q _ => ∃ (p : Addr) (v : V) (fs gs ns : List Str) (e b : Int), vs = [.ref p, v, .int e, .int b] ∧ H p = some (Stt p) ∧ R K H v (poolD fs gs ns) ∧ PoolOk fs gs ns ∧ 0 ≤ b ∧ b ≤ 1000 ∧ 0 ≤ e ∧ e < n ∧
  ∀ u t H', Same H H' → R K H' u (Th.d t) → t.isT fs b.toNat → t.dep ≤ e.toNat + 1 → t.sz ≤ szT e.toNat → Q u H'
def spTall (K : PySem.W.Frag) : Sp := fun vs H Q _ => ∃ (p : Addr) (v : V) (fs gs ns : List Str) (u : V) (t : Th) (b : Nat) (m : Int), vs = [.ref p, v, u, .int m] ∧ H p = some (Stt p) ∧ R K H v (poolD fs gs ns) ∧ PoolOk fs gs ns ∧ R K H u t.d ∧ t.isT fs b ∧ 0 ≤ m ∧ m ≤ 60 ∧
  ∀ u' t' H', Same H H' → R K H' u' (Th.d t') → t'.isT fs b → t'.dep ≤ t.dep + m.toNat → t'.sz ≤ t.sz + 3 * m.toNat → Q u' H'
def spAnyT (K : PySem.W.Frag) : Sp := fun vs H Q _ => ∃ (p : Addr) (v : V) (fs gs ns : List Str) (b : Int), vs = [.ref p, v, .int b] ∧ H p = some (Stt p) ∧ R K H v (poolD fs gs ns) ∧ PoolOk fs gs ns ∧ 0 ≤ b ∧ b ≤ 1000 ∧
  ∀ u t H', Same H H' → R K H' u (Th.d t) → t.isT fs b.toNat → t.dep ≤ 57 → t.sz ≤ 200 → Q u H'
section
variable {K : PySem.W.Frag} {H : Hp} {Q : VK} {E : XK} {p : Addr} {v u : V} {fs gs ns : List Str} {t : Th} {b e m : Int} {n nb : Nat}
theorem use_name (hp : H p = some (Stt p)) (h : ∀ z H', Same H H' → isNameS z = true → Q (.str z) H') : spName [.ref p] H Q E := ⟨p, rfl, hp, h⟩
theorem use_form (hp : H p = some (Stt p)) (h : ∀ z H', Same H H' → isFormS z = true → Q (.str z) H') : spForm [.ref p] H Q E := ⟨p, rfl, hp, h⟩
theorem use_pool (hp : H p = some (Stt p)) (h : ∀ v fs gs ns H', Same H H' → PoolOk fs gs ns → R K H' v (poolD fs gs ns) → Q v H') : spPool K [.ref p] H Q E := ⟨p, rfl, hp, h⟩
theorem use_leaf (hp : H p = some (Stt p)) (r : R K H v (poolD fs gs ns)) (ok : PoolOk fs gs ns) (h0 : 0 ≤ b) (h1 : b ≤ 1000) (h : ∀ u t H', Same H H' → R K H' u (Th.d t) → t.isT fs b.toNat → t.dep = 1 → t.sz = 1 → Q u H') : spLeaf K [.ref p, v, .int b] H Q E :=
  ⟨p, v, fs, gs, ns, b, rfl, hp, r, ok, h0, h1, h⟩
theorem use_term (hp : H p = some (Stt p)) (r : R K H v (poolD fs gs ns)) (ok : PoolOk fs gs ns) (h0 : 0 ≤ b) (h1 : b ≤ 1000) (e0 : 0 ≤ e) (e1 : e < n) (h : ∀ u t H', Same H H' → R K H' u (Th.d t) → t.isT fs b.toNat → t.dep ≤ e.toNat + 1 → t.sz ≤ szT e.toNat → Q u H') : spTerm K n [.ref p, v, .int e, .int b] H Q E :=
  ⟨p, v, fs, gs, ns, e, b, rfl, hp, r, ok, h0, h1, e0, e1, h⟩
theorem use_tall (hp : H p = some (Stt p)) (r : R K H v (poolD fs gs ns)) (ok : PoolOk fs gs ns) (rt : R K H u t.d) (ht : t.isT fs nb) (h0 : 0 ≤ m) (h1 : m ≤ 60) (h : ∀ u' t' H', Same H H' → R K H' u' (Th.d t') → t'.isT fs nb → t'.dep ≤ t.dep + m.toNat → t'.sz ≤ t.sz + 3 * m.toNat → Q u' H') : spTall K [.ref p, v, u, .int m] H Q E :=
  ⟨p, v, fs, gs, ns, u, t, nb, m, rfl, hp, r, ok, rt, ht, h0, h1, h⟩
theorem use_anyT (hp : H p = some (Stt p)) (r : R K H v (poolD fs gs ns)) (ok : PoolOk fs gs ns) (h0 : 0 ≤ b) (h1 : b ≤ 1000) (h : ∀ u t H', Same H H' → R K H' u (Th.d t) → t.isT fs b.toNat → t.dep ≤ 57 → t.sz ≤ 200 → Q u H') : spAnyT K [.ref p, v, .int b] H Q E :=
  ⟨p, v, fs, gs, ns, b, rfl, hp, r, ok, h0, h1, h⟩
end

/-! comprehensions over a row of trees -/
section
variable {K : PySem.W.Frag} {σ : L2.St} {H : Hp} {Q : VK} {te : TE} {vs : List Nat} {j : Nat} {x : V}
theorem ds_len (ts : List Th) : (Th.ds ts).length = ts.length := by rw [Th.ds_map, List.length_map]
theorem ds_get {ts : List Th} {i : Nat} {t : Th} (h : ts[i]? = some t) : (Th.ds ts)[i]? = some t.d := by rw [Th.ds_map, List.getElem?_map, h]; rfl
theorem lcT_th (f : Th → PyData) {ts : List Th} (r : R K H x (.tuple (Th.ds ts))) (hl : ts.length ≤ 1000000) (hw : ∀ x, wipe ((wipe σ vs).set j (some x)) vs = wipe σ vs)
    (he : ∀ v t H1, t ∈ ts → R K H1 v (Th.d t) → Same H H1 → ∀ Qt : VK, (∀ y H2, Same H1 H2 → R K H2 y (f t) → Qt y H2) → te ((wipe σ vs).set j (some v)) H1 Qt)
    (hq : ∀ v H1, Same H H1 → R K H1 v (.list (ts.map f)) → Q v H1) : LcT K j te vs σ x H Q := by
  refine lc_T (fun i e => ∃ t, ts[i]? = some t ∧ e = f t) r (by rw [ds_len]; exact hl) hw (fun k v d H1 hd rv s1 Qt hQ => ?_) (fun v H1 es s1 r1 hl hP => hq v H1 s1 (by rw [← list_of_at (by rw [hl, ds_len]) hP]; exact r1))
  rw [Th.ds_map, List.getElem?_map] at hd
  cases ht : ts[k]? with
  | none => rw [ht] at hd; cases hd
  | some t =>
    rw [ht] at hd
    cases hd
    exact he v t H1 (List.mem_of_getElem? ht) rv s1 Qt fun y H2 s2 r2 => hQ y H2 _ s2 r2 ⟨t, ht, rfl⟩
theorem lcL_th (f : Th → PyData) {ts : List Th} (r : R K H x (.list (Th.ds ts))) (hl : ts.length ≤ 1000000) (hw : ∀ x, wipe ((wipe σ vs).set j (some x)) vs = wipe σ vs)
    (he : ∀ v t H1, t ∈ ts → R K H1 v (Th.d t) → Same H H1 → ∀ Qt : VK, (∀ y H2, Same H1 H2 → R K H2 y (f t) → Qt y H2) → te ((wipe σ vs).set j (some v)) H1 Qt)
    (hq : ∀ v H1, Same H H1 → R K H1 v (.list (ts.map f)) → Q v H1) : LcL K j te vs σ x H Q := by
  refine lc_L (fun i e => ∃ t, ts[i]? = some t ∧ e = f t) r (by rw [ds_len]; exact hl) hw (fun k v d H1 hd rv s1 Qt hQ => ?_) (fun v H1 es s1 r1 hl hP => hq v H1 s1 (by rw [← list_of_at (by rw [hl, ds_len]) hP]; exact r1))
  rw [Th.ds_map, List.getElem?_map] at hd
  cases ht : ts[k]? with
  | none => rw [ht] at hd; cases hd
  | some t =>
    rw [ht] at hd
    cases hd
    exact he v t H1 (List.mem_of_getElem? ht) rv s1 Qt fun y H2 s2 r2 => hQ y H2 _ s2 r2 ⟨t, ht, rfl⟩
end
end G

namespace G
open PySem PySem.Spec PyProof.Rows L2
/-! statements: what their makers promise -/
def szS : Nat → Nat
  | 0 => 85
  | n + 1 => 1 + 2 * szS n
theorem szS_ge : ∀ n : Nat, 85 ≤ szS n
  | 0 => Nat.le_refl _
  | n + 1 => by have := szS_ge n; simp only [szS]; omega
def spTold (K : PySem.W.Frag) (n : Nat) : Sp := fun vs H Q _ => ∃ (p : Addr) (v : V) (fs gs ns : List Str) (e b : Int), vs = [.ref p, v, .int e, .int b] ∧ H p = some (Stt p) ∧ R K H v (poolD fs gs ns) ∧ PoolOk fs gs ns ∧ 0 ≤ b ∧ b + e ≤ 1000 ∧ 0 ≤ e ∧ e < n ∧
  ∀ u t H', Same H H' → R K H' u (Th.d t) → t.isS fs b.toNat → t.dep ≤ e.toNat + 4 → t.sz ≤ szS e.toNat → Q u H'
def spAnyS (K : PySem.W.Frag) : Sp := fun vs H Q _ => ∃ (p : Addr) (v : V) (fs gs ns : List Str) (e b : Int), vs = [.ref p, v, .int e, .int b] ∧ H p = some (Stt p) ∧ R K H v (poolD fs gs ns) ∧ PoolOk fs gs ns ∧ 0 ≤ b ∧ b ≤ 900 ∧ 0 ≤ e ∧ e < 5 ∧
  ∀ u t H', Same H H' → R K H' u (Th.d t) → t.isS fs b.toNat → t.dep ≤ 28 → t.sz ≤ 1500 → Q u H'
section
variable {K : PySem.W.Frag} {H : Hp} {Q : VK} {E : XK} {p : Addr} {v u : V} {fs gs ns : List Str} {t : Th} {b e m : Int} {n nb : Nat}
theorem use_told (hp : H p = some (Stt p)) (r : R K H v (poolD fs gs ns)) (ok : PoolOk fs gs ns) (h0 : 0 ≤ b) (h1 : b + e ≤ 1000) (e0 : 0 ≤ e) (e1 : e < n) (h : ∀ u t H', Same H H' → R K H' u (Th.d t) → t.isS fs b.toNat → t.dep ≤ e.toNat + 4 → t.sz ≤ szS e.toNat → Q u H') : spTold K n [.ref p, v, .int e, .int b] H Q E :=
  ⟨p, v, fs, gs, ns, e, b, rfl, hp, r, ok, h0, h1, e0, e1, h⟩
theorem use_anyS (hp : H p = some (Stt p)) (r : R K H v (poolD fs gs ns)) (ok : PoolOk fs gs ns) (h0 : 0 ≤ b) (h1 : b ≤ 900) (e0 : 0 ≤ e) (e1 : e < 5) (h : ∀ u t H', Same H H' → R K H' u (Th.d t) → t.isS fs b.toNat → t.dep ≤ 28 → t.sz ≤ 1500 → Q u H') : spAnyS K [.ref p, v, .int e, .int b] H Q E :=
  ⟨p, v, fs, gs, ns, e, b, rfl, hp, r, ok, h0, h1, e0, e1, h⟩
end
end G

namespace G
open PySem PySem.Spec PyProof.Rows L2
/-! lists of one's own that change: what else stands, and data without lists and dicts in it -/
def SameX (l : Addr) (H H' : Hp) : Prop := ∀ a o, a ≠ l → H a = some o → H' a = some o
mutual
def noL : PyData → Bool
  | .list _ => false
  | .dict _ => false
  | .tuple ds => noLs ds
  | _ => true
def noLs : List PyData → Bool
  | [] => true
  | d :: ds => noL d && noLs ds
end
theorem SameX.refl {l : Addr} (H : Hp) : SameX l H H := fun _ _ _ h => h
theorem SameX.of {l : Addr} {H H' : Hp} (s : Same H H') : SameX l H H' := fun a o _ h => s a o h
theorem SameX.trans {l : Addr} {H H1 H2 : Hp} (a : SameX l H H1) (b : SameX l H1 H2) : SameX l H H2 := fun c o n h => b c o n (a c o n h)
theorem SameX.upd {l : Addr} {H : Hp} {o : HO} : SameX l H (upd H l o) := fun a u n h => by rw [upd_ne n]; exact h
theorem SameX.same {l : Addr} {H0 H H' : Hp} (s : Same H0 H) (x : SameX l H H') (h : H0 l = none) : Same H0 H' := fun a o q => x a o (ne_of_none q h) (s a o q)
section
variable {K : PySem.W.Frag} {H H' : Hp} {l : Addr} {xs : List V}
theorem SameX.tupX (x : SameX l H H') (hl : H l = some (.lst xs)) {a : Addr} {ys : List V} (h : SqT K H a ys) : SqT K H' a ys := by
  rcases h with (h | ⟨o, h⟩) | h
  · exact .inl (.inl (x a _ (fun e => by rw [e, hl] at h; cases h) h))
  · exact .inl (.inr ⟨o, x a _ (fun e => by rw [e, hl] at h; cases h) h⟩)
  · exact .inr h
mutual
theorem R.monoX (x : SameX l H H') (hl : H l = some (.lst xs)) : ∀ {v : V} {d : PyData}, noL d = true → R K H v d → R K H' v d
  | _, _, _, .non => .non
  | _, _, _, .bl b => .bl b
  | _, _, _, .int i => .int i
  | _, _, _, .str z => .str z
  | _, _, n, .lst _ _ => by simp [noL] at n
  | _, _, n, .tup h r => .tup (x.tupX hl h) (RA.monoX x hl (by simpa [noL] using n) r)
  | _, _, n, .dct _ => by simp [noL] at n
theorem RA.monoX (x : SameX l H H') (hl : H l = some (.lst xs)) : ∀ {vs : List V} {ds : List PyData}, noLs ds = true → RA K H vs ds → RA K H' vs ds
  | _, _, _, .nil => .nil
  | _, _, n, .cons h r => by
    simp only [noLs, Bool.and_eq_true] at n
    exact .cons (R.monoX x hl n.1 h) (RA.monoX x hl n.2 r)
end
end
theorem noLs_append : ∀ {xs ys : List PyData}, noLs (xs ++ ys) = (noLs xs && noLs ys)
  | [], ys => by simp [noLs]
  | x :: xs, ys => by simp [noLs, noLs_append (xs := xs), Bool.and_assoc]
mutual
theorem Th.noL : ∀ t : Th, noL t.d = true
  | .free x => rfl
  | .bnd k => rfl
  | .fls => rfl
  | .app w c args => by simp [Th.d, G.noL, G.noLs, Th.noLs args]
  | .qua w k a => by simp [Th.d, G.noL, G.noLs, Th.noL a]
  | .two w a b => by simp [Th.d, G.noL, G.noLs, Th.noL a, Th.noL b]
theorem Th.noLs : ∀ ts : List Th, noLs (Th.ds ts) = true
  | [] => rfl
  | t :: ts => by simp [Th.ds, G.noLs, Th.noL t, Th.noLs ts]
end
/-! while -/
def WhN (W : Nat → L2.St → Hp → Prop) (m : Nat) : L2.St → Hp → Prop := fun σ' H' => ∃ m', m' < m ∧ W m' σ' H'
def WhB (W : Nat → L2.St → Hp → Prop) (m : Nat) (tb : TS) (nx : L2.St → Hp → Prop) (rt : VK) (σ : L2.St) (H : Hp) : Prop :=
  ∃ N : L2.St → Hp → Prop, (∀ σ' H', N σ' H' → ∃ m', m' < m ∧ W m' σ' H') ∧ tb ⟨N, rt, nx, N⟩ σ H
theorem st_while {c : TT} {tb : TS} {nx bk ct : L2.St → Hp → Prop} {rt : VK} {σ : L2.St} {H : Hp} (W : Nat → L2.St → Hp → Prop) (m : Nat) (h0 : W m σ H)
    (hs : ∀ m σ H, W m σ H → c σ H fun b H1 => if b = true then WhB W m tb nx rt σ H1 else nx σ H1) : tWhile c tb ⟨nx, rt, bk, ct⟩ σ H := ⟨W, ⟨m, h0⟩, hs⟩
theorem whB {W : Nat → L2.St → Hp → Prop} {m : Nat} {tb : TS} {nx : L2.St → Hp → Prop} {rt : VK} {σ : L2.St} {H : Hp} (h : tb ⟨WhN W m, rt, nx, WhN W m⟩ σ H) : WhB W m tb nx rt σ H := ⟨_, fun _ _ q => q, h⟩
theorem eqv_nilL (ds : List PyData) : PyData.eqv (.list ds) (.list []) = ds.isEmpty := by
  cases ds <;> simp [PyData.eqv, PyData.eqvAll]
/-! methods of such lists -/
section
variable {X : Cx} {o : Expr} {to : TE} {apos cpos : Pos}
theorem bm0K (K : PySem.W.Frag) {e : Expr} {T : String} {r : V → List V → Hp → VK → Prop} (h : PE X e (tBM0 X.K T r to)) (hK : X.K = K := by rfl) : PE X e (tBM0 K T r to) := hK ▸ h
theorem bmK (K : PySem.W.Frag) {e : Expr} {T : String} {t : TA} {r : V → List V → Hp → VK → Prop} (h : PE X e (tBM X.K T r to t)) (hK : X.K = K := by rfl) : PE X e (tBM K T r to t) := hK ▸ h
theorem gtK (K : PySem.W.Frag) {tg : Expr} {n : Nat} {t : TGs} (h : PG X tg (gTup X.K n t)) (hK : X.K = K := by rfl) : PG X tg (gTup K n t) := hK ▸ h
end
section
variable {K : PySem.W.Frag} {σ : L2.St} {H : Hp} {Q : VK} {to : TE} {t : TA} {r : V → List V → Hp → VK → Prop} {l : Addr} {xs : List V} {ds es : List PyData} {d : PyData} {y : V}
theorem st_BM0 (h : to σ H fun x H1 => tyV K "list" x H1 ∧ r x [] H1 Q) : tBM0 K "list" r to σ H Q := h
theorem st_BM (h : to σ H fun x H1 => tyV K "list" x H1 ∧ t σ H1 fun xs H2 => r x xs H2 Q) : tBM K "list" r to t σ H Q := h
theorem st_tyl {A : Prop} (hl : H l = some (.lst xs)) (h : A) : tyV K "list" (.ref l) H ∧ A := ⟨Or.inl ⟨rfl, _, Or.inl (Or.inl hl)⟩, h⟩
theorem RA.split {vs : List V} {ds : List PyData} {d : PyData} (r : RA K H vs (ds ++ [d])) : ∃ ws v, vs = ws ++ [v] ∧ RA K H ws ds ∧ R K H v d := by
  have h1 := r.length
  rw [List.length_append, List.length_singleton] at h1
  have h2 := RA.take ds.length r
  have h3 := RA.drop ds.length r
  rw [List.take_left'] at h2
  rw [List.drop_left'] at h3
  · obtain ⟨v, ws, e, rv, rw0⟩ := h3.inv_cons
    have := rw0.inv_nil
    subst this
    exact ⟨vs.take ds.length, v, by rw [← e, List.take_append_drop], h2, rv⟩
  · rfl
  · rfl
theorem popR (hl : H l = some (.lst xs)) (ra : RA K H xs (ds ++ [d])) (hn : noLs (ds ++ [d]) = true) (h : ∀ v ws H', SameX l H H' → H' l = some (.lst ws) → RA K H' ws ds → R K H' v d → Q v H') : rPop (.ref l) [] H Q := by
  obtain ⟨ws, v, rfl, rw1, rv⟩ := ra.split
  rw [noLs_append] at hn
  simp only [Bool.and_eq_true, noLs, Bool.and_true] at hn
  refine ⟨l, ws ++ [v], v, rfl, rfl, hl, by simp, ?_⟩
  rw [List.dropLast_concat]
  exact h v ws _ .upd upd_same (rw1.monoX .upd hl hn.1) (rv.monoX .upd hl hn.2)
theorem extR (hl : H l = some (.lst xs)) (ra : RA K H xs ds) (r : R K H y (.list es)) (hz : ds.length + es.length ≤ 1000000) (hn : noLs ds = true) (hn' : noLs es = true) (h : ∀ ws H', SameX l H H' → H' l = some (.lst ws) → RA K H' ws (ds ++ es) → Q .non H') : rExtend (.ref l) [y] H Q := by
  obtain ⟨b, zs, rfl, hb, rz⟩ := r.inv_lst
  refine ⟨l, b, xs, zs, rfl, rfl, hl, hb, big_le (by rw [ra.length, rz.length]; exact hz), ?_⟩
  exact h _ _ .upd upd_same ((ra.monoX .upd hl hn).append (rz.monoX .upd hl hn'))
theorem appR (hl : H l = some (.lst xs)) (ra : RA K H xs ds) (r : R K H y d) (hz : ds.length + 1 ≤ 1000000) (hn : noLs ds = true) (hn' : noL d = true) (h : ∀ ws H', SameX l H H' → H' l = some (.lst ws) → RA K H' ws (ds ++ [d]) → Q .non H') : rAppend (.ref l) [y] H Q := by
  refine ⟨l, xs, y, rfl, rfl, hl, Nat.lt_of_lt_of_le (by rw [ra.length]; omega : xs.length < 1000000) (by decide), ?_⟩
  exact h _ _ .upd upd_same ((ra.monoX .upd hl hn).append (.cons (r.monoX .upd hl hn') .nil))
/-! a tuple of two taken apart -/
theorem st_asgT {te : TE} {g : TG} {nx bk ct : L2.St → Hp → Prop} {rt : VK} (h : te σ H fun x H1 => g x σ H1 nx) : tAsg te g ⟨nx, rt, bk, ct⟩ σ H := h
theorem gtup2 {i j : Nat} {v : V} {d1 d2 : PyData} {QS : L2.St → Hp → Prop} (r : R K H v (.tuple [d1, d2])) (h : ∀ v1 v2, R K H v1 d1 → R K H v2 d2 → QS ((σ.set i (some v1)).set j (some v2)) H) : gTup K 2 (gCons (gName i) (gCons (gName j) gNil)) v σ H QS := by
  obtain ⟨a, xs, rfl, ha, ra⟩ := r.inv_tup
  obtain ⟨v1, ws, rfl, r1, ra⟩ := ra.inv_cons
  obtain ⟨v2, ws, rfl, r2, ra⟩ := ra.inv_cons
  have := ra.inv_nil
  subst this
  exact ⟨a, _, rfl, ha, rfl, v1, _, rfl, v2, _, rfl, rfl, h v1 v2 r1 r2⟩
/-! int(a truth), max of two, x += n -/
def rInt1 : List V → Hp → VK → Prop := fun xs H Q => (∃ i, xs = [.int i] ∧ Q (.int i) H) ∨ ∃ k, xs = [.bl k] ∧ Q (.int (if k then 1 else 0)) H
theorem call_int1R {X : Cx} : CallR X (.type "int") rInt1 := call_int1
theorem int_bl {b : Bool} (h : Q (.int (if b = true then 1 else 0)) H) : rInt1 [.bl b] H Q := .inr ⟨b, rfl, h⟩
theorem int_int {i : Int} (h : Q (.int i) H) : rInt1 [.int i] H Q := .inl ⟨i, rfl, h⟩
def rMax2 : List V → Hp → VK → Prop := fun xs H Q => ∃ i j, xs = [.int i, .int j] ∧ Q (.int (if j > i then j else i)) H
theorem call_max2R {X : Cx} (hc : X.calm = true) : CallR X (.builtin "max") rMax2 := call_max2 hc
theorem max_2 {i j : Int} (h : Q (.int (if j > i then j else i)) H) : rMax2 [.int i, .int j] H Q := ⟨i, j, rfl, h⟩
theorem st_aug {i : Nat} {te : TE} {f : Int → Int → Int} {a : Int} {nx bk ct : L2.St → Hp → Prop} {rt : VK} (hx : σ[i]? = some (some (.int a))) (h : te σ H fun y H1 => ipI f (.int a) y H1 fun z H2 => nx (σ.set i (some z)) H2) : tAug i te (ipI f) ⟨nx, rt, bk, ct⟩ σ H := ⟨.int a, hx, h⟩
theorem ipI_int {f : Int → Int → Int} {a b : Int} (h : Q (.int (f a b)) H) : ipI f (.int a) (.int b) H Q := ⟨a, b, rfl, rfl, h⟩
end
/-! a new list, told as new -/
def NewLF (_K : PySem.W.Frag) (xs : List V) (H : Hp) (Q : VK) : Prop := xs.length ≤ sizeLine ∧ ∀ p, H p = none → Q (.ref p) (upd H p (.lst xs))
def tLstF (_K : PySem.W.Frag) (t : TA) : TE := tLst t
theorem pe_lstF (K : PySem.W.Frag) {X : Cx} {es : List Expr} {t : TA} {pos : Pos} (h : PA X es t) : PE X (.List es pos) (tLstF K t) := pe_lst h
theorem st_lstF {K : PySem.W.Frag} {σ : L2.St} {H : Hp} {Q : VK} {a : TA} (h : a σ H fun xs H1 => NewLF K xs H1 Q) : tLstF K a σ H Q := h
theorem st_newLF {K : PySem.W.Frag} {H : Hp} {Q : VK} {xs : List V} {ds : List PyData} (r : RA K H xs ds) (hl : xs.length ≤ 1000000) (h : ∀ p H', H p = none → Same H H' → H' p = some (.lst xs) → RA K H' xs ds → Q (.ref p) H') : NewLF K xs H Q :=
  ⟨big_le hl, fun p hp => h p _ hp (same_new hp _) upd_same (r.mono (same_new hp _))⟩
theorem ra_mono {K : PySem.W.Frag} {H H' : Hp} {xs : List V} {ds : List PyData} (r : RA K H xs ds) (e : Same H H') : RA K H' xs ds := r.mono e
end G

namespace G
open PySem PySem.Spec PyProof.Rows L2
/-! parts -/
def Th.parts : Th → List Th
  | .app _ _ args => args
  | .qua _ _ a => [a]
  | .two _ a b => [a, b]
  | _ => []
def spParts (K : PySem.W.Frag) : Sp := fun vs H Q _ => ∃ (v : V) (t : Th), vs = [v] ∧ R K H v t.d ∧ ∀ u H', Same H H' → R K H' u (.list (Th.ds t.parts)) → Q u H'
theorem use_parts {K : PySem.W.Frag} {H : Hp} {Q : VK} {E : XK} {v : V} {t : Th} (r : R K H v t.d) (h : ∀ u H', Same H H' → R K H' u (.list (Th.ds t.parts)) → Q u H') : spParts K [v] H Q E := ⟨v, t, rfl, r, h⟩
theorem Th.szs_parts (t : Th) : Th.szs t.parts + 1 = t.sz := by cases t <;> simp [Th.parts, Th.szs, Th.sz]
theorem lays_mem : ∀ {ts : List Th}, PyData.canLayAll0 (Th.ds ts) = true ↔ ∀ t ∈ ts, t.d.canLay0 = true
  | [] => by simp [Th.ds, PyData.canLayAll0]
  | t :: ts => by simp [Th.ds, PyData.canLayAll0, lays_mem (ts := ts)]
theorem Th.lay_parts {t : Th} (h : t.d.canLay0 = true) : ∀ a ∈ t.parts, a.d.canLay0 = true := by
  cases t with
  | app w c args =>
    simp only [Th.d, PyData.canLay0, PyData.canLayAll0, Bool.and_eq_true] at h
    exact lays_mem.mp h.2.2.1
  | qua w k a =>
    simp only [Th.d, PyData.canLay0, PyData.canLayAll0, Bool.and_eq_true] at h
    intro x hx
    rw [List.mem_singleton.mp hx]
    exact h.2.2.1
  | two w a b =>
    simp only [Th.d, PyData.canLay0, PyData.canLayAll0, Bool.and_eq_true] at h
    intro x hx
    rcases List.mem_cons.mp hx with rfl | hx
    · exact h.2.1
    · rw [List.mem_singleton.mp hx]; exact h.2.2.1
  | _ => intro x hx; simp [Th.parts] at hx
/-! the word ahead, and what is behind -/
def Th.word : Th → Str
  | .free _ => "free"
  | .bnd _ => "bound"
  | .fls => "false"
  | .app w _ _ => w.s
  | .qua w _ _ => w.s
  | .two w _ _ => w.s
def Th.rest : Th → List PyData
  | .free x => [.str x]
  | .bnd k => [.int k]
  | .fls => []
  | .app _ c args => [.str c, .tuple (Th.ds args)]
  | .qua _ k a => [.str k, a.d]
  | .two _ a b => [a.d, b.d]
theorem Th.d_eq (t : Th) : t.d = .tuple (.str t.word :: t.rest) := by cases t <;> rfl
theorem Th.word_bound {t : Th} (h : t.word = "bound") : ∃ k, t = .bnd k := by
  cases t with
  | free k => exact absurd (show ("free" : Str) = "bound" from h) (by decide +kernel)
  | bnd k => exact ⟨k, rfl⟩
  | fls => exact absurd (show ("false" : Str) = "bound" from h) (by decide +kernel)
  | app w a b => exact absurd (show w.s = "bound" from h) (by cases w <;> decide +kernel)
  | qua w a b => exact absurd (show w.s = "bound" from h) (by cases w <;> decide +kernel)
  | two w a b => exact absurd (show w.s = "bound" from h) (by cases w <;> decide +kernel)
theorem Th.word_free {t : Th} (h : t.word = "free") : ∃ x, t = .free x := by
  cases t with
  | free k => exact ⟨k, rfl⟩
  | bnd k => exact absurd (show ("bound" : Str) = "free" from h) (by decide +kernel)
  | fls => exact absurd (show ("false" : Str) = "free" from h) (by decide +kernel)
  | app w a b => exact absurd (show w.s = "free" from h) (by cases w <;> decide +kernel)
  | qua w a b => exact absurd (show w.s = "free" from h) (by cases w <;> decide +kernel)
  | two w a b => exact absurd (show w.s = "free" from h) (by cases w <;> decide +kernel)
def Th.inner : Th → Nat
  | .qua _ _ _ => 1
  | _ => 0
theorem Th.inner_eq (t : Th) : (if inS t.word [.str "all", .str "some"] = true then (1 : Int) else 0) = (t.inner : Nat) := by
  cases t with
  | app w c args => show (if inS w.s [.str "all", .str "some"] = true then (1 : Int) else 0) = 0; cases w <;> decide +kernel
  | qua w c args => show (if inS w.s [.str "all", .str "some"] = true then (1 : Int) else 0) = 1; cases w <;> decide +kernel
  | two w c args => show (if inS w.s [.str "all", .str "some"] = true then (1 : Int) else 0) = 0; cases w <;> decide +kernel
  | free x => show (if inS "free" [.str "all", .str "some"] = true then (1 : Int) else 0) = 0; decide +kernel
  | bnd x => show (if inS "bound" [.str "all", .str "some"] = true then (1 : Int) else 0) = 0; decide +kernel
  | fls => show (if inS "false" [.str "all", .str "some"] = true then (1 : Int) else 0) = 0; decide +kernel
mutual
def Th.whole (n : Nat) : Th → Bool
  | .bnd k => decide (k < n)
  | .app _ _ args => Th.wholes n args
  | .qua _ _ a => a.whole (n + 1)
  | .two _ a b => a.whole n && b.whole n
  | _ => true
def Th.wholes (n : Nat) : List Th → Bool
  | [] => true
  | t :: ts => t.whole n && Th.wholes n ts
end
theorem Th.wholes_all (n : Nat) : ∀ ts : List Th, Th.wholes n ts = ts.all fun t => t.whole n
  | [] => rfl
  | t :: ts => by rw [Th.wholes, Th.wholes_all n ts]; rfl
theorem Th.whole_step {t : Th} (n : Nat) (h : ¬ t.word = "bound") : t.whole n = t.parts.all fun a => a.whole (n + t.inner) := by
  cases t with
  | bnd k => exact absurd rfl h
  | app w c args => simp [Th.whole, Th.parts, Th.inner, Th.wholes_all]
  | qua w c a => simp [Th.whole, Th.parts, Th.inner]
  | two w a b => simp [Th.whole, Th.parts, Th.inner]
  | _ => rfl
/-- pairs of a tree and a number *)-/
abbrev pairD (p : Th × Nat) : PyData := .tuple [p.1.d, .int (p.2 : Nat)]
def psz (ps : List (Th × Nat)) : Nat := (ps.map fun p => p.1.sz).sum
theorem psz_append (ps qs : List (Th × Nat)) : psz (ps ++ qs) = psz ps + psz qs := by simp [psz]
theorem psz_map (n : Nat) : ∀ ts : List Th, psz (ts.map fun a => (a, n)) = Th.szs ts
  | [] => rfl
  | t :: ts => by
    have := psz_map n ts
    simp only [psz, List.map_cons, List.sum_cons, Th.szs] at this ⊢
    omega
theorem noL_pairs : ∀ ps : List (Th × Nat), noLs (ps.map pairD) = true
  | [] => rfl
  | p :: ps => by simp [noLs, pairD, G.noL, Th.noL, noL_pairs ps]
theorem len_psz : ∀ ps : List (Th × Nat), ps.length ≤ psz ps
  | [] => Nat.zero_le _
  | p :: ps => by
    have := len_psz ps
    have := p.1.sz_pos
    simp only [psz, List.map_cons, List.sum_cons, List.length_cons] at this ⊢
    simp only [psz] at *
    omega
theorem len_szs : ∀ ts : List Th, ts.length ≤ Th.szs ts
  | [] => Nat.zero_le _
  | t :: ts => by
    have := len_szs ts
    have := t.sz_pos
    simp only [Th.szs, List.length_cons]
    omega
theorem lay_pairs : ∀ {ps : List (Th × Nat)}, (∀ p ∈ ps, p.1.d.canLay0 = true) → (PyData.list (ps.map pairD)).canLay0 = true
  | [], _ => rfl
  | p :: ps, h => by
    have h1 := h p (by simp)
    have h2 := lay_pairs (ps := ps) fun q hq => h q (by simp [hq])
    simp only [PyData.canLay0] at h2
    simp [PyData.canLay0, PyData.canLayAll0, pairD, h1, h2]
def spWhole (K : PySem.W.Frag) : Sp := fun vs H Q _ => ∃ (v : V) (t : Th), vs = [v] ∧ R K H v t.d ∧ t.d.canLay0 = true ∧ t.sz ≤ 100000 ∧ ∀ H', Same H H' → Q (.bl (t.whole 0)) H'
theorem use_whole {K : PySem.W.Frag} {H : Hp} {Q : VK} {E : XK} {v : V} {t : Th} (r : R K H v t.d) (l : t.d.canLay0 = true) (z : t.sz ≤ 100000) (h : ∀ H', Same H H' → Q (.bl (t.whole 0)) H') : spWhole K [v] H Q E := ⟨v, t, rfl, r, l, z, h⟩
theorem ends_of {α : Type} {xs : List α} (h : xs.isEmpty = false) : ∃ ys y, xs = ys ++ [y] := by
  rcases List.eq_nil_or_concat xs with rfl | ⟨ys, y, rfl⟩
  · simp at h
  · exact ⟨ys, y, by simp⟩
theorem whole_push {ps : List (Th × Nat)} {p : Th × Nat} {W : Bool} (hn : ¬ p.1.word = "bound" ∨ (∃ k, p.1 = .bnd k ∧ k < p.2)) (h : ((ps ++ [p]).all fun p => p.1.whole p.2) = W) :
    ((ps ++ p.1.parts.map fun a => (a, p.2 + p.1.inner)).all fun p => p.1.whole p.2) = W := by
  rw [List.all_append] at h ⊢
  rw [← h]
  congr 1
  rw [List.all_map]
  rcases hn with hn | ⟨k, hk, hlt⟩
  · have e := Th.whole_step p.2 hn
    simp only [List.all_cons, List.all_nil, Bool.and_true]
    rw [e]
    rfl
  · obtain ⟨t, n⟩ := p
    simp only at hk hlt
    subst hk
    simp [Th.parts, Th.whole, hlt]
theorem psz_push {ps : List (Th × Nat)} {p : Th × Nat} (n : Nat) : psz (ps ++ p.1.parts.map fun a => (a, n)) + 1 = psz (ps ++ [p]) := by
  have h := Th.szs_parts p.1
  rw [psz_append, psz_append, psz_map]
  simp only [psz, List.map_cons, List.map_nil, List.sum_cons, List.sum_nil]
  omega
theorem lay_push {ps : List (Th × Nat)} {p : Th × Nat} (n : Nat) (h : ∀ q ∈ ps ++ [p], q.1.d.canLay0 = true) : ∀ q ∈ (ps ++ p.1.parts.map fun a => (a, n)), q.1.d.canLay0 = true := by
  intro q hq
  rcases List.mem_append.mp hq with hq | hq
  · exact h q (List.mem_append_left _ hq)
  · obtain ⟨a, ha, rfl⟩ := List.mem_map.mp hq
    exact Th.lay_parts (h p (List.mem_append_right _ (List.mem_singleton.mpr rfl))) a ha
theorem sz_mem {t : Th} : ∀ {ts : List Th}, t ∈ ts → t.sz ≤ Th.szs ts
  | x :: xs, h => by
    rcases List.mem_cons.mp h with rfl | h
    · exact Nat.le_add_right _ _
    · exact Nat.le_trans (sz_mem h) (Nat.le_add_left _ _)
end G

namespace G
open PySem PySem.Spec PyProof.Rows L2
def optD : Option Th → PyData
  | none => .none
  | some t => t.d
def leafP (old new : Option Th) (u : Nat) (t : Th) : Th := if PyData.eqv t.d (old.getD (.bnd u)).d = true then new.getD (.bnd u) else t
mutual
def Th.lput (old new : Option Th) (u : Nat) : Th → Th
  | .free x => leafP old new u (.free x)
  | .bnd k => leafP old new u (.bnd k)
  | .fls => .fls
  | .app w c args => .app w c (Th.lputs old new u args)
  | .qua w k a => .qua w k (a.lput old new (u + 1))
  | .two w a b => .two w (a.lput old new u) (b.lput old new u)
def Th.lputs (old new : Option Th) (u : Nat) : List Th → List Th
  | [] => []
  | t :: ts => t.lput old new u :: Th.lputs old new u ts
end
theorem Th.ds_lputs (old new : Option Th) (u : Nat) : ∀ ts : List Th, Th.ds (Th.lputs old new u ts) = ts.map fun t => (t.lput old new u).d
  | [] => rfl
  | t :: ts => by rw [Th.lputs, Th.ds, Th.ds_lputs old new u ts]; rfl
theorem Th.lputs_len (old new : Option Th) (u : Nat) : ∀ ts : List Th, (Th.lputs old new u ts).length = ts.length
  | [] => rfl
  | t :: ts => by rw [Th.lputs, List.length_cons, List.length_cons, Th.lputs_len old new u ts]
def orB (u : Nat) (d : PyData) : PyData := if isNone d = true then .tuple [.str "bound", .int (u : Nat)] else d
theorem isNone_d (t : Th) : isNone t.d = false := by cases t <;> rfl
theorem orB_opt (u : Nat) (o : Option Th) : orB u (optD o) = (o.getD (.bnd u)).d := by
  cases o with
  | none => rfl
  | some t => show (if isNone t.d = true then _ else t.d) = t.d; rw [isNone_d]; rfl
def LayO (o : Option Th) : Prop := ∀ t, o = some t → t.d.canLay0 = true
theorem LayO.get {o : Option Th} (h : LayO o) (u : Nat) : (o.getD (.bnd u)).d.canLay0 = true := by
  cases o with
  | none => exact Th.layT (F := []) (n := u + 1) (.bnd u) (Nat.lt_succ_self u)
  | some t => exact h t rfl
/-- rebuilt of other parts -/
def Th.rb (ts : List Th) : Th → Th
  | .app w c _ => .app w c ts
  | .qua w k a => .qua w k (ts.getD 0 a)
  | .two w a b => .two w (ts.getD 0 a) (ts.getD 1 b)
  | t => t
def spLput (K : PySem.W.Frag) (m : Nat) : Sp := fun vs H Q _ => ∃ (v vo vn : V) (t : Th) (old new : Option Th) (u : Nat), vs = [v, .int (u : Nat), vo, vn] ∧ R K H v t.d ∧ R K H vo (optD old) ∧ R K H vn (optD new) ∧ t.d.canLay0 = true ∧ LayO old ∧ t.dep ≤ m ∧ t.sz ≤ 100000 ∧
  ∀ x H', Same H H' → R K H' x (t.lput old new u).d → Q x H'
def spRb (K : PySem.W.Frag) : Sp := fun vs H Q _ => ∃ (v l : V) (t : Th) (ts : List Th), vs = [v, l] ∧ R K H v t.d ∧ R K H l (.list (Th.ds ts)) ∧ ts.length = t.parts.length ∧ ts.length ≤ 100000 ∧ 0 < t.rest.length - 1 ∧ ∀ x H', Same H H' → R K H' x (t.rb ts).d → Q x H'
theorem use_rb {K : PySem.W.Frag} {H : Hp} {Q : VK} {E : XK} {v l : V} {t : Th} {ts : List Th} (r : R K H v t.d) (rl : R K H l (.list (Th.ds ts))) (h1 : ts.length = t.parts.length) (h2 : ts.length ≤ 100000) (h3 : 0 < t.rest.length - 1) (h : ∀ x H', Same H H' → R K H' x (t.rb ts).d → Q x H') : spRb K [v, l] H Q E := ⟨v, l, t, ts, rfl, r, rl, h1, h2, h3, h⟩
theorem use_lput {K : PySem.W.Frag} {m : Nat} {H : Hp} {Q : VK} {E : XK} {v vo vn : V} {t : Th} {old new : Option Th} {u : Nat} (r : R K H v t.d) (ro : R K H vo (optD old)) (rn : R K H vn (optD new)) (l : t.d.canLay0 = true) (lo : LayO old) (hd : t.dep ≤ m) (hz : t.sz ≤ 100000)
    (h : ∀ x H', Same H H' → R K H' x (t.lput old new u).d → Q x H') : spLput K m [v, .int (u : Nat), vo, vn] H Q E := ⟨v, vo, vn, t, old, new, u, rfl, r, ro, rn, l, lo, hd, hz, h⟩
theorem int_bl1 {H : Hp} {Q : VK} (h : Q (.int 1) H) : rInt1 [.bl true] H Q := int_bl h
theorem int_bl0 {H : Hp} {Q : VK} (h : Q (.int 0) H) : rInt1 [.bl false] H Q := int_bl h
theorem int_bl2 {H : Hp} {Q : VK} {b : Bool} (h1 : b = true → Q (.int 1) H) (h0 : b = false → Q (.int 0) H) : rInt1 [.bl b] H Q := by
  cases b
  · exact int_bl (h0 rfl)
  · exact int_bl (h1 rfl)
theorem no_none {t : Th} (h : isNone t.d = true) : False := by rw [isNone_d] at h; cases h
/-- opened | closed | free_put: what they promise, of one kind: old and new given -/
def spOpen (K : PySem.W.Frag) : Sp := fun vs H Q _ => ∃ (v w : V) (b t : Th), vs = [v, w] ∧ R K H v b.d ∧ R K H w t.d ∧ b.d.canLay0 = true ∧ b.dep ≤ 90 ∧ b.sz ≤ 100000 ∧ ∀ x H', Same H H' → R K H' x (b.lput none (some t) 0).d → Q x H'
def spClose (K : PySem.W.Frag) : Sp := fun vs H Q _ => ∃ (v : V) (b : Th) (x : Str), vs = [v, .str x] ∧ R K H v b.d ∧ isNameS x = true ∧ b.d.canLay0 = true ∧ b.dep ≤ 90 ∧ b.sz ≤ 100000 ∧ ∀ u H', Same H H' → R K H' u (b.lput (some (.free x)) none 0).d → Q u H'
def spFPut (K : PySem.W.Frag) : Sp := fun vs H Q _ => ∃ (v w : V) (b t : Th) (x : Str), vs = [v, .str x, w] ∧ R K H v b.d ∧ R K H w t.d ∧ isNameS x = true ∧ b.d.canLay0 = true ∧ b.dep ≤ 90 ∧ b.sz ≤ 100000 ∧ ∀ u H', Same H H' → R K H' u (b.lput (some (.free x)) (some t) 0).d → Q u H'
theorem layO_none : LayO none := fun t h => by cases h
theorem layO_free {x : Str} (h : isNameS x = true) : LayO (some (.free x)) := fun t e => by
  cases e
  exact Th.layT (F := [x]) (n := 0) (.free x) ⟨h, by simp⟩
theorem layO_some {t : Th} (h : t.d.canLay0 = true) : LayO (some t) := fun t' e => by cases e; exact h
end G

namespace G
open PySem PySem.Spec PyProof.Rows L2
theorem eqv_ff (x y : Str) : PyData.eqv (Th.free x).d (Th.free y).d = decide (x = y) := by
  rw [Bool.eq_iff_iff]
  simp [Th.d, PyData.eqv, PyData.eqvAll]
theorem eqv_bb (i j : Nat) : PyData.eqv (Th.bnd i).d (Th.bnd j).d = decide (i = j) := by
  rw [Bool.eq_iff_iff]
  simp [Th.d, PyData.eqv, PyData.eqvAll]
  try omega
theorem eqv_fb (x : Str) (j : Nat) : PyData.eqv (Th.free x).d (Th.bnd j).d = false := by
  have e : ((Str.ofString "free" : Str) = Str.ofString "bound") = False := eq_false (by decide +kernel)
  simp [Th.d, PyData.eqv, PyData.eqvAll, e]
theorem eqv_bf (x : Str) (j : Nat) : PyData.eqv (Th.bnd j).d (Th.free x).d = false := by
  have e : ((Str.ofString "bound" : Str) = Str.ofString "free") = False := eq_false (by decide +kernel)
  simp [Th.d, PyData.eqv, PyData.eqvAll, e]
theorem leafP_dep {old new : Option Th} {u m : Nat} {t : Th} (h : (new.getD (.bnd u)).dep ≤ m) (ht : t.dep ≤ 1) : (leafP old new u t).dep ≤ 1 + m := by
  unfold leafP; split <;> omega
mutual
theorem Th.dep_lput {old new : Option Th} {m : Nat} (h : ∀ u, (new.getD (.bnd u)).dep ≤ m) : ∀ (t : Th) (u : Nat), (t.lput old new u).dep ≤ t.dep + m
  | .free x, u => by have := leafP_dep (old := old) (h u) (t := .free x) (Nat.le_refl 1); simp only [Th.lput, Th.dep] at *; omega
  | .bnd k, u => by have := leafP_dep (old := old) (h u) (t := .bnd k) (Nat.le_refl 1); simp only [Th.lput, Th.dep] at *; omega
  | .fls, u => by simp only [Th.lput, Th.dep]; omega
  | .app w c args, u => by have := Th.deps_lput h (old := old) args u; simp only [Th.lput, Th.dep]; omega
  | .qua w k a, u => by have := Th.dep_lput h (old := old) a (u + 1); simp only [Th.lput, Th.dep]; omega
  | .two w a b, u => by have := Th.dep_lput h (old := old) a u; have := Th.dep_lput h (old := old) b u; simp only [Th.lput, Th.dep]; omega
theorem Th.deps_lput {old new : Option Th} {m : Nat} (h : ∀ u, (new.getD (.bnd u)).dep ≤ m) : ∀ (ts : List Th) (u : Nat), Th.deps (Th.lputs old new u ts) ≤ Th.deps ts + m
  | [], u => by simp [Th.lputs, Th.deps]
  | t :: ts, u => by have := Th.dep_lput h (old := old) t u; have := Th.deps_lput h (old := old) ts u; simp only [Th.lputs, Th.deps]; omega
end
theorem leafP_sz {old new : Option Th} {u : Nat} {t : Th} (h : (new.getD (.bnd u)).sz = 1) (ht : t.sz = 1) : (leafP old new u t).sz = 1 := by
  unfold leafP; split <;> omega
mutual
theorem Th.sz_lput {old new : Option Th} (h : ∀ u, (new.getD (.bnd u)).sz = 1) : ∀ (t : Th) (u : Nat), (t.lput old new u).sz = t.sz
  | .free x, u => by have := leafP_sz (old := old) (h u) (t := .free x) rfl; simp only [Th.lput, Th.sz] at *; omega
  | .bnd k, u => by have := leafP_sz (old := old) (h u) (t := .bnd k) rfl; simp only [Th.lput, Th.sz] at *; omega
  | .fls, u => by simp only [Th.lput, Th.sz]
  | .app w c args, u => by have := Th.szs_lput h (old := old) args u; simp only [Th.lput, Th.sz]; omega
  | .qua w k a, u => by have := Th.sz_lput h (old := old) a (u + 1); simp only [Th.lput, Th.sz]; omega
  | .two w a b, u => by have := Th.sz_lput h (old := old) a u; have := Th.sz_lput h (old := old) b u; simp only [Th.lput, Th.sz]; omega
theorem Th.szs_lput {old new : Option Th} (h : ∀ u, (new.getD (.bnd u)).sz = 1) : ∀ (ts : List Th) (u : Nat), Th.szs (Th.lputs old new u ts) = Th.szs ts
  | [], u => by simp [Th.lputs, Th.szs]
  | t :: ts, u => by have := Th.sz_lput h (old := old) t u; have := Th.szs_lput h (old := old) ts u; simp only [Th.lputs, Th.szs]; omega
end
theorem leafP_lay {old new : Option Th} {u : Nat} {t : Th} (h : LayO new) (ht : t.d.canLay0 = true) : (leafP old new u t).d.canLay0 = true := by
  unfold leafP; split
  · exact h.get u
  · exact ht
mutual
theorem Th.lay_lput {old new : Option Th} (h : LayO new) : ∀ (t : Th) (u : Nat), t.d.canLay0 = true → (t.lput old new u).d.canLay0 = true
  | .free x, u, l => leafP_lay h l
  | .bnd k, u, l => leafP_lay h l
  | .fls, u, l => l
  | .app w c args, u, l => by
    have hl : PyData.canLayAll0 (Th.ds args) = true := by simp only [Th.d, PyData.canLay0, PyData.canLayAll0, Bool.and_eq_true] at l; exact l.2.2.1
    have := Th.lays_lput h (old := old) args u hl
    simp only [Th.lput, Th.d, PyData.canLay0, PyData.canLayAll0, Bool.and_eq_true] at l ⊢
    exact ⟨l.1, l.2.1, this, l.2.2.2⟩
  | .qua w k a, u, l => by
    have hl : a.d.canLay0 = true := by simp only [Th.d, PyData.canLay0, PyData.canLayAll0, Bool.and_eq_true] at l; exact l.2.2.1
    have := Th.lay_lput h (old := old) a (u + 1) hl
    simp only [Th.lput, Th.d, PyData.canLay0, PyData.canLayAll0, Bool.and_eq_true] at l ⊢
    exact ⟨l.1, l.2.1, this, l.2.2.2⟩
  | .two w a b, u, l => by
    have hl : a.d.canLay0 = true ∧ b.d.canLay0 = true := by simp only [Th.d, PyData.canLay0, PyData.canLayAll0, Bool.and_eq_true] at l; exact ⟨l.2.1, l.2.2.1⟩
    have := Th.lay_lput h (old := old) a u hl.1
    have := Th.lay_lput h (old := old) b u hl.2
    simp only [Th.lput, Th.d, PyData.canLay0, PyData.canLayAll0, Bool.and_eq_true] at l ⊢
    exact ⟨l.1, by assumption, by assumption, l.2.2.2⟩
theorem Th.lays_lput {old new : Option Th} (h : LayO new) : ∀ (ts : List Th) (u : Nat), PyData.canLayAll0 (Th.ds ts) = true → PyData.canLayAll0 (Th.ds (Th.lputs old new u ts)) = true
  | [], u, l => rfl
  | t :: ts, u, l => by
    have hl : t.d.canLay0 = true ∧ PyData.canLayAll0 (Th.ds ts) = true := by simpa only [Th.ds, PyData.canLayAll0, Bool.and_eq_true] using l
    have := Th.lay_lput h (old := old) t u hl.1
    have := Th.lays_lput h (old := old) ts u hl.2
    simp only [Th.lputs, Th.ds, PyData.canLayAll0, Bool.and_eq_true]
    exact ⟨by assumption, by assumption⟩
end
/-- what two puttings one after the other leave as it is -/
structure Back (F : List Str) (c : Nat) (o1 n1 o2 n2 : Option Th) : Prop where
  hf : ∀ u x, x ∈ F → ((Th.free x).lput o1 n1 u).lput o2 n2 u = .free x
  hb : ∀ u k, k < u + c → ((Th.bnd k).lput o1 n1 u).lput o2 n2 u = .bnd k
section
variable {F : List Str} {c : Nat} {o1 n1 o2 n2 : Option Th}
mutual
theorem Th.backT (h : Back F c o1 n1 o2 n2) : ∀ (t : Th) (u : Nat), t.isT F (u + c) → (t.lput o1 n1 u).lput o2 n2 u = t
  | .free x, u, q => h.hf u x (show isNameS x = true ∧ x ∈ F from q).2
  | .bnd k, u, q => h.hb u k q
  | .app .form s args, u, q => by simp only [Th.lput, Th.backTs h args u q.2.2]
  | .app .call s args, u, q => by simp only [Th.lput, Th.backTs h args u q.2.2]
theorem Th.backTs (h : Back F c o1 n1 o2 n2) : ∀ (ts : List Th) (u : Nat), Th.areT F (u + c) ts → Th.lputs o2 n2 u (Th.lputs o1 n1 u ts) = ts
  | [], u, q => rfl
  | t :: ts, u, q => by simp only [Th.lputs, Th.backT h t u q.1, Th.backTs h ts u q.2]
end
theorem Th.backS (h : Back F c o1 n1 o2 n2) : ∀ (t : Th) (u : Nat), t.isS F (u + c) → (t.lput o1 n1 u).lput o2 n2 u = t
  | .fls, u, q => rfl
  | .two .same a b, u, q => by simp only [Th.lput, Th.backT h a u q.1, Th.backT h b u q.2]
  | .app .atom s args, u, q => by simp only [Th.lput, Th.backTs h args u q.2.2]
  | .two .and a b, u, q => by simp only [Th.lput, Th.backS h a u q.1, Th.backS h b u q.2]
  | .two .or a b, u, q => by simp only [Th.lput, Th.backS h a u q.1, Th.backS h b u q.2]
  | .two .iff a b, u, q => by simp only [Th.lput, Th.backS h a u q.1, Th.backS h b u q.2]
  | .qua w s a, u, q => by
    have := Th.backS h a (u + 1) (by rw [show u + 1 + c = u + c + 1 by omega]; exact q.2)
    simp only [Th.lput, this]
mutual
theorem Th.idT {n : Option Th} : ∀ (t : Th) (u : Nat), t.isT F u → t.lput none n u = t
  | .free x, u, q => by
    show leafP none n u (.free x) = _
    unfold leafP
    rw [if_neg (by show ¬ PyData.eqv (Th.free x).d (Th.bnd u).d = true; rw [eqv_fb]; decide)]
  | .bnd k, u, q => by
    show leafP none n u (.bnd k) = _
    unfold leafP
    have hk : k < u := q
    rw [if_neg (by show ¬ PyData.eqv (Th.bnd k).d (Th.bnd u).d = true; rw [eqv_bb, decide_eq_true_eq]; omega)]
  | .app .form s args, u, q => by simp only [Th.lput, Th.idTs args u q.2.2]
  | .app .call s args, u, q => by simp only [Th.lput, Th.idTs args u q.2.2]
theorem Th.idTs {n : Option Th} : ∀ (ts : List Th) (u : Nat), Th.areT F u ts → Th.lputs none n u ts = ts
  | [], u, q => rfl
  | t :: ts, u, q => by simp only [Th.lputs, Th.idT t u q.1, Th.idTs ts u q.2]
end
theorem Th.idS {n : Option Th} : ∀ (t : Th) (u : Nat), t.isS F u → t.lput none n u = t
  | .fls, u, q => rfl
  | .two .same a b, u, q => by simp only [Th.lput, Th.idT a u q.1, Th.idT b u q.2]
  | .app .atom s args, u, q => by simp only [Th.lput, Th.idTs args u q.2.2]
  | .two .and a b, u, q => by simp only [Th.lput, Th.idS a u q.1, Th.idS b u q.2]
  | .two .or a b, u, q => by simp only [Th.lput, Th.idS a u q.1, Th.idS b u q.2]
  | .two .iff a b, u, q => by simp only [Th.lput, Th.idS a u q.1, Th.idS b u q.2]
  | .qua w s a, u, q => by simp only [Th.lput, Th.idS a (u + 1) q.2]
end
theorem leafP_yes {old new : Option Th} {u : Nat} {t : Th} (h : PyData.eqv t.d (old.getD (.bnd u)).d = true) : leafP old new u t = new.getD (.bnd u) := if_pos h
theorem leafP_no {old new : Option Th} {u : Nat} {t : Th} (h : PyData.eqv t.d (old.getD (.bnd u)).d = false) : leafP old new u t = t := if_neg (by rw [h]; decide)
/-- closed, then opened -/
theorem back_co (F : List Str) (x : Str) : Back F 0 (some (.free x)) none none (some (.free x)) where
  hf u y _ := by
    show Th.lput none (some (.free x)) u (leafP (some (.free x)) none u (.free y)) = _
    by_cases e : y = x
    · subst e
      rw [leafP_yes (by show PyData.eqv (Th.free y).d (Th.free y).d = true; rw [eqv_ff]; exact decide_eq_true rfl)]
      show leafP none (some (.free y)) u (.bnd u) = _
      exact leafP_yes (by show PyData.eqv (Th.bnd u).d (Th.bnd u).d = true; rw [eqv_bb]; exact decide_eq_true rfl)
    · rw [leafP_no (by show PyData.eqv (Th.free y).d (Th.free x).d = false; rw [eqv_ff]; exact decide_eq_false e)]
      exact leafP_no (by exact eqv_fb y u)
  hb u k hk := by
    show Th.lput none (some (.free x)) u (leafP (some (.free x)) none u (.bnd k)) = _
    rw [leafP_no (by exact eqv_bf x k)]
    exact leafP_no (by show PyData.eqv (Th.bnd k).d (Th.bnd u).d = false; rw [eqv_bb]; exact decide_eq_false (by omega))
/-- opened, then closed -/
theorem back_oc {F : List Str} {x : Str} (hx : x ∉ F) : Back F 1 none (some (.free x)) (some (.free x)) none where
  hf u y hy := by
    show Th.lput (some (.free x)) none u (leafP none (some (.free x)) u (.free y)) = _
    rw [leafP_no (by exact eqv_fb y u)]
    exact leafP_no (by show PyData.eqv (Th.free y).d (Th.free x).d = false; rw [eqv_ff]; exact decide_eq_false fun e => hx (e ▸ hy))
  hb u k hk := by
    show Th.lput (some (.free x)) none u (leafP none (some (.free x)) u (.bnd k)) = _
    by_cases e : k = u
    · subst e
      rw [leafP_yes (by show PyData.eqv (Th.bnd k).d (Th.bnd k).d = true; rw [eqv_bb]; exact decide_eq_true rfl)]
      show leafP (some (.free x)) none k (.free x) = _
      exact leafP_yes (by show PyData.eqv (Th.free x).d (Th.free x).d = true; rw [eqv_ff]; exact decide_eq_true rfl)
    · rw [leafP_no (by show PyData.eqv (Th.bnd k).d (Th.bnd u).d = false; rw [eqv_bb]; exact decide_eq_false e)]
      exact leafP_no (by exact eqv_bf x k)
end G

namespace G
open PySem PySem.Spec PyProof.Rows L2
/-! enumerate over a tuple -/
theorem meets_enumT (l : Addr) (items : Array Value) (n : Nat) (dct : Option Addr) (sl : Array (Option Value)) :
    Meets (Builtin.«enumerate.__new__» ⟨[.type "enumerate", .ref l], []⟩) (fun _ R s => s.heap.get? l = some { cls := .type "tuple", dict := dct, data := .seq items n, slots := sl } ∧
      R (.ok (.ret (.ref (s.heap.push { cls := .type "tuple_iterator", data := .fields #[.ref l, .int 0 0] }).objs.size)))
        { s with heap := (s.heap.push { cls := .type "tuple_iterator", data := .fields #[.ref l, .int 0 0] }).push { cls := .type "enumerate", data := .fields #[.none, .bool false, .ref s.heap.objs.size, rawInt 0, .none, .none] } }) :=
  .of_wp fun prog w A R s h => by
    obtain ⟨hp, g, d, tk, os⟩ := s; obtain ⟨hl, h⟩ := h
    have hsub := sub_enumerate
    have hL : Heap.IsTuple (Shared.heap ⟨hp, g, d, tk, os⟩) l items := ⟨_, hl, rfl, n, rfl⟩
    wp_walk using PySem.AutoSeq1.wpAny_loadPart' hl
    refine wpAny_stack_any fun st => wpAny_pure ?_
    split
    · rename_i c _ _ _ _ _
      cases (c == Value.type "enumerate") <;>
      · wp_walk using PySem.AutoSeq1.wpAny_loadPart' hl, wpAny_pyIter_tuple hL
        exact ⟨_, rfl, h⟩
    · wp_walk using PySem.AutoSeq1.wpAny_loadPart' hl, wpAny_pyIter_tuple hL
      exact ⟨_, rfl, h⟩
section
variable {prog : Program} {w : World} {A : Around} {E : Value → Shared → Prop} {s : Shared}
theorem call_enumT {l : Addr} {items : Array Value} {Q : Value → Shared → Prop} (hL : s.heap.IsTuple l items)
    (h : ∀ h', IsEnum h' (s.heap.objs.size + 1) s.heap.objs.size 0 .none → h'.IsTupleIter s.heap.objs.size l 0 → h'.objs.size = s.heap.objs.size + 2 →
      (∀ b o, s.heap.get? b = some o → h'.get? b = some o) → Q (.ref (s.heap.objs.size + 1)) { s with heap := h' }) :
    wpAny (model prog w) A (call (.type "enumerate") [.ref l]) Q E s := by
  obtain ⟨⟨c, dct, dt, sl⟩, hl, hc, n, hd⟩ := hL
  replace hc : c = .type "tuple" := hc
  replace hd : dt = .seq items n := hd
  subst hc hd
  refine callType_new F.called_enumerate (by decide) (F.typeCall_enumerate_1 _) (F.newCall_enumerate_1 _) (fun obj => F.args_object_init_2 obj _) F.entry_enumerate_new
    (meets_enumT l items n dct sl) ⟨hl, ?_⟩
  have hz : (s.heap.push { cls := .type "tuple_iterator", data := .fields #[.ref l, .int 0 0] }).objs.size = s.heap.objs.size + 1 := Heap.size_push ..
  show _ ∧ _
  rw [hz]
  have he : IsEnum ((s.heap.push { cls := .type "tuple_iterator", data := .fields #[.ref l, .int 0 0] }).push
      { cls := .type "enumerate", data := .fields #[.none, .bool false, .ref s.heap.objs.size, rawInt 0, .none, .none] }) (s.heap.objs.size + 1) s.heap.objs.size 0 .none := by
    have := Heap.get?_push_size (s.heap.push { cls := .type "tuple_iterator", data := .fields #[.ref l, .int 0 0] })
      (o := { cls := .type "enumerate", data := .fields #[.none, .bool false, .ref s.heap.objs.size, rawInt 0, .none, .none] }) rfl
    rw [hz] at this; exact this
  exact ⟨⟨_, he, rfl⟩, h _ he ⟨_, Heap.get?_push_of_some _ (Heap.get?_push_size _ rfl), rfl, rfl⟩ (by rw [Heap.size_push, hz]) fun b o x => Heap.get?_push_of_some _ (Heap.get?_push_of_some _ x)⟩
end
/-- the tuple at a, each item in a new pair -/
def IteT (K : PySem.W.Frag) (a : Addr) : It :=
  ⟨fun i H => ∃ (xs : List V) (x : V), SqT K H a xs ∧ xs[i]? = some x, fun i H v H' => ∃ T x, v = .ref T ∧ H T = none ∧ H' = upd H T (.tup [.int (i : Nat), x]) ∧ ∀ xs, SqT K H a xs → xs[i]? = some x, fun i H => ∃ xs : List V, SqT K H a xs ∧ xs.length ≤ i⟩
theorem turn_enumT {P : Program} {w : World} {K : PySem.W.Frag} {elts : List Expr} {kk : Nat} {tpos : Pos} (a e it : Addr) :
    Turn P w K (.Tuple elts kk tpos) (IteT K a) [e, it] e (fun i h => (∃ old, IsEnum h e it ((i : Nat) : Int) old) ∧ h.IsTupleIter it a i ∧ e ≠ it) where
  mem := by simp
  obj := fun i h st b hb => by
    obtain ⟨⟨old, he⟩, ⟨o, ho, hc, hd⟩, _⟩ := st
    have e' : b = e ∨ b = it := by simpa using hb
    rcases e' with z | z
    · rw [z]; exact ⟨_, he, fun v q => nomatch q⟩
    · rw [z]; exact ⟨o, ho, fun v q => by rw [hd] at q; cases q⟩
  keep := fun i h h' st k => let ⟨⟨old, he⟩, hi, hne⟩ := st; ⟨⟨old, k e (by simp) _ he⟩, hi.at fun o q => k it (by simp) o q, hne⟩
  item := by
    intro X hP hw hK hc i pins s σ H E I hf st hg
    subst hP hw hK
    obtain ⟨⟨old, he⟩, hit, hne⟩ := st
    obtain ⟨xs, x, hq, hx⟩ := hg
    obtain ⟨its, rv, p, hz⟩ := I.tuple hq
    obtain ⟨u, hu, ru⟩ := rv.get hx
    have p' : s.heap.IsTuple a its.toArray := p
    have hel : e < s.heap.objs.size := Heap.lt_size he
    have hil : it < s.heap.objs.size := by obtain ⟨_, q, _⟩ := hit; exact Heap.lt_size q
    have hai : a ≠ it := by
      rintro rfl
      obtain ⟨o1, q1, c1, _⟩ := hit
      obtain ⟨o2, q2, c2, _⟩ := p'
      rw [q1] at q2
      cases q2
      rw [c1] at c2
      exact absurd c2 (by decide)
    have hea : e ∉ [it, a] := by
      intro hm
      rcases List.mem_cons.mp hm with z | hm
      · exact hne z
      · obtain rfl := List.mem_singleton.mp hm
        obtain ⟨o2, q2, c2, _⟩ := p'
        have he' : s.heap.get? e = _ := he
        rw [he'] at q2
        cases q2
        have c3 : (Value.type "enumerate" : Value) = .type "tuple" := c2
        exact absurd c3 (by decide)
    have hlt : i < its.toArray.size := by
      have := (List.getElem?_eq_some_iff.mp hu).1
      simpa using this
    refine wpAny_pyNext_enum_itemD (Draws.tuple (by exact (I.ok.hd hc)) it a hai its.toArray) he ⟨hit, p'⟩ hlt hne hea fun x' h' tk hP ho hst' hT hsz hk => ?_
    have hxu : x' = u := by
      have h1 : its.toArray[i]? = some x' := hP
      have h2 : its.toArray[i]? = some u := by simpa using hu
      rw [h1] at h2
      exact Option.some.inj h2
    subst hxu
    refine ⟨_, rfl, wpAny_letOwnedTupleGo_enum (s := { s with heap := h', toks := tk + 1 }) ho fun h'' he' sb => ?_⟩
    have hT2 : h''.get? s.heap.objs.size = some { cls := .type "tuple", data := .seq #[.int i tk, x'] } := (sb.2 _ (Nat.ne_of_gt hel)).trans hT
    have new : ObjOk X.prog X.w (upd H s.heap.objs.size (.tup [.int (i : Nat), x])) h'' s.heap.objs.size (.tup [.int (i : Nat), x]) :=
      ⟨by show 2 ≤ sizeLine; decide, [.int i tk, x'], .cons ⟨_, rfl⟩ (.cons ru .nil), ⟨_, hT2, rfl, _, rfl⟩⟩
    have I1 : Inv X pins σ (upd H s.heap.objs.size (.tup [.int (i : Nat), x])) { s with heap := h'', toks := tk + 1 } :=
      I.turnedNew (ch := [e, it]) (fun b ob hb q => (sb.2 b (fun z => hb (by simp [z]))).trans (hk b ob (fun z => hb (by simp [z])) (fun z => hb (by simp [z])) q)) hf (Nat.le_refl _) new
    refine ⟨.ref s.heap.objs.size, _, I1, rfl, ⟨_, x, rfl, I.hok.fresh (Nat.le_refl _), rfl, fun ys hy => by rw [I.tuple_inj hy hq]; exact hx⟩, ⟨⟨x', ?_⟩, hst'.1.at fun o q => (sb.2 it (Ne.symm hne)).trans q, hne⟩, fun b hb => ?_⟩
    · have e1 : ((i + 1 : Nat) : Int) = (i : Int) + 1 := by omega
      rw [e1]; exact he'
    · have hb' : b < s.heap.objs.size := by
        have e' : b = e ∨ b = it := by simpa using hb
        rcases e' with z | z
        · rw [z]; exact hel
        · rw [z]; exact hil
      rw [upd_ne (Nat.ne_of_lt hb')]
      exact (hf b hb).1
  done := by
    intro X hP hw hK hc i pins s σ H E I hf st hg
    subst hP hw hK
    obtain ⟨⟨old, he⟩, hit, hne⟩ := st
    obtain ⟨xs, hq, hx⟩ := hg
    obtain ⟨its, rv, p, hz⟩ := I.tuple hq
    obtain ⟨f0, f1, f2, f3, f4, f5⟩ := hf it (by simp)
    have hl := rv.length
    have p' : s.heap.IsTuple a its.toArray := p
    have hea : e ≠ a := by
      rintro rfl
      obtain ⟨o2, q2, c2, _⟩ := p'
      have he' : s.heap.get? e = _ := he
      rw [he'] at q2
      cases q2
      have c3 : (Value.type "enumerate" : Value) = .type "tuple" := c2
      exact absurd c3 (by decide)
    have D : Draws X.prog X.w X.A.in1 it [it, a] i (fun _ _ => True) (fun j h => j = i ∧ h.IsTupleIter it a i ∧ h.IsTuple a its.toArray) :=
      { live := fun _ _ st => let ⟨o, ho, _⟩ := st.2.1; ⟨o, ho⟩
        frame := fun _ _ _ st hk => ⟨st.1, st.2.1.at fun o q => hk it (by simp) o q, st.2.2.at fun o q => hk a (by simp) o q⟩
        item := fun j s' Q E' hj st _ => absurd st.1 (Nat.ne_of_lt hj)
        done := fun s' Q E' st hE => wpAny_nextOf_tuple_end (by exact (I.ok.hd hc)) st.2.1 st.2.2 (by simp; omega) hE }
    exact wpAny_pyNext_enum_endD D he ⟨rfl, hit, p'⟩ fun h' eb => ⟨rfl, I.turned (t' := s.toks) (fun b o hb q => eb b o hb q) f0 f1 f3 f4 f5⟩
  self := fun A i s Q E st h => let ⟨⟨_, he⟩, _⟩ := st; wpAny_pyIter_enum he h
def iEnumT (K : PySem.W.Frag) (ta : TA) : TI := fun σ H R => ta σ H fun vs H1 => ∃ a xs, vs = [.ref a] ∧ SqT K H1 a xs ∧ R (IteT K a) H1
theorem pi_enumT {X : Cx} {e : Expr} {ta : TA} {p pos tpos : Pos} {elts : List Expr} {kk : Nat} (hg : Gl X "enumerate") (hm : X.mg "enumerate" = none) (ha : PA X [e] ta) (hs : starEach [e] X.env = [(false, eval e X.env)] := by rfl) :
    PI X (.Tuple elts kk tpos) (.Call (.Name "enumerate" p) [e] [] pos) (iEnumT X.K ta) := by
  refine ⟨fun pins s σ H R I h => ?_⟩
  refine Call_ (ld_blt I hg hm boot_enumerate (PyProof.Rows.callWith_type1 (thn (ha.run pos pins s σ H _ I h) fun us s1 ⟨vs, H1, I1, r1, q1⟩ => ?_) hs rfl))
  obtain ⟨a, xs, ex, hq, q⟩ := q1
  subst ex
  cases r1 with
  | cons r rr =>
    cases rr
    cases r
    obtain ⟨its, rv, p', hz⟩ := I1.tuple hq
    refine call_enumT (show s1.heap.IsTuple a its.toArray from p') fun h' he hit hsz hk => wpAny_pyIter_enum he ?_
    have I2 : Inv X pins σ H1 { s1 with heap := h' } := I1.kept (t' := s1.toks) hk
    refine ⟨s1.heap.objs.size + 1, [s1.heap.objs.size + 1, s1.heap.objs.size], _, _, H1, rfl, I2, turn_enumT a (s1.heap.objs.size + 1) s1.heap.objs.size, ⟨⟨.none, he⟩, hit, Nat.succ_ne_self _⟩, fun b hb => ?_, q⟩
    have e' : b = s1.heap.objs.size + 1 ∨ b = s1.heap.objs.size := by simpa using hb
    have hle : s1.heap.objs.size ≤ b := by
      rcases e' with z | z
      · rw [z]; exact Nat.le_add_right _ _
      · rw [z]; exact Nat.le_refl _
    exact I1.fpOk hle (I1.hok.fresh hle)
section
variable {K : PySem.W.Frag} {a : Addr} {xs : List V}
theorem walk_enumT : Walk (IteT K a) xs.length (fun H => SqT K H a xs) (YPair (fun i => some (.int (i : Nat))) (fun i => xs[i]?)) := by
  refine ⟨fun i _ hi q => ⟨xs, xs[i], q, by simp [hi]⟩, fun _ q => ⟨xs, q, Nat.le_refl _⟩, fun i H v H' _ q y => ?_⟩
  obtain ⟨T, x, h1, h2, h3, h4⟩ := y
  exact ⟨T, .int (i : Nat), x, h1, h2, h3, rfl, h4 xs q⟩
end
end G

namespace G
open PySem PySem.Spec PyProof.Rows L2
theorem pi_enumTK (K : PySem.W.Frag) {X : Cx} {e : Expr} {ta : TA} {p pos tpos : Pos} {elts : List Expr} {kk : Nat} (hg : Gl X "enumerate") (hm : X.mg "enumerate" = none) (ha : PA X [e] ta) (hs : starEach [e] X.env = [(false, eval e X.env)] := by rfl) (hK : X.K = K := by rfl) :
    PI X (.Tuple elts kk tpos) (.Call (.Name "enumerate" p) [e] [] pos) (iEnumT K ta) := hK ▸ pi_enumT hg hm ha hs
abbrev g2 (K : PySem.W.Frag) (i j : Nat) : TG := gTup K 2 (gCons (gName i) (gCons (gName j) gNil))
/-! for -/
def ForG (J : It) (g : TG) (tb : TS) (D : Ends) (σ : L2.St) (H : Hp) : Prop := ∃ W : Nat → Nat → L2.St → Hp → Prop, (∃ m, W 0 m σ H) ∧ ∀ i m σ H, W i m σ H →
  (J.stop i H ∧ D.nx σ H) ∨ (J.go i H ∧ ∃ N : L2.St → Hp → Prop, (∀ σ' H', N σ' H' → ∃ m', m' < m ∧ W (i + 1) m' σ' H') ∧ ∀ x H', J.yld i H x H' → g x σ H' fun σ2 H2 => tb { D with nx := N, ct := N, bk := D.nx } σ2 H2)
def ForT (K : PySem.W.Frag) (g : TG) (tb : TS) (D : Ends) (σ : L2.St) (x : V) (H : Hp) : Prop := ∃ a, x = .ref a ∧ (∃ xs, SqT K H a xs) ∧ ForG (Itt K a) g tb D σ H
def ForL (K : PySem.W.Frag) (g : TG) (tb : TS) (D : Ends) (σ : L2.St) (x : V) (H : Hp) : Prop := ∃ a, x = .ref a ∧ (∃ xs, SqL K H a xs) ∧ ForG (Itl K a) g tb D σ H
def ForE (K : PySem.W.Frag) (g : TG) (tb : TS) (D : Ends) (σ : L2.St) (vs : List V) (H : Hp) : Prop := ∃ a xs, vs = [.ref a] ∧ SqT K H a xs ∧ ForG (IteT K a) g tb D σ H
section
variable {K : PySem.W.Frag} {te : TE} {ta : TA} {g : TG} {tb : TS} {D : Ends} {σ : L2.St} {H : Hp} {x : V} {ds : List PyData} {i j : Nat} {nx bk ct : L2.St → Hp → Prop} {rt : VK}
theorem st_forT (h : te σ H fun x H1 => ForT K g tb D σ x H1) : tFor (iTup K te) g tb D σ H := h
theorem st_forL (h : te σ H fun x H1 => ForL K g tb D σ x H1) : tFor (iList K te) g tb D σ H := h
theorem st_forE (h : ta σ H fun vs H1 => ForE K g tb D σ vs H1) : tFor (iEnumT K ta) g tb D σ H := by
  exact h
theorem for_T (Pv : Nat → L2.St → Hp → Prop) (r : R K H x (.tuple ds)) (start : Pv 0 σ H) (keep : ∀ k σ' H', Pv k σ' H' → Same H H')
    (turn : ∀ k d v σ' H', ds[k]? = some d → R K H' v d → Pv k σ' H' → tb ⟨Pv (k + 1), rt, nx, Pv (k + 1)⟩ (σ'.set j (some v)) H') (fin : ∀ σ' H', Pv ds.length σ' H' → nx σ' H') : ForT K (gName j) tb ⟨nx, rt, bk, ct⟩ σ x H := by
  obtain ⟨a, xs, rfl, ha, ra⟩ := r.inv_tup
  refine ⟨a, rfl, ⟨xs, ha⟩, ?_⟩
  rw [← ra.length] at fin
  refine for_it (walk_tup (K := K) (a := a) (xs := xs)) (g := gName j) (tb := tb) (D := ⟨nx, rt, bk, ct⟩) Pv start (fun k σ' H' _ p => (keep _ _ _ p).tup ha) (fun k y σ' H' H'' hk p q => ?_) fin
  obtain ⟨rfl, hy⟩ := q
  obtain ⟨d, e1, e2⟩ := ra.getV hy
  exact turn k d y σ' _ e1 (e2.mono (keep _ _ _ p)) p
theorem for_L2 (Pv : Nat → L2.St → Hp → Prop) (r : R K H x (.list ds)) (start : Pv 0 σ H) (keep : ∀ k σ' H', Pv k σ' H' → Same H H') (hp : ∀ d ∈ ds, ∃ d1 d2, d = .tuple [d1, d2])
    (turn : ∀ k d1 d2 v1 v2 σ' H', ds[k]? = some (.tuple [d1, d2]) → R K H' v1 d1 → R K H' v2 d2 → Pv k σ' H' → tb ⟨Pv (k + 1), rt, nx, Pv (k + 1)⟩ ((σ'.set i (some v1)).set j (some v2)) H') (fin : ∀ σ' H', Pv ds.length σ' H' → nx σ' H') : ForL K (g2 K i j) tb ⟨nx, rt, bk, ct⟩ σ x H := by
  obtain ⟨a, xs, rfl, ha, ra⟩ := r.inv_lst
  refine ⟨a, rfl, ⟨xs, .inl (.inl ha)⟩, ?_⟩
  rw [← ra.length] at fin
  refine for_it (walk_list (K := K) (a := a) (xs := xs)) (g := g2 K i j) (tb := tb) (D := ⟨nx, rt, bk, ct⟩) Pv start (fun k σ' H' _ p => (keep _ _ _ p).seq (.inl (.inl ha))) (fun k y σ' H' H'' hk p q => ?_) fin
  obtain ⟨rfl, hy⟩ := q
  obtain ⟨d, e1, e2⟩ := ra.getV hy
  obtain ⟨d1, d2, rfl⟩ := hp d (List.mem_of_getElem? e1)
  exact gtup2 (e2.mono (keep _ _ _ p)) fun v1 v2 r1 r2 => turn k d1 d2 v1 v2 σ' _ e1 r1 r2 p
theorem for_E (Pv : Nat → L2.St → Hp → Prop) (r : R K H x (.tuple ds)) (start : Pv 0 σ H) (keep : ∀ k σ' H', Pv k σ' H' → Same H H') (mono : ∀ k σ' H' H'', Pv k σ' H' → Same H' H'' → Pv k σ' H'')
    (turn : ∀ (k : Nat) d v σ' H', ds[k]? = some d → R K H' v d → Pv k σ' H' → tb ⟨Pv (k + 1), rt, nx, Pv (k + 1)⟩ ((σ'.set i (some (.int (k : Int)))).set j (some v)) H') (fin : ∀ σ' H', Pv ds.length σ' H' → nx σ' H') : ForE K (g2 K i j) tb ⟨nx, rt, bk, ct⟩ σ [x] H := by
  obtain ⟨a, xs, rfl, ha, ra⟩ := r.inv_tup
  refine ⟨a, xs, rfl, ha, ?_⟩
  rw [← ra.length] at fin
  refine for_it (walk_enumT (K := K) (a := a) (xs := xs)) (g := g2 K i j) (tb := tb) (D := ⟨nx, rt, bk, ct⟩) Pv start (fun k σ' H' _ p => (keep _ _ _ p).tup ha) (fun k y σ' H' H'' hk p q => ?_) fin
  obtain ⟨T, y1, y2, rfl, hT, rfl, h1, h2⟩ := q
  cases h1
  obtain ⟨d, e1, e2⟩ := ra.getV h2
  have s0 : Same H' (upd H' T (.tup [.int (k : Int), y2])) := same_new hT _
  have r2 : R K (upd H' T (.tup [.int (k : Int), y2])) y2 d := (e2.mono (keep _ _ _ p)).mono s0
  exact ⟨T, _, rfl, .inl (.inl upd_same), rfl, _, _, rfl, _, _, rfl, rfl, turn k d y2 σ' _ e1 r2 (mono _ _ _ _ p s0)⟩
end
/-! a comprehension over a list of pairs taken apart -/
def LcL2 (K : PySem.W.Frag) (i j : Nat) (te : TE) (vs : List Nat) (σ : L2.St) (x : V) (H : Hp) (Q : VK) : Prop := ∃ a, x = .ref a ∧ (∃ xs, SqL K H a xs) ∧
    ∀ D, H D = none → ∃ W : Nat → Nat → Hp → Prop, (∃ m, W 0 m (upd H D (.lst []))) ∧ ∀ k m H, W k m H →
      ((Itl K a).stop k H ∧ Q (.ref D) H) ∨ ((Itl K a).go k H ∧ ∃ Nx : Hp → Prop, (∀ H', Nx H' → ∃ m', m' < m ∧ W (k + 1) m' H') ∧ ∀ x H', (Itl K a).yld k H x H' → g2 K i j x (wipe σ vs) H' fun σ2 H2 => wipe σ2 vs = wipe σ vs ∧ tYes σ2 H2 fun b H3 =>
        if b = true then (tHide te) σ2 H3 fun y H4 => ∃ acc, H4 D = some (.lst acc) ∧ acc.length < sizeLine ∧ Nx (upd H4 D (.lst (acc ++ [y]))) else Nx H3)
section
variable {K : PySem.W.Frag} {te : TE} {vs : List Nat} {σ : L2.St} {H : Hp} {Q : VK} {i j : Nat}
theorem st_lcL2 {tl : TE} (h : tl σ H fun x H1 => LcL2 K i j te vs σ x H1 Q) : tLc (iList K tl) (g2 K i j) tYes (tHide te) vs σ H Q := h
theorem lcL2_f (f : PyData → PyData) {x : V} {ds : List PyData} (r : R K H x (.list ds)) (hn : ds.length ≤ 1000000) (hw : ∀ x y, wipe (((wipe σ vs).set i (some x)).set j (some y)) vs = wipe σ vs) (hp : ∀ d ∈ ds, ∃ d1 d2, d = .tuple [d1, d2])
    (he : ∀ v1 v2 d1 d2 H1, .tuple [d1, d2] ∈ ds → R K H1 v1 d1 → R K H1 v2 d2 → Same H H1 → ∀ Qt : VK, (∀ y H2, Same H1 H2 → R K H2 y (f (.tuple [d1, d2])) → Qt y H2) → te (((wipe σ vs).set i (some v1)).set j (some v2)) H1 Qt)
    (hq : ∀ v H1, Same H H1 → R K H1 v (.list (ds.map f)) → Q v H1) : LcL2 K i j te vs σ x H Q := by
  obtain ⟨a, ws, rfl, ha, rds⟩ := r.inv_lst
  refine ⟨a, rfl, ⟨ws, .inl (.inl ha)⟩, ?_⟩
  have hlen := rds.length
  intro D hD
  let Pv : Nat → Hp → Prop := fun k H' => ∃ Hb xs, H' = upd Hb D (.lst xs) ∧ Hb D = none ∧ Same H Hb ∧ k ≤ ds.length ∧ RA K Hb xs ((ds.take k).map f)
  refine L2.lc_it (walk_list (K := K) (a := a) (xs := ws)) Pv ?_ ?_ ?_ ?_
  · exact ⟨H, [], rfl, hD, Same.refl _, Nat.zero_le _, .nil⟩
  · rintro k H' hi ⟨Hb, xs, rfl, hb, sm, _⟩
    exact (sm.trans (same_new hb _)).seq (.inl (.inl ha))
  · rintro k x H' H'' hi ⟨Hb, xs, rfl, hb, sm, hk, ra⟩ y
    obtain ⟨rfl, hx⟩ := y
    obtain ⟨d, e1, e2⟩ := rds.getV hx
    obtain ⟨d1, d2, rfl⟩ := hp d (List.mem_of_getElem? e1)
    obtain ⟨b, zs, rfl, hb2, rb⟩ := (e2.mono sm).inv_tup
    obtain ⟨v1, zs, rfl, r1, rb⟩ := rb.inv_cons
    obtain ⟨v2, zs, rfl, r2, rb⟩ := rb.inv_cons
    have := rb.inv_nil
    subst this
    refine ⟨b, _, rfl, (same_new hb _).tup hb2, rfl, v1, _, rfl, v2, _, rfl, rfl, hw _ _, ?_⟩
    unfold tYes
    dsimp only
    rw [if_pos rfl]
    refine ⟨D, xs, upd_same, ?_⟩
    rw [hide_upd hb]
    have hxl : xs.length = k := by rw [ra.length, List.length_map, List.length_take]; omega
    refine he v1 v2 d1 d2 Hb (List.mem_of_getElem? e1) r1 r2 sm _ fun y H2 s2 re n2 => ⟨xs, upd_same, ?_, ?_⟩
    · exact Nat.lt_of_le_of_lt (by omega : xs.length ≤ 1000000) (by decide)
    · rw [upd_upd]
      have hkl : k < ds.length := (List.getElem?_eq_some_iff.mp e1).1
      refine ⟨H2, xs ++ [y], rfl, n2, sm.trans s2, hkl, ?_⟩
      have e3 : (ds.take (k + 1)).map f = (ds.take k).map f ++ [f (.tuple [d1, d2])] := by
        rw [List.take_add_one, e1, List.map_append]; rfl
      rw [e3]
      exact (ra.mono s2).append (.cons re .nil)
  · rintro H' ⟨Hb, xs, rfl, hb, sm, hk, ra⟩
    rw [hlen, List.take_length] at ra
    exact hq _ _ (sm.trans (same_new hb _)) (.lst upd_same (ra.mono (same_new hb _)))
end
theorem ix_lstN {K : PySem.W.Frag} {H : Hp} {Q : VK} {x : V} {ds : List PyData} {i : Int} (r : R K H x (.list ds)) (h0 : 0 ≤ i) (h1 : i < (ds.length : Int)) (h : ∀ v d, ds[i.toNat]? = some d → R K H v d → Q v H) : rIx K x (.int i) H Q :=
  ix_lstR r h0 (List.getElem?_eq_getElem (by omega)) fun v rv => h v _ (List.getElem?_eq_getElem (by omega)) rv
theorem ix_tupN {K : PySem.W.Frag} {H : Hp} {Q : VK} {x : V} {ds : List PyData} {i : Int} (r : R K H x (.tuple ds)) (h0 : 0 ≤ i) (h1 : i < (ds.length : Int)) (h : ∀ v d, ds[i.toNat]? = some d → R K H v d → Q v H) : rIx K x (.int i) H Q :=
  ix_tupR r h0 (List.getElem?_eq_getElem (by omega)) fun v rv => h v _ (List.getElem?_eq_getElem (by omega)) rv
/-! a list of one's own, stored into -/
def rListF (K : PySem.W.Frag) : List V → Hp → VK → Prop := rListOf K
theorem list_KF (K : PySem.W.Frag) {X : Cx} (hK : X.K = K := by rfl) : CallR X (.type "list") (rListF K) := list_K K hK
theorem listF {K : PySem.W.Frag} {H : Hp} {Q : VK} {x : V} {ds : List PyData} (r : R K H x (.tuple ds)) (h : ∀ p xs H', H p = none → Same H H' → H' p = some (.lst xs) → RA K H' xs ds → Q (.ref p) H') : rListF K [x] H Q := by
  obtain ⟨a, ys, rfl, ha, ra⟩ := r.inv_tup
  exact ⟨a, ys, rfl, .inr ha, fun l hl => h l ys _ hl (same_new hl _) upd_same (ra.mono (same_new hl _))⟩
theorem RA.set {K : PySem.W.Frag} {H : Hp} {v : V} {d : PyData} (r : R K H v d) : ∀ {vs : List V} {ds : List PyData} (i : Nat), RA K H vs ds → RA K H (vs.set i v) (ds.set i d)
  | _, _, _, .nil => .nil
  | _, _, 0, .cons _ t => .cons r t
  | _, _, i + 1, .cons a t => .cons a (RA.set r i t)
theorem setR {K : PySem.W.Frag} {H : Hp} {QH : Hp → Prop} {l : Addr} {xs : List V} {ds : List PyData} {v : V} {d : PyData} {i : Nat} (hl : H l = some (.lst xs)) (ra : RA K H xs ds) (r : R K H v d) (hi : i < ds.length) (hz : ds.length ≤ 1000000) (hn : noLs ds = true) (hn' : noL d = true)
    (h : ∀ ws H', SameX l H H' → H' l = some (.lst ws) → RA K H' ws (ds.set i d) → QH H') : rSetL (.ref l) (.int (i : Nat)) v H QH := by
  refine set_at (i := i) hl ?_ ?_
  · have := ra.length
    unfold ixN
    simp
    omega
  · exact h _ _ .upd upd_same (RA.set (r.monoX .upd hl hn') i (ra.monoX .upd hl hn))
end G

namespace G
open PySem PySem.Spec PyProof.Rows L2
/-! enumerate over a text: each sign in a new pair -/
def IteS (z : Str) : It :=
  ⟨fun i _ => i < z.cps.size, fun i H v H' => ∃ T c, v = .ref T ∧ H T = none ∧ H' = upd H T (.tup [.int (i : Nat), .str ⟨#[c]⟩]) ∧ z.cps[i]? = some c, fun i _ => z.cps.size ≤ i⟩
theorem turn_enumS {P : Program} {w : World} {K : PySem.W.Frag} {elts : List Expr} {kk : Nat} {tpos : Pos} (z : Str) (t : Tok) (e it : Addr) :
    Turn P w K (.Tuple elts kk tpos) (IteS z) [e, it] e (fun i h => (∃ old, IsEnum h e it ((i : Nat) : Int) old) ∧ h.IsStrIter it (strIterType z) z t i ∧ e ≠ it) where
  mem := by simp
  obj := fun i h st b hb => by
    obtain ⟨⟨old, he⟩, ⟨o, ho, hc, hd⟩, _⟩ := st
    have e' : b = e ∨ b = it := by simpa using hb
    rcases e' with z | z
    · rw [z]; exact ⟨_, he, fun v q => nomatch q⟩
    · rw [z]; exact ⟨o, ho, fun v q => by rw [hd] at q; cases q⟩
  keep := fun i h h' st k => let ⟨⟨old, he⟩, hi, hne⟩ := st; ⟨⟨old, k e (by simp) _ he⟩, (let ⟨o, ho, r⟩ := hi; ⟨o, k it (by simp) o ho, r⟩), hne⟩
  item := by
    intro X hP hw hK hc i pins s σ H E I hf st hg
    subst hP hw hK
    obtain ⟨⟨old, he⟩, hit, hne⟩ := st
    have hlt : i < z.cps.size := hg
    have hel : e < s.heap.objs.size := Heap.lt_size he
    have hil : it < s.heap.objs.size := by obtain ⟨_, q, _⟩ := hit; exact Heap.lt_size q
    have hea : e ∉ [it] := by
      intro hm
      exact hne (List.mem_singleton.mp hm)
    refine wpAny_pyNext_enum_itemD (Draws.text (by exact (I.ok.hd hc)) it z t) he hit hlt hne hea fun x' h' tk hP ho hst' hT hsz hk => ?_
    obtain ⟨c, u, hcx, rfl⟩ := hP
    refine ⟨_, rfl, wpAny_letOwnedTupleGo_enum (s := { s with heap := h', toks := tk + 1 }) ho fun h'' he' sb => ?_⟩
    have hT2 : h''.get? s.heap.objs.size = some { cls := .type "tuple", data := .seq #[.int i tk, .str ⟨#[c]⟩ u] } := (sb.2 _ (Nat.ne_of_gt hel)).trans hT
    have new : ObjOk X.prog X.w (upd H s.heap.objs.size (.tup [.int (i : Nat), .str ⟨#[c]⟩])) h'' s.heap.objs.size (.tup [.int (i : Nat), .str ⟨#[c]⟩]) :=
      ⟨by show 2 ≤ sizeLine; decide, [.int i tk, .str ⟨#[c]⟩ u], .cons ⟨_, rfl⟩ (.cons ⟨_, rfl⟩ .nil), ⟨_, hT2, rfl, _, rfl⟩⟩
    have I1 : Inv X pins σ (upd H s.heap.objs.size (.tup [.int (i : Nat), .str ⟨#[c]⟩])) { s with heap := h'', toks := tk + 1 } :=
      I.turnedNew (ch := [e, it]) (fun b ob hb q => (sb.2 b (fun z => hb (by simp [z]))).trans (hk b ob (fun z => hb (by simp [z])) (fun z => hb (by simp [z])) q)) hf (Nat.le_refl _) new
    refine ⟨.ref s.heap.objs.size, _, I1, rfl, ⟨_, c, rfl, I.hok.fresh (Nat.le_refl _), rfl, hcx⟩, ⟨⟨.str ⟨#[c]⟩ u, ?_⟩, (let ⟨o, ho2, r⟩ := hst'; ⟨o, (sb.2 it (Ne.symm hne)).trans ho2, r⟩), hne⟩, fun b hb => ?_⟩
    · have e1 : ((i + 1 : Nat) : Int) = (i : Int) + 1 := by omega
      rw [e1]; exact he'
    · have hb' : b < s.heap.objs.size := by
        have e' : b = e ∨ b = it := by simpa using hb
        rcases e' with z | z
        · rw [z]; exact hel
        · rw [z]; exact hil
      rw [upd_ne (Nat.ne_of_lt hb')]
      exact (hf b hb).1
  done := by
    intro X hP hw hK hc i pins s σ H E I hf st hg
    subst hP hw hK
    obtain ⟨⟨old, he⟩, hit, hne⟩ := st
    obtain ⟨f0, f1, f2, f3, f4, f5⟩ := hf it (by simp)
    have hx : z.cps[i]? = none := Array.getElem?_eq_none hg
    have D : Draws X.prog X.w X.A.in1 it [it] i (fun _ _ => True) (fun j h => j = i ∧ h.IsStrIter it (strIterType z) z t i) := by
      refine
      { live := fun _ _ st => let ⟨o, ho, _⟩ := st.2; ⟨o, ho⟩
        frame := fun _ _ _ st hk => ⟨st.1, (let ⟨o, ho, r⟩ := st.2; ⟨o, hk it (by simp) o ho, r⟩)⟩
        item := fun j s' Q E' hj st _ => absurd st.1 (Nat.ne_of_lt hj)
        done := fun s' Q E' st hE => ?_ }
      have h2 := st.2
      cases ha : z.cps.all (· < 128)
      · simp only [strIterType, ha, Bool.false_eq_true, if_false] at h2
        exact wpAny_nextOf_wide_end (by exact (I.ok.hd hc)) h2 hx hE
      · simp only [strIterType, ha, if_true] at h2
        exact wpAny_nextOf_ascii_end (by exact (I.ok.hd hc)) h2 hx hE
    exact wpAny_pyNext_enum_endD D he ⟨rfl, hit⟩ fun h' eb => ⟨rfl, I.turned (t' := s.toks) (fun b o hb q => eb b o hb q) f0 f1 f3 f4 f5⟩
  self := fun A i s Q E st h => let ⟨⟨_, he⟩, _⟩ := st; wpAny_pyIter_enum he h
def iEnumS (ta : TA) : TI := fun σ H R => ta σ H fun vs H1 => ∃ z, vs = [.str z] ∧ R (IteS z) H1
theorem pi_enumS {X : Cx} {e : Expr} {ta : TA} {p pos tpos : Pos} {elts : List Expr} {kk : Nat} (hg : Gl X "enumerate") (hm : X.mg "enumerate" = none) (ha : PA X [e] ta) (hs : starEach [e] X.env = [(false, eval e X.env)] := by rfl) :
    PI X (.Tuple elts kk tpos) (.Call (.Name "enumerate" p) [e] [] pos) (iEnumS ta) := by
  refine ⟨fun pins s σ H R I h => ?_⟩
  refine Call_ (ld_blt I hg hm boot_enumerate (PyProof.Rows.callWith_type1 (thn (ha.run pos pins s σ H _ I h) fun us s1 ⟨vs, H1, I1, r1, q1⟩ => ?_) hs rfl))
  obtain ⟨z, ex, q⟩ := q1
  subst ex
  cases r1 with
  | cons r rr =>
    cases rr
    obtain ⟨t, rfl⟩ := r
    refine call_enumerate_str fun h' he hit hsz hk => wpAny_pyIter_enum he ?_
    have I2 : Inv X pins σ H1 { s1 with heap := h' } := I1.kept (t' := s1.toks) hk
    refine ⟨s1.heap.objs.size + 1, [s1.heap.objs.size + 1, s1.heap.objs.size], _, _, H1, rfl, I2, turn_enumS z t (s1.heap.objs.size + 1) s1.heap.objs.size, ⟨⟨.none, he⟩, hit, Nat.succ_ne_self _⟩, fun b hb => ?_, q⟩
    have e' : b = s1.heap.objs.size + 1 ∨ b = s1.heap.objs.size := by simpa using hb
    have hle : s1.heap.objs.size ≤ b := by
      rcases e' with z | z
      · rw [z]; exact Nat.le_add_right _ _
      · rw [z]; exact Nat.le_refl _
    exact I1.fpOk hle (I1.hok.fresh hle)
theorem walk_enumS {z : Str} : Walk (IteS z) z.cps.size (fun _ => True) (YPair (fun i => some (.int (i : Nat))) (fun i => (z.cps[i]?).map fun c => .str ⟨#[c]⟩)) := by
  refine ⟨fun i _ hi _ => hi, fun _ _ => Nat.le_refl _, fun i H v H' _ _ y => ?_⟩
  obtain ⟨T, c, h1, h2, h3, h4⟩ := y
  exact ⟨T, .int (i : Nat), .str ⟨#[c]⟩, h1, h2, h3, rfl, by show (z.cps[i]?).map _ = _; rw [h4]; rfl⟩
def ForS (g : TG) (tb : TS) (D : Ends) (σ : L2.St) (vs : List V) (H : Hp) : Prop := ∃ z, vs = [.str z] ∧ ForG (IteS z) g tb D σ H
section
variable {K : PySem.W.Frag} {ta : TA} {g : TG} {tb : TS} {D : Ends} {σ : L2.St} {H : Hp} {z : Str} {i j : Nat} {nx bk ct : L2.St → Hp → Prop} {rt : VK}
theorem st_forS (h : ta σ H fun vs H1 => ForS g tb D σ vs H1) : tFor (iEnumS ta) g tb D σ H := by
  exact h
theorem for_S (Pv : Nat → L2.St → Hp → Prop) (start : Pv 0 σ H) (mono : ∀ k σ' H' H'', Pv k σ' H' → Same H' H'' → Pv k σ' H'')
    (turn : ∀ (k : Nat) c σ' H', z.cps.toList[k]? = some c → Pv k σ' H' → tb ⟨Pv (k + 1), rt, nx, Pv (k + 1)⟩ ((σ'.set i (some (.int (k : Int)))).set j (some (.str ⟨#[c]⟩))) H') (fin : ∀ σ' H', Pv z.length σ' H' → nx σ' H') : ForS (g2 K i j) tb ⟨nx, rt, bk, ct⟩ σ [.str z] H := by
  refine ⟨z, rfl, ?_⟩
  refine for_it (walk_enumS (z := z)) (g := g2 K i j) (tb := tb) (D := ⟨nx, rt, bk, ct⟩) Pv start (fun k σ' H' _ p => True.intro) (fun k y σ' H' H'' hk p q => ?_) fin
  obtain ⟨T, y1, y2, rfl, hT, rfl, h1, h2⟩ := q
  cases h1
  obtain ⟨c, hc, rfl⟩ := Option.map_eq_some_iff.mp h2
  have s0 : Same H' (upd H' T (.tup [.int (k : Int), .str ⟨#[c]⟩])) := same_new hT _
  exact ⟨T, _, rfl, .inl (.inl upd_same), rfl, _, _, rfl, _, _, rfl, rfl, turn k c σ' _ (by simpa using hc) (mono _ _ _ _ p s0)⟩
end
end G
namespace G
open PySem PySem.Spec PyProof.Rows L2
theorem neg_i {i : Int} {H : Hp} {Q : VK} (h : Q (.int (-i)) H) : rU (fun i => V.int (-i)) (.int i) H Q := ⟨i, rfl, h⟩
end G

namespace G
open PySem PySem.Spec PyProof.Rows L2
/-! a dict of one's own that changes: what else stands -/
section
variable {K : PySem.W.Frag} {H H' : Hp} {l : Addr} {kvs : List (Key × V)}
theorem SameX.tupD (x : SameX l H H') (hl : H l = some (.dK kvs)) {a : Addr} {ys : List V} (h : SqT K H a ys) : SqT K H' a ys := by
  rcases h with (h | ⟨o, h⟩) | h
  · exact .inl (.inl (x a _ (fun e => by rw [e, hl] at h; cases h) h))
  · exact .inl (.inr ⟨o, x a _ (fun e => by rw [e, hl] at h; cases h) h⟩)
  · exact .inr h
mutual
theorem R.monoD (x : SameX l H H') (hl : H l = some (.dK kvs)) : ∀ {v : V} {d : PyData}, noL d = true → R K H v d → R K H' v d
  | _, _, _, .non => .non
  | _, _, _, .bl b => .bl b
  | _, _, _, .int i => .int i
  | _, _, _, .str z => .str z
  | _, _, n, .lst _ _ => by simp [noL] at n
  | _, _, n, .tup h r => .tup (x.tupD hl h) (RA.monoD x hl (by simpa [noL] using n) r)
  | _, _, n, .dct _ => by simp [noL] at n
theorem RA.monoD (x : SameX l H H') (hl : H l = some (.dK kvs)) : ∀ {vs : List V} {ds : List PyData}, noLs ds = true → RA K H vs ds → RA K H' vs ds
  | _, _, _, .nil => .nil
  | _, _, n, .cons h r => by
    simp only [noLs, Bool.and_eq_true] at n
    exact .cons (R.monoD x hl n.1 h) (RA.monoD x hl n.2 r)
end
end
/-! a comprehension over a tuple whose body changes the dict at l, and tells ints -/
theorem lcT_D {K : PySem.W.Frag} {te : TE} {vs : List Nat} {σ : L2.St} {H : Hp} {Q : VK} {j : Nat} {l : Addr} {x : V} {ds : List PyData} (es : List Int) (J : Nat → List (Key × V)) (hes : es.length = ds.length) (hl : H l = some (.dK (J 0))) (r : R K H x (.tuple ds)) (hnl : noLs ds = true) (hn : ds.length ≤ 1000000)
    (hw : ∀ x, wipe ((wipe σ vs).set j (some x)) vs = wipe σ vs)
    (he : ∀ k v d e H1, ds[k]? = some d → es[k]? = some e → R K H1 v d → SameX l H H1 → H1 l = some (.dK (J k)) → ∀ Qt : VK, (∀ H2, SameX l H1 H2 → H2 l = some (.dK (J (k + 1))) → Qt (.int e) H2) → te ((wipe σ vs).set j (some v)) H1 Qt)
    (hq : ∀ v H1, SameX l H H1 → H1 l = some (.dK (J ds.length)) → R K H1 v (.list (es.map PyData.int)) → Q v H1) : LcT K j te vs σ x H Q := by
  obtain ⟨a, ws, rfl, ha, rds⟩ := r.inv_tup
  have hlen := rds.length
  refine ⟨a, rfl, ⟨ws, ha⟩, ?_⟩
  intro D hD
  have hDl : l ≠ D := fun e => by rw [← e, hl] at hD; cases hD
  let Pv : Nat → Hp → Prop := fun k H' => ∃ Hb xs, H' = upd Hb D (.lst xs) ∧ Hb D = none ∧ SameX l H Hb ∧ Hb l = some (.dK (J k)) ∧ k ≤ ds.length ∧ xs = (es.take k).map V.int
  refine L2.lc_it (walk_tup (K := K) (a := a) (xs := ws)) Pv ?_ ?_ ?_ ?_
  · exact ⟨H, [], rfl, hD, SameX.refl _, hl, Nat.zero_le _, rfl⟩
  · rintro k H' hi ⟨Hb, xs, rfl, hb, sm, _⟩
    exact (same_new hb _).tup (sm.tupD hl ha)
  · rintro k y H' H'' hi ⟨Hb, xs, rfl, hb, sm, hj, hk, hxs⟩ yy
    obtain ⟨rfl, hx⟩ := yy
    obtain ⟨d, e1, e2⟩ := rds.getV hx
    have hnd : noL d = true := by
      have : ∀ {es : List PyData}, noLs es = true → ∀ e ∈ es, noL e = true := by
        intro es
        induction es with
        | nil => intro _ e he; cases he
        | cons b bs ih =>
          intro h e he
          simp only [noLs, Bool.and_eq_true] at h
          rcases List.mem_cons.mp he with rfl | he
          · exact h.1
          · exact ih h.2 e he
      exact this hnl d (List.mem_of_getElem? e1)
    refine ⟨hw y, ?_⟩
    unfold tYes
    dsimp only
    rw [if_pos rfl]
    refine ⟨D, xs, upd_same, ?_⟩
    rw [hide_upd hb]
    have hkl : k < ds.length := (List.getElem?_eq_some_iff.mp e1).1
    have hxl : xs.length = k := by rw [hxs, List.length_map, List.length_take]; omega
    have hke : k < es.length := by omega
    have e3 : es[k]? = some es[k] := List.getElem?_eq_getElem hke
    refine he k y d es[k] Hb e1 e3 (e2.monoD sm hl hnd) sm hj _ fun H2 s2 hj2 n2 => ⟨xs, upd_same, ?_, ?_⟩
    · exact Nat.lt_of_le_of_lt (by omega : xs.length ≤ 1000000) (by decide)
    · rw [upd_upd]
      refine ⟨H2, xs ++ [.int es[k]], rfl, n2, sm.trans s2, hj2, hkl, ?_⟩
      rw [hxs, List.take_add_one, e3, List.map_append]; rfl
  · rintro H' ⟨Hb, xs, rfl, hb, sm, hj, hk, hxs⟩
    rw [hlen, ← hes, List.take_length] at hxs
    rw [hlen] at hj
    refine hq _ _ (sm.trans (SameX.of (same_new hb _))) ((upd_ne hDl).trans hj) (.lst upd_same ?_)
    rw [hxs]
    exact RA_ints es
end G

namespace G
open PySem PySem.Spec PyProof.Rows L2
/-! a dict of names, each to True -/
def dk (ns : List Str) : List (Key × V) := ns.map fun z => (Sum.inr z, V.bl true)
def putN (ns : List Str) (z : Str) : List Str := if z ∈ ns then ns else ns ++ [z]
theorem putK_dk (ns : List Str) (z : Str) : putK (dk ns) (Sum.inr z) (.bl true) = dk (putN ns z) := by
  unfold putK putN dk
  by_cases h : z ∈ ns
  · rw [if_pos h, if_pos (by rw [List.any_map, List.any_eq_true]; exact ⟨z, h, by simp⟩), List.map_map]
    refine List.map_congr_left fun a _ => ?_
    show (if (Sum.inr a : Key) = Sum.inr z then ((Sum.inr a : Key), V.bl true) else (Sum.inr a, V.bl true)) = _
    split <;> rfl
  · rw [if_neg h, if_neg, List.map_append]
    · rfl
    · intro c
      rw [List.any_map, List.any_eq_true] at c
      obtain ⟨a, ha, e⟩ := c
      have e' : (Sum.inr a : Key) = Sum.inr z := by simpa using e
      cases e'
      exact h ha
theorem putN_nodup {ns : List Str} {z : Str} (h : ns.Nodup) : (putN ns z).Nodup := by
  unfold putN
  split
  · exact h
  · rename_i hz
    rw [List.nodup_append]
    exact ⟨h, by simp, fun a ha b hb e => by rw [List.mem_singleton.mp hb] at e; exact hz (e ▸ ha)⟩
theorem putN_mem {ns : List Str} {z x : Str} : x ∈ putN ns z ↔ x ∈ ns ∨ x = z := by
  unfold putN
  split
  · rename_i h
    exact ⟨.inl, fun c => c.elim id fun e => e ▸ h⟩
  · rw [List.mem_append, List.mem_singleton]
def leS (a b : Str) : Prop := a.cps.toList ≤ b.cps.toList
theorem rising_pw : ∀ (xs : List Str) (p : Str), risingS p xs = true → (p :: xs).Pairwise leS
  | [], p, _ => List.pairwise_singleton _ _
  | x :: xs, p, h => by
    simp only [risingS, Bool.and_eq_true, ltCps_eq, Bool.not_eq_true', decide_eq_false_iff_not] at h
    have h1 : leS p x := List.not_lt.mp h.1
    have h2 := rising_pw xs x h.2
    rw [List.pairwise_cons]
    refine ⟨fun y hy => ?_, h2⟩
    rcases List.mem_cons.mp hy with rfl | hy
    · exact h1
    · exact List.le_trans h1 ((List.pairwise_cons.mp h2).1 y hy)
theorem sorted_pw {xs : List Str} (h : sortedS xs = true) : xs.Pairwise leS := by
  cases xs with
  | nil => exact .nil
  | cons x xs => exact rising_pw xs x h
theorem sortedS_uniq {xs ys : List Str} (hx : sortedS xs = true) (hy : sortedS ys = true) (h : xs.Perm ys) : xs = ys :=
  List.Perm.eq_of_pairwise (le := leS) (fun a b _ _ h1 h2 => by
    have e : a.cps.toList = b.cps.toList := List.le_antisymm h1 h2
    cases a; cases b
    congr 1
    exact Array.ext' e) (sorted_pw hx) (sorted_pw hy) h
theorem perm_of_same {xs ys : List Str} (hx : xs.Nodup) (hy : ys.Nodup) (h : ∀ z, z ∈ xs ↔ z ∈ ys) : xs.Perm ys :=
  (List.perm_ext_iff_of_nodup hx hy).mpr h
end G

namespace G
open PySem PySem.Spec PyProof.Rows L2
def rSetDK : TSet := rSetD
theorem set_dictK {X : Cx} {k : Nat} (hr : Room k X.A) : PSet X rSetDK := set_dict (by have := hr.units; omega)
theorem putR {H : Hp} {QH : Hp → Prop} {a : Addr} {ns : List Str} {z : Str} (ha : H a = some (.dK (dk ns))) (hz : ns.length ≤ 100000) (h : ∀ H', SameX a H H' → H' a = some (.dK (dk (putN ns z))) → QH H') : rSetDK (.ref a) (.str z) (.bl true) H QH := by
  refine ⟨a, _, rfl, DPut.k (k := Sum.inr z) ha (Nat.lt_of_le_of_lt (by rw [dk, List.length_map]; exact hz) (by decide)), ?_⟩
  rw [putK_dk]
  exact h _ .upd upd_same
def rSortedDK : List V → Hp → VK → Prop := fun xs H Q => ∃ (a : Addr) (kvs : List (Key × V)) (ks : List Str), xs = [.ref a] ∧ Rd H a (.dK kvs) ∧ kvs.map (·.1) = ks.map Sum.inr ∧ ks.length < 64 ∧
    ∀ ys p, ys.Perm ks → sortedS ys = true → H p = none → Q (.ref p) (upd H p (.lst (ys.map V.str)))
theorem sorted_DK {X : Cx} (hc : X.calm = true) : CallR X (.builtin "sorted") rSortedDK := call_sortedD hc
theorem RA_strs {K : PySem.W.Frag} {H : Hp} : ∀ ns : List Str, RA K H (ns.map V.str) (ns.map PyData.str)
  | [] => .nil
  | n :: ns => .cons (.str n) (RA_strs ns)
theorem sortedR {K : PySem.W.Frag} {H : Hp} {Q : VK} {a : Addr} {ns : List Str} (ha : H a = some (.dK (dk ns))) (h64 : ns.length < 64)
    (h : ∀ ys p H', ys.Perm ns → sortedS ys = true → H p = none → Same H H' → H' p = some (.lst (ys.map V.str)) → R K H' (.ref p) (.list (ys.map PyData.str)) → Q (.ref p) H') : rSortedDK [.ref a] H Q :=
  ⟨a, _, ns, rfl, .inl ha, by rw [dk, List.map_map]; rfl, h64, fun ys p hp hs hn => h ys p _ hp hs hn (same_new hn _) upd_same (.lst upd_same (RA_strs ys))⟩
/-- {} -/
def NewD (H : Hp) (Q : VK) : Prop := ∀ p, H p = none → Q (.ref p) (upd H p (.dK []))
theorem st_newD {K : PySem.W.Frag} {σ : L2.St} {H : Hp} {Q : VK} (h : ∀ p H', H p = none → Same H H' → H' p = some (.dK (dk [])) → Q (.ref p) H') : tDNewK σ H Q := fun p hp => h p _ hp (same_new hp _) upd_same
end G

namespace G
open PySem PySem.Spec PyProof.Rows L2
/-! comprehensions with a test: the list that grows is put aside for the test, too -/
def tHideT (t : TT) : TT := fun σ H Q => ∃ D xs, H D = some (.lst xs) ∧ t σ (hide H D) fun b H' => H' D = none → Q b (upd H' D (.lst xs))
theorem pt_hide {X : Cx} {c : Expr} {t : TT} (h : PT X c t) : PT X c (tHideT t) := by
  refine ⟨fun pins s σ H Q I hw => ?_⟩
  obtain ⟨d, xs, hd, hw⟩ := hw
  obtain ⟨ob, e1, I1⟩ := inv_hide I hd
  refine thn (h.run _ s σ _ _ I1 hw) fun b s1 ⟨H1, I2, q⟩ => ?_
  obtain ⟨n, I3⟩ := inv_show I hd e1 I2
  exact ⟨_, I3, q n⟩
theorem pts_hide {X : Cx} {c : Expr} {t : TT} (h : PT X c t) : PTs X [c] (tHideT t) := pts_one (pt_hide h)
def LcGT (J : It) (g : TG) (tt : TT) (te : TE) (vs : List Nat) (σ : L2.St) (H1 : Hp) (Q : VK) : Prop := ∀ D, H1 D = none → ∃ W : Nat → Nat → Hp → Prop, (∃ m, W 0 m (upd H1 D (.lst []))) ∧ ∀ i m H, W i m H →
  (J.stop i H ∧ Q (.ref D) H) ∨ (J.go i H ∧ ∃ Nx : Hp → Prop, (∀ H', Nx H' → ∃ m', m' < m ∧ W (i + 1) m' H') ∧ ∀ x H', J.yld i H x H' → g x (wipe σ vs) H' fun σ2 H2 => wipe σ2 vs = wipe σ vs ∧ tt σ2 H2 fun b H3 =>
    if b = true then te σ2 H3 fun y H4 => ∃ acc, H4 D = some (.lst acc) ∧ acc.length < sizeLine ∧ Nx (upd H4 D (.lst (acc ++ [y]))) else Nx H3)
section
variable {K : PySem.W.Frag} {J : It} {n : Nat} {G : Hp → Prop} {Y : Nat → Hp → V → Hp → Prop} {g : TG} {tt : TT} {te : TE} {vs : List Nat} {σ : L2.St} {H : Hp} {Q : VK}
theorem hide_of {Hb H' : Hp} {D : Addr} {xs : List V} (hb : Hb D = none) (s : Same (upd Hb D (.lst xs)) H') : H' D = some (.lst xs) ∧ Same Hb (hide H' D) := by
  refine ⟨s _ _ upd_same, fun b o h => ?_⟩
  have hne : b ≠ D := fun e => by rw [e, hb] at h; cases h
  rw [hide_ne hne]
  exact s _ _ (by rw [upd_ne hne]; exact h)
theorem upd_hide {H' : Hp} {D : Addr} {o : HO} (h : H' D = some o) : upd (hide H' D) D o = H' := by
  funext b
  by_cases e : b = D
  · rw [e, upd_same, h]
  · rw [upd_ne e, hide_ne e]
theorem lcg (w : L2.Walk J n G Y) (hn : n ≤ 1000000) (hG : ∀ H', Same H H' → G H') (I : Nat → List PyData → Prop) (h0 : I 0 []) (hI : ∀ i es, I i es → es.length ≤ i)
    (step : ∀ i x Hb D xs es Hy, i < n → Same H Hb → Hb D = none → I i es → Y i (upd Hb D (.lst xs)) x Hy → ∀ (Qy : V → Hp → Prop) (Qn : Hp → Prop),
      (∀ y Hc e, Hc D = none → Same Hb Hc → R K Hc y e → I (i + 1) (es ++ [e]) → Qy y (upd Hc D (.lst xs))) → (∀ Hc, Hc D = none → Same Hb Hc → I (i + 1) es → Qn (upd Hc D (.lst xs))) →
      g x (wipe σ vs) Hy fun σ2 H2 => wipe σ2 vs = wipe σ vs ∧ tt σ2 H2 fun b H3 => if b = true then tHide te σ2 H3 Qy else Qn H3)
    (hq : ∀ v H1 es, Same H H1 → R K H1 v (.list es) → I n es → Q v H1) : LcGT J g tt (tHide te) vs σ H Q := by
  intro D hD
  let Pv : Nat → Hp → Prop := fun i H' => ∃ Hb xs es, H' = upd Hb D (.lst xs) ∧ Hb D = none ∧ Same H Hb ∧ RA K Hb xs es ∧ I i es
  refine L2.lc_it w Pv ?_ ?_ ?_ ?_
  · exact ⟨H, [], [], rfl, hD, Same.refl _, .nil, h0⟩
  · rintro i H' hi ⟨Hb, xs, es, rfl, hb, sm, _⟩
    exact hG _ (sm.trans (same_new hb _))
  · rintro i x H' H'' hi ⟨Hb, xs, es, rfl, hb, sm, ra, hP⟩ y
    have hl := hI i es hP
    have hxl : xs.length = es.length := ra.length
    refine step i x Hb D xs es H'' hi sm hb hP y _ _ (fun y Hc e n2 s2 re i2 => ⟨xs, upd_same, Nat.lt_of_le_of_lt (by omega : xs.length ≤ 1000000) (by decide), ?_⟩) (fun Hc n2 s2 i2 => ?_)
    · rw [upd_upd]
      exact ⟨Hc, xs ++ [y], es ++ [e], rfl, n2, sm.trans s2, (ra.mono s2).append (.cons re .nil), i2⟩
    · exact ⟨Hc, xs, es, rfl, n2, sm.trans s2, ra.mono s2, i2⟩
  · rintro H' ⟨Hb, xs, es, rfl, hb, sm, ra, hP⟩
    exact hq _ _ es (sm.trans (same_new hb _)) (.lst upd_same (ra.mono (same_new hb _))) hP
end
def gNs : List Nat → TGs
  | [] => gNil
  | i :: is => gCons (gName i) (gNs is)
abbrev gN (K : PySem.W.Frag) (is : List Nat) : TG := gTup K is.length (gNs is)
def setAll : L2.St → List Nat → List V → L2.St
  | σ, i :: is, v :: vs => setAll (σ.set i (some v)) is vs
  | σ, _, _ => σ
theorem gNs_of {is : List Nat} : ∀ {vs : List V} {σ : L2.St} {H : Hp} {Q : L2.St → Hp → Prop}, vs.length = is.length → Q (setAll σ is vs) H → gNs is vs σ H Q := by
  induction is with
  | nil => intro vs σ H Q hl q; cases vs with | nil => exact ⟨rfl, q⟩ | cons => simp at hl
  | cons i is ih =>
    intro vs σ H Q hl q
    cases vs with
    | nil => simp at hl
    | cons v vs => exact ⟨v, vs, rfl, ih (by simpa using hl) q⟩
/-! the rule: a list of tuples taken apart, with a test -/
section
variable {K : PySem.W.Frag} {t : TT} {te : TE} {vs : List Nat} {σ : L2.St} {H : Hp} {Q : VK} {is : List Nat}
/-- what is asked of the test and of what is told, at one item with the parts ds -/
theorem lc_test {p : Bool} {fe : PyData} {σ2 : L2.St} {Hc : Hp} {H2 : Hp} {D : Addr} {xs : List V} {Qy : V → Hp → Prop} {Qn : Hp → Prop} (hH : H2 = upd Hc D (.lst xs)) (hb : Hc D = none)
    (ht : ∀ Qt : Bool → Hp → Prop, (∀ H2, Same Hc H2 → Qt p H2) → t σ2 Hc Qt) (he : p = true → ∀ H1, Same Hc H1 → ∀ Qt : VK, (∀ y H2, Same H1 H2 → R K H2 y fe → Qt y H2) → te σ2 H1 Qt)
    (qy : p = true → ∀ y Hd, Hd D = none → Same Hc Hd → R K Hd y fe → Qy y (upd Hd D (.lst xs))) (qn : p = false → ∀ Hd, Hd D = none → Same Hc Hd → Qn (upd Hd D (.lst xs))) :
    tHideT t σ2 H2 fun b H3 => if b = true then tHide te σ2 H3 Qy else Qn H3 := by
  subst hH
  refine ⟨D, xs, upd_same, ?_⟩
  rw [hide_upd hb]
  refine ht _ fun H2 s2 n2 => ?_
  cases hp : p with
  | false => rw [if_neg (by decide)]; exact qn hp _ n2 s2
  | true =>
    rw [if_pos rfl]
    refine ⟨D, xs, upd_same, ?_⟩
    rw [hide_upd n2]
    exact he hp H2 s2 _ fun y H3 s3 r3 n3 => qy hp y _ n3 (s2.trans s3) r3
def LcLT (K : PySem.W.Frag) (g : TG) (tt : TT) (te : TE) (vs : List Nat) (σ : L2.St) (x : V) (H : Hp) (Q : VK) : Prop := ∃ a, x = .ref a ∧ (∃ xs, SqL K H a xs) ∧ LcGT (Itl K a) g tt te vs σ H Q
theorem st_lcLT {g : TG} {tt : TT} {te : TE} {tl : TE} (h : tl σ H fun x H1 => LcLT K g tt te vs σ x H1 Q) : tLc (iList K tl) g tt te vs σ H Q := h
theorem lcLT (p : PyData → Bool) (f : PyData → PyData) {x : V} {ds : List PyData} (r : R K H x (.list ds)) (hn : ds.length ≤ 1000000) (hw : ∀ ws, wipe (setAll (wipe σ vs) is ws) vs = wipe σ vs)
    (hp : ∀ d ∈ ds, ∃ cs, d = .tuple cs ∧ cs.length = is.length)
    (ht : ∀ ws cs H1, .tuple cs ∈ ds → cs.length = is.length → RA K H1 ws cs → Same H H1 → ∀ Qt : Bool → Hp → Prop, (∀ H2, Same H1 H2 → Qt (p (.tuple cs)) H2) → t (setAll (wipe σ vs) is ws) H1 Qt)
    (he : ∀ ws cs H1, .tuple cs ∈ ds → cs.length = is.length → p (.tuple cs) = true → RA K H1 ws cs → Same H H1 → ∀ Qt : VK, (∀ y H2, Same H1 H2 → R K H2 y (f (.tuple cs)) → Qt y H2) → te (setAll (wipe σ vs) is ws) H1 Qt)
    (hq : ∀ v H1, Same H H1 → R K H1 v (.list ((ds.filter p).map f)) → Q v H1) : LcLT K (gN K is) (tHideT t) (tHide te) vs σ x H Q := by
  obtain ⟨a, ws, rfl, ha, rds⟩ := r.inv_lst
  refine ⟨a, rfl, ⟨ws, .inl (.inl ha)⟩, ?_⟩
  have hlen := rds.length
  refine lcg (K := K) (walk_list (K := K) (a := a) (xs := ws)) (by omega) (fun H' s => s.seq (.inl (.inl ha))) (fun k es => k ≤ ds.length ∧ es = ((ds.take k).filter p).map f) ⟨Nat.zero_le _, rfl⟩
    (fun i es h => by rw [h.2, List.length_map]; exact Nat.le_trans (List.length_filter_le _ _) (by rw [List.length_take]; exact Nat.min_le_left _ _)) ?_ fun v H1 es s1 r1 hi => hq v H1 s1 (by
      have := hi.2
      rw [hlen, List.take_length] at this
      rw [← this]; exact r1)
  rintro i x Hb D xs es Hy hi sm hb ⟨hk, rfl⟩ ⟨rfl, hx⟩ Qy Qn qy qn
  obtain ⟨d, e1, e2⟩ := rds.getV hx
  obtain ⟨cs, rfl, hcl⟩ := hp d (List.mem_of_getElem? e1)
  obtain ⟨b, zs, rfl, hb2, rb⟩ := (e2.mono sm).inv_tup
  have hzl := rb.length
  have hkl : i < ds.length := (List.getElem?_eq_some_iff.mp e1).1
  have e3 : ds.take (i + 1) = ds.take i ++ [.tuple cs] := by rw [List.take_add_one, e1]; rfl
  refine ⟨b, zs, rfl, (same_new hb _).tup hb2, by rw [hzl, hcl], gNs_of (by rw [hzl, hcl]) ⟨hw _, ?_⟩⟩
  refine lc_test (K := K) (p := p (.tuple cs)) (fe := f (.tuple cs)) rfl hb (ht zs cs Hb (List.mem_of_getElem? e1) hcl rb sm) (fun h H1 s1 => he zs cs H1 (List.mem_of_getElem? e1) hcl h (rb.mono s1) (sm.trans s1)) (fun h y Hd nd sd rd => qy y Hd _ nd sd rd ⟨hkl, ?_⟩) fun h Hd nd sd => qn Hd nd sd ⟨hkl, ?_⟩
  · rw [e3, List.filter_append, List.map_append, List.filter_cons_of_pos h, List.filter_nil]; rfl
  · rw [e3, List.filter_append, List.filter_cons_of_neg (by rw [h]; decide), List.filter_nil, List.append_nil]
/-! enumerate over a list or a tuple, with a test -/
def LcET (K : PySem.W.Frag) (g : TG) (tt : TT) (te : TE) (vs : List Nat) (σ : L2.St) (ys : List V) (H : Hp) (Q : VK) : Prop := ∃ a xs, ys = [.ref a] ∧ SqL K H a xs ∧ LcGT (Ite K a) g tt te vs σ H Q
def LcETT (K : PySem.W.Frag) (g : TG) (tt : TT) (te : TE) (vs : List Nat) (σ : L2.St) (ys : List V) (H : Hp) (Q : VK) : Prop := ∃ a xs, ys = [.ref a] ∧ SqT K H a xs ∧ LcGT (IteT K a) g tt te vs σ H Q
theorem st_lcET {g : TG} {tt : TT} {te : TE} {ta : TA} (h : ta σ H fun ys H1 => LcET K g tt te vs σ ys H1 Q) : tLc (iEnum K ta) g tt te vs σ H Q := by
  exact h
theorem st_lcETT {g : TG} {tt : TT} {te : TE} {ta : TA} (h : ta σ H fun ys H1 => LcETT K g tt te vs σ ys H1 Q) : tLc (iEnumT K ta) g tt te vs σ H Q := by
  exact h
theorem lcE_core {J : It} {i j : Nat} {ws : List V} {ds : List PyData} (p : Nat → PyData → Bool) (f : Nat → PyData → PyData) {Gp : Hp → Prop} (wk : L2.Walk J ws.length Gp (YPair (fun i => some (.int (i : Nat))) (fun i => ws[i]?))) (hG : ∀ H', Same H H' → Gp H')
    (rds : RA K H ws ds) (hn : ds.length ≤ 1000000) (hw : ∀ v1 v2, wipe (((wipe σ vs).set i (some v1)).set j (some v2)) vs = wipe σ vs)
    (ht : ∀ (k : Nat) v d H1, ds[k]? = some d → R K H1 v d → Same H H1 → ∀ Qt : Bool → Hp → Prop, (∀ H2, Same H1 H2 → Qt (p k d) H2) → t (((wipe σ vs).set i (some (.int (k : Int)))).set j (some v)) H1 Qt)
    (he : ∀ (k : Nat) v d H1, ds[k]? = some d → p k d = true → R K H1 v d → Same H H1 → ∀ Qt : VK, (∀ y H2, Same H1 H2 → R K H2 y (f k d) → Qt y H2) → te (((wipe σ vs).set i (some (.int (k : Int)))).set j (some v)) H1 Qt)
    (hq : ∀ v H1, Same H H1 → R K H1 v (.list ((ds.zipIdx.filter fun x => p x.2 x.1).map fun x => f x.2 x.1)) → Q v H1) : LcGT J (g2 K i j) (tHideT t) (tHide te) vs σ H Q := by
  have hlen := rds.length
  refine lcg (K := K) wk (by omega) hG (fun k es => k ≤ ds.length ∧ es = ((ds.zipIdx.take k).filter fun x => p x.2 x.1).map fun x => f x.2 x.1) ⟨Nat.zero_le _, rfl⟩
    (fun i es h => by rw [h.2, List.length_map]; exact Nat.le_trans (List.length_filter_le _ _) (by rw [List.length_take]; exact Nat.min_le_left _ _)) ?_ fun v H1 es s1 r1 hi => hq v H1 s1 (by
      have := hi.2
      rw [List.take_of_length_le (by rw [List.length_zipIdx, hlen]; exact Nat.le_refl _)] at this
      rw [← this]; exact r1)
  rintro k x Hb D xs es Hy hi sm hb ⟨hk, rfl⟩ ⟨T, x1, x2, rfl, hT, rfl, h1, h2⟩ Qy Qn qy qn
  cases h1
  obtain ⟨d, e1, e2⟩ := rds.getV h2
  have hTD : T ≠ D := fun e => by rw [e, upd_same] at hT; cases hT
  have hTb : Hb T = none := by rw [upd_ne hTD] at hT; exact hT
  have s1 : Same Hb (upd Hb T (.tup [.int (k : Int), x2])) := same_new hTb _
  have hD : (upd Hb T (.tup [.int (k : Int), x2])) D = none := by rw [upd_ne (Ne.symm hTD)]; exact hb
  have hH : upd (upd Hb D (.lst xs)) T (.tup [.int (k : Int), x2]) = upd (upd Hb T (.tup [.int (k : Int), x2])) D (.lst xs) := by
    funext b
    by_cases hbT : b = T
    · rw [hbT, upd_same, upd_ne hTD, upd_same]
    · rw [upd_ne hbT]
      by_cases hbD : b = D
      · rw [hbD, upd_same, upd_same]
      · rw [upd_ne hbD, upd_ne hbD, upd_ne hbT]
  have hkl : k < ds.length := (List.getElem?_eq_some_iff.mp e1).1
  have e3 : ds.zipIdx.take (k + 1) = ds.zipIdx.take k ++ [(d, k)] := by
    rw [List.take_add_one, List.getElem?_zipIdx, e1]; simp
  have r2 := (e2.mono sm).mono s1
  refine ⟨T, _, rfl, .inl (.inl upd_same), rfl, _, _, rfl, _, _, rfl, rfl, hw _ _, ?_⟩
  refine lc_test (K := K) (p := p k d) (fe := f k d) hH hD (ht k x2 d _ e1 r2 (sm.trans s1)) (fun h H1 sh => he k x2 d H1 e1 h (r2.mono sh) ((sm.trans s1).trans sh)) (fun h y Hd nd sd rd => qy y Hd _ nd (s1.trans sd) rd ⟨hkl, ?_⟩) fun h Hd nd sd => qn Hd nd (s1.trans sd) ⟨hkl, ?_⟩
  · have e4 : ([(d, k)] : List (PyData × Nat)).filter (fun x => p x.2 x.1) = [(d, k)] := by simp [h]
    rw [e3, List.filter_append, List.map_append, e4]; rfl
  · have e4 : ([(d, k)] : List (PyData × Nat)).filter (fun x => p x.2 x.1) = [] := by simp [h]
    rw [e3, List.filter_append, e4, List.append_nil]
theorem lcET {i j : Nat} (p : Nat → PyData → Bool) (f : Nat → PyData → PyData) {x : V} {ds : List PyData} (r : R K H x (.list ds)) (hn : ds.length ≤ 1000000) (hw : ∀ v1 v2, wipe (((wipe σ vs).set i (some v1)).set j (some v2)) vs = wipe σ vs)
    (ht : ∀ (k : Nat) v d H1, ds[k]? = some d → R K H1 v d → Same H H1 → ∀ Qt : Bool → Hp → Prop, (∀ H2, Same H1 H2 → Qt (p k d) H2) → t (((wipe σ vs).set i (some (.int (k : Int)))).set j (some v)) H1 Qt)
    (he : ∀ (k : Nat) v d H1, ds[k]? = some d → p k d = true → R K H1 v d → Same H H1 → ∀ Qt : VK, (∀ y H2, Same H1 H2 → R K H2 y (f k d) → Qt y H2) → te (((wipe σ vs).set i (some (.int (k : Int)))).set j (some v)) H1 Qt)
    (hq : ∀ v H1, Same H H1 → R K H1 v (.list ((ds.zipIdx.filter fun x => p x.2 x.1).map fun x => f x.2 x.1)) → Q v H1) : LcET K (g2 K i j) (tHideT t) (tHide te) vs σ [x] H Q := by
  obtain ⟨a, ws, rfl, ha, rds⟩ := r.inv_lst
  exact ⟨a, ws, rfl, .inl (.inl ha), lcE_core p f (walk_enum (K := K) (a := a) (xs := ws)) (fun H' s => s.seq (.inl (.inl ha))) rds hn hw ht he hq⟩
theorem lcETT {i j : Nat} (p : Nat → PyData → Bool) (f : Nat → PyData → PyData) {x : V} {ds : List PyData} (r : R K H x (.tuple ds)) (hn : ds.length ≤ 1000000) (hw : ∀ v1 v2, wipe (((wipe σ vs).set i (some v1)).set j (some v2)) vs = wipe σ vs)
    (ht : ∀ (k : Nat) v d H1, ds[k]? = some d → R K H1 v d → Same H H1 → ∀ Qt : Bool → Hp → Prop, (∀ H2, Same H1 H2 → Qt (p k d) H2) → t (((wipe σ vs).set i (some (.int (k : Int)))).set j (some v)) H1 Qt)
    (he : ∀ (k : Nat) v d H1, ds[k]? = some d → p k d = true → R K H1 v d → Same H H1 → ∀ Qt : VK, (∀ y H2, Same H1 H2 → R K H2 y (f k d) → Qt y H2) → te (((wipe σ vs).set i (some (.int (k : Int)))).set j (some v)) H1 Qt)
    (hq : ∀ v H1, Same H H1 → R K H1 v (.list ((ds.zipIdx.filter fun x => p x.2 x.1).map fun x => f x.2 x.1)) → Q v H1) : LcETT K (g2 K i j) (tHideT t) (tHide te) vs σ [x] H Q := by
  obtain ⟨a, ws, rfl, ha, rds⟩ := r.inv_tup
  exact ⟨a, ws, rfl, ha, lcE_core p f (walk_enumT (K := K) (a := a) (xs := ws)) (fun H' s => s.tup ha) rds hn hw ht he hq⟩
end
end G

namespace G
open PySem PySem.Spec PyProof.Rows L2
section
variable {X : Cx} {k : Nat} {o i e f : Expr} {td ty tx : TE} {pos apos cpos : Pos}
theorem pe_dgetH (hr : Room k X.A) (ho : PE X o td) (hi : PE X i ty) (hs : NoSl i) : PE X (.Subscript o i pos) (tDGet td ty) := pe_dget (by have := hr.units; omega) ho hi hs
theorem pe_dget1H (hr : Room k X.A) (ho : PE X o td) (he : PE X e ty) (m : M1 X o "get" apos e cpos) : PE X (.Call (.Attribute o "get" apos) [e] [] cpos) (tDGet1 td ty) := pe_dget1 (by have := hr.units; omega) ho he m
theorem pe_dget2H (hr : Room k X.A) (ho : PE X o td) (he : PE X e ty) (hf : PE X f tx) (m : M2 X o "get" apos e f cpos) : PE X (.Call (.Attribute o "get" apos) [e, f] [] cpos) (tDGet2 td ty tx) := pe_dget2 (by have := hr.units; omega) ho he hf m
theorem gtLK (K : PySem.W.Frag) {tg : Expr} {n : Nat} {t : TGs} (h : PG X tg (gLst X.K n t)) (hK : X.K = K := by rfl) : PG X tg (gLst K n t) := hK ▸ h
theorem pi_enumLK (K : PySem.W.Frag) {X : Cx} {e : Expr} {ta : TA} {p pos tpos : Pos} {elts : List Expr} {kk : Nat} (hg : Gl X "enumerate") (hm : X.mg "enumerate" = none) (ha : PA X [e] ta) (hs : starEach [e] X.env = [(false, eval e X.env)] := by rfl) (hK : X.K = K := by rfl) :
    PI X (.Tuple elts kk tpos) (.Call (.Name "enumerate" p) [e] [] pos) (iEnum K ta) := hK ▸ pi_enum hg hm ha hs
end
def rDivmod : List V → Hp → VK → Prop := fun xs H Q => ∃ i j, xs = [.int i, .int j] ∧ CDiv i j ∧ ∀ p, H p = none → Q (.ref p) (upd H p (.tup [.int (i / j), .int (i % j)]))
def rAbs : List V → Hp → VK → Prop := fun xs H Q => ∃ i, xs = [.int i] ∧ Q (.int (if i < 0 then -i else i)) H
theorem call_divmodR {X : Cx} : CallR X (.builtin "divmod") rDivmod := call_divmod
theorem call_absR {X : Cx} : CallR X (.builtin "abs") rAbs := call_abs
def rSIndex : V → List V → Hp → VK → Prop := fun x xs H Q => ∃ a b i rest, x = .str a ∧ xs = [.str b] ∧ Builtin.Str.occurrences a b 0 a.length 1 = i :: rest ∧ Q (.int (i : Nat)) H
theorem mt_sindexR {X : Cx} : MtR X "str.index" rSIndex := mt_sindex
theorem st_BMs {K : PySem.W.Frag} {σ : L2.St} {H : Hp} {Q : VK} {to : TE} {t : TA} {r : V → List V → Hp → VK → Prop} (h : to σ H fun x H1 => tyV K "str" x H1 ∧ t σ H1 fun xs H2 => r x xs H2 Q) : tBM K "str" r to t σ H Q := h
theorem st_tys {K : PySem.W.Frag} {H : Hp} {z : Str} {A : Prop} (h : A) : tyV K "str" (.str z) H ∧ A := ⟨rfl, h⟩
theorem bt_divmod : bootBuiltins "divmod" = some (.builtin "divmod") := by decide +kernel
theorem bt_abs : bootBuiltins "abs" = some (.builtin "abs") := by decide +kernel
section
variable {K : PySem.W.Frag} {H : Hp} {Q : VK} {QH : Hp → Prop} {σ : L2.St} {x : V} {a : Addr} {kvs : List (Key × V)} {z : Str}
theorem st_dget {td ty : TE} (h : td σ H fun x H1 => ty σ H1 fun y H2 => ∃ a v, x = .ref a ∧ DGet H2 a y (some v) ∧ Q v H2) : tDGet td ty σ H Q := h
theorem dget_at {F : V → Prop} {v : V} (ha : H a = some (.dK kvs)) (hv : valV kvs (Sum.inr z) = some v) (h : F v) : ∃ b w, V.ref a = .ref b ∧ DGet H b (.str z) (some w) ∧ F w :=
  ⟨a, v, rfl, by rw [← hv]; exact DGet.k (k := Sum.inr z) ha, h⟩
theorem st_dget2 {td ty tx : TE} (h : td σ H fun x H1 => ∃ a, x = .ref a ∧ IsD H1 a ∧ ty σ H1 fun y H2 => tx σ H2 fun z H3 => ∃ o, DGet H3 a y o ∧ Q (o.getD z) H3) : tDGet2 td ty tx σ H Q := h
theorem st_dget1 {td ty : TE} (h : td σ H fun x H1 => ∃ a, x = .ref a ∧ IsD H1 a ∧ ty σ H1 fun y H2 => ∃ o, DGet H2 a y o ∧ Q (o.getD .non) H2) : tDGet1 td ty σ H Q := h
theorem isD_k (ha : H a = some (.dK kvs)) : IsD H a := .inl ⟨kvs, .inl ha⟩
theorem dget_o {F : Option V → Prop} (ha : H a = some (.dK kvs)) (h : F (valV kvs (Sum.inr z))) : ∃ o, DGet H a (.str z) o ∧ F o := ⟨_, DGet.k (k := Sum.inr z) ha, h⟩
theorem divmodR {i j : Int} (h0 : 0 < j) (h1 : j < 1073741824) (h : ∀ p H', H p = none → H' = upd H p (.tup [.int (i / j), .int (i % j)]) → Q (.ref p) H') : rDivmod [.int i, .int j] H Q :=
  ⟨i, j, rfl, ⟨h0, h1⟩, fun p hp => h p _ hp rfl⟩
theorem absR {i : Int} (h : ∀ j : Int, Q (.int j) H) : rAbs [.int i] H Q := ⟨i, rfl, h _⟩
theorem ix_last {ds : List PyData} {d : PyData} (r : R K H x (.list (ds ++ [d]))) (h : ∀ v, R K H v d → Q v H) : rIx K x (.int (-1)) H Q := by
  obtain ⟨a, xs, rfl, ha, ra⟩ := r.inv_lst
  obtain ⟨ws, v, rfl, rw1, rv⟩ := ra.split
  refine .inl ⟨a, _, -1, v, rfl, rfl, .inl (.inl ha), ?_, h v rv⟩
  unfold atI ixN
  simp only [List.length_append, List.length_singleton]
  rw [if_neg (by decide), if_pos (by omega)]
  have : ((-1 : Int) + ((ws.length : Int) + 1)).toNat = ws.length := by omega
  simp [this]
theorem ix_scrLast {a : Addr} {ns : List Int} (hs : SqL K H a (ns.map V.int)) (h1 : 0 < ns.length) (h : ∀ n : Int, Q (.int n) H) : rIx K (.ref a) (.int (-1)) H Q := by
  refine .inl ⟨a, _, -1, .int ns[ns.length - 1], rfl, rfl, hs, ?_, h _⟩
  unfold atI ixN
  simp only [List.length_map]
  rw [if_neg (by decide), if_pos (by omega)]
  have : ((-1 : Int) + (ns.length : Int)).toNat = ns.length - 1 := by omega
  simp [this, h1]
theorem RA_rep {H : Hp} {xs : List V} {ds : List PyData} : ∀ n : Nat, RA K H xs ds → RA K H (List.replicate n xs).flatten (List.replicate n ds).flatten
  | 0, _ => .nil
  | n + 1, r => by rw [List.replicate_succ, List.replicate_succ, List.flatten_cons, List.flatten_cons]; exact r.append (RA_rep n r)
theorem repR {ds : List PyData} {k : Int} (r : R K H x (.list ds)) (h0 : 0 ≤ k) (hl : ds.length * k.toNat ≤ 1000000) (hk : k ≤ 1000) (h : ∀ v H', Same H H' → R K H' v (.list (List.replicate k.toNat ds).flatten) → Q v H') : rRep x (.int k) H Q := by
  obtain ⟨a, xs, rfl, ha, ra⟩ := r.inv_lst
  refine ⟨a, k, xs, rfl, rfl, ha, by omega, by omega, big_le (by rw [ra.length]; exact hl), fun p hp => h _ _ (same_new hp _) (.lst upd_same (RA_rep _ (ra.mono (same_new hp _))))⟩
end
section
variable {g : TG} {gs : TGs} {v : V} {ws : List V} {σ : L2.St} {H : Hp} {Qg : L2.St → Hp → Prop} {to ti : TE} {t : TSet} {i : Nat}
theorem st_gsub (h : to σ H fun o H2 => ti σ H2 fun i H3 => t o i v H3 fun H4 => Qg σ H4) : gSub to ti t v σ H Qg := h
theorem st_gcons (h : g v σ H fun σ' H' => gs ws σ' H' Qg) : gCons g gs (v :: ws) σ H Qg := ⟨v, ws, rfl, h⟩
theorem st_gnil (h : Qg σ H) : gNil [] σ H Qg := ⟨rfl, h⟩
theorem st_gname (h : Qg (σ.set i (some v)) H) : gName i v σ H Qg := h
end
/-! for over the script -/
section
variable {K : PySem.W.Frag} {g : TG} {tb : TS} {D : Ends} {σ : L2.St} {H : Hp} {j : Nat} {nx bk ct : L2.St → Hp → Prop} {rt : VK} {a : Addr} {ns : List Int}
theorem for_scr (Pv : Nat → L2.St → Hp → Prop) (hs : SqL K H a (ns.map V.int)) (start : Pv 0 σ H) (keep : ∀ k σ' H', Pv k σ' H' → Same H H')
    (turn : ∀ k (n : Int) σ' H', Pv k σ' H' → tb ⟨Pv (k + 1), rt, nx, Pv (k + 1)⟩ (σ'.set j (some (.int n))) H') (fin : ∀ σ' H', Pv ns.length σ' H' → nx σ' H') : ForL K (gName j) tb ⟨nx, rt, bk, ct⟩ σ (.ref a) H := by
  refine ⟨a, rfl, ⟨_, hs⟩, ?_⟩
  have hl : ns.length = (ns.map V.int).length := by simp
  rw [hl] at fin
  refine for_it (walk_list (K := K) (a := a) (xs := ns.map V.int)) (g := gName j) (tb := tb) (D := ⟨nx, rt, bk, ct⟩) Pv start (fun k σ' H' _ p => (keep _ _ _ p).seq hs) (fun k y σ' H' H'' hk p q => ?_) fin
  obtain ⟨rfl, hy⟩ := q
  rw [List.getElem?_map] at hy
  obtain ⟨n, _, rfl⟩ := Option.map_eq_some_iff.mp hy
  exact turn k n σ' _ p
/-- a list of data -/
theorem for_LD {x : V} {ds : List PyData} (Pv : Nat → L2.St → Hp → Prop) (r : R K H x (.list ds)) (start : Pv 0 σ H) (keep : ∀ k σ' H', Pv k σ' H' → Same H H')
    (turn : ∀ k d v σ' H', ds[k]? = some d → R K H' v d → Pv k σ' H' → tb ⟨Pv (k + 1), rt, nx, Pv (k + 1)⟩ (σ'.set j (some v)) H') (fin : ∀ σ' H', Pv ds.length σ' H' → nx σ' H') : ForL K (gName j) tb ⟨nx, rt, bk, ct⟩ σ x H := by
  obtain ⟨a, xs, rfl, ha, ra⟩ := r.inv_lst
  refine ⟨a, rfl, ⟨xs, .inl (.inl ha)⟩, ?_⟩
  rw [← ra.length] at fin
  refine for_it (walk_list (K := K) (a := a) (xs := xs)) (g := gName j) (tb := tb) (D := ⟨nx, rt, bk, ct⟩) Pv start (fun k σ' H' _ p => (keep _ _ _ p).seq (.inl (.inl ha))) (fun k y σ' H' H'' hk p q => ?_) fin
  obtain ⟨rfl, hy⟩ := q
  obtain ⟨d, e1, e2⟩ := ra.getV hy
  exact turn k d y σ' _ e1 (e2.mono (keep _ _ _ p)) p
end
end G

namespace G
open PySem PySem.Spec PyProof.Rows L2
def spBegin (K : PySem.W.Frag) : Sp := fun vs H Q _ => ∃ (a : Addr) (ns : List Int), vs = [.ref a] ∧ SqL K H a (ns.map V.int) ∧ ns.length ≤ 1000 ∧ ∀ p H', Same H H' → H' p = some (Stt p) → Q (.ref p) H'
def spNext : Sp := fun vs H Q _ => ∃ (p : Addr) (n : Int), vs = [.ref p, .int n] ∧ H p = some (Stt p) ∧ 0 < n ∧ n < 1000000000 ∧ ∀ (r : Int) H', Same H H' → 0 ≤ r → r < n → Q (.int r) H'
end G

namespace G
open PySem PySem.Spec PyProof.Rows L2
/-! names of consonants -/
def conS : Str := "bcdfghjklmnpqrstvwxyz"
def CON : Str := "BCDFGHJKLMNPQRSTVWXYZ"
def con (c : Nat) : Bool := decide (c ∈ conS.cps.toList)
def conZ (z : Str) : Prop := ∀ c ∈ z.cps.toList, con c = true
theorem con_low {c : Nat} (h : con c = true) : low c = true := by
  have a : ∀ c ∈ conS.cps.toList, low c = true := by decide +kernel
  exact a c (of_decide_eq_true h)
theorem cps_from (z : Str) (k : Nat) : (cutS z (some (k : Int)) none).cps.toList = z.cps.toList.drop k := by rw [cutS_from]
theorem cps_to (z : Str) (k : Nat) : (cutS z none (some (k : Int))).cps.toList = z.cps.toList.take k := by rw [cutS_to]
/-- what a drawn name is -/
structure Nm (z : Str) : Prop where
  ok : isNameS z = true
  hd : ∃ c cs, z.cps.toList = c :: cs ∧ con c = true
structure N21 (zs : List Str) : Prop where
  len : zs.length = 21
  nd : zs.Nodup
  con : ∀ z ∈ zs, conZ z
  l1 : ∀ z ∈ zs, 1 ≤ z.length ∧ z.length ≤ 7
structure N42 (zs : List Str) : Prop where
  len : zs.length = 42
  nd : zs.Nodup
  nm : ∀ z ∈ zs, Nm z
theorem kept_no {z : Str} (hk : inS z kept = true) : ∃ w ∈ (["false", "all", "some", "and", "or"] : List Str), z = w := by
  simp only [kept, inS, Bool.or_eq_true, decide_eq_true_eq, Bool.or_false] at hk
  rcases hk with h | h | h | h | h <;> exact ⟨_, by simp, h.symm⟩
theorem con_name {z : Str} (h : conZ z) (h1 : 1 ≤ z.length) (h8 : z.length ≤ 8) : Nm z := by
  have hc := len_cps z
  rcases hz : z.cps.toList with _ | ⟨c, cs⟩
  · rw [hz, List.length_nil] at hc; omega
  refine ⟨name_of h1 h8 ?_ fun c hc => con_low (h c hc), c, cs, hz, h c (by rw [hz]; simp)⟩
  rw [← Bool.not_eq_true]
  intro hk
  obtain ⟨w, hw, e⟩ := kept_no hk
  have all : ∀ w ∈ (["false", "all", "some", "and", "or"] : List Str), ¬ ∀ c ∈ w.cps.toList, con c = true := by decide +kernel
  exact all w hw (by rw [← e]; exact h)
def nameA (z : Str) : Str := cutS z none (some 1) ++ (Str.ofString "a") ++ cutS z (some 1) none
theorem nameA_cps {z : Str} {c : Nat} {cs : List Nat} (h : z.cps.toList = c :: cs) : (nameA z).cps.toList = c :: 97 :: cs := by
  unfold nameA
  rw [cps_append, cps_append, cutS_t1, cutS_1, h]
  rfl
theorem nameA_name {z : Str} (h : conZ z) (h1 : 1 ≤ z.length) (h7 : z.length ≤ 7) : Nm (nameA z) := by
  have hc := len_cps z
  rcases hz : z.cps.toList with _ | ⟨c, cs⟩
  · rw [hz, List.length_nil] at hc; omega
  have e := nameA_cps hz
  have hl : (nameA z).length = z.length + 1 := by rw [len_cps, e, hc, hz]; rfl
  refine ⟨name_of (by omega) (by omega) ?_ fun d hd => ?_, c, 97 :: cs, e, h c (by rw [hz]; simp)⟩
  · rw [← Bool.not_eq_true]
    intro hk
    obtain ⟨w, hw, e2⟩ := kept_no hk
    have hcs : ∀ d ∈ cs, con d = true := fun d hd => h d (by rw [hz]; exact List.mem_cons_of_mem _ hd)
    have hcc : con c = true := h c (by rw [hz]; simp)
    have all : ∀ w ∈ (["false", "all", "some", "and", "or"] : List Str), ¬ (con (w.cps.toList.headD 0) = true ∧ ∀ d ∈ w.cps.toList.drop 2, con d = true) ∨ w.cps.toList[1]? ≠ some 97 := by decide +kernel
    rcases all w hw with q | q
    · rw [← e2, e] at q
      exact q ⟨hcc, by simpa using hcs⟩
    · rw [← e2, e] at q
      exact q rfl
  · rw [e] at hd
    simp only [List.mem_cons] at hd
    rcases hd with rfl | rfl | hd
    · exact con_low (h _ (by rw [hz]; simp))
    · decide +kernel
    · exact con_low (h _ (by rw [hz]; exact List.mem_cons_of_mem _ hd))
theorem nodup_map {α β : Type} {f : α → β} {xs : List α} (h : xs.Nodup) (hf : ∀ a ∈ xs, ∀ b ∈ xs, f a = f b → a = b) : (xs.map f).Nodup := by
  induction xs with
  | nil => exact List.nodup_nil
  | cons x xs ih =>
    have h2 := List.nodup_cons.mp h
    refine List.nodup_cons.mpr ⟨fun hm => ?_, ih h2.2 fun a ha b hb => hf a (List.mem_cons_of_mem _ ha) b (List.mem_cons_of_mem _ hb)⟩
    obtain ⟨y, hy, e⟩ := List.mem_map.mp hm
    exact h2.1 (hf y (List.mem_cons_of_mem _ hy) x List.mem_cons_self e ▸ hy)
theorem nodup_of_map {α β : Type} {f : α → β} : ∀ {xs : List α}, (xs.map f).Nodup → xs.Nodup
  | [], _ => List.nodup_nil
  | x :: xs, h => by
    have h2 := List.nodup_cons.mp h
    exact List.nodup_cons.mpr ⟨fun hm => h2.1 (List.mem_map_of_mem hm), nodup_of_map h2.2⟩
theorem n42_of {zs : List Str} (h : N21 zs) : N42 (zs ++ zs.map nameA) := by
  have hd : ∀ z ∈ zs, ∃ c cs, z.cps.toList = c :: cs := fun z hz => by
    have hl := (h.l1 z hz).1
    rw [len_cps] at hl
    rcases e : z.cps.toList with _ | ⟨c, cs⟩
    · rw [e] at hl; simp at hl
    · exact ⟨c, cs, rfl⟩
  refine ⟨by rw [List.length_append, List.length_map, h.len], List.nodup_append.mpr ⟨h.nd, nodup_map h.nd fun a ha b hb e => ?_, fun a ha b hb e => ?_⟩, fun z hz => ?_⟩
  · obtain ⟨c, cs, e1⟩ := hd a ha
    obtain ⟨d, ds, e2⟩ := hd b hb
    have q := congrArg (fun z : Str => z.cps.toList) e
    simp only [nameA_cps e1, nameA_cps e2, List.cons.injEq, true_and] at q
    exact str_ext (by rw [e1, e2, q.1, q.2])
  · obtain ⟨y, hy, rfl⟩ := List.mem_map.mp hb
    obtain ⟨c, cs, e1⟩ := hd y hy
    have q := h.con a ha 97 (by rw [e, nameA_cps e1]; simp)
    exact absurd q (by decide +kernel)
  · rcases List.mem_append.mp hz with hz | hz
    · exact con_name (h.con z hz) (h.l1 z hz).1 (by have := (h.l1 z hz).2; omega)
    · obtain ⟨y, hy, rfl⟩ := List.mem_map.mp hz
      exact nameA_name (h.con y hy) (h.l1 y hy).1 (h.l1 y hy).2
/-- the twenty-one letters, turned -/
def turned (t : Nat) : List Nat := (List.range 21).map fun k => conS.cps.toList.getD ((t + 5 * k) % 21) 0
theorem turned_ok : ∀ t, t < 21 → (turned t).Nodup ∧ (∀ c ∈ turned t, con c = true) := by
  have : ∀ t ∈ List.range 21, (turned t).Nodup ∧ ∀ c ∈ turned t, con c = true := by decide +kernel
  exact fun t h => this t (List.mem_range.mpr h)
theorem turned_len (t : Nat) : (turned t).length = 21 := by simp [turned]
theorem n21_a {st : Str} (hs : conZ st) (hl : st.length ≤ 6) {t : Nat} (ht : t < 21) (a : Nat) : N21 ((turned t).map fun c => cutS st none (some (a : Int)) ++ sign c ++ cutS st (some (a : Int)) none) := by
  have ⟨nd, cn⟩ := turned_ok t ht
  have e : ∀ c, (cutS st none (some (a : Int)) ++ sign c ++ cutS st (some (a : Int)) none).cps.toList = st.cps.toList.take a ++ c :: st.cps.toList.drop a := fun c => by
    rw [cps_append, cps_append, cps_to, cps_from]; simp [sign]
  refine ⟨by rw [List.length_map, turned_len], nodup_map nd fun c _ d _ h => ?_, fun z hz => ?_, fun z hz => ?_⟩
  · have q := congrArg (fun z : Str => z.cps.toList) h
    simp only [e, List.append_cancel_left_eq, List.cons.injEq, and_true] at q
    exact q
  · obtain ⟨c, hc, rfl⟩ := List.mem_map.mp hz
    intro d hd
    rw [e] at hd
    rcases List.mem_append.mp hd with h | h
    · exact hs d (List.mem_of_mem_take h)
    · rcases List.mem_cons.mp h with rfl | h
      · exact cn _ hc
      · exact hs d (List.mem_of_mem_drop h)
  · obtain ⟨c, hc, rfl⟩ := List.mem_map.mp hz
    rw [len_cps, e]
    rw [len_cps] at hl
    simp only [List.length_append, List.length_cons, List.length_take, List.length_drop]
    omega
theorem n21_b {st : Str} (hs : conZ st) (hl : st.length ≤ 6) {t : Nat} (ht : t < 21) (f : Nat → Nat) : N21 ((turned t).zipIdx.map fun x => sign x.1 ++ cutS st none (some (f x.2 : Int))) := by
  have ⟨nd, cn⟩ := turned_ok t ht
  have e : ∀ c (k : Nat), (sign c ++ cutS st none (some (f k : Int))).cps.toList = c :: st.cps.toList.take (f k) := fun c k => by
    rw [cps_append, cps_to]; simp [sign]
  have nz : (turned t).zipIdx.Nodup := by
    have : ((turned t).zipIdx.map Prod.fst).Nodup := by rw [List.zipIdx_map_fst]; exact nd
    exact nodup_of_map this
  refine ⟨by rw [List.length_map, List.length_zipIdx, turned_len], nodup_map nz fun c hc d hd h => ?_, fun z hz => ?_, fun z hz => ?_⟩
  · have q := congrArg (fun z : Str => z.cps.toList) h
    simp only [e, List.cons.injEq] at q
    obtain ⟨c1, c2⟩ := c
    obtain ⟨d1, d2⟩ := d
    have hc' := List.mem_zipIdx hc
    have hd' := List.mem_zipIdx hd
    simp only at q hc' hd'
    have h1 := q.1
    have : c2 = d2 := by
      have a1 : (turned t)[c2]? = some c1 := by rw [List.getElem?_eq_getElem (by omega)]; simpa using hc'.2.2.symm
      have a2 : (turned t)[d2]? = some c1 := by rw [h1, List.getElem?_eq_getElem (by omega)]; simpa using hd'.2.2.symm
      have hlt : c2 < (turned t).length := (List.getElem?_eq_some_iff.mp a1).1
      exact (List.getElem?_inj hlt nd).mp (a1.trans a2.symm)
    rw [h1, this]
  · obtain ⟨⟨c, k⟩, hc, rfl⟩ := List.mem_map.mp hz
    intro d hd
    rw [e] at hd
    rcases List.mem_cons.mp hd with rfl | h
    · exact cn _ (by have := List.mem_zipIdx hc; simp only [Nat.zero_add, Nat.sub_zero] at this; rw [this.2.2]; exact List.getElem_mem _)
    · exact hs d (List.mem_of_mem_take h)
  · obtain ⟨⟨c, k⟩, hc, rfl⟩ := List.mem_map.mp hz
    rw [len_cps, e]
    rw [len_cps] at hl
    simp only [List.length_cons, List.length_take]
    omega
/-! a form's name of a name -/
def greatS (z : Str) : Str := sign ((z.cps.toList.headD 0) - 32) ++ cutS z (some 1) none
theorem greatS_ok {z : Str} (h : Nm z) : isFormS (greatS z) = true := by
  obtain ⟨c, cs, e, hc⟩ := h.hd
  have := form_of h.ok
  have e1 : cutS z none (some 1) = ⟨#[c]⟩ := str_ext (by rw [cutS_t1, e]; rfl)
  rw [e1, (upper_low (con_low hc)).1] at this
  have e2 : greatS z = (⟨#[c - 32]⟩ : Str) ++ cutS z (some 1) none := by unfold greatS; rw [e]; rfl
  rw [e2]; exact this
theorem greatS_inj {y z : Str} (hy : Nm y) (hz : Nm z) (h : greatS y = greatS z) : y = z := by
  obtain ⟨c, cs, e, hc⟩ := hy.hd
  obtain ⟨d, ds, f, hd⟩ := hz.hd
  have q := congrArg (fun z : Str => z.cps.toList) h
  simp only [greatS, cps_append, cutS_1, e, f, sign, List.headD_cons, List.drop_succ_cons, List.drop_zero, List.singleton_append, List.cons.injEq] at q
  have a : ∀ c ∈ conS.cps.toList, 97 < c := by decide +kernel
  have h1 := a c (of_decide_eq_true hc)
  have h2 := a d (of_decide_eq_true hd)
  refine str_ext ?_
  rw [e, f]
  rw [show c = d from by omega, q.2]
def chk (c : Nat) : Bool := match Builtin.Str.occurrences conS ⟨#[c]⟩ 0 conS.length 1 with
  | i :: _ => CON.cps.toList[i]? == some (c - 32)
  | [] => false
theorem great_at {c : Nat} (h : con c = true) : ∃ (i : Nat) (rest : List Nat), Builtin.Str.occurrences conS ⟨#[c]⟩ 0 conS.length 1 = i :: rest ∧ CON.cps.toList[i]? = some (c - 32) := by
  have a : ∀ c ∈ conS.cps.toList, chk c = true := by decide +kernel
  have q := a c (of_decide_eq_true h)
  unfold chk at q
  split at q
  · rename_i i rest e; exact ⟨i, rest, e, by simpa using q⟩
  · cases q
theorem es_range {f : Nat → PyData} {es : List PyData} {n : Nat} (hl : es.length = n) (h : ∀ (i : Nat) e, es[i]? = some e → e = f i) : es = (List.range n).map f :=
  list_of_at (by rw [hl, List.length_range]) fun i e q => ⟨i, by rw [List.getElem?_range (by have := (List.getElem?_eq_some_iff.mp q).1; omega)], h i e q⟩
theorem es_idx {α : Type} {xs : List α} {f : α × Nat → PyData} {es : List PyData} (hl : es.length = xs.length) (h : ∀ (i : Nat) e x, es[i]? = some e → xs[i]? = some x → e = f (x, i)) : es = xs.zipIdx.map f :=
  list_of_at (by rw [hl, List.length_zipIdx]) fun i e q => by
    have hi : i < xs.length := by have := (List.getElem?_eq_some_iff.mp q).1; omega
    exact ⟨(xs[i], i), by rw [List.getElem?_zipIdx, List.getElem?_eq_getElem hi]; simp, h i e xs[i] q (List.getElem?_eq_getElem hi)⟩
theorem turned_at {t k : Nat} (hk : k < 21) : (turned t)[k]? = some (conS.cps.toList.getD ((t + 5 * k) % 21) 0) := by
  unfold turned
  rw [List.getElem?_map, List.getElem?_range hk]; rfl
theorem con_at {t k : Nat} : conS.cps.toList[(t + 5 * k) % 21]? = some (conS.cps.toList.getD ((t + 5 * k) % 21) 0) := by
  have h : (t + 5 * k) % 21 < conS.cps.toList.length := Nat.lt_of_lt_of_le (Nat.mod_lt _ (by decide)) (by decide +kernel)
  rw [List.getD_eq_getElem?_getD, List.getElem?_eq_getElem h]; rfl
def spNames (K : PySem.W.Frag) : Sp := fun vs H Q _ => ∃ (p : Addr), vs = [.ref p] ∧ H p = some (Stt p) ∧ ∀ v zs H', Same H H' → N42 zs → R K H' v (.list (zs.map PyData.str)) → Q v H'
def spGreat : Sp := fun vs H Q _ => ∃ z, vs = [.str z] ∧ Nm z ∧ ∀ H', Same H H' → Q (.str (greatS z)) H'
theorem use_next {K : PySem.W.Frag} {H : Hp} {Q : VK} {E : XK} {p : Addr} {n : Int} (hp : H p = some (Stt p)) (h0 : 0 < n) (h1 : n < 1000000000) (h : ∀ (r : Int) H', Same H H' → 0 ≤ r → r < n → Q (.int r) H') : spNext [.ref p, .int n] H Q E := ⟨p, n, rfl, hp, h0, h1, h⟩
end G

namespace G
open PySem PySem.Spec PyProof.Rows L2
/-! a drawn book: an open kind a, made ones b and c, what is called, words -/
structure Bk where
  a : Str
  b : Str
  c : Str
  fb : List (Str × List Str)
  fc : List (Str × List Str)
  calls : List (Str × List Str × Str)
  words : List (Str × List Str)
def Bk.forms (g : Bk) (k : Str) : List (Str × List Str) := if k = g.b then g.fb else if k = g.c then g.fc else []
def Bk.kinds (g : Bk) : List Str := [g.a, g.b, g.c]
abbrev partsD (ps : List Str) : PyData := .tuple (ps.map PyData.str)
def formD (x : Str × List Str) : PyData := .tuple [.str x.1, partsD x.2]
def callD (x : Str × List Str × Str) : PyData := .tuple [.str x.1, partsD x.2.1, .str x.2.2]
def thingD (x : Str × Str) : PyData := .tuple [.str x.1, .str x.2]
abbrev Own := Str × List Str × Str × List Nat
def ownD : Option Own → PyData
  | none => .none
  | some (f, ks, k, js) => .tuple [.str f, partsD ks, .str k, .list (js.map fun j : Nat => PyData.int (j : Int))]
structure FormsOk (g : Bk) (fs : List (Str × List Str)) : Prop where
  len : fs.length ≤ 4
  nm : ∀ x ∈ fs, isFormS x.1 = true
  ps : ∀ x ∈ fs, x.2.length ≤ 4 ∧ ∀ k ∈ x.2, k ∈ g.kinds
structure BkOk (g : Bk) : Prop where
  ab : g.a ≠ g.b
  ac : g.a ≠ g.c
  bc : g.b ≠ g.c
  na : isNameS g.a = true
  nb : isNameS g.b = true
  nc : isNameS g.c = true
  okb : FormsOk g g.fb
  okc : FormsOk g g.fc
  fb0 : ∃ n r, g.fb = (n, []) :: r
  fc0 : ∃ n r, g.fc = (n, []) :: r ∨ g.fc = (n, [g.a, g.b]) :: r
  c0 : ∃ f r, g.calls = (f, [], g.a) :: r
  cl : g.calls.length ≤ 100
  cn : ∀ x ∈ g.calls, isNameS x.1 = true ∧ x.2.1.length ≤ 4 ∧ (∀ k ∈ x.2.1, k ∈ g.kinds) ∧ x.2.2 ∈ g.kinds
  wl : g.words.length ≤ 100
  wn : ∀ x ∈ g.words, isNameS x.1 = true ∧ x.2.length ≤ 4 ∧ ∀ k ∈ x.2, k ∈ g.kinds
/-- terms of a kind: things, bounds, forms, what is called -/
def Bk.sig (g : Bk) : Option Own → List (Str × List Str × Str)
  | none => g.calls
  | some (f, ks, k, _) => g.calls ++ [(f, ks, k)]
mutual
def Th.kd (g : Bk) (cs : List (Str × List Str × Str)) (xs : List (Str × Str)) (is : List Str) : Th → Str → Prop
  | .free x, k => (x, k) ∈ xs
  | .bnd j, k => is[j]? = some k
  | .app .form c args, k => ∃ ps, (c, ps) ∈ g.forms k ∧ Th.kds g cs xs is args ps
  | .app .call c args, k => ∃ ps, (c, ps, k) ∈ cs ∧ Th.kds g cs xs is args ps
  | _, _ => False
def Th.kds (g : Bk) (cs : List (Str × List Str × Str)) (xs : List (Str × Str)) (is : List Str) : List Th → List Str → Prop
  | [], [] => True
  | t :: ts, k :: ks => Th.kd g cs xs is t k ∧ Th.kds g cs xs is ts ks
  | _, _ => False
end
structure OwnOk (g : Bk) (is : List Str) (o : Option Own) : Prop where
  ok : ∀ f ks k js, o = some (f, ks, k, js) → isNameS f = true ∧ 1 ≤ ks.length ∧ ks.length ≤ 4 ∧ (∀ x ∈ ks, x ∈ g.kinds) ∧ k ∈ g.kinds ∧ js.length ≤ 100 ∧ ∀ j ∈ js, is[j]? = ks[0]?
theorem forms_ok {g : Bk} (ok : BkOk g) (k : Str) : FormsOk g (g.forms k) := by
  unfold Bk.forms
  split
  · exact ok.okb
  · split
    · exact ok.okc
    · exact ⟨by decide, (fun _ h => by cases h), (fun _ h => by cases h)⟩
theorem sig_ok {g : Bk} (ok : BkOk g) {is : List Str} {o : Option Own} (oo : OwnOk g is o) : ∀ x ∈ g.sig o, isNameS x.1 = true ∧ x.2.1.length ≤ 4 := by
  intro x hx
  rcases o with _ | ⟨f, ks, k, js⟩
  · exact ⟨(ok.cn x hx).1, (ok.cn x hx).2.1⟩
  · have q := oo.ok f ks k js rfl
    rcases List.mem_append.mp hx with h | h
    · exact ⟨(ok.cn x h).1, (ok.cn x h).2.1⟩
    · rw [List.mem_singleton.mp h]; exact ⟨q.1, q.2.2.1⟩
theorem kds_len {g : Bk} {cs : List (Str × List Str × Str)} {xs : List (Str × Str)} {is : List Str} : ∀ {ts : List Th} {ks : List Str}, Th.kds g cs xs is ts ks → ts.length = ks.length
  | [], [], _ => rfl
  | t :: ts, k :: ks, h => by simp only [Th.kds] at h; simp [kds_len h.2]
  | [], _ :: _, h => by simp [Th.kds] at h
  | _ :: _, [], h => by simp [Th.kds] at h
mutual
theorem Th.kd_isT {g : Bk} {cs : List (Str × List Str × Str)} {xs : List (Str × Str)} {is : List Str} (ok : BkOk g) (hs : ∀ x ∈ cs, isNameS x.1 = true ∧ x.2.1.length ≤ 4) (hx : ∀ x ∈ xs, isNameS x.1 = true) : ∀ (t : Th) {k : Str}, t.kd g cs xs is k → t.isT (xs.map (·.1)) is.length
  | .free x, k, h => ⟨hx (x, k) h, List.mem_map.mpr ⟨(x, k), h, rfl⟩⟩
  | .bnd j, k, h => (List.getElem?_eq_some_iff.mp (show is[j]? = some k from h)).1
  | .app .form c args, k, h => by
    obtain ⟨ps, hm, hk⟩ := h
    have f := forms_ok ok k
    exact ⟨f.nm _ hm, by rw [kds_len hk]; exact (f.ps _ hm).1, Th.kds_areT ok hs hx args hk⟩
  | .app .call c args, k, h => by
    obtain ⟨ps, hm, hk⟩ := h
    exact ⟨(hs _ hm).1, by rw [kds_len hk]; exact (hs _ hm).2, Th.kds_areT ok hs hx args hk⟩
theorem Th.kds_areT {g : Bk} {cs : List (Str × List Str × Str)} {xs : List (Str × Str)} {is : List Str} (ok : BkOk g) (hs : ∀ x ∈ cs, isNameS x.1 = true ∧ x.2.1.length ≤ 4) (hx : ∀ x ∈ xs, isNameS x.1 = true) : ∀ (ts : List Th) {ks : List Str}, Th.kds g cs xs is ts ks → Th.areT (xs.map (·.1)) is.length ts
  | [], _, _ => True.intro
  | t :: ts, k :: ks, h => ⟨Th.kd_isT ok hs hx t h.1, Th.kds_areT ok hs hx ts h.2⟩
  | _ :: _, [], h => by simp [Th.kds] at h
end
/-! the book in the heap -/
structure BookAt (K : PySem.W.Frag) (H : Hp) (v : V) (g : Bk) : Prop where
  ex : ∃ x y0 af lb lc y2 y3 y4 y5, v = .ref x ∧ SqT K H x [y0, .ref af, y2, y3, y4, y5] ∧ H af = some (.dK [(Sum.inr g.b, lb), (Sum.inr g.c, lc)]) ∧ R K H lb (.list (g.fb.map formD)) ∧ R K H lc (.list (g.fc.map formD)) ∧
    R K H y2 (.list (g.calls.map callD)) ∧ R K H y3 (.list (g.kinds.map PyData.str)) ∧ R K H y5 (.list (g.words.map formD))
section
variable {K : PySem.W.Frag} {H H' : Hp} {Q : VK} {v : V} {g : Bk}
theorem BookAt.mono (s : Same H H') (h : BookAt K H v g) : BookAt K H' v g := by
  obtain ⟨x, y0, af, lb, lc, y2, y3, y4, y5, e, h1, h2, h3, h4, h5, h6, h7⟩ := h.ex
  exact ⟨x, y0, af, lb, lc, y2, y3, y4, y5, e, s.tup h1, s _ _ h2, h3.mono s, h4.mono s, h5.mono s, h6.mono s, h7.mono s⟩
theorem ix_b1 (h : BookAt K H v g) (q : ∀ af lb lc, H af = some (.dK [(Sum.inr g.b, lb), (Sum.inr g.c, lc)]) → R K H lb (.list (g.fb.map formD)) → R K H lc (.list (g.fc.map formD)) → Q (.ref af) H) : rIx K v (.int 1) H Q := by
  obtain ⟨x, y0, af, lb, lc, y2, y3, y4, y5, rfl, h1, h2, h3, h4, h5, h6, h7⟩ := h.ex
  exact .inr (.inl ⟨x, _, 1, .ref af, rfl, rfl, h1, atI_pos (by decide) rfl, q af lb lc h2 h3 h4⟩)
theorem ix_b2 (h : BookAt K H v g) (q : ∀ y, R K H y (.list (g.calls.map callD)) → Q y H) : rIx K v (.int 2) H Q := by
  obtain ⟨x, y0, af, lb, lc, y2, y3, y4, y5, rfl, h1, h2, h3, h4, h5, h6, h7⟩ := h.ex
  exact .inr (.inl ⟨x, _, 2, y2, rfl, rfl, h1, atI_pos (by decide) rfl, q _ h5⟩)
theorem ix_b3 (h : BookAt K H v g) (q : ∀ y, R K H y (.list (g.kinds.map PyData.str)) → Q y H) : rIx K v (.int 3) H Q := by
  obtain ⟨x, y0, af, lb, lc, y2, y3, y4, y5, rfl, h1, h2, h3, h4, h5, h6, h7⟩ := h.ex
  exact .inr (.inl ⟨x, _, 3, y3, rfl, rfl, h1, atI_pos (by decide) rfl, q _ h6⟩)
theorem ix_b5 (h : BookAt K H v g) (q : ∀ y, R K H y (.list (g.words.map formD)) → Q y H) : rIx K v (.int 5) H Q := by
  obtain ⟨x, y0, af, lb, lc, y2, y3, y4, y5, rfl, h1, h2, h3, h4, h5, h6, h7⟩ := h.ex
  exact .inr (.inl ⟨x, _, 5, y5, rfl, rfl, h1, atI_pos (by decide) rfl, q _ h7⟩)
theorem val_forms {lb lc : V} (ok : BkOk g) (rb : R K H lb (.list (g.fb.map formD))) (rc : R K H lc (.list (g.fc.map formD))) {k : Str} :
    (k = g.b ∨ k = g.c → ∃ w, valV ([(Sum.inr g.b, lb), (Sum.inr g.c, lc)] : List (Key × V)) (Sum.inr k) = some w ∧ R K H w (.list ((g.forms k).map formD))) ∧
    (k ≠ g.b → k ≠ g.c → valV ([(Sum.inr g.b, lb), (Sum.inr g.c, lc)] : List (Key × V)) (Sum.inr k) = none ∧ g.forms k = []) := by
  refine ⟨?_, ?_⟩
  · rintro (rfl | rfl)
    · exact ⟨lb, valV_pos rfl, by unfold Bk.forms; rw [if_pos rfl]; exact rb⟩
    · refine ⟨lc, by rw [valV_neg (by intro h; exact ok.bc (Sum.inr.inj h)), valV_pos rfl], ?_⟩
      unfold Bk.forms
      rw [if_neg (fun h => ok.bc h.symm), if_pos rfl]; exact rc
  · intro h1 h2
    refine ⟨by rw [valV_neg (fun h => h1 (Sum.inr.inj h).symm), valV_neg (fun h => h2 (Sum.inr.inj h).symm), valV_nil], ?_⟩
    unfold Bk.forms
    rw [if_neg h1, if_neg h2]
end
def szK : Nat → Nat
  | 0 => 3
  | n + 1 => 1 + 4 * szK n
theorem szK_pos (n : Nat) : 3 ≤ szK n := by cases n with | zero => decide | succ n => have := szK_pos n; simp only [szK]; omega
def spLeast (K : PySem.W.Frag) (n : Nat) : Sp := fun vs H Q _ => ∃ (v : V) (g : Bk) (k : Str), vs = [v, .str k] ∧ BookAt K H v g ∧ BkOk g ∧ k ∈ g.kinds ∧ (1 ≤ n) ∧ (k = g.c → 2 ≤ n) ∧
  ∀ u t H', Same H H' → R K H' u (Th.d t) → (∀ xs is o, t.kd g (g.sig o) xs is k) → t.dep ≤ 2 → t.sz ≤ 3 → (k ≠ g.c → t.dep ≤ 1 ∧ t.sz ≤ 1) → Q u H'
def spTermK (K : PySem.W.Frag) (n : Nat) : Sp := fun vs H Q _ => ∃ (p : Addr) (v vt vi vo : V) (g : Bk) (k : Str) (xs : List (Str × Str)) (is : List Str) (e : Int) (o : Option Own), vs = [.ref p, v, .str k, vt, vi, .int e, vo] ∧ H p = some (Stt p) ∧ BookAt K H v g ∧ BkOk g ∧ k ∈ g.kinds ∧
  R K H vt (.list (xs.map thingD)) ∧ R K H vi (.list (is.map PyData.str)) ∧ R K H vo (ownD o) ∧ OwnOk g is o ∧ xs.length ≤ 100 ∧ is.length ≤ 100 ∧ (∀ x ∈ xs, isNameS x.1 = true) ∧ 0 ≤ e ∧ e < n ∧
  ∀ u t H', Same H H' → R K H' u (Th.d t) → t.kd g (g.sig o) xs is k → t.dep ≤ e.toNat + 2 → t.sz ≤ szK e.toNat → Q u H'
section
variable {K : PySem.W.Frag} {H : Hp} {Q : VK} {E : XK} {p : Addr} {v vt vi vo : V} {g : Bk} {k : Str} {xs : List (Str × Str)} {is : List Str} {e : Int} {o : Option Own} {n : Nat}
theorem use_least (hb : BookAt K H v g) (ok : BkOk g) (hk : k ∈ g.kinds) (h1 : 1 ≤ n) (h2 : k = g.c → 2 ≤ n) (q : ∀ u t H', Same H H' → R K H' u (Th.d t) → (∀ xs is o, t.kd g (g.sig o) xs is k) → t.dep ≤ 2 → t.sz ≤ 3 → (k ≠ g.c → t.dep ≤ 1 ∧ t.sz ≤ 1) → Q u H') : spLeast K n [v, .str k] H Q E := ⟨v, g, k, rfl, hb, ok, hk, h1, h2, q⟩
theorem use_termK (hp : H p = some (Stt p)) (hb : BookAt K H v g) (ok : BkOk g) (hk : k ∈ g.kinds) (rt : R K H vt (.list (xs.map thingD))) (ri : R K H vi (.list (is.map PyData.str))) (ro : R K H vo (ownD o)) (oo : OwnOk g is o) (lx : xs.length ≤ 100) (li : is.length ≤ 100) (nx : ∀ x ∈ xs, isNameS x.1 = true)
    (h0 : 0 ≤ e) (h1 : e < n) (q : ∀ u t H', Same H H' → R K H' u (Th.d t) → t.kd g (g.sig o) xs is k → t.dep ≤ e.toNat + 2 → t.sz ≤ szK e.toNat → Q u H') : spTermK K n [.ref p, v, .str k, vt, vi, .int e, vo] H Q E :=
  ⟨p, v, vt, vi, vo, g, k, xs, is, e, o, rfl, hp, hb, ok, hk, rt, ri, ro, oo, lx, li, nx, h0, h1, q⟩
end
end G

namespace G
open PySem PySem.Spec PyProof.Rows L2
def thK (kk : Str) : PyData → Bool
  | .tuple [.str _, .str k] => decide (k = kk)
  | _ => false
def thF : PyData → PyData
  | .tuple [.str x, .str _] => .tuple [.str "free", .str x]
  | _ => .none
def inK (kk : Str) (_ : Nat) : PyData → Bool
  | .str k => decide (k = kk)
  | _ => false
def inF (j : Nat) (_ : PyData) : PyData := .tuple [.str "bound", .int (j : Int)]
def caK (kk : Str) : PyData → Bool
  | .tuple [.str _, .tuple _, .str k] => decide (k = kk)
  | _ => false
def caF : PyData → PyData
  | .tuple [.str f, .tuple ps, .str _] => .tuple [.str "call", .str f, .tuple ps]
  | _ => .none
def foF : PyData → PyData
  | .tuple [.str f, .tuple ps] => .tuple [.str "form", .str f, .tuple ps]
  | _ => .none
/-- a leaf of the kind -/
def IsLeaf (g : Bk) (cs : List (Str × List Str × Str)) (xs : List (Str × Str)) (is : List Str) (kk : Str) (d : PyData) : Prop := ∃ t : Th, d = t.d ∧ t.kd g cs xs is kk ∧ t.dep = 1 ∧ t.sz = 1
theorem leaf_th {g : Bk} {cs : List (Str × List Str × Str)} {xs : List (Str × Str)} {is : List Str} {kk : Str} : ∀ d ∈ ((xs.map thingD).filter (thK kk)).map thF, IsLeaf g cs xs is kk d := by
  intro d hd
  obtain ⟨e, he, rfl⟩ := List.mem_map.mp hd
  obtain ⟨h1, h2⟩ := List.mem_filter.mp he
  obtain ⟨⟨x, k⟩, hx, rfl⟩ := List.mem_map.mp h1
  have hk : k = kk := of_decide_eq_true h2
  subst hk
  exact ⟨.free x, rfl, hx, rfl, rfl⟩
theorem leaf_in {g : Bk} {cs : List (Str × List Str × Str)} {xs : List (Str × Str)} {is : List Str} {kk : Str} : ∀ d ∈ ((is.map PyData.str).zipIdx.filter fun x => inK kk x.2 x.1).map (fun x => inF x.2 x.1), IsLeaf g cs xs is kk d := by
  intro d hd
  obtain ⟨⟨e, j⟩, he, rfl⟩ := List.mem_map.mp hd
  obtain ⟨h1, h2⟩ := List.mem_filter.mp he
  have h3 := List.mem_zipIdx h1
  simp only [Nat.zero_add, Nat.sub_zero, List.length_map, List.getElem_map] at h3
  obtain ⟨_, hj, he2⟩ := h3
  have h2' : inK kk j e = true := h2
  rw [he2] at h2'
  have hk : is[j] = kk := of_decide_eq_true h2'
  exact ⟨.bnd j, rfl, by show is[j]? = some kk; rw [List.getElem?_eq_getElem hj, hk], rfl, rfl⟩
/-- a way to make a term: a form's or a call's name and parts -/
def IsWay (g : Bk) (cs : List (Str × List Str × Str)) (kk : Str) (d : PyData) : Prop := ∃ (w : AW) (c : Str) (ps : List Str), d = .tuple [.str w.s, .str c, partsD ps] ∧ ps.length ≤ 4 ∧ (∀ k ∈ ps, k ∈ g.kinds) ∧
  ∀ xs is (ts : List Th), Th.kds g cs xs is ts ps → (Th.app w c ts).kd g cs xs is kk
theorem way_form {g : Bk} {cs : List (Str × List Str × Str)} {kk : Str} (ok : BkOk g) : ∀ d ∈ ((g.forms kk).map formD).map foF, IsWay g cs kk d := by
  intro d hd
  obtain ⟨e, he, rfl⟩ := List.mem_map.mp hd
  obtain ⟨⟨c, ps⟩, hx, rfl⟩ := List.mem_map.mp he
  have f := (forms_ok ok kk).ps _ hx
  exact ⟨.form, c, ps, rfl, f.1, f.2, fun xs is ts h => ⟨ps, hx, h⟩⟩
theorem sig_sub {g : Bk} {o : Option Own} : ∀ x ∈ g.calls, x ∈ g.sig o := by
  intro x hx
  rcases o with _ | ⟨f, ks, k, js⟩
  · exact hx
  · exact List.mem_append_left _ hx
theorem way_call {g : Bk} {o : Option Own} {kk : Str} (ok : BkOk g) : ∀ d ∈ ((g.calls.map callD).filter (caK kk)).map caF, IsWay g (g.sig o) kk d := by
  intro d hd
  obtain ⟨e, he, rfl⟩ := List.mem_map.mp hd
  obtain ⟨h1, h2⟩ := List.mem_filter.mp he
  obtain ⟨⟨c, ps, k⟩, hx, rfl⟩ := List.mem_map.mp h1
  have hk : k = kk := of_decide_eq_true h2
  subst hk
  have f := ok.cn _ hx
  exact ⟨.call, c, ps, rfl, f.2.1, f.2.2.1, fun xs is ts h => ⟨ps, sig_sub _ hx, h⟩⟩
theorem ways_pos {g : Bk} {kk : Str} (ok : BkOk g) (hk : kk ∈ g.kinds) : 0 < (((g.forms kk).map formD).map foF ++ ((g.calls.map callD).filter (caK kk)).map caF).length := by
  simp only [Bk.kinds, List.mem_cons, List.not_mem_nil, or_false] at hk
  rcases hk with rfl | rfl | rfl
  · obtain ⟨f, r, e⟩ := ok.c0
    have : ((g.calls.map callD).filter (caK g.a)) ≠ [] := by
      rw [e]
      simp only [List.map_cons, List.filter_cons]
      have : caK g.a (callD (f, [], g.a)) = true := decide_eq_true rfl
      rw [if_pos this]; simp
    have := List.length_pos_iff.mpr this
    simp only [List.length_append, List.length_map]
    omega
  · obtain ⟨n, r, e⟩ := ok.fb0
    have e2 : g.forms g.b = g.fb := by unfold Bk.forms; rw [if_pos rfl]
    rw [e2, e]; simp
  · obtain ⟨n, r, e⟩ := ok.fc0
    have e2 : g.forms g.c = g.fc := by unfold Bk.forms; rw [if_neg (fun h => ok.bc h.symm), if_pos rfl]
    rw [e2]
    rcases e with e | e <;> (rw [e]; simp)
/-- terms told one by one, of the kinds ps -/
theorem terms_of {g : Bk} {cs : List (Str × List Str × Str)} {xs : List (Str × Str)} {is : List Str} {m z : Nat} : ∀ {ps : List Str} {es : List PyData}, es.length = ps.length → (∀ (i : Nat) e, es[i]? = some e → ∃ t : Th, e = t.d ∧ ∃ k, ps[i]? = some k ∧ t.kd g cs xs is k ∧ t.dep ≤ m ∧ t.sz ≤ z) →
    ∃ ts : List Th, es = Th.ds ts ∧ Th.kds g cs xs is ts ps ∧ Th.deps ts ≤ m ∧ Th.szs ts ≤ ps.length * z
  | [], [], _, _ => ⟨[], rfl, True.intro, by simp [Th.deps], by simp [Th.szs]⟩
  | k :: ps, e :: es, hl, h => by
    obtain ⟨t, rfl, k', hk, q, d, s⟩ := h 0 e rfl
    cases hk
    obtain ⟨ts, rfl, q2, d2, s2⟩ := terms_of (ps := ps) (es := es) (by simpa using hl) fun i e he => h (i + 1) e (by simpa using he)
    refine ⟨t :: ts, rfl, ⟨q, q2⟩, by simp only [Th.deps]; omega, ?_⟩
    simp only [Th.szs, List.length_cons, Nat.succ_mul]; omega
  | [], _ :: _, hl, _ => by simp at hl
  | _ :: _, [], hl, _ => by simp at hl
theorem layAll {L : List PyData} (h : ∀ d ∈ L, d.canLay0 = true) : PyData.canLayAll0 L = true := by
  induction L with
  | nil => rfl
  | cons d L ih => simp only [PyData.canLayAll0, Bool.and_eq_true]; exact ⟨h d List.mem_cons_self, ih fun e he => h e (List.mem_cons_of_mem _ he)⟩
theorem use_nextU {H : Hp} {Q : VK} {E : XK} {p : Addr} {n : Int} (hp : H p = some (Stt p)) (h0 : 0 < n) (h1 : n < 1000000000) (h : ∀ (r : Int) H', Same H H' → 0 ≤ r → r < n → Q (.int r) H') : spNext [.ref p, .int n] H Q E := ⟨p, n, rfl, hp, h0, h1, h⟩
theorem bk_keep {K : PySem.W.Frag} {H H' : Hp} {v : V} {g : Bk} (h : BookAt K H v g) (s : Same H H') : BookAt K H' v g := h.mono s
theorem forms_get {K : PySem.W.Frag} {H : Hp} {g : Bk} {lb lc w : V} {kk : Str} (ok : BkOk g) (rb : R K H lb (.list (g.fb.map formD))) (rc : R K H lc (.list (g.fc.map formD))) (rw0 : R K H w (.list [])) :
    R K H ((valV ([(Sum.inr g.b, lb), (Sum.inr g.c, lc)] : List (Key × V)) (Sum.inr kk)).getD w) (.list ((g.forms kk).map formD)) := by
  by_cases h : kk = g.b ∨ kk = g.c
  · obtain ⟨u, e, r⟩ := (val_forms ok rb rc).1 h
    rw [e]; exact r
  · obtain ⟨e, f⟩ := (val_forms (K := K) ok rb rc).2 (fun e => h (.inl e)) (fun e => h (.inr e))
    rw [e, f]; exact rw0
/-- the ways past an if, told once -/
theorem if_join {c : TT} {t : TS} {σ : L2.St} {H : Hp} {nx bk ct : L2.St → Hp → Prop} {rt : VK} (h1 : ∀ P : L2.St → Hp → Prop, (∀ H', Same H H' → P σ H') → tIfS c t tNext ⟨P, rt, bk, ct⟩ σ H) (h2 : ∀ H', Same H H' → nx σ H') : tIfS c t tNext ⟨nx, rt, bk, ct⟩ σ H := h1 nx h2
theorem if_joinA (A : Prop) {c : TT} {t : TS} {σ : L2.St} {H : Hp} {nx bk ct : L2.St → Hp → Prop} {rt : VK} (h1 : ∀ P : L2.St → Hp → Prop, (A → ∀ H', Same H H' → P σ H') → tIfS c t tNext ⟨P, rt, bk, ct⟩ σ H) (h2 : A → ∀ H', Same H H' → nx σ H') : tIfS c t tNext ⟨nx, rt, bk, ct⟩ σ H := h1 nx h2
theorem lcLY {K : PySem.W.Frag} {te : TE} {vs : List Nat} {σ : L2.St} {H : Hp} {Q : VK} {i j : Nat} (f : PyData → PyData) {x : V} {ds : List PyData} (r : R K H x (.list ds)) (hn : ds.length ≤ 1000000) (hw : ∀ x y, wipe (((wipe σ vs).set i (some x)).set j (some y)) vs = wipe σ vs) (hp : ∀ d ∈ ds, ∃ d1 d2, d = .tuple [d1, d2])
    (he : ∀ v1 v2 d1 d2 H1, .tuple [d1, d2] ∈ ds → R K H1 v1 d1 → R K H1 v2 d2 → Same H H1 → ∀ Qt : VK, (∀ y H2, Same H1 H2 → R K H2 y (f (.tuple [d1, d2])) → Qt y H2) → te (((wipe σ vs).set i (some v1)).set j (some v2)) H1 Qt)
    (hq : ∀ v H1, Same H H1 → R K H1 v (.list (ds.map f)) → Q v H1) : LcLT K (g2 K i j) tYes (tHide te) vs σ x H Q := lcL2_f f r hn hw hp he hq
theorem gtup3 {K : PySem.W.Frag} {σ : L2.St} {H : Hp} {Q : L2.St → Hp → Prop} {x : V} {d1 d2 d3 : PyData} {i j l : Nat} (r : R K H x (.tuple [d1, d2, d3])) (h : ∀ v1 v2 v3, R K H v1 d1 → R K H v2 d2 → R K H v3 d3 → Q (((σ.set i (some v1)).set j (some v2)).set l (some v3)) H) :
    gTup K 3 (gCons (gName i) (gCons (gName j) (gCons (gName l) gNil))) x σ H Q := by
  obtain ⟨a, xs, rfl, ha, ra⟩ := r.inv_tup
  obtain ⟨v1, ws, rfl, r1, ra⟩ := ra.inv_cons
  obtain ⟨v2, ws, rfl, r2, ra⟩ := ra.inv_cons
  obtain ⟨v3, ws, rfl, r3, ra⟩ := ra.inv_cons
  obtain rfl := ra.inv_nil
  exact ⟨a, _, rfl, ha, rfl, v1, _, rfl, v2, _, rfl, v3, _, rfl, rfl, h v1 v2 v3 r1 r2 r3⟩
end G

namespace G
open PySem PySem.Spec PyProof.Rows L2
/-- where a part is the first one's kind -/
def ownJs (ps : List Str) (k : Str) : List Nat := (ps.zipIdx.filter fun x => decide (x.1 = k)).map (·.2)
theorem ownJs_mem {ps : List Str} {k : Str} {j : Nat} (h : j ∈ ownJs ps k) : ps[j]? = some k := by
  obtain ⟨⟨x, i⟩, hx, rfl⟩ := List.mem_map.mp h
  obtain ⟨h1, h2⟩ := List.mem_filter.mp hx
  have h3 := List.mem_zipIdx h1
  simp only [Nat.zero_add, Nat.sub_zero] at h3
  have : x = k := of_decide_eq_true h2
  rw [List.getElem?_eq_getElem h3.2.1, ← h3.2.2, this]
theorem ownJs_len (ps : List Str) (k : Str) : (ownJs ps k).length ≤ ps.length := by
  unfold ownJs
  rw [List.length_map]; exact Nat.le_trans (List.length_filter_le _ _) (by rw [List.length_zipIdx]; exact Nat.le_refl _)
theorem ownJs_d (ps : List Str) (k : Str) : (((ps.map PyData.str).zipIdx.filter fun x => inK k x.2 x.1).map fun x => PyData.int ((x.2 : Nat) : Int)) = (ownJs ps k).map fun j : Nat => PyData.int (j : Int) := by
  have : ∀ n, ((((ps.map PyData.str).zipIdx n).filter fun x => inK k x.2 x.1).map fun x => PyData.int ((x.2 : Nat) : Int)) = (((ps.zipIdx n).filter fun x => decide (x.1 = k)).map (·.2)).map fun j : Nat => PyData.int (j : Int) := by
    induction ps with
    | nil => intro n; rfl
    | cons p ps ih =>
      intro n
      simp only [List.map_cons, List.zipIdx_cons, List.filter_cons]
      have e : inK k n (PyData.str p) = decide (p = k) := rfl
      rw [e]
      cases decide (p = k)
      · simpa using ih (n + 1)
      · simpa using ih (n + 1)
  exact this 0
/-- a drawn row: a short function, or a rule of terms, one a form -/
inductive RowOk (g : Bk) (f : Str) : PyData → Str × List Str × Str → Prop
  | short (ks : List Str) (k : Str) (t : Th) : ks.length ≤ 4 → (∀ x ∈ ks, x ∈ g.kinds) → k ∈ g.kinds → t.kd g g.calls [] ks k → t.dep ≤ 4 → t.sz ≤ 53 → RowOk g f (.tuple [.str "short", .str f, partsD ks, .str k, t.d]) (f, ks, k)
  | rule (k0 : Str) (ks : List Str) (k : Str) (ts : List Th) : (k0 = g.b ∨ k0 = g.c) → ks.length ≤ 3 → (∀ x ∈ ks, x ∈ g.kinds) → k ∈ g.kinds → ts.length = (g.forms k0).length →
      (∀ (i : Nat) t x, ts[i]? = some t → (g.forms k0)[i]? = some x → t.kd g (g.sig (some (f, k0 :: ks, k, ownJs x.2 k0))) [] (x.2 ++ ks) k ∧ t.dep ≤ 4 ∧ t.sz ≤ 53) →
      RowOk g f (.tuple [.str "rule", .str f, partsD (k0 :: ks), .str k, .tuple (Th.ds ts)]) (f, k0 :: ks, k)
def spFun (K : PySem.W.Frag) : Sp := fun vs H Q _ => ∃ (p : Addr) (v : V) (g : Bk) (f : Str), vs = [.ref p, v, .str f] ∧ H p = some (Stt p) ∧ BookAt K H v g ∧ BkOk g ∧ isNameS f = true ∧ ∀ u d c H', Same H H' → R K H' u d → RowOk g f d c → Q u H'
theorem use_fun {K : PySem.W.Frag} {H : Hp} {Q : VK} {E : XK} {p : Addr} {v : V} {g : Bk} {f : Str} (hp : H p = some (Stt p)) (hb : BookAt K H v g) (ok : BkOk g) (hf : isNameS f = true) (q : ∀ u d c H', Same H H' → R K H' u d → RowOk g f d c → Q u H') : spFun K [.ref p, v, .str f] H Q E := ⟨p, v, g, f, rfl, hp, hb, ok, hf, q⟩
theorem kinds_of {g : Bk} : ∀ {es : List PyData}, (∀ (i : Nat) e, es[i]? = some e → ∃ z, e = .str z ∧ z ∈ g.kinds) → ∃ ks : List Str, es = ks.map PyData.str ∧ ∀ k ∈ ks, k ∈ g.kinds := fun {es} h =>
  strs_of (P := fun z => z ∈ g.kinds) fun e he => by
    obtain ⟨i, hi⟩ := List.getElem?_of_mem he
    exact h i e hi
theorem ix_bc {K : PySem.W.Frag} {H : Hp} {Q : VK} {x : V} {g : Bk} {i : Int} (r : R K H x (.list (g.kinds.map PyData.str))) (h0 : 1 ≤ i) (h1 : i < 3) (h : ∀ z, z = g.b ∨ z = g.c → Q (.str z) H) : rIx K x (.int i) H Q := by
  rcases (by omega : i = 1 ∨ i = 2) with rfl | rfl
  · exact ix_lstR (d := .str g.b) r (by decide) rfl fun v rv => by rw [rv.inv_str]; exact h _ (.inl rfl)
  · exact ix_lstR (d := .str g.c) r (by decide) rfl fun v rv => by rw [rv.inv_str]; exact h _ (.inr rfl)
section
variable {K : PySem.W.Frag} {te : TE} {ta : TA} {g : TG} {tb : TS} {D : Ends} {σ : L2.St} {H : Hp} {x : V} {ds : List PyData} {i j : Nat} {nx bk ct : L2.St → Hp → Prop} {rt : VK}
theorem for_L2b {Hb : Hp} (Pv : Nat → L2.St → Hp → Prop) (r : R K Hb x (.list ds)) (start : Pv 0 σ H) (keep : ∀ k σ' H', Pv k σ' H' → Same Hb H') (hp : ∀ d ∈ ds, ∃ d1 d2, d = .tuple [d1, d2])
    (turn : ∀ k d1 d2 v1 v2 σ' H', ds[k]? = some (.tuple [d1, d2]) → R K H' v1 d1 → R K H' v2 d2 → Pv k σ' H' → tb ⟨Pv (k + 1), rt, nx, Pv (k + 1)⟩ ((σ'.set i (some v1)).set j (some v2)) H') (fin : ∀ σ' H', Pv ds.length σ' H' → nx σ' H') : ForL K (g2 K i j) tb ⟨nx, rt, bk, ct⟩ σ x H := by
  obtain ⟨a, xs, rfl, ha, ra⟩ := r.inv_lst
  refine ⟨a, rfl, ⟨xs, (keep _ _ _ start).seq (.inl (.inl ha))⟩, ?_⟩
  rw [← ra.length] at fin
  refine for_it (walk_list (K := K) (a := a) (xs := xs)) (g := g2 K i j) (tb := tb) (D := ⟨nx, rt, bk, ct⟩) Pv start (fun k σ' H' _ p => (keep _ _ _ p).seq (.inl (.inl ha))) (fun k y σ' H' H'' hk p q => ?_) fin
  obtain ⟨rfl, hy⟩ := q
  obtain ⟨d, e1, e2⟩ := ra.getV hy
  obtain ⟨d1, d2, rfl⟩ := hp d (List.mem_of_getElem? e1)
  exact gtup2 (e2.mono (keep _ _ _ p)) fun v1 v2 r1 r2 => turn k d1 d2 v1 v2 σ' _ e1 r1 r2 p
end
theorem noLs_strs : ∀ ys : List Str, noLs (ys.map PyData.str) = true
  | [] => rfl
  | y :: ys => by simp [noLs, noL, noLs_strs ys]
end G

namespace G
open PySem PySem.Spec PyProof.Rows L2
/-! lists of one's own, in a heap -/
structure Lk (K : PySem.W.Frag) (H : Hp) (l : Addr) (ds : List PyData) : Prop where
  ex : ∃ xs, H l = some (.lst xs) ∧ RA K H xs ds
  no : noLs ds = true
section
variable {K : PySem.W.Frag} {H H' : Hp} {l m : Addr} {ds es : List PyData} {xs : List V} {kvs : List (Key × V)} {Q : VK} {QH : Hp → Prop} {x y : V} {d : PyData}
theorem Lk.mono (h : Lk K H l ds) (s : Same H H') : Lk K H' l ds := by
  obtain ⟨xs, h1, h2⟩ := h.ex
  exact ⟨⟨xs, s _ _ h1, h2.mono s⟩, h.no⟩
theorem Lk.lx (h : Lk K H l ds) (x : SameX m H H') (hm : Lk K H m es) (ne : l ≠ m) : Lk K H' l ds := by
  obtain ⟨xs, h1, h2⟩ := h.ex
  obtain ⟨ys, h3, _⟩ := hm.ex
  exact ⟨⟨xs, x _ _ ne h1, h2.monoX x h3 h.no⟩, h.no⟩
theorem Lk.dx (h : Lk K H l ds) (x : SameX m H H') (hm : H m = some (.dK kvs)) : Lk K H' l ds := by
  obtain ⟨xs, h1, h2⟩ := h.ex
  exact ⟨⟨xs, x _ _ (fun e => by rw [e, hm] at h1; cases h1) h1, h2.monoD x hm h.no⟩, h.no⟩
theorem Lk.R (h : Lk K H l ds) : R K H (.ref l) (.list ds) := by
  obtain ⟨xs, h1, h2⟩ := h.ex
  exact .lst h1 h2
theorem Lk.of {xs : List V} (h : H l = some (.lst xs)) (r : RA K H xs ds) (n : noLs ds = true) : Lk K H l ds := ⟨⟨xs, h, r⟩, n⟩
theorem Lk.ty (h : Lk K H l ds) {A : Prop} (a : A) : tyV K "list" (.ref l) H ∧ A := by
  obtain ⟨xs, h1, _⟩ := h.ex
  exact st_tyl h1 a
theorem app_L (h : Lk K H l ds) (r : G.R K H y d) (hz : ds.length + 1 ≤ 1000000) (n : noL d = true) (q : ∀ H', SameX l H H' → Lk K H' l (ds ++ [d]) → Q .non H') : rAppend (.ref l) [y] H Q := by
  obtain ⟨xs, h1, h2⟩ := h.ex
  exact appR (K := K) h1 h2 r hz h.no n fun ws H' x hl ra => q H' x ⟨⟨ws, hl, ra⟩, by rw [noLs_append, h.no]; simp [noLs, n]⟩
def rInsert : V → List V → Hp → VK → Prop := fun x vs H Q => ∃ (l : Addr) (xs : List V) (i : Int) (y : V), x = .ref l ∧ vs = [.int i, y] ∧ H l = some (.lst xs) ∧ xs.length < sizeLine ∧ 0 ≤ i ∧ i < 2 ^ 63 ∧ Q .non (upd H l (.lst (xs.take i.toNat ++ [y] ++ xs.drop i.toNat)))
theorem mt_insertR {X : Cx} : MtR X "list.insert" rInsert := mt_insert
theorem noLs_take {n : Nat} : ∀ {ds : List PyData}, noLs ds = true → noLs (ds.take n) = true := by
  induction n with
  | zero => intro ds _; rfl
  | succ n ih => intro ds h; cases ds with | nil => rfl | cons d ds => simp only [List.take_succ_cons, noLs, Bool.and_eq_true] at h ⊢; exact ⟨h.1, ih h.2⟩
theorem noLs_drop {n : Nat} : ∀ {ds : List PyData}, noLs ds = true → noLs (ds.drop n) = true := by
  induction n with
  | zero => intro ds h; exact h
  | succ n ih => intro ds h; cases ds with | nil => rfl | cons d ds => simp only [List.drop_succ_cons, noLs, Bool.and_eq_true] at h ⊢; exact ih h.2
theorem ins_L {i : Int} (h : Lk K H l ds) (r : G.R K H y d) (hz : ds.length ≤ 1000000) (h0 : 0 ≤ i) (h1 : i ≤ 1000000) (n : noL d = true) (q : ∀ H', SameX l H H' → Lk K H' l (ds.take i.toNat ++ [d] ++ ds.drop i.toNat) → Q .non H') : rInsert (.ref l) [.int i, y] H Q := by
  obtain ⟨xs, h2, h3⟩ := h.ex
  have sx : SameX l H (upd H l (.lst (xs.take i.toNat ++ [y] ++ xs.drop i.toNat))) := .upd
  have n2 : noLs (ds.take i.toNat ++ [d] ++ ds.drop i.toNat) = true := by
    rw [noLs_append, noLs_append, noLs_take h.no, noLs_drop h.no]; simp [noLs, n]
  exact ⟨l, xs, i, y, rfl, rfl, h2, Nat.lt_of_le_of_lt (by rw [h3.length]; exact hz) (by decide), h0, by omega, q _ sx ⟨⟨_, upd_same, (((h3.monoX sx h2 h.no).take _).append (.cons (r.monoX sx h2 n) .nil)).append ((h3.monoX sx h2 h.no).drop _)⟩, n2⟩⟩
theorem set0_L {e : PyData} (h : Lk K H l (e :: ds)) (r : G.R K H y d) (n : noL d = true) (q : ∀ H', SameX l H H' → Lk K H' l (d :: ds) → QH H') : rSetL (.ref l) (.int 0) y H QH := by
  obtain ⟨xs, h2, h3⟩ := h.ex
  obtain ⟨v, ws, rfl, r1, rw1⟩ := h3.inv_cons
  have nn := h.no
  simp only [noLs, Bool.and_eq_true] at nn
  have sx : SameX l H (upd H l (.lst (y :: ws))) := .upd
  exact set_at (i := 0) h2 (by simp [ixN]) (q _ sx ⟨⟨_, upd_same, .cons (r.monoX sx h2 n) (rw1.monoX sx h2 nn.2)⟩, by simp [noLs, n, nn.2]⟩)
theorem putG {a : Addr} {z : Str} {v : V} (ha : H a = some (.dK kvs)) (hz : kvs.length ≤ 1000000) (q : ∀ H', SameX a H H' → H' a = some (.dK (putK kvs (Sum.inr z) v)) → QH H') : rSetDK (.ref a) (.str z) v H QH :=
  ⟨a, _, rfl, .inl ⟨kvs, Sum.inr z, ha, rfl, Nat.lt_of_le_of_lt hz (by decide), rfl⟩, q _ .upd upd_same⟩
/-- xs + ys: a list of one's own -/
theorem add_lstF {ds es : List PyData} (r : G.R K H x (.list ds)) (s : G.R K H y (.list es)) (hl : ds.length + es.length ≤ 1000000) (n : noLs (ds ++ es) = true) (h : ∀ p H', H p = none → Same H H' → Lk K H' p (ds ++ es) → Q (.ref p) H') : rAddU K x y H Q := by
  obtain ⟨a, xs, rfl, ha, ra⟩ := r.inv_lst
  obtain ⟨b, ys, rfl, hb, rb⟩ := s.inv_lst
  refine .inr (.inr (.inl ⟨a, b, xs, ys, rfl, rfl, ha, hb, big_le (by rw [ra.length, rb.length]; exact hl), fun p hp => ?_⟩))
  exact h _ _ hp (same_new hp _) ⟨⟨_, upd_same, (ra.append rb).mono (same_new hp _)⟩, n⟩
theorem glst3 {σ : L2.St} {Qs : L2.St → Hp → Prop} {i j k : Nat} {d1 d2 d3 : PyData} (r : G.R K H x (.list [d1, d2, d3])) (h : ∀ v1 v2 v3, G.R K H v1 d1 → G.R K H v2 d2 → G.R K H v3 d3 → Qs (((σ.set i (some v1)).set j (some v2)).set k (some v3)) H) :
    gLst K 3 (gCons (gName i) (gCons (gName j) (gCons (gName k) gNil))) x σ H Qs := by
  obtain ⟨a, xs, rfl, ha, ra⟩ := r.inv_lst
  obtain ⟨v1, ws, rfl, r1, ra⟩ := ra.inv_cons
  obtain ⟨v2, ws, rfl, r2, ra⟩ := ra.inv_cons
  obtain ⟨v3, ws, rfl, r3, ra⟩ := ra.inv_cons
  obtain rfl := ra.inv_nil
  exact ⟨a, _, rfl, .inl (.inl ha), rfl, v1, _, rfl, v2, _, rfl, v3, _, rfl, rfl, h v1 v2 v3 r1 r2 r3⟩
end
theorem if_joinP (Post : Hp → Prop) {c : TT} {t : TS} {σ : L2.St} {H : Hp} {nx bk ct : L2.St → Hp → Prop} {rt : VK} (h1 : ∀ P : L2.St → Hp → Prop, (∀ H', Post H' → P σ H') → tIfS c t tNext ⟨P, rt, bk, ct⟩ σ H) (h2 : ∀ H', Post H' → nx σ H') : tIfS c t tNext ⟨nx, rt, bk, ct⟩ σ H := h1 nx h2
theorem cutD_mid (xs : List PyData) (a b : Nat) (hb : b ≤ xs.length) (hab : a ≤ b) : cutD xs (some (a : Int)) (some (b : Int)) = (xs.drop a).take (b - a) := by
  unfold cutD
  rw [HT.sIx_nat, HT.sIx_nat, Nat.min_eq_left hb, Nat.min_eq_left (Nat.le_trans hab hb)]
/-- the dict of forms: of b and c -/
structure FS (K : PySem.W.Frag) (H : Hp) (F lb lc : Addr) (b c : Str) (fb fc : List (Str × List Str)) : Prop where
  ne : lb ≠ lc
  hF : H F = some (.dK [(Sum.inr b, .ref lb), (Sum.inr c, .ref lc)])
  hb : Lk K H lb (fb.map formD)
  hc : Lk K H lc (fc.map formD)
section
variable {K : PySem.W.Frag} {H H' : Hp} {F lb lc m : Addr} {b c : Str} {fb fc fb' fc' : List (Str × List Str)} {es : List PyData} {kvs : List (Key × V)}
theorem FS.mono (h : FS K H F lb lc b c fb fc) (s : Same H H') : FS K H' F lb lc b c fb fc := ⟨h.ne, s _ _ h.hF, h.hb.mono s, h.hc.mono s⟩
theorem dne {l a : Addr} {H : Hp} (ha : H a = some (.dK kvs)) (h : Lk K H l es) : a ≠ l := fun e => by
  obtain ⟨xs, h1, _⟩ := h.ex
  rw [e, h1] at ha; cases ha
theorem FS.atB (h : FS K H F lb lc b c fb fc) (x : SameX lb H H') (hl : Lk K H' lb (fb'.map formD)) : FS K H' F lb lc b c fb' fc :=
  ⟨h.ne, x _ _ (dne h.hF h.hb) h.hF, hl, h.hc.lx x h.hb (Ne.symm h.ne)⟩
theorem FS.atC (h : FS K H F lb lc b c fb fc) (x : SameX lc H H') (hl : Lk K H' lc (fc'.map formD)) : FS K H' F lb lc b c fb fc' :=
  ⟨h.ne, x _ _ (dne h.hF h.hc) h.hF, h.hb.lx x h.hc h.ne, hl⟩
theorem FS.lx (h : FS K H F lb lc b c fb fc) (x : SameX m H H') (hm : Lk K H m es) (n1 : lb ≠ m) (n2 : lc ≠ m) : FS K H' F lb lc b c fb fc :=
  ⟨h.ne, x _ _ (dne h.hF hm) h.hF, h.hb.lx x hm n1, h.hc.lx x hm n2⟩
theorem FS.dx (h : FS K H F lb lc b c fb fc) (x : SameX m H H') (hm : H m = some (.dK kvs)) (n : F ≠ m) : FS K H' F lb lc b c fb fc :=
  ⟨h.ne, x _ _ n h.hF, h.hb.dx x hm, h.hc.dx x hm⟩
end
theorem noL_form (x : Str × List Str) : noL (formD x) = true := by
  simp [formD, noL, noLs, noLs_strs]
theorem noLs_forms : ∀ fs : List (Str × List Str), noLs (fs.map formD) = true
  | [] => rfl
  | f :: fs => by simp [noLs, noL_form f, noLs_forms fs]
theorem noLs_calls : ∀ cs : List (Str × List Str × Str), noLs (cs.map callD) = true
  | [] => rfl
  | c :: cs => by simp [noLs, callD, noL, noLs_strs, noLs_calls cs]
def spBook (K : PySem.W.Frag) : Sp := fun vs H Q _ => ∃ (p : Addr) (v : V) (zs : List Str), vs = [.ref p, v] ∧ H p = some (Stt p) ∧ R K H v (.list (zs.map PyData.str)) ∧ N42 zs ∧ ∀ u g H', Same H H' → BookAt K H' u g → BkOk g → g.a = zs.getD 0 "" → g.b = zs.getD 1 "" → g.c = zs.getD 2 "" → 1 ≤ g.words.length → Q u H'
theorem n42_at {zs : List Str} (h : N42 zs) {i : Nat} (hi : i < 42) : zs[i]? = some (zs.getD i "") := by
  have hl : i < zs.length := by rw [h.len]; exact hi
  rw [List.getD_eq_getElem?_getD, List.getElem?_eq_getElem hl]; rfl
theorem n42_nm {zs : List Str} (h : N42 zs) {i : Nat} (hi : i < 42) : Nm (zs.getD i "") := h.nm _ (List.mem_of_getElem? (n42_at h hi))
theorem n42_ne {zs : List Str} (h : N42 zs) {i j : Nat} (hi : i < 42) (hj : j < 42) (hij : i ≠ j) : zs.getD i "" ≠ zs.getD j "" := fun e => by
  have a1 := n42_at h hi
  have a2 := n42_at h hj
  rw [← e] at a2
  have hl : i < zs.length := by rw [h.len]; exact hi
  exact hij ((List.getElem?_inj hl h.nd).mp (a1.trans a2.symm))
theorem none_of {H H' : Hp} {a : Addr} (s : Same H H') (h : H' a = none) : H a = none := by
  cases e : H a with
  | none => rfl
  | some o => rw [s _ _ e] at h; cases h
def Disp2 (F : Addr) (x1 y1 x2 y2 : V) (H4 : Hp) (Q : VK) : Prop := H4 F = some (.dK []) ∧ ∃ kvs : List (Key × V), [(x1, y1), (x2, y2)] = kvs.map (fun kv => (kV kv.1, kv.2)) ∧ kvs.length ≤ 15 ∧ Q (.ref F) (upd H4 F (.dK (mergeK [] kvs)))
theorem st_disp2 {K : PySem.W.Frag} {σ : L2.St} {H : Hp} {Q : VK} {tk1 tv1 tk2 tv2 : TE} (h : ∀ F H0, H F = none → Same H H0 → H0 F = some (.dK []) → tk1 σ H0 fun x1 H1 => tv1 σ H1 fun y1 H2 => tk2 σ H2 fun x2 H3 => tv2 σ H3 fun y2 H4 => Disp2 F x1 y1 x2 y2 H4 Q) : tDispK K [(tk1, tv1), (tk2, tv2)] σ H Q :=
  fun F hF => h F _ hF (same_new hF (.dK [])) upd_same
theorem disp2R {F : Addr} {b c : Str} {y1 y2 : V} {H4 : Hp} {Q : VK} (h1 : H4 F = some (.dK [])) (hne : b ≠ c) (q : ∀ H5, SameX F H4 H5 → H5 F = some (.dK [(Sum.inr b, y1), (Sum.inr c, y2)]) → Q (.ref F) H5) : Disp2 F (.str b) y1 (.str c) y2 H4 Q := by
  refine ⟨h1, [(Sum.inr b, y1), (Sum.inr c, y2)], rfl, by simp, q _ .upd ?_⟩
  rw [upd_same]
  have : mergeK [] [(Sum.inr b, y1), (Sum.inr c, y2)] = ([(Sum.inr b, y1), (Sum.inr c, y2)] : List (Key × V)) := by
    simp [mergeK, putK, hne]
  rw [this]
theorem take3 {xs : List PyData} {a b c : PyData} (h0 : xs[0]? = some a) (h1 : xs[1]? = some b) (h2 : xs[2]? = some c) : xs.take 3 = [a, b, c] := by
  match xs, h0, h1, h2 with
  | x :: y :: z :: r, h0, h1, h2 => simp at h0 h1 h2; simp [h0, h1, h2]
  | [x, y], h0, h1, h2 => simp at h2
  | [x], h0, h1, h2 => simp at h1
  | [], h0, h1, h2 => simp at h0
def g0 (a b c : Str) : Bk := ⟨a, b, c, [], [], [], []⟩
structure FbP (a b c : Str) (fb : List (Str × List Str)) : Prop where
  ok : FormsOk (g0 a b c) fb
  hd : ∃ n r, fb = (n, []) :: r
structure FcP (a b c : Str) (fc : List (Str × List Str)) : Prop where
  ok : FormsOk (g0 a b c) fc
  hd : ∃ n r, fc = (n, []) :: r ∨ fc = (n, [a, b]) :: r
theorem fb_0 {a b c n1 n2 : Str} (h1 : isFormS n1 = true) (h2 : isFormS n2 = true) : FbP a b c [(n1, []), (n2, [b])] := by
  refine ⟨⟨by simp, fun x hx => ?_, fun x hx => ?_⟩, _, _, rfl⟩ <;>
  · simp only [List.mem_cons, List.not_mem_nil, or_false] at hx
    rcases hx with rfl | rfl <;> simp [h1, h2, g0, Bk.kinds]
theorem fb_1 {a b c n1 n2 n3 : Str} (h1 : isFormS n1 = true) (h2 : isFormS n2 = true) (h3 : isFormS n3 = true) : FbP a b c ([(n1, []), (n2, [b])] ++ [(n3, [b, b])]) := by
  refine ⟨⟨by simp, fun x hx => ?_, fun x hx => ?_⟩, _, _, rfl⟩ <;>
  · simp only [List.mem_cons, List.not_mem_nil, or_false, List.cons_append, List.nil_append] at hx
    rcases hx with rfl | rfl | rfl <;> simp [h1, h2, h3, g0, Bk.kinds]
theorem fc_mem {a b c n1 n2 n3 : Str} (h1 : isFormS n1 = true) (h2 : isFormS n2 = true) (h3 : isFormS n3 = true) {fc : List (Str × List Str)} (hl : fc.length ≤ 3) (hm : ∀ x ∈ fc, x ∈ [(n1, []), (n2, [b, c]), (n3, [c, a, b, c]), (n1, [a, b])]) : FormsOk (g0 a b c) fc := by
  refine ⟨by omega, fun x hx => ?_, fun x hx => ?_⟩ <;>
  · have hx := hm x hx
    simp only [List.mem_cons, List.not_mem_nil, or_false] at hx
    rcases hx with rfl | rfl | rfl | rfl <;> simp [h1, h2, h3, g0, Bk.kinds]
theorem lcLYn {K : PySem.W.Frag} {te : TE} {vs : List Nat} {σ : L2.St} {H : Hp} {Q : VK} {is : List Nat} (f : PyData → PyData) {x : V} {ds : List PyData} (r : R K H x (.list ds)) (hn : ds.length ≤ 1000000) (hw : ∀ ws, wipe (setAll (wipe σ vs) is ws) vs = wipe σ vs)
    (hp : ∀ d ∈ ds, ∃ cs, d = .tuple cs ∧ cs.length = is.length)
    (he : ∀ ws cs H1, .tuple cs ∈ ds → cs.length = is.length → RA K H1 ws cs → Same H H1 → ∀ Qt : VK, (∀ y H2, Same H1 H2 → R K H2 y (f (.tuple cs)) → Qt y H2) → te (setAll (wipe σ vs) is ws) H1 Qt)
    (hq : ∀ v H1, Same H H1 → R K H1 v (.list (ds.map f)) → Q v H1) : LcLT K (gN K is) tYes (tHide te) vs σ x H Q := by
  obtain ⟨a, ws, rfl, ha, rds⟩ := r.inv_lst
  refine ⟨a, rfl, ⟨ws, .inl (.inl ha)⟩, ?_⟩
  have hlen := rds.length
  refine lcg (K := K) (walk_list (K := K) (a := a) (xs := ws)) (by omega) (fun H' s => s.seq (.inl (.inl ha))) (fun k es => k ≤ ds.length ∧ es = (ds.take k).map f) ⟨Nat.zero_le _, rfl⟩
    (fun i es h => by rw [h.2, List.length_map, List.length_take]; exact Nat.min_le_left _ _) ?_ fun v H1 es s1 r1 hi => hq v H1 s1 (by
      have := hi.2
      rw [hlen, List.take_length] at this
      rw [← this]; exact r1)
  rintro i x Hb D xs es Hy hi sm hb ⟨hk, rfl⟩ ⟨rfl, hx⟩ Qy Qn qy qn
  obtain ⟨d, e1, e2⟩ := rds.getV hx
  obtain ⟨cs, rfl, hcl⟩ := hp d (List.mem_of_getElem? e1)
  obtain ⟨b, zs, rfl, hb2, rb⟩ := (e2.mono sm).inv_tup
  have hzl := rb.length
  have hkl : i < ds.length := (List.getElem?_eq_some_iff.mp e1).1
  have e3 : ds.take (i + 1) = ds.take i ++ [.tuple cs] := by rw [List.take_add_one, e1]; rfl
  refine ⟨b, zs, rfl, (same_new hb _).tup hb2, by rw [hzl, hcl], gNs_of (by rw [hzl, hcl]) ⟨hw _, ?_⟩⟩
  unfold tYes
  dsimp only
  rw [if_pos rfl]
  refine ⟨D, xs, upd_same, ?_⟩
  rw [hide_upd hb]
  exact he zs cs Hb (List.mem_of_getElem? e1) hcl rb sm _ fun y H3 s3 r3 n3 => qy y _ _ n3 s3 r3 ⟨hkl, by rw [e3, List.map_append]; rfl⟩
def giF : PyData → PyData
  | .tuple [.str f, .tuple ps, .str k] => .tuple [.str "given", .str f, .tuple ps, .str k]
  | _ => .none
theorem noLs_gi : ∀ cs : List (Str × List Str × Str), noLs ((cs.map callD).map giF) = true
  | [] => rfl
  | c :: cs => by
    have h := noLs_gi cs
    rw [List.map_cons, List.map_cons, noLs, h]
    simp [callD, giF, noL, noLs, noLs_strs]
theorem st_newTF {K : PySem.W.Frag} {H : Hp} {Q : VK} {xs : List V} (hl : xs.length ≤ 1000000) (h : ∀ p H', H p = none → Same H H' → SqT K H' p xs → Q (.ref p) H') : NewT K xs H Q :=
  ⟨big_le hl, fun p hp => h p _ hp (same_new hp _) (.inl (.inl upd_same))⟩
theorem wipe_in {σ : L2.St} {i : Nat} : ∀ {vs : List Nat}, i ∈ vs → (wipe σ vs)[i]? = (σ[i]?).map fun _ => none
  | v :: vs, h => by
    unfold wipe
    by_cases e : v = i
    · subst e
      rw [List.getElem?_set_self', ]
      by_cases hm : v ∈ vs
      · rw [wipe_in hm]; cases σ[v]? <;> rfl
      · rw [wipe_out hm]; cases σ[v]? <;> rfl
    · rw [List.getElem?_set_ne e]
      exact wipe_in ((List.mem_cons.mp h).resolve_left (Ne.symm e))
theorem setAll_len : ∀ (is : List Nat) (ws : List V) (σ : L2.St), (setAll σ is ws).length = σ.length
  | [], _, _ => by unfold setAll; rfl
  | i :: is, [], _ => by unfold setAll; rfl
  | i :: is, w :: ws, σ => by unfold setAll; rw [setAll_len is ws, List.length_set]
theorem setAll_out {j : Nat} : ∀ (is : List Nat) (ws : List V) (σ : L2.St), j ∉ is → (setAll σ is ws)[j]? = σ[j]?
  | [], _, _, _ => by unfold setAll; rfl
  | i :: is, [], _, _ => by unfold setAll; rfl
  | i :: is, w :: ws, σ, h => by
    unfold setAll
    rw [setAll_out is ws _ (fun e => h (List.mem_cons_of_mem _ e)), List.getElem?_set_ne (fun e => h (by rw [e]; exact List.mem_cons_self))]
theorem hw_all {σ : L2.St} {vs is : List Nat} (h : ∀ i ∈ is, i ∈ vs) (ws : List V) : wipe (setAll (wipe σ vs) is ws) vs = wipe σ vs := by
  apply List.ext_getElem?
  intro j
  by_cases hj : j ∈ vs
  · rw [wipe_in hj, wipe_in hj]
    have hl : (setAll (wipe σ vs) is ws).length = σ.length := by rw [setAll_len, wipe_length]
    by_cases hlt : j < σ.length
    · rw [List.getElem?_eq_getElem (by omega), List.getElem?_eq_getElem hlt]; rfl
    · rw [List.getElem?_eq_none (by omega), List.getElem?_eq_none (by omega)]
  · rw [wipe_out hj, wipe_out hj, setAll_out is ws _ (fun e => hj (h j e)), wipe_out hj]
/-- the book while it is made -/
structure BS (K : PySem.W.Frag) (Hb H : Hp) (x F lb lc C Rw Kd D W : Addr) (g : Bk) (rows : List PyData) (kvs : List (Key × V)) : Prop where
  same : Same Hb H
  tup : SqT K H x [.ref Rw, .ref F, .ref C, .ref Kd, .ref D, .ref W]
  fs : FS K H F lb lc g.b g.c g.fb g.fc
  kC : Lk K H C (g.calls.map callD)
  kR : Lk K H Rw rows
  kK : Lk K H Kd (g.kinds.map PyData.str)
  kD : H D = some (.dK kvs)
  kW : Lk K H W (g.words.map formD)
structure BN (Hb : Hp) (F lb lc C Rw Kd D W : Addr) : Prop where
  nd : [lb, lc, C, Rw, Kd, W].Nodup
  df : D ≠ F
  nC : Hb C = none
  nR : Hb Rw = none
  nD : Hb D = none
  nW : Hb W = none
section
variable {K : PySem.W.Frag} {Hb H H' : Hp} {x F lb lc C Rw Kd D W : Addr} {g : Bk} {rows rows' : List PyData} {kvs : List (Key × V)}
theorem BS.mono (b : BS K Hb H x F lb lc C Rw Kd D W g rows kvs) (s : Same H H') : BS K Hb H' x F lb lc C Rw Kd D W g rows kvs :=
  ⟨b.same.trans s, s.tup b.tup, b.fs.mono s, b.kC.mono s, b.kR.mono s, b.kK.mono s, s _ _ b.kD, b.kW.mono s⟩
theorem BS.at (b : BS K Hb H x F lb lc C Rw Kd D W g rows kvs) : BookAt K H (.ref x) g :=
  ⟨x, .ref Rw, F, .ref lb, .ref lc, .ref C, .ref Kd, .ref D, .ref W, rfl, b.tup, b.fs.hF, b.fs.hb.R, b.fs.hc.R, b.kC.R, b.kK.R, b.kW.R⟩
theorem SameX.tupL {l a : Addr} {ds : List PyData} {ys : List V} (s : SameX l H H') (hl : Lk K H l ds) (h : SqT K H a ys) : SqT K H' a ys := by
  obtain ⟨xs, hl, _⟩ := hl.ex
  rcases h with (h | ⟨o, h⟩) | h
  · exact .inl (.inl (s a _ (fun e => by rw [e, hl] at h; cases h) h))
  · exact .inl (.inr ⟨o, s a _ (fun e => by rw [e, hl] at h; cases h) h⟩)
  · exact .inr h
theorem BS.appC (n : BN Hb F lb lc C Rw Kd D W) (b : BS K Hb H x F lb lc C Rw Kd D W g rows kvs) (s : SameX C H H') {cs : List (Str × List Str × Str)} (h : Lk K H' C (cs.map callD)) : BS K Hb H' x F lb lc C Rw Kd D W { g with calls := cs } rows kvs := by
  have nd := n.nd
  simp only [List.nodup_cons, List.mem_cons, List.not_mem_nil, or_false, not_or] at nd
  exact ⟨SameX.same b.same s n.nC, SameX.tupL s b.kC b.tup, b.fs.lx s b.kC nd.1.2.1 nd.2.1.1, h, b.kR.lx s b.kC (Ne.symm nd.2.2.1.1), b.kK.lx s b.kC (Ne.symm nd.2.2.1.2.1), s _ _ (dne b.kD b.kC) b.kD, b.kW.lx s b.kC (Ne.symm nd.2.2.1.2.2)⟩
theorem BS.appR (n : BN Hb F lb lc C Rw Kd D W) (b : BS K Hb H x F lb lc C Rw Kd D W g rows kvs) (s : SameX Rw H H') (h : Lk K H' Rw rows') : BS K Hb H' x F lb lc C Rw Kd D W g rows' kvs := by
  have nd := n.nd
  simp only [List.nodup_cons, List.mem_cons, List.not_mem_nil, or_false, not_or] at nd
  exact ⟨SameX.same b.same s n.nR, SameX.tupL s b.kR b.tup, b.fs.lx s b.kR nd.1.2.2.1 nd.2.1.2.1, b.kC.lx s b.kR nd.2.2.1.1, h, b.kK.lx s b.kR (Ne.symm nd.2.2.2.1.1), s _ _ (dne b.kD b.kR) b.kD, b.kW.lx s b.kR (Ne.symm nd.2.2.2.1.2)⟩
theorem BS.appW (n : BN Hb F lb lc C Rw Kd D W) (b : BS K Hb H x F lb lc C Rw Kd D W g rows kvs) (s : SameX W H H') {ws : List (Str × List Str)} (h : Lk K H' W (ws.map formD)) : BS K Hb H' x F lb lc C Rw Kd D W { g with words := ws } rows kvs := by
  have nd := n.nd
  simp only [List.nodup_cons, List.mem_cons, List.not_mem_nil, or_false, not_or] at nd
  exact ⟨SameX.same b.same s n.nW, SameX.tupL s b.kW b.tup, b.fs.lx s b.kW nd.1.2.2.2.2 nd.2.1.2.2.2, b.kC.lx s b.kW nd.2.2.1.2.2, b.kR.lx s b.kW nd.2.2.2.1.2, b.kK.lx s b.kW nd.2.2.2.2.1, s _ _ (dne b.kD b.kW) b.kD, h⟩
theorem BS.putD (n : BN Hb F lb lc C Rw Kd D W) (b : BS K Hb H x F lb lc C Rw Kd D W g rows kvs) (s : SameX D H H') {kvs' : List (Key × V)} (h : H' D = some (.dK kvs')) : BS K Hb H' x F lb lc C Rw Kd D W g rows kvs' :=
  ⟨SameX.same b.same s n.nD, s.tupD b.kD b.tup, b.fs.dx s b.kD (Ne.symm n.df), b.kC.dx s b.kD, b.kR.dx s b.kD, b.kK.dx s b.kD, h, b.kW.dx s b.kD⟩
theorem fresh_ne {p l : Addr} {ds : List PyData} (hp : H p = none) (h : Lk K H l ds) : l ≠ p := fun e => by
  obtain ⟨xs, h1, _⟩ := h.ex
  rw [e, hp] at h1; cases h1
end
theorem int_any {b : Bool} {H : Hp} {Q : VK} (h : ∀ i : Int, 0 ≤ i → i ≤ 1 → Q (.int i) H) : rInt1 [.bl b] H Q := .inr ⟨b, rfl, by cases b; exact h 0 (by decide) (by decide); exact h 1 (by decide) (by decide)⟩
theorem noLs_mem {ds : List PyData} : noLs ds = true ↔ ∀ d ∈ ds, noL d = true := by
  induction ds with
  | nil => simp [noLs]
  | cons d ds ih => simp [noLs, ih]
theorem sl_lstF {K : PySem.W.Frag} {H : Hp} {Q : VK} {x : V} {ds : List PyData} {lo hi : Option Int} (r : R K H x (.list ds)) (n : noLs ds = true) (h : ∀ p H', H p = none → Same H H' → Lk K H' p (cutD ds lo hi) → Q (.ref p) H') : rSlU K x lo hi H Q := by
  obtain ⟨a, xs, rfl, ha, ra⟩ := r.inv_lst
  refine .inr (.inl ⟨a, xs, rfl, .inl (.inl ha), fun p hp => h p _ hp (same_new hp _) ⟨⟨_, upd_same, (cut_RA ra lo hi).mono (same_new hp _)⟩, ?_⟩⟩)
  exact noLs_mem.mpr fun d hd => noLs_mem.mp n d (List.mem_of_mem_drop (List.mem_of_mem_take hd))
section
variable {K : PySem.W.Frag} {g : TG} {tb : TS} {D : Ends} {σ : L2.St} {H : Hp} {j : Nat} {nx bk ct : L2.St → Hp → Prop} {rt : VK}
/-- a list that stands, whatever else changes -/
theorem for_LDl {l : Addr} {ds : List PyData} (Pv : Nat → L2.St → Hp → Prop) (start : Pv 0 σ H) (keep : ∀ k σ' H', Pv k σ' H' → Lk K H' l ds)
    (turn : ∀ k d v σ' H', ds[k]? = some d → R K H' v d → Pv k σ' H' → tb ⟨Pv (k + 1), rt, nx, Pv (k + 1)⟩ (σ'.set j (some v)) H') (fin : ∀ σ' H', Pv ds.length σ' H' → nx σ' H')
    (det : ∀ xs, H l = some (.lst xs) → ∀ k σ' H', Pv k σ' H' → H' l = some (.lst xs)) : ForL K (gName j) tb ⟨nx, rt, bk, ct⟩ σ (.ref l) H := by
  obtain ⟨xs, hl, ra⟩ := (keep 0 σ H start).ex
  refine ⟨l, rfl, ⟨xs, .inl (.inl hl)⟩, ?_⟩
  rw [← ra.length] at fin
  refine for_it (walk_list (K := K) (a := l) (xs := xs)) (g := gName j) (tb := tb) (D := ⟨nx, rt, bk, ct⟩) Pv start (fun k σ' H' _ p => .inl (.inl (det xs hl k σ' H' p))) (fun k y σ' H' H'' hk p q => ?_) fin
  obtain ⟨rfl, hy⟩ := q
  obtain ⟨ys, hl2, ra2⟩ := (keep k σ' _ p).ex
  have e := det xs hl k σ' _ p
  rw [e] at hl2
  cases hl2
  obtain ⟨d, e1, e2⟩ := ra2.getV hy
  exact turn k d y σ' _ e1 e2 p
end
theorem bk_call {g : Bk} {c : Str × List Str × Str} (ok : BkOk g) (hc : isNameS c.1 = true ∧ c.2.1.length ≤ 4 ∧ (∀ k ∈ c.2.1, k ∈ g.kinds) ∧ c.2.2 ∈ g.kinds) (hl : (g.calls ++ [c]).length ≤ 100) : BkOk { g with calls := g.calls ++ [c] } := by
  obtain ⟨f, r, e⟩ := ok.c0
  refine ⟨ok.ab, ok.ac, ok.bc, ok.na, ok.nb, ok.nc, ⟨ok.okb.len, ok.okb.nm, ok.okb.ps⟩, ⟨ok.okc.len, ok.okc.nm, ok.okc.ps⟩, ok.fb0, ok.fc0, ⟨f, r ++ [c], by show g.calls ++ [c] = _; rw [e]; rfl⟩, hl, fun x hx => ?_, ok.wl, ok.wn⟩
  rcases List.mem_append.mp hx with h | h
  · exact ok.cn x h
  · rw [List.mem_singleton.mp h]; exact hc
theorem bk_word {g : Bk} {c : Str × List Str} (ok : BkOk g) (hc : isNameS c.1 = true ∧ c.2.length ≤ 4 ∧ ∀ k ∈ c.2, k ∈ g.kinds) (hl : (g.words ++ [c]).length ≤ 100) : BkOk { g with words := g.words ++ [c] } := by
  refine ⟨ok.ab, ok.ac, ok.bc, ok.na, ok.nb, ok.nc, ⟨ok.okb.len, ok.okb.nm, ok.okb.ps⟩, ⟨ok.okc.len, ok.okc.nm, ok.okc.ps⟩, ok.fb0, ok.fc0, ok.c0, ok.cl, ok.cn, hl, fun x hx => ?_⟩
  rcases List.mem_append.mp hx with h | h
  · exact ok.wn x h
  · rw [List.mem_singleton.mp h]; exact hc
theorem row_is {g : Bk} {f : Str} {d : PyData} {c : Str × List Str × Str} (h : RowOk g f d c) : ∃ (w : Str) (ks : List Str) (k : Str) (X : PyData), d = .tuple [.str w, .str f, partsD ks, .str k, X] ∧ c = (f, ks, k) ∧ noL d = true ∧ ks.length ≤ 4 ∧ (∀ x ∈ ks, x ∈ g.kinds) ∧ k ∈ g.kinds := by
  cases h with
  | short ks k t h1 h2 h3 h4 h5 h6 => exact ⟨_, ks, k, _, rfl, rfl, by simp [noL, noLs, noLs_strs, Th.noL], h1, h2, h3⟩
  | rule k0 ks k ts h0 h1 h2 h3 h4 h5 =>
    refine ⟨_, k0 :: ks, k, _, rfl, rfl, by simp [noL, noLs, noLs_strs, Th.noLs], by simp; omega, fun x hx => ?_, h3⟩
    rcases List.mem_cons.mp hx with rfl | hx
    · rcases h0 with rfl | rfl <;> simp [Bk.kinds]
    · exact h2 x hx
/-- a row behind the third one: its word and its name -/
def TailOk (rows : List PyData) : Prop := 3 ≤ rows.length ∧ ∀ d ∈ rows.drop 3, ∃ (w z : Str) (cs : List PyData), d = .tuple (.str w :: .str z :: cs)
theorem tail_app {rows : List PyData} {w z : Str} {cs : List PyData} (h : TailOk rows) : TailOk (rows ++ [.tuple (.str w :: .str z :: cs)]) := by
  refine ⟨by simp; have := h.1; omega, fun d hd => ?_⟩
  rw [List.drop_append_of_le_length h.1] at hd
  rcases List.mem_append.mp hd with h1 | h1
  · exact h.2 d h1
  · rw [List.mem_singleton.mp h1]; exact ⟨w, z, cs, rfl⟩
theorem putK_len {kvs : List (Key × V)} {k : Key} {v : V} : (putK kvs k v).length ≤ kvs.length + 1 := by
  unfold putK
  split
  · rw [List.length_map]; omega
  · rw [List.length_append]; simp
end G

namespace G
open PySem PySem.Spec PyProof.Rows L2
/-- a statement of the book: things, bounds around -/
def Th.kS (g : Bk) (xs : List (Str × Str)) : List Str → Th → Prop
  | _, .fls => True
  | is, .two .same a b => ∃ k, k ∈ g.kinds ∧ a.kd g g.calls xs is k ∧ b.kd g g.calls xs is k
  | is, .app .atom c args => ∃ ps, (c, ps) ∈ g.words ∧ Th.kds g g.calls xs is args ps
  | is, .qua _ k a => k ∈ g.kinds ∧ a.kS g xs (k :: is)
  | is, .two .and a b => a.kS g xs is ∧ b.kS g xs is
  | is, .two .or a b => a.kS g xs is ∧ b.kS g xs is
  | is, .two .iff a b => a.kS g xs is ∧ b.kS g xs is
  | _, _ => False
theorem kinds_name {g : Bk} (ok : BkOk g) {k : Str} (h : k ∈ g.kinds) : isNameS k = true := by
  simp only [Bk.kinds, List.mem_cons, List.not_mem_nil, or_false] at h
  rcases h with rfl | rfl | rfl
  · exact ok.na
  · exact ok.nb
  · exact ok.nc
theorem calls_ok {g : Bk} (ok : BkOk g) : ∀ x ∈ g.calls, isNameS x.1 = true ∧ x.2.1.length ≤ 4 := fun x hx => ⟨(ok.cn x hx).1, (ok.cn x hx).2.1⟩
theorem Th.kS_isS {g : Bk} {xs : List (Str × Str)} (ok : BkOk g) (hx : ∀ x ∈ xs, isNameS x.1 = true) : ∀ (t : Th) {is : List Str}, t.kS g xs is → t.isS (xs.map (·.1)) is.length
  | .fls, _, _ => True.intro
  | .two .same a b, is, h => by
    obtain ⟨k, _, h1, h2⟩ := h
    exact ⟨Th.kd_isT ok (calls_ok ok) hx a h1, Th.kd_isT ok (calls_ok ok) hx b h2⟩
  | .app .atom c args, is, h => by
    obtain ⟨ps, h1, h2⟩ := h
    have q := ok.wn _ h1
    exact ⟨q.1, by rw [kds_len h2]; exact q.2.1, Th.kds_areT ok (calls_ok ok) hx args h2⟩
  | .qua w k a, is, h => ⟨kinds_name ok h.1, Th.kS_isS ok hx a h.2⟩
  | .two .and a b, is, h => ⟨Th.kS_isS ok hx a h.1, Th.kS_isS ok hx b h.2⟩
  | .two .or a b, is, h => ⟨Th.kS_isS ok hx a h.1, Th.kS_isS ok hx b h.2⟩
  | .two .iff a b, is, h => ⟨Th.kS_isS ok hx a h.1, Th.kS_isS ok hx b h.2⟩
def szD : Nat → Nat
  | 0 => 213
  | n + 1 => 1 + 2 * szD n
theorem szD_pos (n : Nat) : 213 ≤ szD n := by cases n with | zero => decide | succ n => have := szD_pos n; simp only [szD]; omega
def spSaid (K : PySem.W.Frag) (n : Nat) : Sp := fun vs H Q _ => ∃ (p : Addr) (v vt vi : V) (g : Bk) (xs : List (Str × Str)) (is : List Str) (e : Int), vs = [.ref p, v, vt, vi, .int e] ∧ H p = some (Stt p) ∧ BookAt K H v g ∧ BkOk g ∧ 1 ≤ g.words.length ∧
  R K H vt (.list (xs.map thingD)) ∧ R K H vi (.list (is.map PyData.str)) ∧ xs.length ≤ 100 ∧ is.length + e.toNat ≤ 100 ∧ (∀ x ∈ xs, isNameS x.1 = true) ∧ 0 ≤ e ∧ e < n ∧
  ∀ u t H', Same H H' → R K H' u (Th.d t) → t.kS g xs is → t.dep ≤ e.toNat + 5 → t.sz ≤ szD e.toNat → Q u H'
section
variable {K : PySem.W.Frag} {H : Hp} {Q : VK} {E : XK} {p : Addr} {v vt vi : V} {g : Bk} {xs : List (Str × Str)} {is : List Str} {e : Int} {n : Nat}
theorem use_said (hp : H p = some (Stt p)) (hb : BookAt K H v g) (ok : BkOk g) (hw : 1 ≤ g.words.length) (rt : R K H vt (.list (xs.map thingD))) (ri : R K H vi (.list (is.map PyData.str))) (lx : xs.length ≤ 100) (li : is.length + e.toNat ≤ 100) (nx : ∀ x ∈ xs, isNameS x.1 = true)
    (h0 : 0 ≤ e) (h1 : e < n) (q : ∀ u t H', Same H H' → R K H' u (Th.d t) → t.kS g xs is → t.dep ≤ e.toNat + 5 → t.sz ≤ szD e.toNat → Q u H') : spSaid K n [.ref p, v, vt, vi, .int e] H Q E :=
  ⟨p, v, vt, vi, g, xs, is, e, rfl, hp, hb, ok, hw, rt, ri, lx, li, nx, h0, h1, q⟩
end
def rMin2 : List V → Hp → VK → Prop := fun xs H Q => ∃ i j, xs = [.int i, .int j] ∧ Q (.int (if j < i then j else i)) H
theorem call_min2R {X : Cx} (hc : X.calm = true) : CallR X (.builtin "min") rMin2 := call_min2 hc
theorem minR {i j : Int} {H : Hp} {Q : VK} (h : ∀ m : Int, m ≤ i → m ≤ j → (m = i ∨ m = j) → Q (.int m) H) : rMin2 [.int i, .int j] H Q := ⟨i, j, rfl, h _ (by split <;> omega) (by split <;> omega) (by split <;> simp)⟩
theorem szK_mono {m n : Nat} (h : m ≤ n) : szK m ≤ szK n := by
  induction h with
  | refl => exact Nat.le_refl _
  | step _ ih => simp only [szK]; omega
end G

namespace G
open PySem PySem.Spec PyProof.Rows L2
mutual
/-- t in the place of each free x -/
def Th.plant : Th → Str → Th → Th
  | .free y, x, t => if y = x then t else .free y
  | .bnd k, _, _ => .bnd k
  | .fls, _, _ => .fls
  | .app w c args, x, t => .app w c (Th.plants args x t)
  | .qua w k a, x, t => .qua w k (a.plant x t)
  | .two w a b, x, t => .two w (a.plant x t) (b.plant x t)
def Th.plants : List Th → Str → Th → List Th
  | [], _, _ => []
  | a :: as, x, t => a.plant x t :: Th.plants as x t
end
theorem Th.plants_map (x : Str) (t : Th) : ∀ ts : List Th, Th.plants ts x t = ts.map fun u => u.plant x t
  | [] => rfl
  | a :: as => by rw [Th.plants, Th.plants_map x t as]; rfl
theorem eqv_free {x : Str} : ∀ u : Th, PyData.eqv u.d (Th.free x).d = (match u with | .free y => decide (y = x) | _ => false)
  | .free y => eqv_ff y x
  | .bnd k => eqv_bf x k
  | .fls => by simp [Th.d, PyData.eqv, PyData.eqvAll]
  | .app w c args => by simp [Th.d, PyData.eqv, PyData.eqvAll]
  | .qua w k a => by simp [Th.d, PyData.eqv, PyData.eqvAll]
  | .two w a b => by simp [Th.d, PyData.eqv, PyData.eqvAll]
mutual
theorem Th.plant_isT {F : List Str} {n : Nat} {x : Str} {t : Th} (ht : t.isT F n) : ∀ u : Th, u.isT (x :: F) n → (u.plant x t).isT F n
  | .free y, h => by
    unfold Th.plant
    by_cases e : y = x
    · rw [if_pos e]; exact ht
    · rw [if_neg e]; exact ⟨(show isNameS y = true ∧ y ∈ x :: F from h).1, (List.mem_cons.mp (show isNameS y = true ∧ y ∈ x :: F from h).2).resolve_left e⟩
  | .bnd k, h => h
  | .app .form c args, h => ⟨h.1, by rw [Th.plants_map, List.length_map]; exact h.2.1, Th.plants_areT ht args h.2.2⟩
  | .app .call c args, h => ⟨h.1, by rw [Th.plants_map, List.length_map]; exact h.2.1, Th.plants_areT ht args h.2.2⟩
theorem Th.plants_areT {F : List Str} {n : Nat} {x : Str} {t : Th} (ht : t.isT F n) : ∀ us : List Th, Th.areT (x :: F) n us → Th.areT F n (Th.plants us x t)
  | [], _ => True.intro
  | u :: us, h => ⟨Th.plant_isT ht u h.1, Th.plants_areT ht us h.2⟩
end
theorem Th.plant_isS {F : List Str} {x : Str} {t : Th} (ht : t.isT F 0) : ∀ (u : Th) {n : Nat}, u.isS (x :: F) n → (u.plant x t).isS F n
  | .fls, _, _ => True.intro
  | .two .same a b, n, h => ⟨Th.plant_isT (Th.isT_mono (Nat.zero_le n) ht) a h.1, Th.plant_isT (Th.isT_mono (Nat.zero_le n) ht) b h.2⟩
  | .app .atom c args, n, h => ⟨h.1, by rw [Th.plants_map, List.length_map]; exact h.2.1, Th.plants_areT (Th.isT_mono (Nat.zero_le n) ht) args h.2.2⟩
  | .two .and a b, n, h => ⟨Th.plant_isS ht a h.1, Th.plant_isS ht b h.2⟩
  | .two .or a b, n, h => ⟨Th.plant_isS ht a h.1, Th.plant_isS ht b h.2⟩
  | .two .iff a b, n, h => ⟨Th.plant_isS ht a h.1, Th.plant_isS ht b h.2⟩
  | .qua w k a, n, h => ⟨h.1, Th.plant_isS ht a h.2⟩
mutual
theorem Th.plant_dep (x : Str) (t : Th) : ∀ u : Th, (u.plant x t).dep ≤ u.dep + t.dep
  | .free y => by unfold Th.plant; split <;> simp [Th.dep]
  | .bnd k => by simp [Th.plant, Th.dep]
  | .fls => by simp [Th.plant, Th.dep]
  | .app w c args => by have := Th.plants_dep x t args; simp only [Th.plant, Th.dep]; omega
  | .qua w k a => by have := Th.plant_dep x t a; simp only [Th.plant, Th.dep]; omega
  | .two w a b => by have := Th.plant_dep x t a; have := Th.plant_dep x t b; simp only [Th.plant, Th.dep]; omega
theorem Th.plants_dep (x : Str) (t : Th) : ∀ us : List Th, Th.deps (Th.plants us x t) ≤ Th.deps us + t.dep
  | [] => by simp [Th.plants, Th.deps]
  | u :: us => by have := Th.plant_dep x t u; have := Th.plants_dep x t us; simp only [Th.plants, Th.deps]; omega
end
mutual
theorem Th.plant_sz (x : Str) (t : Th) : ∀ u : Th, (u.plant x t).sz ≤ u.sz * t.sz
  | .free y => by have := t.sz_pos; unfold Th.plant; split <;> simp [Th.sz]; omega
  | .bnd k => by have := t.sz_pos; simp [Th.plant, Th.sz]; omega
  | .fls => by have := t.sz_pos; simp [Th.plant, Th.sz]; omega
  | .app w c args => by have := t.sz_pos; have := Th.plants_sz x t args; simp only [Th.plant, Th.sz, Nat.add_mul]; omega
  | .qua w k a => by have := t.sz_pos; have := Th.plant_sz x t a; simp only [Th.plant, Th.sz, Nat.add_mul]; omega
  | .two w a b => by have := t.sz_pos; have := Th.plant_sz x t a; have := Th.plant_sz x t b; simp only [Th.plant, Th.sz, Nat.add_mul]; omega
theorem Th.plants_sz (x : Str) (t : Th) : ∀ us : List Th, Th.szs (Th.plants us x t) ≤ Th.szs us * t.sz
  | [] => by simp [Th.plants, Th.szs]
  | u :: us => by have := Th.plant_sz x t u; have := Th.plants_sz x t us; simp only [Th.plants, Th.szs, Nat.add_mul]; omega
end
def spPlant (K : PySem.W.Frag) (m : Nat) : Sp := fun vs H Q _ => ∃ (v vt : V) (u t : Th) (x : Str), vs = [v, .str x, vt] ∧ R K H v u.d ∧ R K H vt t.d ∧ isNameS x = true ∧ u.d.canLay0 = true ∧ u.dep ≤ m ∧ u.sz ≤ 100000 ∧ ∀ y H', Same H H' → R K H' y (u.plant x t).d → Q y H'
theorem use_plant {K : PySem.W.Frag} {m : Nat} {H : Hp} {Q : VK} {E : XK} {v vt : V} {u t : Th} {x : Str} (r : R K H v u.d) (rt : R K H vt t.d) (hx : isNameS x = true) (lay : u.d.canLay0 = true) (hd : u.dep ≤ m) (hz : u.sz ≤ 100000) (h : ∀ y H', Same H H' → R K H' y (u.plant x t).d → Q y H') : spPlant K m [v, .str x, vt] H Q E := ⟨v, vt, u, t, x, rfl, r, rt, hx, lay, hd, hz, h⟩
end G

namespace G
open PySem PySem.Spec PyProof.Rows L2
/-- the args of a form or a call -/
def Th.args : Th → List Th
  | .app .form _ as => as
  | .app .call _ as => as
  | _ => []
/-- the terms of a statement, from the left -/
def Th.termsOf : Th → List Th
  | .two .same a b => [a, b]
  | .app .atom _ args => args
  | .qua _ _ a => a.termsOf
  | .two .and a b => a.termsOf ++ b.termsOf
  | .two .or a b => a.termsOf ++ b.termsOf
  | .two .iff a b => a.termsOf ++ b.termsOf
  | _ => []
def spArgs (K : PySem.W.Frag) : Sp := fun vs H Q _ => ∃ (v : V) (t : Th) (F : List Str) (b : Nat), vs = [v] ∧ R K H v t.d ∧ t.isT F b ∧ ∀ y H', Same H H' → R K H' y (.tuple (Th.ds t.args)) → Q y H'
def spTermsOf (K : PySem.W.Frag) (m : Nat) : Sp := fun vs H Q _ => ∃ (v : V) (t : Th) (F : List Str) (b : Nat), vs = [v] ∧ R K H v t.d ∧ t.isS F b ∧ t.dep ≤ m ∧ t.sz ≤ 400000 ∧ ∀ p H', H p = none → Same H H' → Lk K H' p (Th.ds t.termsOf) → Q (.ref p) H'
theorem use_args {K : PySem.W.Frag} {H : Hp} {Q : VK} {E : XK} {v : V} {t : Th} {F : List Str} {b : Nat} (r : R K H v t.d) (ht : t.isT F b) (h : ∀ y H', Same H H' → R K H' y (.tuple (Th.ds t.args)) → Q y H') : spArgs K [v] H Q E := ⟨v, t, F, b, rfl, r, ht, h⟩
theorem use_termsOfF {K : PySem.W.Frag} {m : Nat} {H : Hp} {Q : VK} {E : XK} {v : V} {t : Th} {F : List Str} {b : Nat} (r : R K H v t.d) (ht : t.isS F b) (hd : t.dep ≤ m) (hz : t.sz ≤ 400000) (h : ∀ p H', H p = none → Same H H' → Lk K H' p (Th.ds t.termsOf) → Q (.ref p) H') : spTermsOf K m [v] H Q E := ⟨v, t, F, b, rfl, r, ht, hd, hz, h⟩
theorem use_termsOf {K : PySem.W.Frag} {m : Nat} {H : Hp} {Q : VK} {E : XK} {v : V} {t : Th} {F : List Str} {b : Nat} (r : R K H v t.d) (ht : t.isS F b) (hd : t.dep ≤ m) (hz : t.sz ≤ 400000) (h : ∀ y H', Same H H' → R K H' y (.list (Th.ds t.termsOf)) → Q y H') : spTermsOf K m [v] H Q E := ⟨v, t, F, b, rfl, r, ht, hd, hz, fun p H' _ s k => h _ H' s k.R⟩
theorem Th.termsOf_len {F : List Str} : ∀ (t : Th) {n : Nat}, t.isS F n → t.termsOf.length ≤ t.sz
  | .fls, _, _ => by simp [Th.termsOf]
  | .two .same a b, _, _ => by have := a.sz_pos; have := b.sz_pos; simp [Th.termsOf, Th.sz]; omega
  | .app .atom c args, _, _ => by have := len_szs args; simp [Th.termsOf, Th.sz]; omega
  | .qua w k a, _, h => by have := Th.termsOf_len a h.2; simp only [Th.termsOf, Th.sz]; omega
  | .two .and a b, _, h => by have := Th.termsOf_len a h.1; have := Th.termsOf_len b h.2; simp only [Th.termsOf, Th.sz, List.length_append]; omega
  | .two .or a b, _, h => by have := Th.termsOf_len a h.1; have := Th.termsOf_len b h.2; simp only [Th.termsOf, Th.sz, List.length_append]; omega
  | .two .iff a b, _, h => by have := Th.termsOf_len a h.1; have := Th.termsOf_len b h.2; simp only [Th.termsOf, Th.sz, List.length_append]; omega
theorem ds_app (xs ys : List Th) : Th.ds (xs ++ ys) = Th.ds xs ++ Th.ds ys := by rw [Th.ds_map, Th.ds_map, Th.ds_map, List.map_append]
end G

namespace G
open PySem PySem.Spec PyProof.Rows L2
/-- a statement with other terms -/
def Th.withTs : Th → List Th → Th
  | .two .same _ _, ts => .two .same (ts.getD 0 .fls) (ts.getD 1 .fls)
  | .app .atom c _, ts => .app .atom c ts
  | .qua w k a, ts => .qua w k (a.withTs ts)
  | .two .and a b, ts => .two .and (a.withTs (ts.take a.termsOf.length)) (b.withTs (ts.drop a.termsOf.length))
  | .two .or a b, ts => .two .or (a.withTs (ts.take a.termsOf.length)) (b.withTs (ts.drop a.termsOf.length))
  | .two .iff a b, ts => .two .iff (a.withTs (ts.take a.termsOf.length)) (b.withTs (ts.drop a.termsOf.length))
  | t, _ => t
def spWithTs (K : PySem.W.Frag) (m : Nat) : Sp := fun vs H Q _ => ∃ (v vl : V) (t : Th) (ts : List Th) (F : List Str) (b : Nat), vs = [v, vl] ∧ R K H v t.d ∧ R K H vl (.list (Th.ds ts)) ∧ t.isS F b ∧ ts.length = t.termsOf.length ∧ t.dep ≤ m ∧ t.sz ≤ 400000 ∧ ∀ y H', Same H H' → R K H' y (t.withTs ts).d → Q y H'
theorem use_withTs {K : PySem.W.Frag} {m : Nat} {H : Hp} {Q : VK} {E : XK} {v vl : V} {t : Th} {ts : List Th} {F : List Str} {b : Nat} (r : R K H v t.d) (rl : R K H vl (.list (Th.ds ts))) (ht : t.isS F b) (hl : ts.length = t.termsOf.length) (hd : t.dep ≤ m) (hz : t.sz ≤ 400000) (h : ∀ y H', Same H H' → R K H' y (t.withTs ts).d → Q y H') : spWithTs K m [v, vl] H Q E :=
  ⟨v, vl, t, ts, F, b, rfl, r, rl, ht, hl, hd, hz, h⟩
theorem cut_to_ds (ts : List Th) (n : Nat) : cutD (Th.ds ts) none (some (n : Int)) = Th.ds (ts.take n) := by rw [cutD_to, Th.ds_map, Th.ds_map, List.map_take]
theorem cut_from_ds (ts : List Th) (n : Nat) : cutD (Th.ds ts) (some (n : Int)) none = Th.ds (ts.drop n) := by rw [cutD_from, Th.ds_map, Th.ds_map, List.map_drop]
end G

namespace G
open PySem PySem.Spec PyProof.Rows L2
def pls (ks : List Nat) : PyData := .tuple (ks.map fun i => .int (i : Nat))
def Th.withP : Th → List Nat → Th → Th
  | _, [], o => o
  | .app w c args, k :: ks, o => .app w c (args.take k ++ [((args.getD k .fls).withP ks o)] ++ args.drop (k + 1))
  | t, _ :: _, _ => t
/-- a place that is there: whole by args -/
def Th.okP : Th → List Nat → Prop
  | _, [] => True
  | .app _ _ args, k :: ks => k < args.length ∧ (args.getD k .fls).okP ks
  | _, _ :: _ => False
theorem isT_app {F : List Str} {b : Nat} {w : AW} {c : Str} {args : List Th} (h : (Th.app w c args).isT F b) : args.length ≤ 4 ∧ ∀ a ∈ args, a.isT F b := by
  cases w with
  | form => exact ⟨h.2.1, Th.areT_all.mp h.2.2⟩
  | call => exact ⟨h.2.1, Th.areT_all.mp h.2.2⟩
  | atom => exact absurd h (by intro h; exact h)
def spWith (K : PySem.W.Frag) (m : Nat) : Sp := fun vs H Q _ => ∃ (v vp vo : V) (t o : Th) (ks : List Nat) (F : List Str) (b : Nat), vs = [v, vp, vo] ∧ R K H v t.d ∧ R K H vp (pls ks) ∧ R K H vo o.d ∧ t.okP ks ∧ ks.length < m ∧ ks.length ≤ 1000 ∧ t.isT F b ∧ ∀ x H', Same H H' → R K H' x (t.withP ks o).d → Q x H'
theorem use_with {K : PySem.W.Frag} {m : Nat} {H : Hp} {Q : VK} {E : XK} {v vp vo : V} {t o : Th} {ks : List Nat} {F : List Str} {b : Nat} (r : R K H v t.d) (rp : R K H vp (pls ks)) (ro : R K H vo o.d) (ok : t.okP ks) (hm : ks.length < m) (hm' : ks.length ≤ 1000) (hz : t.isT F b)
    (h : ∀ x H', Same H H' → R K H' x (t.withP ks o).d → Q x H') : spWith K m [v, vp, vo] H Q E := ⟨v, vp, vo, t, o, ks, F, b, rfl, r, rp, ro, ok, hm, hm', hz, h⟩
theorem Th.withP_okP : ∀ (ks : List Nat) (t o : Th), t.okP ks → (t.withP ks o).okP ks
  | [], t, o, h => True.intro
  | k :: ks, .app w c args, o, h => by
    obtain ⟨h1, h2⟩ := h
    have e : (args.take k ++ [(args.getD k .fls).withP ks o] ++ args.drop (k + 1)).getD k .fls = (args.getD k .fls).withP ks o := by
      rw [List.getD_eq_getElem?_getD, List.append_assoc, List.getElem?_append_right (by simp; omega)]
      simp [List.length_take, Nat.min_eq_left (Nat.le_of_lt h1)]
    refine ⟨by simp [List.length_take, List.length_drop]; omega, ?_⟩
    rw [e]
    exact Th.withP_okP ks _ o h2
theorem tkset {args : List Th} {k : Nat} {x : Th} (h : k < args.length) : args.take k ++ [x] ++ args.drop (k + 1) = args.set k x := by
  rw [List.set_eq_take_append_cons_drop, if_pos h, List.append_assoc]; rfl
theorem Th.withP_app {w : AW} {c : Str} {args : List Th} {k : Nat} {ks : List Nat} {o : Th} (h : k < args.length) : (Th.app w c args).withP (k :: ks) o = .app w c (args.set k ((args.getD k .fls).withP ks o)) := by
  rw [Th.withP, tkset h]
theorem deps_set {m : Nat} {ts : List Th} {k : Nat} {x : Th} (h : Th.deps ts ≤ m) (hx : x.dep ≤ m) : Th.deps (ts.set k x) ≤ m := Th.deps_le.mpr fun t ht => by
  rcases List.mem_or_eq_of_mem_set ht with h1 | h1
  · exact Th.deps_le.mp h t h1
  · rw [h1]; exact hx
theorem szs_set {x : Th} : ∀ (ts : List Th) (k : Nat), Th.szs (ts.set k x) ≤ Th.szs ts + x.sz
  | [], k => Nat.zero_le _
  | t :: ts, 0 => by simp only [List.set_cons_zero, Th.szs]; omega
  | t :: ts, k + 1 => by have := szs_set (x := x) ts k; simp only [List.set_cons_succ, Th.szs]; omega
theorem Th.withP_is {F : List Str} {b : Nat} {o : Th} (ho : o.isT F b) : ∀ (ks : List Nat) (t : Th), t.isT F b → t.okP ks → (t.withP ks o).isT F b
  | [], t, it, h => by rw [Th.withP]; exact ho
  | k :: ks, .app .form c args, it, h => by
    obtain ⟨h1, h2⟩ := h
    rw [Th.withP_app h1]
    have ha := Th.areT_all.mp it.2.2
    refine ⟨it.1, by rw [List.length_set]; exact it.2.1, Th.areT_all.mpr fun t ht => ?_⟩
    rcases List.mem_or_eq_of_mem_set ht with h3 | h3
    · exact ha t h3
    · rw [h3]
      exact Th.withP_is ho ks _ (ha _ (by rw [List.getD_eq_getElem?_getD, List.getElem?_eq_getElem h1]; exact List.getElem_mem h1)) h2
  | k :: ks, .app .call c args, it, h => by
    obtain ⟨h1, h2⟩ := h
    rw [Th.withP_app h1]
    have ha := Th.areT_all.mp it.2.2
    refine ⟨it.1, by rw [List.length_set]; exact it.2.1, Th.areT_all.mpr fun t ht => ?_⟩
    rcases List.mem_or_eq_of_mem_set ht with h3 | h3
    · exact ha t h3
    · rw [h3]
      exact Th.withP_is ho ks _ (ha _ (by rw [List.getD_eq_getElem?_getD, List.getElem?_eq_getElem h1]; exact List.getElem_mem h1)) h2
theorem Th.withP_dep {o : Th} : ∀ (ks : List Nat) (t : Th), t.okP ks → (t.withP ks o).dep ≤ t.dep + o.dep
  | [], t, h => by rw [Th.withP]; omega
  | k :: ks, .app w c args, h => by
    obtain ⟨h1, h2⟩ := h
    rw [Th.withP_app h1]
    have hm : args.getD k .fls ∈ args := by rw [List.getD_eq_getElem?_getD, List.getElem?_eq_getElem h1]; exact List.getElem_mem h1
    have h3 := Th.deps_le.mp (Nat.le_refl (Th.deps args)) _ hm
    have h4 := Th.withP_dep (o := o) ks _ h2
    have := deps_set (m := Th.deps args + o.dep) (ts := args) (k := k) (x := (args.getD k .fls).withP ks o) (by omega) (by omega)
    simp only [Th.dep]
    omega
theorem Th.withP_sz {o : Th} : ∀ (ks : List Nat) (t : Th), t.okP ks → (t.withP ks o).sz ≤ t.sz * (ks.length + 1) + o.sz
  | [], t, h => by rw [Th.withP]; omega
  | k :: ks, .app w c args, h => by
    obtain ⟨h1, h2⟩ := h
    rw [Th.withP_app h1]
    have hm : args.getD k .fls ∈ args := by rw [List.getD_eq_getElem?_getD, List.getElem?_eq_getElem h1]; exact List.getElem_mem h1
    have h3 := sz_mem hm
    have h4 := Th.withP_sz (o := o) ks _ h2
    have h5 := szs_set (x := (args.getD k .fls).withP ks o) args k
    have h6 := Nat.mul_le_mul_right (ks.length + 1) h3
    simp only [Th.sz, List.length_cons]
    rw [Nat.mul_succ, Nat.add_mul]
    omega
theorem pls_lay : ∀ ks : List Nat, (pls ks).canLay0 = true := fun ks => by
  have : ∀ ks : List Nat, PyData.canLayAll0 (ks.map fun i => .int (i : Nat)) = true := by
    intro ks
    induction ks with
    | nil => rfl
    | cons k ks ih => simp [PyData.canLayAll0, PyData.canLay0, ih]
  simpa [pls, PyData.canLay0] using this ks
theorem eqv_pls_cons (k : Nat) (ks : List Nat) : PyData.eqv (pls (k :: ks)) (.tuple []) = false := by simp [pls, PyData.eqv, PyData.eqvAll]
theorem sum_sz' (ts : List Th) : (ts.map fun p => ((p.sz : Nat) : Int)).sum = (Th.szs ts : Nat) := by
  induction ts with
  | nil => rfl
  | cons t ts ih => simp only [List.map_cons, List.sum_cons, Th.szs, ih]; omega
end G

namespace G
open PySem PySem.Spec PyProof.Rows L2
mutual
/-- where a term stands, from the left, none within another -/
def Th.spots : Th → Th → List (List Nat)
  | .app w c as, one => bif PyData.eqv (Th.app w c as).d one.d then [[]] else Th.spotsL as 0 one
  | t, one => bif PyData.eqv t.d one.d then [[]] else []
def Th.spotsL : List Th → Nat → Th → List (List Nat)
  | [], _, _ => []
  | a :: as, i, one => (a.spots one).map (i :: ·) ++ Th.spotsL as (i + 1) one
end
theorem Th.spotsL_snoc : ∀ (as : List Th) (i : Nat) (a one : Th), Th.spotsL (as ++ [a]) i one = Th.spotsL as i one ++ (a.spots one).map ((i + as.length) :: ·)
  | [], i, a, one => by simp [Th.spotsL]
  | b :: as, i, a, one => by
    rw [List.cons_append, Th.spotsL, Th.spotsL_snoc as (i + 1) a one, Th.spotsL, List.append_assoc]
    have : i + 1 + as.length = i + (b :: as).length := by simp; omega
    rw [this]
mutual
theorem Th.spots_len : ∀ (t one : Th), (t.spots one).length ≤ t.sz
  | .app w c as, one => by
    have h := Th.spotsL_len as 0 one
    unfold Th.spots
    cases PyData.eqv (Th.app w c as).d one.d
    · show (Th.spotsL as 0 one).length ≤ _; simp only [Th.sz]; omega
    · show 1 ≤ _; simp only [Th.sz]; omega
  | .free x, one => by unfold Th.spots; cases PyData.eqv (Th.free x).d one.d <;> simp [Th.sz]
  | .bnd x, one => by unfold Th.spots; cases PyData.eqv (Th.bnd x).d one.d <;> simp [Th.sz]
  | .fls, one => by unfold Th.spots; cases PyData.eqv Th.fls.d one.d <;> simp [Th.sz]
  | .qua w c a, one => by unfold Th.spots; cases PyData.eqv (Th.qua w c a).d one.d <;> simp [Th.sz]
  | .two w a b, one => by unfold Th.spots; cases PyData.eqv (Th.two w a b).d one.d <;> simp [Th.sz]
theorem Th.spotsL_len : ∀ (as : List Th) (i : Nat) (one : Th), (Th.spotsL as i one).length ≤ Th.szs as
  | [], _, _ => by simp [Th.spotsL]
  | a :: as, i, one => by
    have h1 := Th.spots_len a one
    have h2 := Th.spotsL_len as (i + 1) one
    rw [Th.spotsL, List.length_append, List.length_map, Th.szs]; omega
end
theorem Th.spots_args {F : List Str} {b : Nat} (t one : Th) (ht : t.isT F b) : t.spots one = bif PyData.eqv t.d one.d then [[]] else Th.spotsL t.args 0 one := by
  cases t with
  | app w c as => cases w with
    | atom => exact absurd ht (by intro h; exact h)
    | form | call => unfold Th.spots; rfl
  | free x => unfold Th.spots; cases PyData.eqv (Th.free x).d one.d <;> simp [Th.args, Th.spotsL]
  | bnd x => unfold Th.spots; cases PyData.eqv (Th.bnd x).d one.d <;> simp [Th.args, Th.spotsL]
  | fls => exact absurd ht (by intro h; exact h)
  | qua w c a => exact absurd ht (by intro h; exact h)
  | two w a b => exact absurd ht (by intro h; exact h)
def plD (pre : List Nat) (qs : List (List Nat)) : List PyData := qs.map fun q => pls (pre ++ q)
theorem noLs_pls (ks : List Nat) : noLs (ks.map fun i : Nat => PyData.int (i : Nat)) = true := by
  induction ks with
  | nil => rfl
  | cons k ks ih => simp [noLs, noL, ih]
theorem noL_pls (ks : List Nat) : noL (pls ks) = true := by simp [pls, noL, noLs_pls]
theorem noLs_plD (pre : List Nat) (qs : List (List Nat)) : noLs (plD pre qs) = true := noLs_mem.mpr fun d hd => by
  obtain ⟨q, _, rfl⟩ := List.mem_map.mp hd
  exact noL_pls _
def spSpots (K : PySem.W.Frag) (m : Nat) : Sp := fun vs H Q _ => ∃ (v vo vp : V) (t one : Th) (pre : List Nat) (F : List Str) (b : Nat), vs = [v, vo, vp] ∧ R K H v t.d ∧ R K H vo one.d ∧ R K H vp (pls pre) ∧ t.isT F b ∧ one.isT F b ∧ t.dep ≤ m ∧ one.dep ≤ 90 ∧ t.sz ≤ 400000 ∧ pre.length ≤ 1000 - m ∧ m ≤ 900 ∧
  ∀ p H', H p = none → Same H H' → Lk K H' p (plD pre (t.spots one)) → Q (.ref p) H'
theorem use_spots {K : PySem.W.Frag} {m : Nat} {H : Hp} {Q : VK} {E : XK} {v vo vp : V} {t one : Th} {pre : List Nat} {F : List Str} {b : Nat} (r : R K H v t.d) (ro : R K H vo one.d) (rp : R K H vp (pls pre)) (ht : t.isT F b) (ho : one.isT F b) (hd : t.dep ≤ m) (hd2 : one.dep ≤ 90) (hz : t.sz ≤ 400000) (hp : pre.length ≤ 1000 - m) (hm : m ≤ 900)
    (h : ∀ y H', Same H H' → R K H' y (.list (plD pre (t.spots one))) → Q y H') : spSpots K m [v, vo, vp] H Q E := ⟨v, vo, vp, t, one, pre, F, b, rfl, r, ro, rp, ht, ho, hd, hd2, hz, hp, hm, fun p H' _ s k => h _ _ s k.R⟩
theorem use_spotsF {K : PySem.W.Frag} {m : Nat} {H : Hp} {Q : VK} {E : XK} {v vo vp : V} {t one : Th} {pre : List Nat} {F : List Str} {b : Nat} (r : R K H v t.d) (ro : R K H vo one.d) (rp : R K H vp (pls pre)) (ht : t.isT F b) (ho : one.isT F b) (hd : t.dep ≤ m) (hd2 : one.dep ≤ 90) (hz : t.sz ≤ 400000) (hp : pre.length ≤ 1000 - m) (hm : m ≤ 900)
    (h : ∀ p H', H p = none → Same H H' → Lk K H' p (plD pre (t.spots one)) → Q (.ref p) H') : spSpots K m [v, vo, vp] H Q E := ⟨v, vo, vp, t, one, pre, F, b, rfl, r, ro, rp, ht, ho, hd, hd2, hz, hp, hm, h⟩
section
variable {K : PySem.W.Frag} {tb : TS} {σ : L2.St} {H : Hp} {i j : Nat} {nx bk ct : L2.St → Hp → Prop} {rt : VK}
/-- enumerate over a tuple that stands, whatever else changes -/
theorem for_Ex {a : Addr} {xs : List V} {ds : List PyData} (Pv : Nat → L2.St → Hp → Prop) (start : Pv 0 σ H) (keep : ∀ k σ' H', Pv k σ' H' → SqT K H' a xs ∧ RA K H' xs ds) (mono : ∀ k σ' H' H'', Pv k σ' H' → Same H' H'' → Pv k σ' H'')
    (turn : ∀ (k : Nat) d v σ' H', ds[k]? = some d → R K H' v d → Pv k σ' H' → tb ⟨Pv (k + 1), rt, nx, Pv (k + 1)⟩ ((σ'.set i (some (.int (k : Int)))).set j (some v)) H') (fin : ∀ σ' H', Pv ds.length σ' H' → nx σ' H') : ForE K (g2 K i j) tb ⟨nx, rt, bk, ct⟩ σ [.ref a] H := by
  obtain ⟨ha, ra⟩ := keep 0 σ H start
  refine ⟨a, xs, rfl, ha, ?_⟩
  rw [← ra.length] at fin
  refine for_it (walk_enumT (K := K) (a := a) (xs := xs)) (g := g2 K i j) (tb := tb) (D := ⟨nx, rt, bk, ct⟩) Pv start (fun k σ' H' _ p => (keep _ _ _ p).1) (fun k y σ' H' H'' hk p q => ?_) fin
  obtain ⟨T, y1, y2, rfl, hT, rfl, h1, h2⟩ := q
  cases h1
  obtain ⟨d, e1, e2⟩ := (keep _ _ _ p).2.getV h2
  have s0 : Same H' (upd H' T (.tup [.int (k : Int), y2])) := same_new hT _
  exact ⟨T, _, rfl, .inl (.inl upd_same), rfl, _, _, rfl, _, _, rfl, rfl, turn k d y2 σ' _ e1 (e2.mono s0) (mono _ _ _ _ p s0)⟩
end
theorem ext_L {K : PySem.W.Frag} {H : Hp} {Q : VK} {l : Addr} {ds es : List PyData} {y : V} (h : Lk K H l ds) (r : R K H y (.list es)) (hz : ds.length + es.length ≤ 1000000) (n : noLs es = true) (q : ∀ H', SameX l H H' → Lk K H' l (ds ++ es) → Q .non H') : rExtend (.ref l) [y] H Q := by
  obtain ⟨xs, h1, h2⟩ := h.ex
  exact extR (K := K) h1 h2 r hz h.no n fun ws H' x hl ra => q H' x ⟨⟨ws, hl, ra⟩, by rw [noLs_append, h.no, n]; rfl⟩
theorem szs_take'' (ts : List Th) (n : Nat) : Th.szs (ts.take n) ≤ Th.szs ts := by
  induction ts generalizing n with
  | nil => simp
  | cons t ts ih =>
    cases n with
    | zero => simp [Th.szs]
    | succ n => simp only [List.take_succ_cons, Th.szs]; have := ih n; omega
end G

namespace G
open PySem PySem.Spec PyProof.Rows L2
/-! a comprehension over reversed(range(n)) -/
def LcRv (n : Int) (j : Nat) (te : TE) (vs : List Nat) (σ : L2.St) (H1 : Hp) (Q : VK) : Prop := -(2 ^ 62) ≤ (0 : Int) ∧ (0 : Int) < 2 ^ 62 ∧ -(2 ^ 62) ≤ n ∧ n < 2 ^ 62 ∧ LcG (Itc (0 + (((n - 0).toNat : Nat) : Int) - 1) (-1) (n - 0).toNat) j te vs σ H1 Q
section
variable {K : PySem.W.Frag} {te : TE} {vs : List Nat} {σ : L2.St} {H : Hp} {Q : VK} {j : Nat}
theorem st_lcRv {ta : TE} (h : ta σ H fun x H1 => ∃ n, x = .int n ∧ LcRv n j te vs σ H1 Q) : tLc (iRevR (tRg1 ta)) (gName j) tYes (tHide te) vs σ H Q := h
theorem lcRv {n : Nat} (P : Nat → PyData → Prop) (hn : n ≤ 1000000) (hw : ∀ x, wipe ((wipe σ vs).set j (some x)) vs = wipe σ vs)
    (he : ∀ (i : Nat) H1, i < n → Same H H1 → ∀ Qt : VK, (∀ y H2 e, Same H1 H2 → R K H2 y e → P i e → Qt y H2) → te ((wipe σ vs).set j (some (.int (((n - 1 - i : Nat) : Nat) : Int)))) H1 Qt)
    (hq : ∀ v H1 es, Same H H1 → R K H1 v (.list es) → es.length = n → (∀ i e, es[i]? = some e → P i e) → Q v H1) : ∃ m, V.int (n : Int) = .int m ∧ LcRv m j te vs σ H Q := by
  refine ⟨n, rfl, by decide, by decide, by omega, by omega, ?_⟩
  have e : ((n : Int) - 0).toNat = n := by omega
  rw [e]
  refine lc_gen (K := K) (walk_rangeC (lo := 0 + (n : Int) - 1) (c := -1) (n := n)) (fun i x => i < n → x = .int (((n - 1 - i : Nat) : Nat) : Int)) (fun i H x H' y => ⟨y.1, fun hi => by rw [y.2]; show V.int (0 + (n : Int) - 1 + (i : Int) * (-1)) = _; rw [show (0 + (n : Int) - 1 + (i : Int) * (-1)) = (((n - 1 - i : Nat) : Nat) : Int) from by omega]⟩) (fun _ _ => True.intro) hn hw P (fun i x H1 hi hx sm Qt hQ => ?_) hq
  rw [hx hi]
  exact he i H1 hi sm Qt hQ
theorem lcRv0 {n : Nat} (P : Nat → PyData → Prop) (hn : n ≤ 1000000) (hw : ∀ x, wipe ((wipe σ vs).set j (some x)) vs = wipe σ vs)
    (he : ∀ (i : Nat) H1, i < n → Same H H1 → ∀ Qt : VK, (∀ y H2 e, Same H1 H2 → R K H2 y e → P i e → Qt y H2) → te ((wipe σ vs).set j (some (.int (((n - 1 - i : Nat) : Nat) : Int)))) H1 Qt)
    (hq : ∀ v H1 es, Same H H1 → R K H1 v (.list es) → es.length = n → (∀ i e, es[i]? = some e → P i e) → Q v H1) : LcRv (n : Int) j te vs σ H Q := by
  refine ⟨by decide, by decide, by omega, by omega, ?_⟩
  have e : ((n : Int) - 0).toNat = n := by omega
  rw [e]
  refine lc_gen (K := K) (walk_rangeC (lo := 0 + (n : Int) - 1) (c := -1) (n := n)) (fun i x => i < n → x = .int (((n - 1 - i : Nat) : Nat) : Int)) (fun i H x H' y => ⟨y.1, fun hi => by rw [y.2]; show V.int (0 + (n : Int) - 1 + (i : Int) * (-1)) = _; rw [show (0 + (n : Int) - 1 + (i : Int) * (-1)) = (((n - 1 - i : Nat) : Nat) : Int) from by omega]⟩) (fun _ _ => True.intro) hn hw P (fun i x H1 hi hx sm Qt hQ => ?_) hq
  rw [hx hi]
  exact he i H1 hi sm Qt hQ
end
/-! the stack of places still to be looked at: the last one on top -/
def wD (x : List Nat × Th) : PyData := .tuple [pls x.1, x.2.d]
def stk (one : Th) (ws : List (List Nat × Th)) : List (List Nat) := ws.reverse.flatMap fun x => (x.2.spots one).map (x.1 ++ ·)
theorem stk_snoc (one : Th) (ws : List (List Nat × Th)) (x : List Nat × Th) : stk one (ws ++ [x]) = (x.2.spots one).map (x.1 ++ ·) ++ stk one ws := by
  unfold stk
  rw [List.reverse_append]; rfl
/-- the args, the first one on top -/
def pushed (pl : List Nat) (as : List Th) : List (List Nat × Th) := (as.zipIdx.map fun x => (pl ++ [x.2], x.1)).reverse
theorem stk_push (one : Th) (pl : List Nat) (as : List Th) (ws : List (List Nat × Th)) : stk one (ws ++ pushed pl as) = (Th.spotsL as 0 one).map (pl ++ ·) ++ stk one ws := by
  unfold stk pushed
  rw [List.reverse_append, List.reverse_reverse, List.flatMap_append]
  congr 1
  have : ∀ (as : List Th) (i : Nat), ((as.zipIdx i).map fun x => (pl ++ [x.2], x.1)).flatMap (fun x : List Nat × Th => (x.2.spots one).map (x.1 ++ ·)) = (Th.spotsL as i one).map (pl ++ ·) := by
    intro as
    induction as with
    | nil => intro i; rfl
    | cons a as ih =>
      intro i
      rw [List.zipIdx_cons, List.map_cons, List.flatMap_cons, ih (i + 1), Th.spotsL, List.map_append, List.map_map]
      congr 1
      simp [Function.comp_def, List.append_assoc]
  exact this as 0
theorem pushed_at {pl : List Nat} {as : List Th} {i : Nat} (h : i < as.length) : (pushed pl as)[i]? = (as[as.length - 1 - i]?).map fun a => (pl ++ [as.length - 1 - i], a) := by
  unfold pushed
  have hl : i < (as.zipIdx.map fun x => (pl ++ [x.2], x.1)).length := by simpa using h
  rw [List.getElem?_reverse hl, List.length_map, List.length_zipIdx, List.getElem?_map, List.getElem?_zipIdx]
  have h2 : as.length - 1 - i < as.length := by omega
  rw [List.getElem?_eq_getElem h2]
  simp
def wsz (ws : List (List Nat × Th)) : Nat := Th.szs (ws.map (·.2))
theorem noLs_wD (ws : List (List Nat × Th)) : noLs (ws.map wD) = true := noLs_mem.mpr fun d hd => by
  obtain ⟨x, _, rfl⟩ := List.mem_map.mp hd
  simp [wD, noL, noLs, noL_pls, Th.noL]
def spWhere (K : PySem.W.Frag) : Sp := fun vs H Q _ => ∃ (v vo : V) (t one : Th) (F : List Str) (b : Nat), vs = [v, vo] ∧ R K H v t.d ∧ R K H vo one.d ∧ t.isT F b ∧ one.isT F b ∧ t.dep ≤ 90 ∧ one.dep ≤ 90 ∧ t.sz ≤ 400000 ∧ ∀ p H', H p = none → Same H H' → Lk K H' p ((t.spots one).map pls) → Q (.ref p) H'
theorem use_where {K : PySem.W.Frag} {H : Hp} {Q : VK} {E : XK} {v vo : V} {t one : Th} {F : List Str} {b : Nat} (r : R K H v t.d) (ro : R K H vo one.d) (ht : t.isT F b) (ho : one.isT F b) (hd : t.dep ≤ 90) (hd2 : one.dep ≤ 90) (hz : t.sz ≤ 400000) (h : ∀ p H', H p = none → Same H H' → Lk K H' p ((t.spots one).map pls) → Q (.ref p) H') : spWhere K [v, vo] H Q E :=
  ⟨v, vo, t, one, F, b, rfl, r, ro, ht, ho, hd, hd2, hz, h⟩
theorem pop_L {K : PySem.W.Frag} {H : Hp} {Q : VK} {l : Addr} {ds : List PyData} {d : PyData} (h : Lk K H l (ds ++ [d])) (q : ∀ v H', SameX l H H' → Lk K H' l ds → R K H' v d → Q v H') : rPop (.ref l) [] H Q := by
  obtain ⟨xs, h1, h2⟩ := h.ex
  have n := h.no
  exact popR (K := K) h1 h2 n fun v ws H' x hl ra rv => q v H' x ⟨⟨ws, hl, ra⟩, by rw [noLs_append] at n; simp only [Bool.and_eq_true] at n; exact n.1⟩ rv
theorem szs_app' : ∀ (xs ys : List Th), Th.szs (xs ++ ys) = Th.szs xs + Th.szs ys
  | [], ys => by simp [Th.szs]
  | x :: xs, ys => by rw [List.cons_append, Th.szs, szs_app' xs ys, Th.szs]; omega
theorem szs_rev : ∀ xs : List Th, Th.szs xs.reverse = Th.szs xs
  | [] => rfl
  | x :: xs => by rw [List.reverse_cons, szs_app', szs_rev xs]; simp [Th.szs]; omega
theorem wsz_snoc (ws : List (List Nat × Th)) (x : List Nat × Th) : wsz (ws ++ [x]) = wsz ws + x.2.sz := by
  unfold wsz; rw [List.map_append, szs_app']; simp [Th.szs]
theorem wsz_push (ws : List (List Nat × Th)) (pl : List Nat) (as : List Th) : wsz (ws ++ pushed pl as) = wsz ws + Th.szs as := by
  unfold wsz pushed
  rw [List.map_append, szs_app', List.map_reverse, szs_rev, List.map_map]
  congr 2
  have : ∀ (as : List Th) (i : Nat), (as.zipIdx i).map ((fun x : List Nat × Th => x.2) ∘ fun x : Th × Nat => (pl ++ [x.2], x.1)) = as := by
    intro as
    induction as with
    | nil => intro i; rfl
    | cons a as ih => intro i; rw [List.zipIdx_cons, List.map_cons, ih]; rfl
  exact this as 0
theorem Th.sz_args {F : List Str} {b : Nat} (t : Th) (ht : t.isT F b) : t.sz = 1 + Th.szs t.args := by
  cases t with
  | app w c args =>
    cases w with
    | atom => exact absurd ht (by intro h; exact h)
    | form | call => simp only [Th.sz, Th.args]; omega
  | free x => rfl
  | bnd j => rfl
  | fls => exact absurd ht (by intro h; exact h)
  | qua w c a => exact absurd ht (by intro h; exact h)
  | two w a b => exact absurd ht (by intro h; exact h)
theorem Th.args_ok {F : List Str} {b n : Nat} (t : Th) (ht : t.isT F b) (hd : t.dep ≤ n + 1) : ∀ a ∈ t.args, a.isT F b ∧ a.dep ≤ n := by
  intro a ha
  cases t with
  | app w c args =>
    cases w with
    | atom => exact absurd ht (by intro h; exact h)
    | form | call =>
      simp only [Th.dep] at hd
      have hda := Th.deps_le.mp (Nat.le_refl (Th.deps args)) a ha
      exact ⟨Th.areT_all.mp ht.2.2 a ha, by omega⟩
  | _ => cases ha
theorem wsz_len (ws : List (List Nat × Th)) : ws.length ≤ wsz ws := by
  have := len_szs (ws.map (·.2)); rw [List.length_map] at this; exact this
end G

namespace G
open PySem PySem.Spec PyProof.Rows L2
/-- two places neither of which is within the other -/
def apart : List Nat → List Nat → Prop
  | i :: r, j :: s => i ≠ j ∨ (i = j ∧ apart r s)
  | _, _ => False
theorem getD_set_ne {as : List Th} {i j : Nat} {x : Th} (h : i ≠ j) : (as.set i x).getD j .fls = as.getD j .fls := by
  rw [List.getD_eq_getElem?_getD, List.getD_eq_getElem?_getD, List.getElem?_set_ne h]
theorem getD_set_eq {as : List Th} {i : Nat} {x : Th} (h : i < as.length) : (as.set i x).getD i .fls = x := by
  rw [List.getD_eq_getElem?_getD, List.getElem?_set_self h]; rfl
theorem okP_apart {o : Th} : ∀ (p q : List Nat) (t : Th), apart p q → t.okP p → t.okP q → (t.withP p o).okP q
  | i :: r, j :: s, .app w c as, ha, h1, h2 => by
    obtain ⟨hi, hr⟩ := h1
    obtain ⟨hj, hs⟩ := h2
    rw [Th.withP_app hi]
    refine ⟨by rw [List.length_set]; exact hj, ?_⟩
    rcases ha with ha | ⟨rfl, ha⟩
    · rw [getD_set_ne ha]; exact hs
    · rw [getD_set_eq hi]; exact okP_apart r s _ ha hr hs
  | [], _, _, ha, _, _ => by simp [apart] at ha
  | _ :: _, [], _, ha, _, _ => by simp [apart] at ha
  | _ :: _, _ :: _, .free _, _, h1, _ => by simp [Th.okP] at h1
  | _ :: _, _ :: _, .bnd _, _, h1, _ => by simp [Th.okP] at h1
  | _ :: _, _ :: _, .fls, _, h1, _ => by simp [Th.okP] at h1
  | _ :: _, _ :: _, .qua _ _ _, _, h1, _ => by simp [Th.okP] at h1
  | _ :: _, _ :: _, .two _ _ _, _, h1, _ => by simp [Th.okP] at h1
theorem spots_leaf {t one : Th} (h : t.spots one = bif PyData.eqv t.d one.d then [[]] else []) : (∀ q ∈ t.spots one, t.okP q) ∧ (t.spots one).Pairwise apart := by
  rw [h]
  cases PyData.eqv t.d one.d
  · exact ⟨(fun q hq => by cases hq), .nil⟩
  · refine ⟨fun q hq => ?_, List.pairwise_singleton _ _⟩
    have hq : q ∈ [[]] := hq
    rw [List.mem_singleton.mp hq]
    cases t <;> exact True.intro
mutual
theorem Th.spots_ok : ∀ (t one : Th), (∀ q ∈ t.spots one, t.okP q) ∧ (t.spots one).Pairwise apart
  | .app w c as, one => by
    have h := Th.spotsL_ok as 0 one
    unfold Th.spots
    cases PyData.eqv (Th.app w c as).d one.d
    · refine ⟨fun q hq => ?_, h.2⟩
      obtain ⟨i, r, rfl, h1, h2, h3⟩ := h.1 q hq
      exact ⟨by omega, by simpa using h3⟩
    · refine ⟨fun q hq => ?_, List.pairwise_singleton _ _⟩
      have hq : q ∈ [[]] := hq
      rw [List.mem_singleton.mp hq]; exact True.intro
  | .free x, one => spots_leaf (by unfold Th.spots; rfl)
  | .bnd x, one => spots_leaf (by unfold Th.spots; rfl)
  | .fls, one => spots_leaf (by unfold Th.spots; rfl)
  | .qua w c a, one => spots_leaf (by unfold Th.spots; rfl)
  | .two w a b, one => spots_leaf (by unfold Th.spots; rfl)
theorem Th.spotsL_ok : ∀ (as : List Th) (n : Nat) (one : Th), (∀ q ∈ Th.spotsL as n one, ∃ i r, q = i :: r ∧ n ≤ i ∧ i < n + as.length ∧ (as.getD (i - n) .fls).okP r) ∧ (Th.spotsL as n one).Pairwise apart
  | [], n, one => ⟨(fun q hq => by simp [Th.spotsL] at hq), by simp [Th.spotsL]⟩
  | a :: as, n, one => by
    have h1 := Th.spots_ok a one
    have h2 := Th.spotsL_ok as (n + 1) one
    rw [Th.spotsL]
    refine ⟨fun q hq => ?_, List.pairwise_append.mpr ⟨?_, h2.2, fun q hq q' hq' => ?_⟩⟩
    · rcases List.mem_append.mp hq with hq | hq
      · obtain ⟨r, hr, rfl⟩ := List.mem_map.mp hq
        exact ⟨n, r, rfl, Nat.le_refl _, by simp, by simpa using h1.1 r hr⟩
      · obtain ⟨i, r, rfl, q1, q2, q3⟩ := h2.1 q hq
        refine ⟨i, r, rfl, by omega, by simp; omega, ?_⟩
        have e : i - n = (i - (n + 1)) + 1 := by omega
        rw [e]; simpa using q3
    · refine List.Pairwise.map _ (fun x y hxy => ?_) h1.2
      exact .inr ⟨rfl, hxy⟩
    · obtain ⟨r, hr, rfl⟩ := List.mem_map.mp hq
      obtain ⟨i, s, rfl, q1, q2, q3⟩ := h2.1 q' hq'
      exact .inl (by omega)
end
/-- the turns of a walk: the terms as they stand, and the statements told -/
def stepP (told other : Th) (k : Nat) (acc : List Th × List Th) (q : List Nat) : List Th × List Th :=
  (acc.1.set k ((acc.1.getD k .fls).withP q other), acc.2 ++ [told.withTs (acc.1.set k ((acc.1.getD k .fls).withP q other))])
def walkT (told one other : Th) : List Th := (told.termsOf.zipIdx.foldl (fun acc x => (x.1.spots one).foldl (stepP told other x.2) acc) (told.termsOf, [told])).2
end G

namespace G
open PySem PySem.Spec PyProof.Rows L2
theorem pop0_L {K : PySem.W.Frag} {H : Hp} {Q : VK} {l : Addr} {ds : List PyData} {d : PyData} (h : Lk K H l (d :: ds)) (hz : ds.length + 1 ≤ 1000000) (q : ∀ v H', SameX l H H' → Lk K H' l ds → R K H' v d → Q v H') : rPopAt (.ref l) [.int 0] H Q := by
  obtain ⟨xs, h1, h2⟩ := h.ex
  obtain ⟨v, ws, rfl, r1, rw1⟩ := h2.inv_cons
  have n := h.no
  simp only [noLs, Bool.and_eq_true] at n
  have sx : SameX l H (upd H l (.lst ws)) := .upd
  have fin := q v _ sx ⟨⟨ws, upd_same, rw1.monoX sx h1 n.2⟩, n.2⟩ (r1.monoX sx h1 n.1)
  exact ⟨l, v :: ws, 0, 0, v, rfl, rfl, h1, by decide, by decide, by unfold seqIndex?; simp, rfl, fin⟩
/-- a comprehension over a tuple whose body takes from the list at l -/
theorem lcT_P {K : PySem.W.Frag} {te : TE} {vs : List Nat} {σ : L2.St} {H : Hp} {Q : VK} {j : Nat} {l : Addr} {x : V} {ds : List PyData} (es : List PyData) (rest : Nat → List PyData) (hes : es.length = ds.length) (hen : noLs es = true) (hl : Lk K H l (rest 0)) (r : R K H x (.tuple ds)) (hnl : noLs ds = true) (hn : ds.length ≤ 1000000)
    (hw : ∀ x, wipe ((wipe σ vs).set j (some x)) vs = wipe σ vs)
    (he : ∀ k v d e H1, ds[k]? = some d → es[k]? = some e → R K H1 v d → SameX l H H1 → Lk K H1 l (rest k) → ∀ Qt : VK, (∀ y H2, SameX l H1 H2 → Lk K H2 l (rest (k + 1)) → R K H2 y e → Qt y H2) → te ((wipe σ vs).set j (some v)) H1 Qt)
    (hq : ∀ v H1, SameX l H H1 → Lk K H1 l (rest ds.length) → R K H1 v (.list es) → Q v H1) : LcT K j te vs σ x H Q := by
  obtain ⟨a, ws, rfl, ha, rds⟩ := r.inv_tup
  have hlen := rds.length
  obtain ⟨xl, hxl0, _⟩ := hl.ex
  refine ⟨a, rfl, ⟨ws, ha⟩, ?_⟩
  intro D hD
  have hDl : l ≠ D := fresh_ne hD hl
  let Pv : Nat → Hp → Prop := fun k H' => ∃ Hb xs, H' = upd Hb D (.lst xs) ∧ Hb D = none ∧ SameX l H Hb ∧ Lk K Hb l (rest k) ∧ k ≤ ds.length ∧ RA K Hb xs (es.take k)
  refine L2.lc_it (walk_tup (K := K) (a := a) (xs := ws)) Pv ?_ ?_ ?_ ?_
  · exact ⟨H, [], rfl, hD, SameX.refl _, hl, Nat.zero_le _, .nil⟩
  · rintro k H' hi ⟨Hb, xs, rfl, hb, sm, _⟩
    exact (same_new hb _).tup (SameX.tupL sm hl ha)
  · rintro k y H' H'' hi ⟨Hb, xs, rfl, hb, sm, hj, hk, hxs⟩ yy
    obtain ⟨rfl, hx⟩ := yy
    obtain ⟨d, e1, e2⟩ := rds.getV hx
    have hnd : noL d = true := noLs_mem.mp hnl d (List.mem_of_getElem? e1)
    refine ⟨hw y, ?_⟩
    unfold tYes
    dsimp only
    rw [if_pos rfl]
    refine ⟨D, xs, upd_same, ?_⟩
    rw [hide_upd hb]
    have hkl : k < ds.length := (List.getElem?_eq_some_iff.mp e1).1
    have hke : k < es.length := by omega
    have hxl : xs.length = k := by rw [hxs.length, List.length_take]; omega
    have e3 : es[k]? = some es[k] := List.getElem?_eq_getElem hke
    obtain ⟨xb, hxb, _⟩ := hj.ex
    refine he k y d es[k] Hb e1 e3 (e2.monoX sm hxl0 hnd) sm hj _ fun z H2 s2 hj2 rz n2 => ⟨xs, upd_same, ?_, ?_⟩
    · exact Nat.lt_of_le_of_lt (by omega : xs.length ≤ 1000000) (by decide)
    · rw [upd_upd]
      refine ⟨H2, xs ++ [z], rfl, n2, sm.trans s2, hj2, hkl, ?_⟩
      rw [List.take_add_one, e3]
      exact (hxs.monoX s2 hxb (noLs_take hen)).append (.cons rz .nil)
  · rintro H' ⟨Hb, xs, rfl, hb, sm, hj, hk, hxs⟩
    rw [hlen, ← hes, List.take_length] at hxs
    rw [hlen] at hj
    have sn : Same Hb (upd Hb D (.lst xs)) := same_new hb _
    exact hq _ _ (sm.trans (SameX.of sn)) (hj.mono sn) (.lst upd_same (hxs.mono sn))
def spWithL (K : PySem.W.Frag) (m : Nat) : Sp := fun vs H Q _ => ∃ (v : V) (l : Addr) (t : Th) (ts : List Th) (F : List Str) (b : Nat), vs = [v, .ref l] ∧ R K H v t.d ∧ Lk K H l (Th.ds ts) ∧ t.isS F b ∧ t.termsOf.length ≤ ts.length ∧ ts.length ≤ 400000 ∧ t.dep ≤ m ∧ t.sz ≤ 400000 ∧
  ∀ y H', SameX l H H' → Lk K H' l (Th.ds (ts.drop t.termsOf.length)) → R K H' y (t.withTs (ts.take t.termsOf.length)).d → Q y H'
theorem use_withL {K : PySem.W.Frag} {m : Nat} {H : Hp} {Q : VK} {E : XK} {v : V} {l : Addr} {t : Th} {ts : List Th} {F : List Str} {b : Nat} (r : R K H v t.d) (kl : Lk K H l (Th.ds ts)) (ht : t.isS F b) (hl : t.termsOf.length ≤ ts.length) (hl2 : ts.length ≤ 400000) (hd : t.dep ≤ m) (hz : t.sz ≤ 400000)
    (h : ∀ y H', SameX l H H' → Lk K H' l (Th.ds (ts.drop t.termsOf.length)) → R K H' y (t.withTs (ts.take t.termsOf.length)).d → Q y H') : spWithL K m [v, .ref l] H Q E := ⟨v, l, t, ts, F, b, rfl, r, kl, ht, hl, hl2, hd, hz, h⟩
end G

namespace G
open PySem PySem.Spec PyProof.Rows L2
/-! the list at l, each of its values known, and whatever changes elsewhere -/
structure Lx (K : PySem.W.Frag) (H : Hp) (l : Addr) (xs : List V) (ds : List PyData) : Prop where
  at_ : H l = some (.lst xs)
  ra : RA K H xs ds
  no : noLs ds = true
section
variable {K : PySem.W.Frag} {H H' : Hp} {l m : Addr} {xs : List V} {ds es : List PyData}
theorem Lx.mono (h : Lx K H l xs ds) (s : Same H H') : Lx K H' l xs ds := ⟨s _ _ h.at_, h.ra.mono s, h.no⟩
theorem Lx.lx (h : Lx K H l xs ds) (x : SameX m H H') (hm : Lk K H m es) (ne : l ≠ m) : Lx K H' l xs ds := by
  obtain ⟨ys, h1, h2⟩ := hm.ex
  exact ⟨x _ _ ne h.at_, h.ra.monoX x h1 h.no, h.no⟩
theorem Lk.xs_ex (h : Lk K H l ds) : ∃ xs, Lx K H l xs ds := by
  obtain ⟨ys, h1, h2⟩ := h.ex
  exact ⟨ys, h1, h2, h.no⟩
theorem Lx.k (h : Lx K H l xs ds) : Lk K H l ds := ⟨⟨xs, h.at_, h.ra⟩, h.no⟩
/-- a store into a list of one's own -/
theorem set_L {QH : Hp → Prop} {y : V} {d : PyData} {i : Nat} (h : Lk K H l ds) (r : G.R K H y d) (hi : i < ds.length) (hz : ds.length ≤ 1000000) (n : noL d = true) (q : ∀ H', SameX l H H' → Lk K H' l (ds.set i d) → QH H') : rSetL (.ref l) (.int (i : Nat)) y H QH := by
  obtain ⟨xs, h2, h3⟩ := h.ex
  exact setR h2 h3 r hi hz h.no n fun ws H' sx hl ra => q H' sx ⟨⟨ws, hl, ra⟩, noLs_mem.mpr fun e he => by
    rcases List.mem_or_eq_of_mem_set he with he | he
    · exact noLs_mem.mp h.no e he
    · rw [he]; exact n⟩
end
theorem listFL {K : PySem.W.Frag} {H : Hp} {Q : VK} {l : Addr} {ds : List PyData} (h : Lk K H l ds) (q : ∀ p H', H p = none → Same H H' → Lk K H' p ds → Q (.ref p) H') : rListF K [.ref l] H Q := by
  obtain ⟨ys, h1, h2⟩ := h.ex
  exact ⟨l, ys, rfl, .inl (.inl (.inl h1)), fun p hp => q p _ hp (same_new hp _) ⟨⟨ys, upd_same, h2.mono (same_new hp _)⟩, h.no⟩⟩
def ForEL (K : PySem.W.Frag) (g : TG) (tb : TS) (D : Ends) (σ : L2.St) (vs : List V) (H : Hp) : Prop := ∃ a xs, vs = [.ref a] ∧ SqL K H a xs ∧ ForG (Ite K a) g tb D σ H
section
variable {K : PySem.W.Frag} {ta : TA} {g : TG} {tb : TS} {D : Ends} {σ : L2.St} {H : Hp} {i j : Nat} {nx bk ct : L2.St → Hp → Prop} {rt : VK}
theorem st_forEL (h : ta σ H fun vs H1 => ForEL K g tb D σ vs H1) : tFor (iEnum K ta) g tb D σ H := by exact h
/-- enumerate over a list that stands, whatever else changes -/
theorem for_EL {l : Addr} {xs : List V} {ds : List PyData} (Pv : Nat → L2.St → Hp → Prop) (start : Pv 0 σ H) (keep : ∀ k σ' H', Pv k σ' H' → Lx K H' l xs ds) (mono : ∀ k σ' H' H'', Pv k σ' H' → Same H' H'' → Pv k σ' H'')
    (turn : ∀ (k : Nat) d v σ' H', ds[k]? = some d → R K H' v d → Pv k σ' H' → tb ⟨Pv (k + 1), rt, nx, Pv (k + 1)⟩ ((σ'.set i (some (.int (k : Int)))).set j (some v)) H') (fin : ∀ σ' H', Pv ds.length σ' H' → nx σ' H') : ForEL K (g2 K i j) tb ⟨nx, rt, bk, ct⟩ σ [.ref l] H := by
  have h0 := keep 0 σ H start
  refine ⟨l, xs, rfl, .inl (.inl h0.at_), ?_⟩
  rw [← h0.ra.length] at fin
  refine for_it (walk_enum (K := K) (a := l) (xs := xs)) (g := g2 K i j) (tb := tb) (D := ⟨nx, rt, bk, ct⟩) Pv start (fun k σ' H' _ p => .inl (.inl (keep _ _ _ p).at_)) (fun k y σ' H' H'' hk p q => ?_) fin
  obtain ⟨T, y1, y2, rfl, hT, rfl, h1, h2⟩ := q
  cases h1
  obtain ⟨d, e1, e2⟩ := (keep _ _ _ p).ra.getV h2
  have s0 : Same H' (upd H' T (.tup [.int (k : Int), y2])) := same_new hT _
  exact ⟨T, _, rfl, .inl (.inl upd_same), rfl, _, _, rfl, _, _, rfl, rfl, turn k d y2 σ' _ e1 (e2.mono s0) (mono _ _ _ _ p s0)⟩
/-- for over a list that stands, whatever else changes -/
theorem for_Lx {l : Addr} {xs : List V} {ds : List PyData} (Pv : Nat → L2.St → Hp → Prop) (start : Pv 0 σ H) (keep : ∀ k σ' H', Pv k σ' H' → Lx K H' l xs ds)
    (turn : ∀ (k : Nat) d v σ' H', ds[k]? = some d → R K H' v d → Pv k σ' H' → tb ⟨Pv (k + 1), rt, nx, Pv (k + 1)⟩ (σ'.set j (some v)) H') (fin : ∀ σ' H', Pv ds.length σ' H' → nx σ' H') : ForL K (gName j) tb ⟨nx, rt, bk, ct⟩ σ (.ref l) H := by
  have h0 := keep 0 σ H start
  refine for_LDl (l := l) (ds := ds) Pv start (fun k σ' H' p => (keep k σ' H' p).k) turn fin fun ys hy k σ' H' p => ?_
  rw [h0.at_] at hy
  cases hy
  exact (keep k σ' H' p).at_
end
/-! the plain law of a walk -/
theorem Th.termsOf_ok {F : List Str} : ∀ (t : Th) {n : Nat}, t.isS F n → ∀ p ∈ t.termsOf, p.isT F (n + t.dep) ∧ p.dep ≤ t.dep ∧ p.sz ≤ t.sz
  | .fls, _, _, p, hp => absurd hp (by simp [Th.termsOf])
  | .two .same a b, n, h, p, hp => by
    simp only [Th.termsOf, List.mem_cons, List.not_mem_nil, or_false] at hp
    simp only [Th.dep, Th.sz]
    rcases hp with rfl | rfl
    · exact ⟨Th.isT_mono (Nat.le_add_right _ _) h.1, by omega, by omega⟩
    · exact ⟨Th.isT_mono (Nat.le_add_right _ _) h.2, by omega, by omega⟩
  | .app .atom c args, n, h, p, hp => by
    have hp : p ∈ args := hp
    have h1 := Th.areT_all.mp h.2.2 p hp
    have h2 := Th.deps_le.mp (Nat.le_refl (Th.deps args)) _ hp
    have h3 := sz_mem hp
    simp only [Th.dep, Th.sz]
    exact ⟨Th.isT_mono (Nat.le_add_right _ _) h1, by omega, by omega⟩
  | .qua w k a, n, h, p, hp => by
    have := Th.termsOf_ok a h.2 p hp
    simp only [Th.dep, Th.sz]
    exact ⟨Th.isT_mono (by omega) this.1, by omega, by omega⟩
  | .two .and a b, n, h, p, hp => by
    simp only [Th.dep, Th.sz]
    rcases List.mem_append.mp hp with hp | hp
    · have := Th.termsOf_ok a h.1 p hp
      exact ⟨Th.isT_mono (by omega) this.1, by omega, by omega⟩
    · have := Th.termsOf_ok b h.2 p hp
      exact ⟨Th.isT_mono (by omega) this.1, by omega, by omega⟩
  | .two .or a b, n, h, p, hp => by
    simp only [Th.dep, Th.sz]
    rcases List.mem_append.mp hp with hp | hp
    · have := Th.termsOf_ok a h.1 p hp
      exact ⟨Th.isT_mono (by omega) this.1, by omega, by omega⟩
    · have := Th.termsOf_ok b h.2 p hp
      exact ⟨Th.isT_mono (by omega) this.1, by omega, by omega⟩
  | .two .iff a b, n, h, p, hp => by
    simp only [Th.dep, Th.sz]
    rcases List.mem_append.mp hp with hp | hp
    · have := Th.termsOf_ok a h.1 p hp
      exact ⟨Th.isT_mono (by omega) this.1, by omega, by omega⟩
    · have := Th.termsOf_ok b h.2 p hp
      exact ⟨Th.isT_mono (by omega) this.1, by omega, by omega⟩
theorem Th.termsOf_szs {F : List Str} : ∀ (t : Th) {n : Nat}, t.isS F n → Th.szs t.termsOf ≤ t.sz
  | .fls, _, _ => by simp [Th.termsOf, Th.szs]
  | .two .same a b, _, _ => by simp only [Th.termsOf, Th.sz, Th.szs]; omega
  | .app .atom c args, _, _ => by simp only [Th.termsOf, Th.sz]; omega
  | .qua w k a, _, h => by have := Th.termsOf_szs a h.2; simp only [Th.termsOf, Th.sz]; omega
  | .two .and a b, _, h => by have := Th.termsOf_szs a h.1; have := Th.termsOf_szs b h.2; simp only [Th.termsOf, Th.sz, szs_app']; omega
  | .two .or a b, _, h => by have := Th.termsOf_szs a h.1; have := Th.termsOf_szs b h.2; simp only [Th.termsOf, Th.sz, szs_app']; omega
  | .two .iff a b, _, h => by have := Th.termsOf_szs a h.1; have := Th.termsOf_szs b h.2; simp only [Th.termsOf, Th.sz, szs_app']; omega
theorem okP_len : ∀ (q : List Nat) (t : Th), t.okP q → q.length < t.dep
  | [], t, _ => t.dep_pos
  | k :: ks, .app w c args, h => by
    have hm : args.getD k .fls ∈ args := by rw [List.getD_eq_getElem?_getD, List.getElem?_eq_getElem h.1]; exact List.getElem_mem h.1
    have h3 := Th.deps_le.mp (Nat.le_refl (Th.deps args)) _ hm
    have h4 := okP_len ks _ h.2
    simp only [Th.dep, List.length_cons]
    omega
theorem withP_dep' {o : Th} {M : Nat} : ∀ (q : List Nat) (t : Th), t.okP q → t.dep ≤ M → q.length + o.dep ≤ M → (t.withP q o).dep ≤ M
  | [], t, _, _, h2 => by rw [Th.withP]; simpa using h2
  | k :: ks, .app w c args, h, h1, h2 => by
    rw [Th.withP_app h.1]
    have hm : args.getD k .fls ∈ args := by rw [List.getD_eq_getElem?_getD, List.getElem?_eq_getElem h.1]; exact List.getElem_mem h.1
    have h3 := Th.deps_le.mp (Nat.le_refl (Th.deps args)) _ hm
    simp only [Th.dep] at h1 ⊢
    simp only [List.length_cons] at h2
    have h4 := withP_dep' (o := o) (M := M - 1) ks _ h.2 (by omega) (by omega)
    have := deps_set (m := M - 1) (ts := args) (k := k) (x := (args.getD k .fls).withP ks o) (by omega) h4
    omega
theorem lay_ds {ts : List Th} (h : ∀ x ∈ ts, x.d.canLay0 = true) : PyData.canLayAll0 (Th.ds ts) = true := by
  induction ts with
  | nil => rfl
  | cons t ts ih =>
    simp only [Th.ds, PyData.canLayAll0, Bool.and_eq_true]
    exact ⟨h t (List.mem_cons_self ..), ih fun x hx => h x (List.mem_cons_of_mem _ hx)⟩
theorem lay_getD {ts : List Th} (h : ∀ x ∈ ts, x.d.canLay0 = true) (i : Nat) : (ts.getD i .fls).d.canLay0 = true := by
  rw [List.getD_eq_getElem?_getD]
  cases e : ts[i]? with
  | none => exact by simp [Th.d, PyData.canLay0, PyData.canLayAll0, false_ok]
  | some x => exact h x (List.mem_of_getElem? e)
theorem Th.withTs_lay {F : List Str} : ∀ (t : Th) {n : Nat} (ts : List Th), t.isS F n → (∀ x ∈ ts, x.d.canLay0 = true) → (t.withTs ts).d.canLay0 = true
  | .fls, _, _, _, _ => by simp [Th.withTs, Th.d, PyData.canLay0, PyData.canLayAll0, false_ok]
  | .two .same a b, _, ts, h, hl => by simp only [Th.withTs]; simp [Th.d, PyData.canLay0, PyData.canLayAll0, BW.ok, lay_getD hl 0, lay_getD hl 1, -List.getD_eq_getElem?_getD]
  | .app .atom c args, _, ts, h, hl => by simp [Th.withTs, Th.d, PyData.canLay0, PyData.canLayAll0, lay_ds hl, AW.ok, name_ok h.1]
  | .two .and a b, _, ts, h, hl => by simp [Th.withTs, Th.d, PyData.canLay0, PyData.canLayAll0, BW.ok, Th.withTs_lay a _ h.1 (fun x hx => hl x (List.mem_of_mem_take hx)), Th.withTs_lay b _ h.2 (fun x hx => hl x (List.mem_of_mem_drop hx))]
  | .two .or a b, _, ts, h, hl => by simp [Th.withTs, Th.d, PyData.canLay0, PyData.canLayAll0, BW.ok, Th.withTs_lay a _ h.1 (fun x hx => hl x (List.mem_of_mem_take hx)), Th.withTs_lay b _ h.2 (fun x hx => hl x (List.mem_of_mem_drop hx))]
  | .two .iff a b, _, ts, h, hl => by simp [Th.withTs, Th.d, PyData.canLay0, PyData.canLayAll0, BW.ok, Th.withTs_lay a _ h.1 (fun x hx => hl x (List.mem_of_mem_take hx)), Th.withTs_lay b _ h.2 (fun x hx => hl x (List.mem_of_mem_drop hx))]
  | .qua w k a, _, ts, h, hl => by simp [Th.withTs, Th.d, PyData.canLay0, PyData.canLayAll0, QW.ok, name_ok h.1, Th.withTs_lay a ts h.2 hl]
theorem dep_getD {ts : List Th} {M : Nat} (h0 : 1 ≤ M) (h : ∀ x ∈ ts, x.dep ≤ M) (i : Nat) : (ts.getD i .fls).dep ≤ M := by
  rw [List.getD_eq_getElem?_getD]
  cases e : ts[i]? with
  | none => exact h0
  | some x => exact h x (List.mem_of_getElem? e)
theorem Th.withTs_dep {F : List Str} {M : Nat} (h0 : 1 ≤ M) : ∀ (t : Th) {n : Nat} (ts : List Th), t.isS F n → (∀ x ∈ ts, x.dep ≤ M) → (t.withTs ts).dep ≤ t.dep + M
  | .fls, _, _, _, _ => by simp [Th.withTs]
  | .two .same a b, _, ts, h, hl => by
    have := dep_getD h0 hl 0
    have := dep_getD h0 hl 1
    simp only [Th.withTs, Th.dep]
    omega
  | .app .atom c args, _, ts, h, hl => by
    have := Th.deps_le.mpr hl
    simp only [Th.withTs, Th.dep]
    omega
  | .two .and a b, _, ts, h, hl => by
    have := Th.withTs_dep h0 a _ h.1 (fun x hx => hl x (List.mem_of_mem_take (i := a.termsOf.length) hx))
    have := Th.withTs_dep h0 b _ h.2 (fun x hx => hl x (List.mem_of_mem_drop (i := a.termsOf.length) hx))
    simp only [Th.withTs, Th.dep]
    omega
  | .two .or a b, _, ts, h, hl => by
    have := Th.withTs_dep h0 a _ h.1 (fun x hx => hl x (List.mem_of_mem_take (i := a.termsOf.length) hx))
    have := Th.withTs_dep h0 b _ h.2 (fun x hx => hl x (List.mem_of_mem_drop (i := a.termsOf.length) hx))
    simp only [Th.withTs, Th.dep]
    omega
  | .two .iff a b, _, ts, h, hl => by
    have := Th.withTs_dep h0 a _ h.1 (fun x hx => hl x (List.mem_of_mem_take (i := a.termsOf.length) hx))
    have := Th.withTs_dep h0 b _ h.2 (fun x hx => hl x (List.mem_of_mem_drop (i := a.termsOf.length) hx))
    simp only [Th.withTs, Th.dep]
    omega
  | .qua w k a, _, ts, h, hl => by
    have := Th.withTs_dep h0 a ts h.2 hl
    simp only [Th.withTs, Th.dep]
    omega
/-- how much is still to be found from the k-th term on -/
def due (told one : Th) (k : Nat) : Nat := ((told.termsOf.drop k).map fun t => (t.spots one).length).sum
structure WO (told one : Th) (F : List Str) (B M k : Nat) (acc : List Th × List Th) : Prop where
  len : acc.1.length = told.termsOf.length
  rest : ∀ i, k ≤ i → acc.1[i]? = told.termsOf[i]?
  is : ∀ x ∈ acc.1, x.isT F B ∧ x.dep ≤ M
  found : ∀ s ∈ acc.2, s.d.canLay0 = true ∧ s.dep ≤ told.dep + M
  size : acc.2.length + due told one k ≤ told.sz + 1
structure WI (told one : Th) (F : List Str) (B M k : Nat) (ps : List (List Nat)) (acc : List Th × List Th) : Prop where
  lt : k < told.termsOf.length
  len : acc.1.length = told.termsOf.length
  rest : ∀ i, k + 1 ≤ i → acc.1[i]? = told.termsOf[i]?
  ok : ∀ q ∈ ps, (acc.1.getD k .fls).okP q ∧ q.length ≤ told.dep
  ap : ps.Pairwise apart
  is : ∀ x ∈ acc.1, x.isT F B ∧ x.dep ≤ M
  found : ∀ s ∈ acc.2, s.d.canLay0 = true ∧ s.dep ≤ told.dep + M
  size : acc.2.length + ps.length + due told one (k + 1) ≤ told.sz + 1
theorem due_le {F : List Str} {told one : Th} {b : Nat} (h : told.isS F b) : due told one 0 ≤ told.sz := by
  have h1 : ∀ ts : List Th, (ts.map fun t => (t.spots one).length).sum ≤ Th.szs ts := by
    intro ts
    induction ts with
    | nil => simp
    | cons t ts ih => have := Th.spots_len t one; simp only [List.map_cons, List.sum_cons, Th.szs]; omega
  exact Nat.le_trans (h1 _) (Th.termsOf_szs told h)
theorem WO.start {told one other : Th} {F : List Str} {b B M : Nat} (h : told.isS F b) (hB : b + told.dep ≤ B) (hM : told.dep + other.dep ≤ M) : WO told one F B M 0 (told.termsOf, [told]) := by
  refine ⟨rfl, fun _ _ => rfl, fun x hx => ?_, fun s hs => ?_, ?_⟩
  · have := Th.termsOf_ok told h x hx
    exact ⟨Th.isT_mono hB this.1, by omega⟩
  · rw [List.mem_singleton.mp hs]
    exact ⟨Th.layS told h, by omega⟩
  · have := due_le (one := one) h
    simp only [List.length_singleton]
    omega
theorem WO.turn {told one : Th} {F : List Str} {b B M k : Nat} {acc : List Th × List Th} (h : WO told one F B M k acc) (ht : told.isS F b) (hk : k < told.termsOf.length) : WI told one F B M k ((told.termsOf.getD k .fls).spots one) acc := by
  have e1 : acc.1.getD k .fls = told.termsOf.getD k .fls := by rw [List.getD_eq_getElem?_getD, h.rest k (Nat.le_refl _), ← List.getD_eq_getElem?_getD]
  have hm : told.termsOf.getD k .fls ∈ told.termsOf := by rw [List.getD_eq_getElem?_getD, List.getElem?_eq_getElem hk]; exact List.getElem_mem hk
  have e2 : due told one k = ((told.termsOf.getD k .fls).spots one).length + due told one (k + 1) := by
    unfold due
    rw [List.drop_eq_getElem_cons hk, List.map_cons, List.sum_cons, List.getD_eq_getElem?_getD, List.getElem?_eq_getElem hk]
    rfl
  have hs := Th.spots_ok (told.termsOf.getD k .fls) one
  refine ⟨hk, h.len, fun i hi => h.rest i (by omega), fun q hq => ?_, hs.2, h.is, h.found, by have := h.size; omega⟩
  rw [e1]
  have h1 := hs.1 q hq
  have h2 := okP_len q _ h1
  have h3 := (Th.termsOf_ok told ht _ hm).2.1
  exact ⟨h1, by omega⟩
theorem WI.next {told one : Th} {F : List Str} {B M k : Nat} {acc : List Th × List Th} (h : WI told one F B M k [] acc) : WO told one F B M (k + 1) acc :=
  ⟨h.len, h.rest, h.is, h.found, by have := h.size; simpa using this⟩
theorem WI.step {told one other : Th} {F : List Str} {b B M k : Nat} {q : List Nat} {ps : List (List Nat)} {acc : List Th × List Th} (h : WI told one F B M k (q :: ps) acc) (ht : told.isS F b) (ho : other.isT F B) (hM : told.dep + other.dep ≤ M) : WI told one F B M k ps (stepP told other k acc q) := by
  have hk : k < acc.1.length := by rw [h.len]; exact h.lt
  have hm : acc.1.getD k .fls ∈ acc.1 := by rw [List.getD_eq_getElem?_getD, List.getElem?_eq_getElem hk]; exact List.getElem_mem hk
  obtain ⟨h1, h2⟩ := h.ok q (List.mem_cons_self ..)
  obtain ⟨h3, h4⟩ := h.is _ hm
  have h5 := Th.withP_is ho q _ h3 h1
  have h6 := withP_dep' (o := other) (M := M) q _ h1 h4 (by omega)
  have ap := List.pairwise_cons.mp h.ap
  have is' : ∀ x ∈ acc.1.set k ((acc.1.getD k .fls).withP q other), x.isT F B ∧ x.dep ≤ M := fun x hx => by
    rcases List.mem_or_eq_of_mem_set hx with hx | hx
    · exact h.is x hx
    · rw [hx]; exact ⟨h5, h6⟩
  refine ⟨h.lt, by show (acc.1.set k _).length = _; rw [List.length_set]; exact h.len, fun i hi => ?_, fun p hp => ?_, ap.2, is', fun s hs => ?_, ?_⟩
  · show (acc.1.set k _)[i]? = _
    rw [List.getElem?_set_ne (by omega)]
    exact h.rest i hi
  · show ((acc.1.set k _).getD k .fls).okP p ∧ _
    rw [getD_set_eq hk]
    obtain ⟨g1, g2⟩ := h.ok p (List.mem_cons_of_mem _ hp)
    exact ⟨okP_apart q p _ (ap.1 p hp) h1 g1, g2⟩
  · rcases List.mem_append.mp hs with hs | hs
    · exact h.found s hs
    · rw [List.mem_singleton.mp hs]
      exact ⟨Th.withTs_lay told _ ht fun x hx => Th.layT x (is' x hx).1, Th.withTs_dep (by have := told.dep_pos; omega) told _ ht fun x hx => (is' x hx).2⟩
  · have := h.size
    show (acc.2 ++ [_]).length + _ + _ ≤ _
    simp only [List.length_append, List.length_singleton, List.length_cons, List.length_nil] at this ⊢
    omega
/-- the walk up to the k-th term -/
def accO (told one other : Th) (k : Nat) : List Th × List Th := ((told.termsOf.zipIdx).take k).foldl (fun acc x => (x.1.spots one).foldl (stepP told other x.2) acc) (told.termsOf, [told])
theorem accO_0 (told one other : Th) : accO told one other 0 = (told.termsOf, [told]) := rfl
theorem accO_succ {told one other : Th} {k : Nat} (hk : k < told.termsOf.length) : accO told one other (k + 1) = ((told.termsOf.getD k .fls).spots one).foldl (stepP told other k) (accO told one other k) := by
  unfold accO
  rw [List.take_add_one, List.getElem?_zipIdx, List.getElem?_eq_getElem hk, List.foldl_append, List.getD_eq_getElem?_getD, List.getElem?_eq_getElem hk]
  simp
theorem accO_all (told one other : Th) : (accO told one other told.termsOf.length).2 = walkT told one other := by
  unfold accO walkT
  rw [List.take_of_length_le (by simp)]
def spWalk (K : PySem.W.Frag) : Sp := fun vs H Q _ => ∃ (v vo vu : V) (t one other : Th) (F : List Str) (b : Nat), vs = [v, vo, vu] ∧ R K H v t.d ∧ R K H vo one.d ∧ R K H vu other.d ∧ t.isS F b ∧ one.isT F b ∧ other.isT F b ∧ t.dep + other.dep ≤ 90 ∧ one.dep ≤ 90 ∧ t.sz ≤ 400000 ∧
  ∀ p H', H p = none → Same H H' → Lk K H' p (Th.ds (walkT t one other)) → Q (.ref p) H'
theorem use_walk {K : PySem.W.Frag} {H : Hp} {Q : VK} {E : XK} {v vo vu : V} {t one other : Th} {F : List Str} {b : Nat} (r : R K H v t.d) (ro : R K H vo one.d) (ru : R K H vu other.d) (ht : t.isS F b) (ho : one.isT F b) (hu : other.isT F b) (hd : t.dep + other.dep ≤ 90) (hd2 : one.dep ≤ 90) (hz : t.sz ≤ 400000)
    (h : ∀ p H', H p = none → Same H H' → Lk K H' p (Th.ds (walkT t one other)) → Q (.ref p) H') : spWalk K [v, vo, vu] H Q E := ⟨v, vo, vu, t, one, other, F, b, rfl, r, ro, ru, ht, ho, hu, hd, hd2, hz, h⟩
end G

namespace G
open PySem PySem.Spec PyProof.Rows L2
mutual
theorem Th.isT_sub {F G : List Str} (h : ∀ x ∈ F, x ∈ G) {n : Nat} : ∀ t : Th, t.isT F n → t.isT G n
  | .free x, q => ⟨(show isNameS x = true ∧ x ∈ F from q).1, h _ (show isNameS x = true ∧ x ∈ F from q).2⟩
  | .bnd k, q => q
  | .app .form c as, q => ⟨q.1, q.2.1, Th.areT_sub h as q.2.2⟩
  | .app .call c as, q => ⟨q.1, q.2.1, Th.areT_sub h as q.2.2⟩
theorem Th.areT_sub {F G : List Str} (h : ∀ x ∈ F, x ∈ G) {n : Nat} : ∀ ts : List Th, Th.areT F n ts → Th.areT G n ts
  | [], _ => True.intro
  | t :: ts, q => ⟨Th.isT_sub h t q.1, Th.areT_sub h ts q.2⟩
end
theorem Th.isS_sub {F G : List Str} (h : ∀ x ∈ F, x ∈ G) : ∀ (t : Th) {n : Nat}, t.isS F n → t.isS G n
  | .fls, _, _ => True.intro
  | .two .same a b, _, q => ⟨Th.isT_sub h a q.1, Th.isT_sub h b q.2⟩
  | .app .atom c as, _, q => ⟨q.1, q.2.1, Th.areT_sub h as q.2.2⟩
  | .two .and a b, _, q => ⟨Th.isS_sub h a q.1, Th.isS_sub h b q.2⟩
  | .two .or a b, _, q => ⟨Th.isS_sub h a q.1, Th.isS_sub h b q.2⟩
  | .two .iff a b, _, q => ⟨Th.isS_sub h a q.1, Th.isS_sub h b q.2⟩
  | .qua w k a, _, q => ⟨q.1, Th.isS_sub h a q.2⟩
theorem WI.all {told one other : Th} {F : List Str} {b B M k : Nat} (ht : told.isS F b) (ho : other.isT F B) (hM : told.dep + other.dep ≤ M) : ∀ (ps : List (List Nat)) (acc : List Th × List Th), WI told one F B M k ps acc → WI told one F B M k [] (ps.foldl (stepP told other k) acc)
  | [], _, h => h
  | q :: ps, acc, h => WI.all ht ho hM ps _ (h.step ht ho hM)
theorem WO.all {told one other : Th} {F : List Str} {b B M : Nat} (ht : told.isS F b) (ho : other.isT F B) (hB : b + told.dep ≤ B) (hM : told.dep + other.dep ≤ M) : ∀ k, k ≤ told.termsOf.length → WO told one F B M k (accO told one other k)
  | 0, _ => WO.start ht hB hM
  | k + 1, h => by
    rw [accO_succ (by omega)]
    exact (WI.all ht ho hM _ _ ((WO.all ht ho hB hM k (by omega)).turn ht (by omega))).next
theorem walkT_ok {told one other : Th} {F : List Str} {b : Nat} (ht : told.isS F b) (ho : other.isT F b) : (∀ s ∈ walkT told one other, s.d.canLay0 = true ∧ s.dep ≤ told.dep + (told.dep + other.dep)) ∧ (walkT told one other).length ≤ told.sz + 1 := by
  have h := WO.all (one := one) ht (Th.isT_mono (Nat.le_add_right b told.dep) ho) (Nat.le_refl _) (Nat.le_refl _) _ (Nat.le_refl _)
  have h1 := h.found
  have h2 := h.size
  rw [accO_all] at h1 h2
  exact ⟨h1, by omega⟩
theorem walkT_lay {told one other : Th} {F : List Str} {b : Nat} (ht : told.isS F b) (ho : other.isT F b) : (PyData.list (Th.ds (walkT told one other))).canLay0 = true ∧ (PyData.list (Th.ds (walkT told one other))).depth ≤ 2 * (told.dep + (told.dep + other.dep)) + 2 := by
  have h := (walkT_ok (one := one) ht ho).1
  refine ⟨by simpa [PyData.canLay0] using lay_ds fun x hx => (h x hx).1, ?_⟩
  have h1 := Th.deps_le.mpr fun x hx => (h x hx).2
  have h2 := Th.depths_le (walkT told one other)
  simp only [PyData.depth]
  omega
def spDrawn (K : PySem.W.Frag) : Sp := fun vs H Q _ => ∃ (p : Addr) (v vth vt vu : V) (g : Bk) (xs : List (Str × Str)) (x k : Str) (t u : Th), vs = [.ref p, v, vth, .str x, .str k, vt, vu] ∧ H p = some (Stt p) ∧ BookAt K H v g ∧ BkOk g ∧ 1 ≤ g.words.length ∧ R K H vth (.list (xs.map thingD)) ∧ xs.length ≤ 90 ∧ (∀ y ∈ xs, isNameS y.1 = true) ∧ isNameS x = true ∧
  R K H vt t.d ∧ R K H vu u.d ∧ t.isT (xs.map (·.1)) 0 ∧ u.isT (xs.map (·.1)) 0 ∧ t.dep ≤ 8 ∧ t.sz ≤ 53 ∧ u.dep ≤ 8 ∧ u.sz ≤ 3000 ∧
  ∀ y told H', Same H H' → R K H' y (Th.d told) → told.isS (xs.map (·.1)) 0 → told.dep ≤ 16 → told.sz ≤ 100000 → Q y H'
def spAsked (K : PySem.W.Frag) : Sp := fun vs H Q _ => ∃ (v vt vu : V) (told t u : Th) (F : List Str) (b : Nat), vs = [v, vt, vu] ∧ R K H v told.d ∧ R K H vt t.d ∧ R K H vu u.d ∧ told.isS F b ∧ t.isT F b ∧ u.isT F b ∧ told.dep ≤ 16 ∧ t.dep ≤ 16 ∧ u.dep ≤ 16 ∧ told.sz ≤ 100000 ∧ ∀ H', Same H H' → Q (.bl true) H'
theorem use_drawn {K : PySem.W.Frag} {H : Hp} {Q : VK} {E : XK} {p : Addr} {v vth vt vu : V} {g : Bk} {xs : List (Str × Str)} {x k : Str} {t u : Th} (hp : H p = some (Stt p)) (hb : BookAt K H v g) (ok : BkOk g) (hw : 1 ≤ g.words.length) (rth : R K H vth (.list (xs.map thingD))) (hl : xs.length ≤ 90) (hn : ∀ y ∈ xs, isNameS y.1 = true) (hx : isNameS x = true)
    (rt : R K H vt t.d) (ru : R K H vu u.d) (ht : t.isT (xs.map (·.1)) 0) (hu : u.isT (xs.map (·.1)) 0) (h1 : t.dep ≤ 8) (h2 : t.sz ≤ 53) (h3 : u.dep ≤ 8) (h4 : u.sz ≤ 3000)
    (q : ∀ y told H', Same H H' → R K H' y (Th.d told) → told.isS (xs.map (·.1)) 0 → told.dep ≤ 16 → told.sz ≤ 100000 → Q y H') : spDrawn K [.ref p, v, vth, .str x, .str k, vt, vu] H Q E :=
  ⟨p, v, vth, vt, vu, g, xs, x, k, t, u, rfl, hp, hb, ok, hw, rth, hl, hn, hx, rt, ru, ht, hu, h1, h2, h3, h4, q⟩
theorem use_asked {K : PySem.W.Frag} {H : Hp} {Q : VK} {E : XK} {v vt vu : V} {told t u : Th} {F : List Str} {b : Nat} (r : R K H v told.d) (rt : R K H vt t.d) (ru : R K H vu u.d) (hs : told.isS F b) (ht : t.isT F b) (hu : u.isT F b) (h1 : told.dep ≤ 16) (h2 : t.dep ≤ 16) (h3 : u.dep ≤ 16) (h4 : told.sz ≤ 100000) (q : ∀ H', Same H H' → Q (.bl true) H') : spAsked K [v, vt, vu] H Q E :=
  ⟨v, vt, vu, told, t, u, F, b, rfl, r, rt, ru, hs, ht, hu, h1, h2, h3, h4, q⟩
theorem RA.rev {K : PySem.W.Frag} {H : Hp} : ∀ {vs : List V} {ds : List PyData}, RA K H vs ds → RA K H vs.reverse ds.reverse
  | _, _, .nil => .nil
  | _, _, .cons a t => by rw [List.reverse_cons, List.reverse_cons]; exact (RA.rev t).append (.cons a .nil)
theorem rev_L {K : PySem.W.Frag} {H : Hp} {Q : VK} {l : Addr} {ds : List PyData} (h : Lk K H l ds) (q : ∀ H', SameX l H H' → Lk K H' l ds.reverse → Q .non H') : rReverse (.ref l) [] H Q := by
  obtain ⟨xs, h1, h2⟩ := h.ex
  exact ⟨l, xs, rfl, rfl, h1, q _ .upd ⟨⟨_, upd_same, RA.rev (h2.monoX .upd h1 h.no)⟩, noLs_mem.mpr fun d hd => noLs_mem.mp h.no d (List.mem_reverse.mp hd)⟩⟩
theorem if_joinS (Post : L2.St → Hp → Prop) {c : TT} {t : TS} {σ : L2.St} {H : Hp} {nx bk ct : L2.St → Hp → Prop} {rt : VK} (h1 : ∀ P : L2.St → Hp → Prop, (∀ σ' H', Post σ' H' → P σ' H') → tIfS c t tNext ⟨P, rt, bk, ct⟩ σ H) (h2 : ∀ σ' H', Post σ' H' → nx σ' H') : tIfS c t tNext ⟨nx, rt, bk, ct⟩ σ H := h1 nx h2
end G

section
/-! the words of the walk: S (a heap keeps), R (a value stands for data), A (a row of them), no (a way that cannot be), s (one step), r (all steps) -/
local macro_rules | `(tactic| walk_at "S") => `(tactic| first | exact L2.Same.refl _ | assumption | exact G.sm_tr (by assumption) (by walk_at "S"))
local macro_rules | `(tactic| walk_at "R") => `(tactic| first
  | with_reducible exact G.R.int _ | with_reducible exact G.R.str _ | with_reducible exact G.R.bl _ | with_reducible exact G.R.non
  | with_reducible assumption
  | exact G.r_mono (by with_reducible assumption) (by walk_at "S")
  | ((with_reducible refine' G.R.lst L2.upd_same ?rl); (case rl => walk_at "A")))
local macro_rules | `(tactic| walk_at "A") => `(tactic| first | with_reducible exact G.RA.nil | ((with_reducible refine' G.RA.cons ?ra ?rb); (case ra => walk_at "R"); (case rb => walk_at "A")))
local macro_rules | `(tactic| walk_at "no") => `(tactic| first | contradiction | omega)
local macro_rules | `(tactic| walk_at "side") => `(tactic| first | with_reducible rfl | with_reducible assumption | omega | exact Int.lt_of_lt_of_le (by with_reducible assumption) (by decide +kernel) | ((with_reducible refine G.le_up ?_); decide +kernel) | (simp only [List.length_cons, List.length_nil, List.getElem?_cons_zero, List.getElem?_cons_succ, List.length_map]; done) | (simp only [List.length_cons, List.length_nil, List.length_map, List.length_append] at *; omega))
local macro_rules | `(tactic| walk_at "sideC") => `(tactic| first | with_reducible assumption | (with_reducible refine G.cmul_r ⟨?_, ?_⟩ <;> decide) | (with_reducible refine G.cdiv_r ⟨?_, ?_⟩ <;> decide) | (with_reducible refine G.cmul_l ⟨?_, ?_⟩ <;> decide) | (with_reducible refine G.cpow_c ⟨?_, ?_, ?_⟩ <;> decide) | (with_reducible refine G.cmul_r ⟨?_, ?_⟩ <;> omega) | (with_reducible refine G.cdiv_r ⟨?_, ?_⟩ <;> omega) | omega)
local macro_rules | `(tactic| walk_at "got") => `(tactic| (intro v0 r0; first
  | (have e0 := G.R.inv_str r0; subst e0) | (have e0 := G.R.inv_int r0; subst e0) | (have e0 := G.R.inv_bl r0; subst e0) | (have e0 := G.R.inv_non r0; subst e0) | skip))
local macro_rules | `(tactic| walk_at "P") => `(tactic| first | with_reducible assumption | exact G.keep_at (by with_reducible assumption) (by walk_at "S"))
local macro_rules | `(tactic| walk_at "c") => `(tactic| fail)
local macro_rules | `(tactic| walk_at "Q") => `(tactic| first | with_reducible assumption | exact G.seq_keep (by with_reducible assumption) (by walk_at "S"))
local macro_rules | `(tactic| walk_at "c") => `(tactic| ((with_reducible refine' G.use_state ?hp ?h0 ?h1 ?_); (case hp => walk_at "Q"); (case h0 => walk_at "side"); (case h1 => walk_at "side"); intro p0 H0 s0 hp0))
local macro_rules | `(tactic| walk_at "c") => `(tactic| ((with_reducible refine' G.use_draw ?hp ?h0 ?h1 ?_); (case hp => walk_at "P"); (case h0 => walk_at "side"); (case h1 => walk_at "side"); intro r0 hr0 hr1))
local macro_rules | `(tactic| walk_at "s") => `(tactic| first
  | with_reducible refine G.st_seq ?_
  | ((with_reducible refine' G.st_var ?hv ?_); (case hv => exact rfl))
  | with_reducible refine G.st_c ?_
  | with_reducible refine G.st_op ?_
  | with_reducible refine G.st_bl ?_
  | with_reducible refine L2.iteT ?_
  | with_reducible refine L2.iteF ?_
  | with_reducible refine G.ite_nt ?_
  | with_reducible refine G.ite_nf ?_
  | ((with_reducible refine G.st_ite ?_ ?_) <;> (intro hb; (try simp only [decide_eq_true_eq, decide_eq_false_iff_not, Bool.not_eq_true', Bool.not_eq_false', beq_iff_eq, Bool.and_eq_true, Bool.or_eq_true, Bool.and_eq_false_iff, Bool.or_eq_false_iff, beq_eq_false_iff_ne, ne_eq, Int.not_lt, Int.not_le, Nat.not_lt, Nat.not_le] at hb); first | (exfalso; walk_at "no"; done) | skip))
  | with_reducible refine G.st_if ?_
  | with_reducible refine G.st_ret ?_
  | with_reducible refine G.st_set ?_
  | with_reducible refine G.st_call ?_
  | with_reducible refine G.st_cons ?_
  | with_reducible refine G.st_nil ?_
  | with_reducible refine G.st_CB ?_
  | with_reducible refine G.st_tTest ?_
  | with_reducible refine G.st_tB ?_
  | with_reducible refine G.st_or ?_
  | with_reducible refine G.st_and ?_
  | with_reducible refine G.st_not ?_
  | with_reducible refine G.st_orV ?_
  | with_reducible refine G.st_andV ?_
  | with_reducible refine G.st_notV ?_
  | with_reducible refine G.st_tIf ?_
  | with_reducible refine G.st_chain ?_
  | with_reducible refine G.st_un ?_
  | with_reducible refine G.st_then ?_
  | with_reducible refine G.st_slice ?_
  | with_reducible refine G.st_noPart ?_
  | with_reducible refine G.st_part ?_
  | with_reducible refine G.st_exInt ?_
  | with_reducible refine G.st_drop ?_
  | with_reducible refine G.st_next ?_
  | with_reducible refine G.st_retN ?_
  | with_reducible refine G.add_int ?_
  | with_reducible refine G.i0 ?_
  | ((with_reducible refine G.imod2 (by decide) ?_ ?_) <;> (intro hm; first | (exfalso; walk_at "no"; done) | skip))
  | ((with_reducible refine G.imod3 (by decide) ?_ ?_ ?_) <;> (intro hm; first | (exfalso; walk_at "no"; done) | skip))
  | ((with_reducible refine' G.iC ?hc ?_); (case hc => walk_at "sideC"))
  | ((with_reducible refine' G.eq_str1 ?e ?_); (case e => with_reducible rfl))
  | ((with_reducible refine' G.eq_str0 ?e ?_); (case e => decide +kernel))
  | with_reducible refine G.eq_str ?_
  | with_reducible refine G.eq_int ?_
  | with_reducible refine G.eq_bl ?_
  | with_reducible refine G.ne_str ?_
  | with_reducible refine G.ne_int ?_
  | ((with_reducible refine' G.is_none ?r ?_); (case r => walk_at "R"))
  | ((with_reducible refine' G.isnt_none ?r ?_); (case r => walk_at "R"))
  | with_reducible refine G.is_bl ?_
  | with_reducible refine G.isnt_bl ?_
  | with_reducible refine G.in_sign ?_
  | with_reducible refine G.nin_sign ?_
  | ((with_reducible refine' G.in_strsT1 ?r ?c ?e ?_); (case r => walk_at "R"); (case c => rfl); (case e => decide +kernel))
  | ((with_reducible refine' G.in_strsT0 ?r ?c ?e ?_); (case r => walk_at "R"); (case c => rfl); (case e => decide +kernel))
  | ((with_reducible refine' G.in_strsT ?r ?c ?_); (case r => walk_at "R"); (case c => rfl))
  | ((with_reducible refine' G.nin_strsT ?r ?c ?_); (case r => walk_at "R"); (case c => rfl))
  | ((with_reducible refine' G.in_intsT ?r ?c ?_); (case r => walk_at "R"); (case c => rfl))
  | ((with_reducible refine' G.nin_intsT ?r ?c ?_); (case r => walk_at "R"); (case c => rfl))
  | ((with_reducible refine' G.add_str ?l ?_); (case l => walk_at "side"))
  | ((with_reducible refine' G.add_tup ?r ?s ?l ?_); (case r => walk_at "R"); (case s => walk_at "R"); (case l => walk_at "side"); intro v0 H0 s0 r0)
  | ((with_reducible refine' G.add_lst ?r ?s ?l ?_); (case r => walk_at "R"); (case s => walk_at "R"); (case l => walk_at "side"); intro v0 H0 s0 r0)
  | ((with_reducible refine' G.isi_1 ?r ?e ?t ?_); (case r => walk_at "R"); (case e => rfl); (case t => simp only [List.mem_cons, true_or, or_true]))
  | ((with_reducible refine' G.isi_0 ?r ?e ?t ?_); (case r => walk_at "R"); (case e => rfl); (case t => simp only [List.mem_cons, true_or, or_true]))
  | ((with_reducible refine' G.isi_R ?r ?t ?_); (case r => walk_at "R"); (case t => simp only [List.mem_cons, true_or, or_true]))
  | ((with_reducible refine' G.len_str ?l ?_); (case l => walk_at "side"))
  | ((with_reducible refine' G.len_tup ?r ?_); (case r => walk_at "R"))
  | ((with_reducible refine' G.len_lst ?r ?_); (case r => walk_at "R"))
  | (with_reducible refine G.st_tup ?_)
  | (with_reducible refine G.st_lst ?_)
  | ((with_reducible refine' G.st_newT ?r ?l ?_); (case r => walk_at "A"); (case l => first | exact Nat.le_of_ble_eq_true rfl | walk_at "side"); intro v0 H0 s0 r0)
  | ((with_reducible refine' G.st_newL ?r ?l ?_); (case r => walk_at "A"); (case l => first | exact Nat.le_of_ble_eq_true rfl | walk_at "side"); intro v0 H0 s0 r0)
  | ((with_reducible refine' G.ix_tupR ?r ?h0 ?hd ?_); (case r => walk_at "R"); (case h0 => walk_at "side"); (case hd => first | rfl | assumption); walk_at "got")
  | ((with_reducible refine' G.ix_lstR ?r ?h0 ?hd ?_); (case r => walk_at "R"); (case h0 => walk_at "side"); (case hd => first | rfl | assumption); walk_at "got")
  | ((with_reducible refine' G.ix_strR ?l ?h0 ?hd ?_); (case l => walk_at "side"); (case h0 => walk_at "side"); (case hd => first | rfl | assumption))
  | ((with_reducible refine' G.ix_strM ?l ?h0 ?h1 ?_); (case l => walk_at "side"); (case h0 => walk_at "side"); (case h1 => walk_at "side"); intro c0 hc0)
  | ((with_reducible refine' G.ix_tupN ?r ?h0 ?h1 ?_); (case r => walk_at "R"); (case h0 => walk_at "side"); (case h1 => walk_at "side"); intro v0 d0 hd0 r0)
  | ((with_reducible refine' G.ix_lstS ?r ?h0 ?h1 ?_); (case r => walk_at "R"); (case h0 => walk_at "side"); (case h1 => walk_at "side"); intro z0 hz0)
  | ((with_reducible refine' G.ix_lstN ?r ?h0 ?h1 ?_); (case r => walk_at "R"); (case h0 => walk_at "side"); (case h1 => walk_at "side"); intro v0 d0 hd0 r0)
  | ((with_reducible refine' G.sl_strR ?l ?_); (case l => walk_at "side"))
  | ((with_reducible refine' G.sl_tupR ?r ?_); (case r => walk_at "R"); intro v0 H0 s0 r0)
  | ((with_reducible refine' G.sl_lstR ?r ?_); (case r => walk_at "R"); intro v0 H0 s0 r0)
  | ((with_reducible refine' G.tupOf_L ?r ?_); (case r => walk_at "R"); intro v0 H0 s0 r0)
  | ((with_reducible refine' G.tupOf_T ?r ?_); (case r => walk_at "R"))
  | ((with_reducible refine' G.lstOf_T ?r ?_); (case r => walk_at "R"); intro v0 H0 s0 r0)
  | ((with_reducible refine' G.lstOf_L ?r ?_); (case r => walk_at "R"); intro v0 H0 s0 r0)
  | with_reducible refine G.st_lcL ?_
  | with_reducible refine G.st_lcT ?_
  | with_reducible refine G.st_lcS ?_
  | with_reducible refine G.st_lcR ?_
  | with_reducible refine G.st_M0 ?_
  | with_reducible refine G.st_M1 ?_
  | (with_reducible refine G.upper_one ?_; intro hu0)
  | ((with_reducible refine' G.upper_R ?l ?_); (case l => walk_at "side"))
  | (with_reducible refine G.st_strAnd ?_)
  | (with_reducible refine G.st_sub ?_)
  | ((with_reducible refine' G.set_20 ?hp ?_); (case hp => first | exact L2.upd_same | walk_at "P"))
  | ((with_reducible refine' G.set_21 ?hp ?_); (case hp => first | exact L2.upd_same | walk_at "P"))
  | ((with_reducible refine' G.set_at ?hp ?hi ?_); (case hp => first | exact L2.upd_same | walk_at "P"); (case hi => rfl))
  | with_reducible refine G.st_lst2 ?_
  | with_reducible refine G.st_shut ?_
  | with_reducible refine G.st_forR ?_
  | ((with_reducible refine' G.len_scr ?s ?_); (case s => walk_at "Q"))
  | ((with_reducible refine' G.ix_scr ?s ?h0 ?h1 ?_); (case s => walk_at "Q"); (case h0 => walk_at "side"); (case h1 => walk_at "side"); intro n0)
  | ((with_reducible refine' G.sl_scr ?s ?_); (case s => walk_at "Q"); intro v0 H0 s0 r0)
  | (with_reducible refine' G.st_disp1 ?_; intro v0 H0 s0 r0)
  | walk_at "c"
  | fail "no step")
local macro_rules | `(tactic| walk_at "r") => `(tactic| repeat' (walk_at "s"))

local macro_rules | `(tactic| walk_at "side") => `(tactic| first | exact G.nm_a (by with_reducible assumption) | exact G.fm_a (by with_reducible assumption) | exact G.nm_b (by with_reducible assumption) | exact G.nm_c (by with_reducible assumption) | fail)
local macro_rules | `(tactic| walk_at "c") => `(tactic| ((with_reducible refine' G.use_name ?hp ?_); (case hp => walk_at "P"); intro z0 H0 s0 hz0))
local macro_rules | `(tactic| walk_at "c") => `(tactic| ((with_reducible refine' G.use_form ?hp ?_); (case hp => walk_at "P"); intro z0 H0 s0 hz0))
local macro_rules | `(tactic| walk_at "c") => `(tactic| ((with_reducible refine' G.use_pool ?hp ?_); (case hp => walk_at "P"); intro v0 fs0 gs0 ns0 H0 s0 ok0 r0))
local macro_rules | `(tactic| walk_at "c") => `(tactic| ((with_reducible refine' G.use_leaf ?hp ?r ?ok ?h0 ?h1 ?_); (case hp => walk_at "P"); (case r => walk_at "R"); (case ok => with_reducible assumption); (case h0 => walk_at "side"); (case h1 => walk_at "side"); intro v0 t0 H0 s0 r0 ht0 hd0 hs0))
local macro_rules | `(tactic| walk_at "c") => `(tactic| ((with_reducible refine' G.use_term ?hp ?r ?ok ?h0 ?h1 ?e0 ?e1 ?_); (case hp => walk_at "P"); (case r => walk_at "R"); (case ok => with_reducible assumption); (case h0 => walk_at "side"); (case h1 => walk_at "side"); (case e0 => walk_at "side"); (case e1 => walk_at "side"); intro v0 t0 H0 s0 r0 ht0 hd0 hs0))
local macro_rules | `(tactic| walk_at "c") => `(tactic| ((with_reducible refine' G.use_tall ?hp ?r ?ok ?rt ?ht ?h0 ?h1 ?_); (case hp => walk_at "P"); (case r => walk_at "R"); (case ok => with_reducible assumption); (case rt => walk_at "R"); (case ht => with_reducible assumption); (case h0 => walk_at "side"); (case h1 => walk_at "side"); intro v0 t0 H0 s0 r0 ht0 hd0 hs0))
local macro_rules | `(tactic| walk_at "c") => `(tactic| ((with_reducible refine' G.use_anyT ?hp ?r ?ok ?h0 ?h1 ?_); (case hp => walk_at "P"); (case r => walk_at "R"); (case ok => with_reducible assumption); (case h0 => walk_at "side"); (case h1 => walk_at "side"); intro v0 t0 H0 s0 r0 ht0 hd0 hs0))

local macro_rules | `(tactic| walk_at "w") => `(tactic| first
  | with_reducible refine G.st_BM0 ?_
  | with_reducible refine G.st_BM ?_
  | ((with_reducible refine' G.st_tyl ?hl ?_); (case hl => walk_at "P"))
  | ((with_reducible refine' G.popR ?hl ?ra ?hn ?_); (case hl => walk_at "P"); (case ra => with_reducible assumption); (case hn => with_reducible assumption); intro v0 ws0 H0 x0 hl0 ra0 r0)
  | ((with_reducible refine' G.extR ?hl ?ra ?r ?hz ?hn ?hn' ?_); (case hl => walk_at "P"); (case ra => first | with_reducible assumption | exact G.ra_mono (by with_reducible assumption) (by walk_at "S")); (case r => walk_at "R"); (case hz => walk_at "side"); (case hn => walk_at "nol"); (case hn' => walk_at "nol"); intro ws0 H0 x0 hl0 ra0)
  | ((with_reducible refine' G.gtup2 ?r ?_); (case r => walk_at "R"); intro v1 v2 r1 r2)
  | with_reducible refine G.st_asgT ?_
  | with_reducible refine G.int_bl ?_
  | with_reducible refine G.max_2 ?_
  | ((with_reducible refine' G.st_aug ?hx ?_); (case hx => rfl))
  | with_reducible refine G.ipI_int ?_
  | with_reducible refine G.whB ?_
  | with_reducible refine G.st_lstF ?_
  | ((with_reducible refine' G.st_newLF ?r ?l ?_); (case r => walk_at "A"); (case l => first | exact Nat.le_of_ble_eq_true rfl | walk_at "side"); intro p0 H0 f0 s0 hl0 ra0)
  | fail "no step")
local macro_rules | `(tactic| walk_at "nol") => `(tactic| first | with_reducible assumption | rfl | exact G.Th.noL _ | exact G.Th.noLs _)
local macro_rules | `(tactic| walk_at "c") => `(tactic| walk_at "w")

local macro_rules | `(tactic| walk_at "c") => `(tactic| first
  | with_reducible refine G.neg_i ?_
  | with_reducible refine G.st_BMs ?_
  | with_reducible refine G.st_tys ?_
  | with_reducible refine G.st_gcons ?_
  | with_reducible refine G.st_gnil ?_
  | with_reducible refine G.st_gname ?_
  | with_reducible refine G.st_gsub ?_
  | ((with_reducible refine' G.iC ?hc ?_); (case hc => show (0 : Int) < _; decide +kernel))
  | ((with_reducible refine' G.ix_scrLast ?hs ?h1 ?_); (case hs => walk_at "Q"); (case h1 => walk_at "side"); intro n0)
  | ((with_reducible refine' G.divmodR ?h0 ?h1 ?_); (case h0 => walk_at "side"); (case h1 => walk_at "side"); intro p0 H0 f0 e0)
  | (with_reducible refine G.absR ?_; intro j0)
  | fail "no step")

namespace G
open PySem PySem.Spec PyProof.Rows L2
def top (i : Nat) : Stmt := PySem.Challenge.pw_tacticwright_k61_walks_told.main.body.getD i (.Pass ⟨0, 0, 0, 0⟩)
abbrev s_with_place : Stmt := top 1
abbrev n_with_place : List Str := ["t", "place", "u", "k", "args"]
abbrev p_with_place : List Str := ["t", "place", "u"]
theorem sc_with_place : FnScope n_with_place p_with_place (defScope s_with_place) := ⟨rfl, rfl, rfl, by decide +kernel, rfl, by decide +kernel, by decide +kernel⟩
abbrev s_args_of : Stmt := top 3
abbrev n_args_of : List Str := ["t"]
abbrev p_args_of : List Str := ["t"]
theorem sc_args_of : FnScope n_args_of p_args_of (defScope s_args_of) := ⟨rfl, rfl, rfl, by decide +kernel, rfl, by decide +kernel, by decide +kernel⟩
abbrev s_terms_of : Stmt := top 4
abbrev n_terms_of : List Str := ["told"]
abbrev p_terms_of : List Str := ["told"]
theorem sc_terms_of : FnScope n_terms_of p_terms_of (defScope s_terms_of) := ⟨rfl, rfl, rfl, by decide +kernel, rfl, by decide +kernel, by decide +kernel⟩
abbrev s_with_terms : Stmt := top 5
abbrev n_with_terms : List Str := ["told", "terms", "many"]
abbrev p_with_terms : List Str := ["told", "terms"]
theorem sc_with_terms : FnScope n_with_terms p_with_terms (defScope s_with_terms) := ⟨rfl, rfl, rfl, by decide +kernel, rfl, by decide +kernel, by decide +kernel⟩
abbrev s_places_where : Stmt := top 7
abbrev n_places_where : List Str := ["t", "one", "found", "waiting", "place", "part", "args", "k"]
abbrev p_places_where : List Str := ["t", "one"]
theorem sc_places_where : FnScope n_places_where p_places_where (defScope s_places_where) := ⟨rfl, rfl, rfl, by decide +kernel, rfl, by decide +kernel, by decide +kernel⟩
abbrev s_walk : Stmt := top 8
abbrev n_walk : List Str := ["told", "one", "other", "found", "terms", "k", "t", "place"]
abbrev p_walk : List Str := ["told", "one", "other"]
theorem sc_walk : FnScope n_walk p_walk (defScope s_walk) := ⟨rfl, rfl, rfl, by decide +kernel, rfl, by decide +kernel, by decide +kernel⟩
abbrev s_l_begin : Stmt := top 10
abbrev n_l_begin : List Str := ["_law_script", "_law_seed", "_law_cell", "_law_first"]
abbrev p_l_begin : List Str := ["_law_script"]
theorem sc_l_begin : FnScope n_l_begin p_l_begin (defScope s_l_begin) := ⟨rfl, rfl, rfl, by decide +kernel, rfl, by decide +kernel, by decide +kernel⟩
abbrev s_l_next : Stmt := top 11
abbrev n_l_next : List Str := ["_law_state", "_law_many", "_law_digit"]
abbrev p_l_next : List Str := ["_law_state", "_law_many"]
theorem sc_l_next : FnScope n_l_next p_l_next (defScope s_l_next) := ⟨rfl, rfl, rfl, by decide +kernel, rfl, by decide +kernel, by decide +kernel⟩
abbrev s_l_names : Stmt := top 12
abbrev n_l_names : List Str := ["_law_state", "_law_letters", "_law_stem", "_law_k", "_law_turn", "_law_some", "_law_at", "_law_names_here", "_law_sign", "_law_name"]
abbrev p_l_names : List Str := ["_law_state"]
theorem sc_l_names : FnScope n_l_names p_l_names (defScope s_l_names) := ⟨rfl, rfl, rfl, by decide +kernel, rfl, by decide +kernel, by decide +kernel⟩
abbrev s_l_great : Stmt := top 13
abbrev n_l_great : List Str := ["_law_name"]
abbrev p_l_great : List Str := ["_law_name"]
theorem sc_l_great : FnScope n_l_great p_l_great (defScope s_l_great) := ⟨rfl, rfl, rfl, by decide +kernel, rfl, by decide +kernel, by decide +kernel⟩
abbrev s_l_least : Stmt := top 14
abbrev n_l_least : List Str := ["_law_book_here", "_law_kind", "_law_name", "_law_parts", "_law_part"]
abbrev p_l_least : List Str := ["_law_book_here", "_law_kind"]
theorem sc_l_least : FnScope n_l_least p_l_least (defScope s_l_least) := ⟨rfl, rfl, rfl, by decide +kernel, rfl, by decide +kernel, by decide +kernel⟩
abbrev s_l_term : Stmt := top 15
abbrev n_l_term : List Str := ["_law_state", "_law_book_here", "_law_kind", "_law_things", "_law_inner", "_law_room", "_law_own", "_law_leaves", "_law_pick", "_law_head", "_law_args_here", "_law_ways", "_law_word", "_law_name", "_law_parts", "_law_x", "_law_other", "_law_k", "_law_part", "_law_f"]
abbrev p_l_term : List Str := ["_law_state", "_law_book_here", "_law_kind", "_law_things", "_law_inner", "_law_room", "_law_own"]
theorem sc_l_term : FnScope n_l_term p_l_term (defScope s_l_term) := ⟨rfl, rfl, rfl, by decide +kernel, rfl, by decide +kernel, by decide +kernel⟩
abbrev s_l_function : Stmt := top 16
abbrev n_l_function : List Str := ["_law_state", "_law_book_here", "_law_f", "_law_kinds", "_law_args_here", "_law_kind", "_law_first", "_law_terms_here", "_law_name", "_law_parts", "_law_own", "_law_k", "_law_part"]
abbrev p_l_function : List Str := ["_law_state", "_law_book_here", "_law_f"]
theorem sc_l_function : FnScope n_l_function p_l_function (defScope s_l_function) := ⟨rfl, rfl, rfl, by decide +kernel, rfl, by decide +kernel, by decide +kernel⟩
abbrev s_l_book : Stmt := top 17
abbrev n_l_book : List Str := ["_law_state", "_law_names_here", "_law_a", "_law_b", "_law_c", "_law_great_here", "_law_forms", "_law_calls", "_law_rows", "_law_book_here", "_law_wide", "_law_f", "_law_row", "_law_word", "_law_name", "_law_parts", "_law_kind", "_law_j"]
abbrev p_l_book : List Str := ["_law_state", "_law_names_here"]
theorem sc_l_book : FnScope n_l_book p_l_book (defScope s_l_book) := ⟨rfl, rfl, rfl, by decide +kernel, rfl, by decide +kernel, by decide +kernel⟩
abbrev s_l_said : Stmt := top 18
abbrev n_l_said : List Str := ["_law_state", "_law_book_here", "_law_things", "_law_inner", "_law_room", "_law_way", "_law_word", "_law_kinds", "_law_some", "_law_kind", "_law_one"]
abbrev p_l_said : List Str := ["_law_state", "_law_book_here", "_law_things", "_law_inner", "_law_room"]
theorem sc_l_said : FnScope n_l_said p_l_said (defScope s_l_said) := ⟨rfl, rfl, rfl, by decide +kernel, rfl, by decide +kernel, by decide +kernel⟩
abbrev s_l_planted : Stmt := top 19
abbrev n_l_planted : List Str := ["_law_thing", "_law_x", "_law_t", "_law_part"]
abbrev p_l_planted : List Str := ["_law_thing", "_law_x", "_law_t"]
theorem sc_l_planted : FnScope n_l_planted p_l_planted (defScope s_l_planted) := ⟨rfl, rfl, rfl, by decide +kernel, rfl, by decide +kernel, by decide +kernel⟩
abbrev s_l_args : Stmt := top 20
abbrev n_l_args : List Str := ["_law_t"]
abbrev p_l_args : List Str := ["_law_t"]
theorem sc_l_args : FnScope n_l_args p_l_args (defScope s_l_args) := ⟨rfl, rfl, rfl, by decide +kernel, rfl, by decide +kernel, by decide +kernel⟩
abbrev s_l_terms : Stmt := top 21
abbrev n_l_terms : List Str := ["_law_told"]
abbrev p_l_terms : List Str := ["_law_told"]
theorem sc_l_terms : FnScope n_l_terms p_l_terms (defScope s_l_terms) := ⟨rfl, rfl, rfl, by decide +kernel, rfl, by decide +kernel, by decide +kernel⟩
abbrev s_l_with : Stmt := top 22
abbrev n_l_with : List Str := ["_law_told", "_law_terms_here", "_law_one", "_law_part"]
abbrev p_l_with : List Str := ["_law_told", "_law_terms_here"]
theorem sc_l_with : FnScope n_l_with p_l_with (defScope s_l_with) := ⟨rfl, rfl, rfl, by decide +kernel, rfl, by decide +kernel, by decide +kernel⟩
abbrev s_l_spots : Stmt := top 23
abbrev n_l_spots : List Str := ["_law_t", "_law_one", "_law_place", "_law_found", "_law_k", "_law_part"]
abbrev p_l_spots : List Str := ["_law_t", "_law_one", "_law_place"]
theorem sc_l_spots : FnScope n_l_spots p_l_spots (defScope s_l_spots) := ⟨rfl, rfl, rfl, by decide +kernel, rfl, by decide +kernel, by decide +kernel⟩
abbrev s_l_set : Stmt := top 24
abbrev n_l_set : List Str := ["_law_t", "_law_place", "_law_u", "_law_k"]
abbrev p_l_set : List Str := ["_law_t", "_law_place", "_law_u"]
theorem sc_l_set : FnScope n_l_set p_l_set (defScope s_l_set) := ⟨rfl, rfl, rfl, by decide +kernel, rfl, by decide +kernel, by decide +kernel⟩
abbrev s_l_walk : Stmt := top 25
abbrev n_l_walk : List Str := ["_law_told", "_law_t", "_law_u", "_law_found", "_law_terms_here", "_law_k", "_law_place"]
abbrev p_l_walk : List Str := ["_law_told", "_law_t", "_law_u"]
theorem sc_l_walk : FnScope n_l_walk p_l_walk (defScope s_l_walk) := ⟨rfl, rfl, rfl, by decide +kernel, rfl, by decide +kernel, by decide +kernel⟩
abbrev s_l_nodes : Stmt := top 26
abbrev n_l_nodes : List Str := ["_law_t", "_law_part"]
abbrev p_l_nodes : List Str := ["_law_t"]
theorem sc_l_nodes : FnScope n_l_nodes p_l_nodes (defScope s_l_nodes) := ⟨rfl, rfl, rfl, by decide +kernel, rfl, by decide +kernel, by decide +kernel⟩
abbrev s_l_places : Stmt := top 27
abbrev n_l_places : List Str := ["_law_told", "_law_t", "_law_one"]
abbrev p_l_places : List Str := ["_law_told", "_law_t"]
theorem sc_l_places : FnScope n_l_places p_l_places (defScope s_l_places) := ⟨rfl, rfl, rfl, by decide +kernel, rfl, by decide +kernel, by decide +kernel⟩
abbrev s_l_drawn : Stmt := top 28
abbrev n_l_drawn : List Str := ["_law_state", "_law_book_here", "_law_things", "_law_x", "_law_kind", "_law_t", "_law_u", "_law_room", "_law_told", "_law_many", "_law_more", "_law_one"]
abbrev p_l_drawn : List Str := ["_law_state", "_law_book_here", "_law_things", "_law_x", "_law_kind", "_law_t", "_law_u"]
theorem sc_l_drawn : FnScope n_l_drawn p_l_drawn (defScope s_l_drawn) := ⟨rfl, rfl, rfl, by decide +kernel, rfl, by decide +kernel, by decide +kernel⟩
abbrev s_l_asked : Stmt := top 29
abbrev n_l_asked : List Str := ["_law_told", "_law_t", "_law_u", "_law_due", "_law_found"]
abbrev p_l_asked : List Str := ["_law_told", "_law_t", "_law_u"]
theorem sc_l_asked : FnScope n_l_asked p_l_asked (defScope s_l_asked) := ⟨rfl, rfl, rfl, by decide +kernel, rfl, by decide +kernel, by decide +kernel⟩
abbrev s_law : Stmt := top 30
abbrev n_law : List Str := ["_law_script", "_law_state", "_law_names_here", "_law_book_here", "_law_kind", "_law_things", "_law_t", "_law_u", "_law_told"]
abbrev p_law : List Str := ["_law_script"]
theorem sc_law : FnScope n_law p_law (defScope s_law) := ⟨rfl, rfl, rfl, by decide +kernel, rfl, by decide +kernel, by decide +kernel⟩
structure Tp (K : PySem.W.Frag) (mg : Str → Option Value) : Prop where
  d_with_place : Df K mg "with_place" s_with_place p_with_place
  d_args_of : Df K mg "args_of" s_args_of p_args_of
  d_terms_of : Df K mg "terms_of" s_terms_of p_terms_of
  d_with_terms : Df K mg "with_terms" s_with_terms p_with_terms
  d_places_where : Df K mg "places_where" s_places_where p_places_where
  d_walk : Df K mg "walk" s_walk p_walk
  d_l_begin : Df K mg "_law_begin" s_l_begin p_l_begin
  d_l_next : Df K mg "_law_next" s_l_next p_l_next
  d_l_names : Df K mg "_law_names" s_l_names p_l_names
  d_l_great : Df K mg "_law_great" s_l_great p_l_great
  d_l_least : Df K mg "_law_least" s_l_least p_l_least
  d_l_term : Df K mg "_law_term" s_l_term p_l_term
  d_l_function : Df K mg "_law_function" s_l_function p_l_function
  d_l_book : Df K mg "_law_book" s_l_book p_l_book
  d_l_said : Df K mg "_law_said" s_l_said p_l_said
  d_l_planted : Df K mg "_law_planted" s_l_planted p_l_planted
  d_l_args : Df K mg "_law_args" s_l_args p_l_args
  d_l_terms : Df K mg "_law_terms" s_l_terms p_l_terms
  d_l_with : Df K mg "_law_with" s_l_with p_l_with
  d_l_spots : Df K mg "_law_spots" s_l_spots p_l_spots
  d_l_set : Df K mg "_law_set" s_l_set p_l_set
  d_l_walk : Df K mg "_law_walk" s_l_walk p_l_walk
  d_l_nodes : Df K mg "_law_nodes" s_l_nodes p_l_nodes
  d_l_places : Df K mg "_law_places" s_l_places p_l_places
  d_l_drawn : Df K mg "_law_drawn" s_l_drawn p_l_drawn
  d_l_asked : Df K mg "_law_asked" s_l_asked p_l_asked
  n_abs : mg "abs" = none
  n_divmod : mg "divmod" = none
  n_enumerate : mg "enumerate" = none
  n_int : mg "int" = none
  n_isinstance : mg "isinstance" = none
  n_len : mg "len" = none
  n_list : mg "list" = none
  n_min : mg "min" = none
  n_range : mg "range" = none
  n_reversed : mg "reversed" = none
  n_sum : mg "sum" = none
  n_tuple : mg "tuple" = none

section
variable {P : Program} {w : World} {K : PySem.W.Frag} {mg : Str → Option Value} {base : Heap} {k n : Nat}
theorem ok_l_begin (T : Tp K mg) : Cal P w K mg base (k + 1) "_law_begin" (spBegin K) := by
  refine T.d_l_begin.cal sc_l_begin (fun vs H Q E h => ?_) (fun f cdv A outer s H vs Q E hr h => ?_)
  · obtain ⟨a, ns, rfl, _⟩ := h; rfl
  obtain ⟨a, ns, rfl, hS, hl, q⟩ := h
  have sc := @sc_l_begin
  refine ⟨_, pss_shut (pss_cons (ps_set (i := 1) sc.nd rfl (Or.inl rfl) (pe_op (op_addK K) (pe_callB (len_K K) rfl T.n_len bt_len (pa_cons (pv 0) pa_nil)) pe_int))
      (pss_cons (ps_for PassesOwn.never rfl (pi_listK K (pv 0)) (pg_name (i := 2) sc.nd rfl (Or.inl rfl)) (pss_one (ps_set (i := 1) sc.nd rfl (Or.inl rfl) (pe_op op_mod (pe_op (op_addK K) (pe_op (op_addK K) (pe_op op_mul (pv 1) pe_int) (pe_op op_mod (pv 2) (pe_op op_pow pe_int pe_int))) pe_int) pe_int))))
      (pss_cons (ps_set (i := 3) sc.nd rfl (Or.inl rfl) pe_int)
      (pss_cons (ps_if (PW.pt (pw_and (pt_cmpR op_gt (pe_callB (len_K K) rfl T.n_len bt_len (pa_cons (pv 0) pa_nil)) pe_int (nomark _)) (pw_and1 (pt_cmpR (op_eqK K hr) (pe_op op_mod (pe_ix (ix_K K) (pv 0) (pe_un un_neg pe_int) (fun _ _ => rfl)) pe_int) pe_int (nomark _))))) (pss_one (ps_set (i := 3) sc.nd rfl (Or.inl rfl) (pe_op op_fdiv (pe_callB call_absR rfl T.n_abs bt_abs (pa_cons (pe_ix (ix_K K) (pv 0) (pe_un un_neg pe_int) (fun _ _ => rfl)) pa_nil)) pe_int))) pss_nil)
      (pss_one (ps_ret (pe_lst2 (pa_cons (pv 1) (pa_cons (pv 3) pa_nil))))))))), ?_⟩
  walk_at "r"
  refine st_forL ?_
  walk_at "r"
  refine for_scr (fun _ σ' H' => Same H H' ∧ ∃ (s : Int) (x1 x2 : Option V), σ' = [some (.ref a), some (.int s), x1, x2]) hS ⟨Same.refl _, _, _, _, rfl⟩ (fun _ _ _ p => p.1) ?_ ?_
  · rintro i n σ' H' ⟨s1, s, x1, x2, rfl⟩
    walk_at "r"
    exact ⟨s1, _, _, _, rfl⟩
  · rintro σ' H' ⟨s1, s, x1, x2, rfl⟩
    walk_at "r"
    all_goals
      refine ⟨by show 2 ≤ sizeLine; decide, fun p hp => ⟨p, _, _, rfl, upd_same, ?_⟩⟩
      rw [upd_upd]
      exact q p _ (s1.trans (same_new hp _)) upd_same
theorem ok_l_next (T : Tp K mg) : Cal P w K mg base (k + 1) "_law_next" spNext := by
  refine T.d_l_next.cal sc_l_next (fun vs H Q E h => ?_) (fun f cdv A outer s H vs Q E hr h => ?_)
  · obtain ⟨p, n, rfl, _⟩ := h; rfl
  obtain ⟨p, n, rfl, hp, h0, h1, q⟩ := h
  have sc := @sc_l_next
  refine ⟨_, pss_open (pss_cons (ps_if (pt_cmpR op_gt (pe_ix (ix_K K) (pv 0) pe_int (fun _ _ => rfl)) pe_int (nomark _)) (pss_cons (ps_asg (pe_callB call_divmodR rfl T.n_divmod bt_divmod (pa_cons (pe_ix (ix_K K) (pv 0) pe_int (fun _ _ => rfl)) (pa_cons (pv 1) pa_nil))) (gtK K (pg_tup (n := 2) rfl (pgs_cons (pg_sub (pv 0) pe_int set_list) (pgs_cons (pg_name (i := 2) sc.nd rfl (Or.inl rfl)) pgs_nil)))))
      (pss_one (ps_ret (pv 2)))) pss_nil)
      (pss_cons (ps_asg (pe_op op_mod (pe_op (op_addK K) (pe_op op_mul (pe_ix (ix_K K) (pv 0) pe_int (fun _ _ => rfl)) pe_int) pe_int) pe_int) (pg_sub (pv 0) pe_int set_list))
      (pss_one (ps_ret (pe_op op_mod (pe_op op_fdiv (pe_ix (ix_K K) (pv 0) pe_int (fun _ _ => rfl)) pe_int) (pv 1)))))), ?_⟩
  refine ⟨p, hp, fun a b => ?_⟩
  have r0 : R K (upd H p (.lst [.int a, .int b])) (.ref p) (.list [.int a, .int b]) := .lst upd_same (.cons (.int a) (.cons (.int b) .nil))
  have hn : CDiv a n := ⟨h0, by omega⟩
  walk_at "r"
  · rename_i p0 H0 f0 e0
    have hne : p0 ≠ p := fun e => by rw [e, upd_same] at f0; cases f0
    have hp0 : H0 p = some (.lst [.int a, .int b]) := by rw [e0, upd_ne (Ne.symm hne)]; exact upd_same
    refine ⟨p0, _, rfl, .inl (.inl (by rw [e0]; exact upd_same)), rfl, ?_⟩
    walk_at "r"
    refine ⟨_, _, upd_same, ?_⟩
    rw [upd_upd]
    refine q _ _ (fun b o h => ?_) (Int.emod_nonneg _ (by omega)) (Int.emod_lt_of_pos _ h0)
    by_cases hb : b = p
    · rw [hb] at h ⊢; rw [upd_same, ← h, hp]
    · rw [upd_ne hb, e0]
      have hb0 : b ≠ p0 := fun e => by rw [← e, upd_ne hb, h] at f0; cases f0
      rw [upd_ne hb0, upd_ne hb]; exact h
  · refine ⟨_, _, upd_same, ?_⟩
    rw [upd_upd, upd_upd, upd_eta hp]
    exact q _ _ (Same.refl _) (Int.emod_nonneg _ (by omega)) (Int.emod_lt_of_pos _ h0)

end
end G

end

section
/-! the words of the walk: S (a heap keeps), R (a value stands for data), A (a row of them), no (a way that cannot be), s (one step), r (all steps) -/
local macro_rules | `(tactic| walk_at "S") => `(tactic| first | exact L2.Same.refl _ | assumption | exact G.sm_tr (by assumption) (by walk_at "S"))
local macro_rules | `(tactic| walk_at "R") => `(tactic| first
  | with_reducible exact G.R.int _ | with_reducible exact G.R.str _ | with_reducible exact G.R.bl _ | with_reducible exact G.R.non
  | with_reducible assumption
  | exact G.r_mono (by with_reducible assumption) (by walk_at "S")
  | ((with_reducible refine' G.R.lst L2.upd_same ?rl); (case rl => walk_at "A")))
local macro_rules | `(tactic| walk_at "A") => `(tactic| first | with_reducible exact G.RA.nil | ((with_reducible refine' G.RA.cons ?ra ?rb); (case ra => walk_at "R"); (case rb => walk_at "A")))
local macro_rules | `(tactic| walk_at "no") => `(tactic| first | contradiction | omega)
local macro_rules | `(tactic| walk_at "side") => `(tactic| first | with_reducible rfl | with_reducible assumption | omega | exact Int.lt_of_lt_of_le (by with_reducible assumption) (by decide +kernel) | ((with_reducible refine G.le_up ?_); decide +kernel) | (simp only [List.length_cons, List.length_nil, List.getElem?_cons_zero, List.getElem?_cons_succ, List.length_map]; done) | (simp only [List.length_cons, List.length_nil, List.length_map, List.length_append] at *; omega))
local macro_rules | `(tactic| walk_at "sideC") => `(tactic| first | with_reducible assumption | (with_reducible refine G.cmul_r ⟨?_, ?_⟩ <;> decide) | (with_reducible refine G.cdiv_r ⟨?_, ?_⟩ <;> decide) | (with_reducible refine G.cmul_l ⟨?_, ?_⟩ <;> decide) | (with_reducible refine G.cpow_c ⟨?_, ?_, ?_⟩ <;> decide) | (with_reducible refine G.cmul_r ⟨?_, ?_⟩ <;> omega) | (with_reducible refine G.cdiv_r ⟨?_, ?_⟩ <;> omega) | omega)
local macro_rules | `(tactic| walk_at "got") => `(tactic| (intro v0 r0; first
  | (have e0 := G.R.inv_str r0; subst e0) | (have e0 := G.R.inv_int r0; subst e0) | (have e0 := G.R.inv_bl r0; subst e0) | (have e0 := G.R.inv_non r0; subst e0) | skip))
local macro_rules | `(tactic| walk_at "P") => `(tactic| first | with_reducible assumption | exact G.keep_at (by with_reducible assumption) (by walk_at "S"))
local macro_rules | `(tactic| walk_at "c") => `(tactic| fail)
local macro_rules | `(tactic| walk_at "Q") => `(tactic| first | with_reducible assumption | exact G.seq_keep (by with_reducible assumption) (by walk_at "S"))
local macro_rules | `(tactic| walk_at "c") => `(tactic| ((with_reducible refine' G.use_state ?hp ?h0 ?h1 ?_); (case hp => walk_at "Q"); (case h0 => walk_at "side"); (case h1 => walk_at "side"); intro p0 H0 s0 hp0))
local macro_rules | `(tactic| walk_at "c") => `(tactic| ((with_reducible refine' G.use_draw ?hp ?h0 ?h1 ?_); (case hp => walk_at "P"); (case h0 => walk_at "side"); (case h1 => walk_at "side"); intro r0 hr0 hr1))
local macro_rules | `(tactic| walk_at "s") => `(tactic| first
  | with_reducible refine G.st_seq ?_
  | ((with_reducible refine' G.st_var ?hv ?_); (case hv => exact rfl))
  | with_reducible refine G.st_c ?_
  | with_reducible refine G.st_op ?_
  | with_reducible refine G.st_bl ?_
  | with_reducible refine L2.iteT ?_
  | with_reducible refine L2.iteF ?_
  | with_reducible refine G.ite_nt ?_
  | with_reducible refine G.ite_nf ?_
  | ((with_reducible refine G.st_ite ?_ ?_) <;> (intro hb; (try simp only [decide_eq_true_eq, decide_eq_false_iff_not, Bool.not_eq_true', Bool.not_eq_false', beq_iff_eq, Bool.and_eq_true, Bool.or_eq_true, Bool.and_eq_false_iff, Bool.or_eq_false_iff, beq_eq_false_iff_ne, ne_eq, Int.not_lt, Int.not_le, Nat.not_lt, Nat.not_le] at hb); first | (exfalso; walk_at "no"; done) | skip))
  | with_reducible refine G.st_if ?_
  | with_reducible refine G.st_ret ?_
  | with_reducible refine G.st_set ?_
  | with_reducible refine G.st_call ?_
  | with_reducible refine G.st_cons ?_
  | with_reducible refine G.st_nil ?_
  | with_reducible refine G.st_CB ?_
  | with_reducible refine G.st_tTest ?_
  | with_reducible refine G.st_tB ?_
  | with_reducible refine G.st_or ?_
  | with_reducible refine G.st_and ?_
  | with_reducible refine G.st_not ?_
  | with_reducible refine G.st_orV ?_
  | with_reducible refine G.st_andV ?_
  | with_reducible refine G.st_notV ?_
  | with_reducible refine G.st_tIf ?_
  | with_reducible refine G.st_chain ?_
  | with_reducible refine G.st_un ?_
  | with_reducible refine G.st_then ?_
  | with_reducible refine G.st_slice ?_
  | with_reducible refine G.st_noPart ?_
  | with_reducible refine G.st_part ?_
  | with_reducible refine G.st_exInt ?_
  | with_reducible refine G.st_drop ?_
  | with_reducible refine G.st_next ?_
  | with_reducible refine G.st_retN ?_
  | with_reducible refine G.add_int ?_
  | with_reducible refine G.i0 ?_
  | ((with_reducible refine G.imod2 (by decide) ?_ ?_) <;> (intro hm; first | (exfalso; walk_at "no"; done) | skip))
  | ((with_reducible refine G.imod3 (by decide) ?_ ?_ ?_) <;> (intro hm; first | (exfalso; walk_at "no"; done) | skip))
  | ((with_reducible refine' G.iC ?hc ?_); (case hc => walk_at "sideC"))
  | ((with_reducible refine' G.eq_str1 ?e ?_); (case e => with_reducible rfl))
  | ((with_reducible refine' G.eq_str0 ?e ?_); (case e => decide +kernel))
  | with_reducible refine G.eq_str ?_
  | with_reducible refine G.eq_int ?_
  | with_reducible refine G.eq_bl ?_
  | with_reducible refine G.ne_str ?_
  | with_reducible refine G.ne_int ?_
  | ((with_reducible refine' G.is_none ?r ?_); (case r => walk_at "R"))
  | ((with_reducible refine' G.isnt_none ?r ?_); (case r => walk_at "R"))
  | with_reducible refine G.is_bl ?_
  | with_reducible refine G.isnt_bl ?_
  | with_reducible refine G.in_sign ?_
  | with_reducible refine G.nin_sign ?_
  | ((with_reducible refine' G.in_strsT1 ?r ?c ?e ?_); (case r => walk_at "R"); (case c => rfl); (case e => decide +kernel))
  | ((with_reducible refine' G.in_strsT0 ?r ?c ?e ?_); (case r => walk_at "R"); (case c => rfl); (case e => decide +kernel))
  | ((with_reducible refine' G.in_strsT ?r ?c ?_); (case r => walk_at "R"); (case c => rfl))
  | ((with_reducible refine' G.nin_strsT ?r ?c ?_); (case r => walk_at "R"); (case c => rfl))
  | ((with_reducible refine' G.in_intsT ?r ?c ?_); (case r => walk_at "R"); (case c => rfl))
  | ((with_reducible refine' G.nin_intsT ?r ?c ?_); (case r => walk_at "R"); (case c => rfl))
  | ((with_reducible refine' G.add_str ?l ?_); (case l => walk_at "side"))
  | ((with_reducible refine' G.add_tup ?r ?s ?l ?_); (case r => walk_at "R"); (case s => walk_at "R"); (case l => walk_at "side"); intro v0 H0 s0 r0)
  | ((with_reducible refine' G.add_lst ?r ?s ?l ?_); (case r => walk_at "R"); (case s => walk_at "R"); (case l => walk_at "side"); intro v0 H0 s0 r0)
  | ((with_reducible refine' G.isi_1 ?r ?e ?t ?_); (case r => walk_at "R"); (case e => rfl); (case t => simp only [List.mem_cons, true_or, or_true]))
  | ((with_reducible refine' G.isi_0 ?r ?e ?t ?_); (case r => walk_at "R"); (case e => rfl); (case t => simp only [List.mem_cons, true_or, or_true]))
  | ((with_reducible refine' G.isi_R ?r ?t ?_); (case r => walk_at "R"); (case t => simp only [List.mem_cons, true_or, or_true]))
  | ((with_reducible refine' G.len_str ?l ?_); (case l => walk_at "side"))
  | ((with_reducible refine' G.len_tup ?r ?_); (case r => walk_at "R"))
  | ((with_reducible refine' G.len_lst ?r ?_); (case r => walk_at "R"))
  | (with_reducible refine G.st_tup ?_)
  | (with_reducible refine G.st_lst ?_)
  | ((with_reducible refine' G.st_newT ?r ?l ?_); (case r => walk_at "A"); (case l => first | exact Nat.le_of_ble_eq_true rfl | walk_at "side"); intro v0 H0 s0 r0)
  | ((with_reducible refine' G.st_newL ?r ?l ?_); (case r => walk_at "A"); (case l => first | exact Nat.le_of_ble_eq_true rfl | walk_at "side"); intro v0 H0 s0 r0)
  | ((with_reducible refine' G.ix_tupR ?r ?h0 ?hd ?_); (case r => walk_at "R"); (case h0 => walk_at "side"); (case hd => first | rfl | assumption); walk_at "got")
  | ((with_reducible refine' G.ix_lstR ?r ?h0 ?hd ?_); (case r => walk_at "R"); (case h0 => walk_at "side"); (case hd => first | rfl | assumption); walk_at "got")
  | ((with_reducible refine' G.ix_strR ?l ?h0 ?hd ?_); (case l => walk_at "side"); (case h0 => walk_at "side"); (case hd => first | rfl | assumption))
  | ((with_reducible refine' G.ix_strM ?l ?h0 ?h1 ?_); (case l => walk_at "side"); (case h0 => walk_at "side"); (case h1 => walk_at "side"); intro c0 hc0)
  | ((with_reducible refine' G.ix_tupN ?r ?h0 ?h1 ?_); (case r => walk_at "R"); (case h0 => walk_at "side"); (case h1 => walk_at "side"); intro v0 d0 hd0 r0)
  | ((with_reducible refine' G.ix_lstS ?r ?h0 ?h1 ?_); (case r => walk_at "R"); (case h0 => walk_at "side"); (case h1 => walk_at "side"); intro z0 hz0)
  | ((with_reducible refine' G.ix_lstN ?r ?h0 ?h1 ?_); (case r => walk_at "R"); (case h0 => walk_at "side"); (case h1 => walk_at "side"); intro v0 d0 hd0 r0)
  | ((with_reducible refine' G.sl_strR ?l ?_); (case l => walk_at "side"))
  | ((with_reducible refine' G.sl_tupR ?r ?_); (case r => walk_at "R"); intro v0 H0 s0 r0)
  | ((with_reducible refine' G.sl_lstR ?r ?_); (case r => walk_at "R"); intro v0 H0 s0 r0)
  | ((with_reducible refine' G.tupOf_L ?r ?_); (case r => walk_at "R"); intro v0 H0 s0 r0)
  | ((with_reducible refine' G.tupOf_T ?r ?_); (case r => walk_at "R"))
  | ((with_reducible refine' G.lstOf_T ?r ?_); (case r => walk_at "R"); intro v0 H0 s0 r0)
  | ((with_reducible refine' G.lstOf_L ?r ?_); (case r => walk_at "R"); intro v0 H0 s0 r0)
  | with_reducible refine G.st_lcL ?_
  | with_reducible refine G.st_lcT ?_
  | with_reducible refine G.st_lcS ?_
  | with_reducible refine G.st_lcR ?_
  | with_reducible refine G.st_M0 ?_
  | with_reducible refine G.st_M1 ?_
  | (with_reducible refine G.upper_one ?_; intro hu0)
  | ((with_reducible refine' G.upper_R ?l ?_); (case l => walk_at "side"))
  | (with_reducible refine G.st_strAnd ?_)
  | (with_reducible refine G.st_sub ?_)
  | ((with_reducible refine' G.set_20 ?hp ?_); (case hp => first | exact L2.upd_same | walk_at "P"))
  | ((with_reducible refine' G.set_21 ?hp ?_); (case hp => first | exact L2.upd_same | walk_at "P"))
  | ((with_reducible refine' G.set_at ?hp ?hi ?_); (case hp => first | exact L2.upd_same | walk_at "P"); (case hi => rfl))
  | with_reducible refine G.st_lst2 ?_
  | with_reducible refine G.st_shut ?_
  | with_reducible refine G.st_forR ?_
  | ((with_reducible refine' G.len_scr ?s ?_); (case s => walk_at "Q"))
  | ((with_reducible refine' G.ix_scr ?s ?h0 ?h1 ?_); (case s => walk_at "Q"); (case h0 => walk_at "side"); (case h1 => walk_at "side"); intro n0)
  | ((with_reducible refine' G.sl_scr ?s ?_); (case s => walk_at "Q"); intro v0 H0 s0 r0)
  | (with_reducible refine' G.st_disp1 ?_; intro v0 H0 s0 r0)
  | walk_at "c"
  | fail "no step")
local macro_rules | `(tactic| walk_at "r") => `(tactic| repeat' (walk_at "s"))

local macro_rules | `(tactic| walk_at "side") => `(tactic| first | exact G.nm_a (by with_reducible assumption) | exact G.fm_a (by with_reducible assumption) | exact G.nm_b (by with_reducible assumption) | exact G.nm_c (by with_reducible assumption) | fail)
local macro_rules | `(tactic| walk_at "c") => `(tactic| ((with_reducible refine' G.use_name ?hp ?_); (case hp => walk_at "P"); intro z0 H0 s0 hz0))
local macro_rules | `(tactic| walk_at "c") => `(tactic| ((with_reducible refine' G.use_form ?hp ?_); (case hp => walk_at "P"); intro z0 H0 s0 hz0))
local macro_rules | `(tactic| walk_at "c") => `(tactic| ((with_reducible refine' G.use_pool ?hp ?_); (case hp => walk_at "P"); intro v0 fs0 gs0 ns0 H0 s0 ok0 r0))
local macro_rules | `(tactic| walk_at "c") => `(tactic| ((with_reducible refine' G.use_leaf ?hp ?r ?ok ?h0 ?h1 ?_); (case hp => walk_at "P"); (case r => walk_at "R"); (case ok => with_reducible assumption); (case h0 => walk_at "side"); (case h1 => walk_at "side"); intro v0 t0 H0 s0 r0 ht0 hd0 hs0))
local macro_rules | `(tactic| walk_at "c") => `(tactic| ((with_reducible refine' G.use_term ?hp ?r ?ok ?h0 ?h1 ?e0 ?e1 ?_); (case hp => walk_at "P"); (case r => walk_at "R"); (case ok => with_reducible assumption); (case h0 => walk_at "side"); (case h1 => walk_at "side"); (case e0 => walk_at "side"); (case e1 => walk_at "side"); intro v0 t0 H0 s0 r0 ht0 hd0 hs0))
local macro_rules | `(tactic| walk_at "c") => `(tactic| ((with_reducible refine' G.use_tall ?hp ?r ?ok ?rt ?ht ?h0 ?h1 ?_); (case hp => walk_at "P"); (case r => walk_at "R"); (case ok => with_reducible assumption); (case rt => walk_at "R"); (case ht => with_reducible assumption); (case h0 => walk_at "side"); (case h1 => walk_at "side"); intro v0 t0 H0 s0 r0 ht0 hd0 hs0))
local macro_rules | `(tactic| walk_at "c") => `(tactic| ((with_reducible refine' G.use_anyT ?hp ?r ?ok ?h0 ?h1 ?_); (case hp => walk_at "P"); (case r => walk_at "R"); (case ok => with_reducible assumption); (case h0 => walk_at "side"); (case h1 => walk_at "side"); intro v0 t0 H0 s0 r0 ht0 hd0 hs0))

local macro_rules | `(tactic| walk_at "w") => `(tactic| first
  | with_reducible refine G.st_BM0 ?_
  | with_reducible refine G.st_BM ?_
  | ((with_reducible refine' G.st_tyl ?hl ?_); (case hl => walk_at "P"))
  | ((with_reducible refine' G.popR ?hl ?ra ?hn ?_); (case hl => walk_at "P"); (case ra => with_reducible assumption); (case hn => with_reducible assumption); intro v0 ws0 H0 x0 hl0 ra0 r0)
  | ((with_reducible refine' G.extR ?hl ?ra ?r ?hz ?hn ?hn' ?_); (case hl => walk_at "P"); (case ra => first | with_reducible assumption | exact G.ra_mono (by with_reducible assumption) (by walk_at "S")); (case r => walk_at "R"); (case hz => walk_at "side"); (case hn => walk_at "nol"); (case hn' => walk_at "nol"); intro ws0 H0 x0 hl0 ra0)
  | ((with_reducible refine' G.gtup2 ?r ?_); (case r => walk_at "R"); intro v1 v2 r1 r2)
  | with_reducible refine G.st_asgT ?_
  | with_reducible refine G.int_bl ?_
  | with_reducible refine G.max_2 ?_
  | ((with_reducible refine' G.st_aug ?hx ?_); (case hx => rfl))
  | with_reducible refine G.ipI_int ?_
  | with_reducible refine G.whB ?_
  | with_reducible refine G.st_lstF ?_
  | ((with_reducible refine' G.st_newLF ?r ?l ?_); (case r => walk_at "A"); (case l => first | exact Nat.le_of_ble_eq_true rfl | walk_at "side"); intro p0 H0 f0 s0 hl0 ra0)
  | fail "no step")
local macro_rules | `(tactic| walk_at "nol") => `(tactic| first | with_reducible assumption | rfl | exact G.Th.noL _ | exact G.Th.noLs _)
local macro_rules | `(tactic| walk_at "c") => `(tactic| walk_at "w")

local macro_rules | `(tactic| walk_at "c") => `(tactic| first
  | with_reducible refine G.neg_i ?_
  | with_reducible refine G.st_BMs ?_
  | with_reducible refine G.st_tys ?_
  | with_reducible refine G.st_gcons ?_
  | with_reducible refine G.st_gnil ?_
  | with_reducible refine G.st_gname ?_
  | with_reducible refine G.st_gsub ?_
  | ((with_reducible refine' G.iC ?hc ?_); (case hc => show (0 : Int) < _; decide +kernel))
  | ((with_reducible refine' G.ix_scrLast ?hs ?h1 ?_); (case hs => walk_at "Q"); (case h1 => walk_at "side"); intro n0)
  | ((with_reducible refine' G.divmodR ?h0 ?h1 ?_); (case h0 => walk_at "side"); (case h1 => walk_at "side"); intro p0 H0 f0 e0)
  | (with_reducible refine G.absR ?_; intro j0)
  | fail "no step")

namespace G
open PySem PySem.Spec PyProof.Rows L2
section
variable {P : Program} {w : World} {K : PySem.W.Frag} {mg : Str → Option Value} {base : Heap} {k n : Nat}
local macro_rules | `(tactic| walk_at "c") => `(tactic| ((with_reducible refine' G.use_next (K := K) ?hp ?h0 ?h1 ?_); (case hp => walk_at "P"); (case h0 => walk_at "side"); (case h1 => walk_at "side"); intro r0 H0 s0 hr0 hr1))
theorem ok_l_great (T : Tp K mg) : Cal P w K mg base (k + 1) "_law_great" spGreat := by
  refine T.d_l_great.cal sc_l_great (fun vs H Q E h => ?_) (fun f cdv A outer s H vs Q E hr h => ?_)
  · obtain ⟨z, rfl, _⟩ := h; rfl
  obtain ⟨z, rfl, nm, q⟩ := h
  have sc := @sc_l_great
  refine ⟨_, (pss_one (ps_ret (pe_op (op_addK K) (pe_ix (ix_K K) pe_str (bmK K (pe_bm PySem.F.plainAttrs_str PySem.F.slot_str_index PySem.F.type_str_index mt_sindexR pe_str (pa_cons (pe_ix (ix_K K) (pv 0) pe_int (fun _ _ => rfl)) pa_nil))) (fun _ _ => rfl)) (pe_slice (sl_K K) (pv 0) (po_some pe_int) po_none)))), ?_⟩
  obtain ⟨c, cs, hz, hc⟩ := nm.hd
  have hd : z.cps.toList[(0 : Int).toNat]? = some c := by rw [hz]; rfl
  have hl := isNameS_len nm.ok
  walk_at "r"
  obtain ⟨i, rest, e1, e2⟩ := great_at hc
  refine ⟨conS, ⟨#[c]⟩, i, rest, rfl, rfl, e1, ?_⟩
  have e3 : CON.cps.toList[((i : Nat) : Int).toNat]? = some (c - 32) := by rw [Int.toNat_natCast]; exact e2
  have hi : i < CON.length := by rw [len_cps]; exact (List.getElem?_eq_some_iff.mp e2).1
  have e4 : greatS z = (⟨#[c - 32]⟩ : Str) ++ cutS z (some 1) none := by unfold greatS; rw [hz]; rfl
  have hcl := cutS_length z (some 1) none
  have h1 : (⟨#[c - 32]⟩ : Str).length = 1 := rfl
  refine ix_strR (z := CON) (by decide) (by omega) e3 ?_
  walk_at "r"
  rw [← e4]
  exact q _ (by walk_at "S")
theorem ok_l_names (T : Tp K mg) (c_l_next : Cal P w K mg base k "_law_next" spNext) : Cal P w K mg base (k + 1) "_law_names" (spNames K) := by
  refine T.d_l_names.cal sc_l_names (fun vs H Q E h => ?_) (fun f cdv A outer s H vs Q E hr h => ?_)
  · obtain ⟨p, rfl, _⟩ := h; rfl
  obtain ⟨p, rfl, hp, q⟩ := h
  have sc := @sc_l_names
  refine ⟨_, (pss_cons (ps_set (i := 1) sc.nd rfl (Or.inr rfl) pe_str)
      (pss_cons (ps_set (i := 2) sc.nd rfl (Or.inr rfl) pe_str)
      (pss_cons (ps_for PassesOwn.never rfl (pi_range1 rfl T.n_range (pa_cons (pe_c c_l_next hr (Nat.le_refl _) rfl (pa_cons (pv 0) (pa_cons pe_int pa_nil))) pa_nil)) (pg_name (i := 3) sc.nd rfl (Or.inl rfl)) (pss_one (ps_set (i := 2) sc.nd rfl (Or.inr rfl) (pe_op (op_addK K) (pv 2) (pe_ix (ix_K K) (pv 1) (pe_c c_l_next hr (Nat.le_refl _) rfl (pa_cons (pv 0) (pa_cons pe_int pa_nil))) (fun _ _ => rfl))))))
      (pss_cons (ps_set (i := 4) sc.nd rfl (Or.inr rfl) (pe_c c_l_next hr (Nat.le_refl _) rfl (pa_cons (pv 0) (pa_cons pe_int pa_nil))))
      (pss_cons (ps_set (i := 5) sc.nd rfl (Or.inr rfl) (pe_lc (own := [("_law_k", 3)]) (g := gName 3) (tt := tYes) rfl sc.nd (pi_range1 rfl T.n_range (pa_cons pe_int pa_nil)) (blkOk_by (N := n_l_names) (sc := defScope s_l_names) (by decide +kernel)) (fun _ _ _ _ _ => pg_name (i := 3) sc.nd rfl (Or.inl rfl)) (fun _ _ _ _ _ => pts_nil) (fun _ _ _ _ _ => pe_hide (pe_ix (ix_K K) (pv 1) (pe_op op_mod (pe_op (op_addK K) (pv 4) (pe_op op_mul pe_int (pv 3))) pe_int) (fun _ _ => rfl)))))
      (pss_cons (ps_set (i := 6) sc.nd rfl (Or.inr rfl) (pe_c c_l_next hr (Nat.le_refl _) rfl (pa_cons (pv 0) (pa_cons (pe_op (op_addK K) (pe_callB (len_K K) rfl T.n_len bt_len (pa_cons (pv 2) pa_nil)) pe_int) pa_nil))))
      (pss_cons (ps_setLc (i := 7) (own := [("_law_sign", 8)]) (g := gName 8) (tt := tYes) rfl sc.nd rfl rfl (sw_true rfl rfl rfl (by decide +kernel)) (pi_listK K (pv 5)) (blkOk_by (N := n_l_names) (sc := defScope s_l_names) (by decide +kernel)) (fun _ _ _ _ _ => pg_name (i := 8) sc.nd rfl (Or.inl rfl)) (fun _ _ _ _ _ => pts_nil) (fun _ _ _ _ _ => pe_hide (pe_op (op_addK K) (pe_op (op_addK K) (pe_slice (sl_K K) (pv 2) po_none (po_some (pv 6))) (pv 8)) (pe_slice (sl_K K) (pv 2) (po_some (pv 6)) po_none))))
      (pss_cons (ps_if (pt_cmpR (op_eqK K hr) (pe_c c_l_next hr (Nat.le_refl _) rfl (pa_cons (pv 0) (pa_cons pe_int pa_nil))) pe_int (nomark _)) (pss_one (ps_setLc (i := 7) (own := [("_law_k", 3)]) (g := gName 3) (tt := tYes) rfl sc.nd rfl rfl (sw_true rfl rfl rfl (by decide +kernel)) (pi_range1 rfl T.n_range (pa_cons pe_int pa_nil)) (blkOk_by (N := n_l_names) (sc := defScope s_l_names) (by decide +kernel)) (fun _ _ _ _ _ => pg_name (i := 3) sc.nd rfl (Or.inl rfl)) (fun _ _ _ _ _ => pts_nil) (fun _ _ _ _ _ => pe_hide (pe_op (op_addK K) (pe_ix (ix_K K) (pv 5) (pv 3) (fun _ _ => rfl)) (pe_slice (sl_K K) (pv 2) po_none (po_some (pe_op op_mod (pv 3) (pe_op (op_addK K) (pe_callB (len_K K) rfl T.n_len bt_len (pa_cons (pv 2) pa_nil)) pe_int)))))))) pss_nil)
      (pss_one (ps_ret (pe_op (op_addK K) (pv 7) (pe_lc (own := [("_law_name", 9)]) (g := gName 9) (tt := tYes) rfl sc.nd (pi_listK K (pv 7)) (blkOk_by (N := n_l_names) (sc := defScope s_l_names) (by decide +kernel)) (fun _ _ _ _ _ => pg_name (i := 9) sc.nd rfl (Or.inl rfl)) (fun _ _ _ _ _ => pts_nil) (fun _ _ _ _ _ => pe_hide (pe_op (op_addK K) (pe_op (op_addK K) (pe_slice (sl_K K) (pv 9) po_none (po_some pe_int)) pe_str) (pe_slice (sl_K K) (pv 9) (po_some pe_int) po_none))))))))))))))), ?_⟩
  walk_at "r"
  rename_i r0 H1 s1 hr0 hr1
  refine for_R (fun i σ' H' => Same H H' ∧ ∃ (st : Str) (x3 x4 x5 x6 x7 x8 x9 : Option V), conZ st ∧ st.length ≤ i ∧ σ' = [some (.ref p), some (.str conS), some (.str st), x3, x4, x5, x6, x7, x8, x9]) (by omega) (by omega) ⟨s1, _, _, _, _, _, _, _, _, (fun c hc => by have hc : c ∈ ([] : List Nat) := hc; cases hc), Nat.le_refl _, rfl⟩ ?_ ?_
  · rintro i σ' H2 hi ⟨s2, st, x3, x4, x5, x6, x7, x8, x9, hc, hl, rfl⟩
    walk_at "r"
    rename_i rc H3 s3 hrc0 hrc1 c hcm
    have h1 : (⟨#[c]⟩ : Str).length = 1 := rfl
    walk_at "r"
    refine ⟨by walk_at "S", st ++ ⟨#[c]⟩, _, _, _, _, _, _, _, fun d hd => ?_, by rw [Str.length_append]; omega, rfl⟩
    rw [cps_append] at hd
    rcases List.mem_append.mp hd with h | h
    · exact hc d h
    · rw [List.mem_singleton.mp (show d ∈ [c] from h)]; exact decide_eq_true hcm
  · rintro σ' H2 ⟨s2, st, x3, x4, x5, x6, x7, x8, x9, hc, hl, rfl⟩
    have hl6 : st.length ≤ 6 := by omega
    walk_at "r"
    rename_i rt H3 s3 hrt0 hrt1
    obtain ⟨t, rfl⟩ : ∃ t : Nat, rt = t := ⟨rt.toNat, by omega⟩
    have ht : t < 21 := by omega
    refine lc_R (K := K) (fun k e => e = .str (sign (conS.cps.toList.getD ((t + 5 * k) % 21) 0))) (by decide) (by decide) (fun _ => rfl) (fun k H4 hk s4 Qt hQ => ?_) (fun v5 H4 es s4 r4 hl4 hP => ?_)
    · have e1 : ((t : Int) + 5 * (k : Int)) % 21 = (((t + 5 * k) % 21 : Nat) : Int) := by omega
      have e2 : conS.cps.toList[(((t : Int) + 5 * (k : Int)) % 21).toNat]? = some (conS.cps.toList.getD ((t + 5 * k) % 21) 0) := by rw [e1, Int.toNat_natCast]; exact con_at
      walk_at "r"
      exact hQ _ _ _ (by walk_at "S") (R.str _) rfl
    have e5 : es = (turned t).map fun c => PyData.str (sign c) := by
      rw [es_range hl4 hP]; unfold turned; rw [List.map_map]; rfl
    subst e5
    have hlt := turned_len t
    walk_at "r"
    rename_i ra H5 s5 hra0 hra1
    obtain ⟨a, rfl⟩ : ∃ a : Nat, ra = a := ⟨ra.toNat, by omega⟩
    refine lcL_f (K := K) (fun d => match d with | .str z => .str (cutS st none (some (a : Int)) ++ z ++ cutS st (some (a : Int)) none) | _ => .none) (r4.mono (by walk_at "S")) (by rw [List.length_map, hlt]; decide) (fun _ => rfl) (fun v d H6 hd rv s6 Qt hQ => ?_) (fun v7 H6 s6 r6 => ?_)
    · obtain ⟨c, hcm, rfl⟩ := List.mem_map.mp hd
      obtain rfl := rv.inv_str
      have h1 : (sign c).length = 1 := rfl
      have c1 := cutS_length st none (some (a : Int))
      have c2 := cutS_length st (some (a : Int)) none
      have c3 : (cutS st none (some (a : Int))).length + (sign c).length ≤ 1000000 := by omega
      have c4 : (cutS st none (some (a : Int)) ++ sign c).length + (cutS st (some (a : Int)) none).length ≤ 1000000 := by rw [Str.length_append]; omega
      walk_at "r"
      exact hQ _ _ (by walk_at "S") (R.str _)
    have n21 := n21_a hc hl6 ht a
    have e6 : (((turned t).map fun c => PyData.str (sign c)).map fun d => match d with | .str z => PyData.str (cutS st none (some (a : Int)) ++ z ++ cutS st (some (a : Int)) none) | _ => .none) = ((turned t).map fun c => cutS st none (some (a : Int)) ++ sign c ++ cutS st (some (a : Int)) none).map PyData.str := by
      rw [List.map_map, List.map_map]; rfl
    rw [e6] at r6
    generalize ((turned t).map fun c => cutS st none (some (a : Int)) ++ sign c ++ cutS st (some (a : Int)) none) = zs at n21 r6
    walk_at "r"
    · rename_i rb H7 s7 hrb0 hrb1 _
      refine lc_R (K := K) (fun k e => e = .str (sign (conS.cps.toList.getD ((t + 5 * k) % 21) 0) ++ cutS st none (some ((k % (st.length + 1) : Nat) : Int)))) (by decide) (by decide) (fun _ => rfl) (fun k H8 hk s8 Qt hQ => ?_) (fun v8 H8 es s8 r8 hl8 hP8 => ?_)
      · have hk21 : k < 21 := by omega
        have hd : ((turned t).map fun c => PyData.str (sign c))[((k : Nat) : Int).toNat]? = some (.str (sign (conS.cps.toList.getD ((t + 5 * k) % 21) 0))) := by
          rw [Int.toNat_natCast, List.getElem?_map, turned_at hk21]; rfl
        have e1 : (k : Int) % ((st.length : Nat) + 1 : Int) = ((k % (st.length + 1) : Nat) : Int) := by rw [Int.natCast_emod, Int.natCast_add]; rfl
        have h1 : (sign (conS.cps.toList.getD ((t + 5 * k) % 21) 0)).length = 1 := rfl
        have c1 := cutS_length st none (some ((k % (st.length + 1) : Nat) : Int))
        have c2 : (sign (conS.cps.toList.getD ((t + 5 * k) % 21) 0)).length + (cutS st none (some ((k % (st.length + 1) : Nat) : Int))).length ≤ 1000000 := by omega
        walk_at "r"
        rw [e1]
        refine add_str c2 ?_
        exact hQ _ _ _ (by walk_at "S") (R.str _) rfl
      have e8 : es = ((turned t).zipIdx.map fun x => sign x.1 ++ cutS st none (some ((x.2 % (st.length + 1) : Nat) : Int))).map PyData.str := by
        rw [List.map_map]
        exact es_idx (by rw [hl8, hlt]; rfl) fun i e x h1 h2 => by
          have hi : i < 21 := by have := (List.getElem?_eq_some_iff.mp h2).1; omega
          rw [turned_at hi] at h2
          cases h2
          exact hP8 i e h1
      have n22 := n21_b hc hl6 ht (fun k => k % (st.length + 1))
      rw [e8] at r8
      generalize ((turned t).zipIdx.map fun x => sign x.1 ++ cutS st none (some ((x.2 % (st.length + 1) : Nat) : Int))) = zs2 at n22 r8
      walk_at "r"
      refine lcL_f (K := K) (fun d => match d with | .str z => .str (nameA z) | _ => .none) r8 (by rw [List.length_map, n22.len]; decide) (fun _ => rfl) (fun v d H9 hd rv s9 Qt hQ => ?_) (fun v9 H9 s9 r9 => ?_)
      · obtain ⟨z, hz, rfl⟩ := List.mem_map.mp hd
        obtain rfl := rv.inv_str
        have l1 := n22.l1 z hz
        have c1 := cutS_length z none (some 1)
        have c2 := cutS_length z (some 1) none
        have c0 : (Str.ofString "a").length = 1 := rfl
        have c3 : (cutS z none (some 1)).length + (Str.ofString "a").length ≤ 1000000 := by omega
        have c4 : (cutS z none (some 1) ++ Str.ofString "a").length + (cutS z (some 1) none).length ≤ 1000000 := by rw [Str.length_append]; omega
        walk_at "r"
        exact hQ _ _ (by walk_at "S") (R.str _)
      have e9 : ((zs2.map PyData.str).map fun d => match d with | .str z => PyData.str (nameA z) | _ => .none) = (zs2.map nameA).map PyData.str := by rw [List.map_map, List.map_map]; rfl
      rw [e9] at r9
      refine add_lst (r8.mono (by walk_at "S")) r9 (by simp only [List.length_map, n22.len]; decide) fun v10 H10 s10 r10 => ?_
      rw [← List.map_append] at r10
      walk_at "r"
      exact q _ _ _ (by walk_at "S") (n42_of n22) r10
    · rename_i rb H7 s7 hrb0 hrb1 _
      refine lcL_f (K := K) (fun d => match d with | .str z => .str (nameA z) | _ => .none) (r6.mono (by walk_at "S")) (by rw [List.length_map, n21.len]; decide) (fun _ => rfl) (fun v d H9 hd rv s9 Qt hQ => ?_) (fun v9 H9 s9 r9 => ?_)
      · obtain ⟨z, hz, rfl⟩ := List.mem_map.mp hd
        obtain rfl := rv.inv_str
        have l1 := n21.l1 z hz
        have c1 := cutS_length z none (some 1)
        have c2 := cutS_length z (some 1) none
        have c0 : (Str.ofString "a").length = 1 := rfl
        have c3 : (cutS z none (some 1)).length + (Str.ofString "a").length ≤ 1000000 := by omega
        have c4 : (cutS z none (some 1) ++ Str.ofString "a").length + (cutS z (some 1) none).length ≤ 1000000 := by rw [Str.length_append]; omega
        walk_at "r"
        exact hQ _ _ (by walk_at "S") (R.str _)
      have e9 : ((zs.map PyData.str).map fun d => match d with | .str z => PyData.str (nameA z) | _ => .none) = (zs.map nameA).map PyData.str := by rw [List.map_map, List.map_map]; rfl
      rw [e9] at r9
      refine add_lst (r6.mono (by walk_at "S")) r9 (by simp only [List.length_map, n21.len]; decide) fun v10 H10 s10 r10 => ?_
      rw [← List.map_append] at r10
      walk_at "r"
      exact q _ _ _ (by walk_at "S") (n42_of n21) r10

end
end G

end

section
/-! the words of the walk: S (a heap keeps), R (a value stands for data), A (a row of them), no (a way that cannot be), s (one step), r (all steps) -/
local macro_rules | `(tactic| walk_at "S") => `(tactic| first | exact L2.Same.refl _ | assumption | exact G.sm_tr (by assumption) (by walk_at "S"))
local macro_rules | `(tactic| walk_at "R") => `(tactic| first
  | with_reducible exact G.R.int _ | with_reducible exact G.R.str _ | with_reducible exact G.R.bl _ | with_reducible exact G.R.non
  | with_reducible assumption
  | exact G.r_mono (by with_reducible assumption) (by walk_at "S")
  | ((with_reducible refine' G.R.lst L2.upd_same ?rl); (case rl => walk_at "A")))
local macro_rules | `(tactic| walk_at "A") => `(tactic| first | with_reducible exact G.RA.nil | ((with_reducible refine' G.RA.cons ?ra ?rb); (case ra => walk_at "R"); (case rb => walk_at "A")))
local macro_rules | `(tactic| walk_at "no") => `(tactic| first | contradiction | omega)
local macro_rules | `(tactic| walk_at "side") => `(tactic| first | with_reducible rfl | with_reducible assumption | omega | exact Int.lt_of_lt_of_le (by with_reducible assumption) (by decide +kernel) | ((with_reducible refine G.le_up ?_); decide +kernel) | (simp only [List.length_cons, List.length_nil, List.getElem?_cons_zero, List.getElem?_cons_succ, List.length_map]; done) | (simp only [List.length_cons, List.length_nil, List.length_map, List.length_append] at *; omega))
local macro_rules | `(tactic| walk_at "sideC") => `(tactic| first | with_reducible assumption | (with_reducible refine G.cmul_r ⟨?_, ?_⟩ <;> decide) | (with_reducible refine G.cdiv_r ⟨?_, ?_⟩ <;> decide) | (with_reducible refine G.cmul_l ⟨?_, ?_⟩ <;> decide) | (with_reducible refine G.cpow_c ⟨?_, ?_, ?_⟩ <;> decide) | (with_reducible refine G.cmul_r ⟨?_, ?_⟩ <;> omega) | (with_reducible refine G.cdiv_r ⟨?_, ?_⟩ <;> omega) | omega)
local macro_rules | `(tactic| walk_at "got") => `(tactic| (intro v0 r0; first
  | (have e0 := G.R.inv_str r0; subst e0) | (have e0 := G.R.inv_int r0; subst e0) | (have e0 := G.R.inv_bl r0; subst e0) | (have e0 := G.R.inv_non r0; subst e0) | skip))
local macro_rules | `(tactic| walk_at "P") => `(tactic| first | with_reducible assumption | exact G.keep_at (by with_reducible assumption) (by walk_at "S"))
local macro_rules | `(tactic| walk_at "c") => `(tactic| fail)
local macro_rules | `(tactic| walk_at "Q") => `(tactic| first | with_reducible assumption | exact G.seq_keep (by with_reducible assumption) (by walk_at "S"))
local macro_rules | `(tactic| walk_at "c") => `(tactic| ((with_reducible refine' G.use_state ?hp ?h0 ?h1 ?_); (case hp => walk_at "Q"); (case h0 => walk_at "side"); (case h1 => walk_at "side"); intro p0 H0 s0 hp0))
local macro_rules | `(tactic| walk_at "c") => `(tactic| ((with_reducible refine' G.use_draw ?hp ?h0 ?h1 ?_); (case hp => walk_at "P"); (case h0 => walk_at "side"); (case h1 => walk_at "side"); intro r0 hr0 hr1))
local macro_rules | `(tactic| walk_at "s") => `(tactic| first
  | with_reducible refine G.st_seq ?_
  | ((with_reducible refine' G.st_var ?hv ?_); (case hv => exact rfl))
  | with_reducible refine G.st_c ?_
  | with_reducible refine G.st_op ?_
  | with_reducible refine G.st_bl ?_
  | with_reducible refine L2.iteT ?_
  | with_reducible refine L2.iteF ?_
  | with_reducible refine G.ite_nt ?_
  | with_reducible refine G.ite_nf ?_
  | ((with_reducible refine G.st_ite ?_ ?_) <;> (intro hb; (try simp only [decide_eq_true_eq, decide_eq_false_iff_not, Bool.not_eq_true', Bool.not_eq_false', beq_iff_eq, Bool.and_eq_true, Bool.or_eq_true, Bool.and_eq_false_iff, Bool.or_eq_false_iff, beq_eq_false_iff_ne, ne_eq, Int.not_lt, Int.not_le, Nat.not_lt, Nat.not_le] at hb); first | (exfalso; walk_at "no"; done) | skip))
  | with_reducible refine G.st_if ?_
  | with_reducible refine G.st_ret ?_
  | with_reducible refine G.st_set ?_
  | with_reducible refine G.st_call ?_
  | with_reducible refine G.st_cons ?_
  | with_reducible refine G.st_nil ?_
  | with_reducible refine G.st_CB ?_
  | with_reducible refine G.st_tTest ?_
  | with_reducible refine G.st_tB ?_
  | with_reducible refine G.st_or ?_
  | with_reducible refine G.st_and ?_
  | with_reducible refine G.st_not ?_
  | with_reducible refine G.st_orV ?_
  | with_reducible refine G.st_andV ?_
  | with_reducible refine G.st_notV ?_
  | with_reducible refine G.st_tIf ?_
  | with_reducible refine G.st_chain ?_
  | with_reducible refine G.st_un ?_
  | with_reducible refine G.st_then ?_
  | with_reducible refine G.st_slice ?_
  | with_reducible refine G.st_noPart ?_
  | with_reducible refine G.st_part ?_
  | with_reducible refine G.st_exInt ?_
  | with_reducible refine G.st_drop ?_
  | with_reducible refine G.st_next ?_
  | with_reducible refine G.st_retN ?_
  | with_reducible refine G.add_int ?_
  | with_reducible refine G.i0 ?_
  | ((with_reducible refine G.imod2 (by decide) ?_ ?_) <;> (intro hm; first | (exfalso; walk_at "no"; done) | skip))
  | ((with_reducible refine G.imod3 (by decide) ?_ ?_ ?_) <;> (intro hm; first | (exfalso; walk_at "no"; done) | skip))
  | ((with_reducible refine' G.iC ?hc ?_); (case hc => walk_at "sideC"))
  | ((with_reducible refine' G.eq_str1 ?e ?_); (case e => with_reducible rfl))
  | ((with_reducible refine' G.eq_str0 ?e ?_); (case e => decide +kernel))
  | with_reducible refine G.eq_str ?_
  | with_reducible refine G.eq_int ?_
  | with_reducible refine G.eq_bl ?_
  | with_reducible refine G.ne_str ?_
  | with_reducible refine G.ne_int ?_
  | ((with_reducible refine' G.is_none ?r ?_); (case r => walk_at "R"))
  | ((with_reducible refine' G.isnt_none ?r ?_); (case r => walk_at "R"))
  | with_reducible refine G.is_bl ?_
  | with_reducible refine G.isnt_bl ?_
  | with_reducible refine G.in_sign ?_
  | with_reducible refine G.nin_sign ?_
  | ((with_reducible refine' G.in_strsT1 ?r ?c ?e ?_); (case r => walk_at "R"); (case c => rfl); (case e => decide +kernel))
  | ((with_reducible refine' G.in_strsT0 ?r ?c ?e ?_); (case r => walk_at "R"); (case c => rfl); (case e => decide +kernel))
  | ((with_reducible refine' G.in_strsT ?r ?c ?_); (case r => walk_at "R"); (case c => rfl))
  | ((with_reducible refine' G.nin_strsT ?r ?c ?_); (case r => walk_at "R"); (case c => rfl))
  | ((with_reducible refine' G.in_intsT ?r ?c ?_); (case r => walk_at "R"); (case c => rfl))
  | ((with_reducible refine' G.nin_intsT ?r ?c ?_); (case r => walk_at "R"); (case c => rfl))
  | ((with_reducible refine' G.add_str ?l ?_); (case l => walk_at "side"))
  | ((with_reducible refine' G.add_tup ?r ?s ?l ?_); (case r => walk_at "R"); (case s => walk_at "R"); (case l => walk_at "side"); intro v0 H0 s0 r0)
  | ((with_reducible refine' G.add_lst ?r ?s ?l ?_); (case r => walk_at "R"); (case s => walk_at "R"); (case l => walk_at "side"); intro v0 H0 s0 r0)
  | ((with_reducible refine' G.isi_1 ?r ?e ?t ?_); (case r => walk_at "R"); (case e => rfl); (case t => simp only [List.mem_cons, true_or, or_true]))
  | ((with_reducible refine' G.isi_0 ?r ?e ?t ?_); (case r => walk_at "R"); (case e => rfl); (case t => simp only [List.mem_cons, true_or, or_true]))
  | ((with_reducible refine' G.isi_R ?r ?t ?_); (case r => walk_at "R"); (case t => simp only [List.mem_cons, true_or, or_true]))
  | ((with_reducible refine' G.len_str ?l ?_); (case l => walk_at "side"))
  | ((with_reducible refine' G.len_tup ?r ?_); (case r => walk_at "R"))
  | ((with_reducible refine' G.len_lst ?r ?_); (case r => walk_at "R"))
  | (with_reducible refine G.st_tup ?_)
  | (with_reducible refine G.st_lst ?_)
  | ((with_reducible refine' G.st_newT ?r ?l ?_); (case r => walk_at "A"); (case l => first | exact Nat.le_of_ble_eq_true rfl | walk_at "side"); intro v0 H0 s0 r0)
  | ((with_reducible refine' G.st_newL ?r ?l ?_); (case r => walk_at "A"); (case l => first | exact Nat.le_of_ble_eq_true rfl | walk_at "side"); intro v0 H0 s0 r0)
  | ((with_reducible refine' G.ix_tupR ?r ?h0 ?hd ?_); (case r => walk_at "R"); (case h0 => walk_at "side"); (case hd => first | rfl | assumption); walk_at "got")
  | ((with_reducible refine' G.ix_lstR ?r ?h0 ?hd ?_); (case r => walk_at "R"); (case h0 => walk_at "side"); (case hd => first | rfl | assumption); walk_at "got")
  | ((with_reducible refine' G.ix_strR ?l ?h0 ?hd ?_); (case l => walk_at "side"); (case h0 => walk_at "side"); (case hd => first | rfl | assumption))
  | ((with_reducible refine' G.ix_strM ?l ?h0 ?h1 ?_); (case l => walk_at "side"); (case h0 => walk_at "side"); (case h1 => walk_at "side"); intro c0 hc0)
  | ((with_reducible refine' G.ix_tupN ?r ?h0 ?h1 ?_); (case r => walk_at "R"); (case h0 => walk_at "side"); (case h1 => walk_at "side"); intro v0 d0 hd0 r0)
  | ((with_reducible refine' G.ix_lstS ?r ?h0 ?h1 ?_); (case r => walk_at "R"); (case h0 => walk_at "side"); (case h1 => walk_at "side"); intro z0 hz0)
  | ((with_reducible refine' G.ix_lstN ?r ?h0 ?h1 ?_); (case r => walk_at "R"); (case h0 => walk_at "side"); (case h1 => walk_at "side"); intro v0 d0 hd0 r0)
  | ((with_reducible refine' G.sl_strR ?l ?_); (case l => walk_at "side"))
  | ((with_reducible refine' G.sl_tupR ?r ?_); (case r => walk_at "R"); intro v0 H0 s0 r0)
  | ((with_reducible refine' G.sl_lstR ?r ?_); (case r => walk_at "R"); intro v0 H0 s0 r0)
  | ((with_reducible refine' G.tupOf_L ?r ?_); (case r => walk_at "R"); intro v0 H0 s0 r0)
  | ((with_reducible refine' G.tupOf_T ?r ?_); (case r => walk_at "R"))
  | ((with_reducible refine' G.lstOf_T ?r ?_); (case r => walk_at "R"); intro v0 H0 s0 r0)
  | ((with_reducible refine' G.lstOf_L ?r ?_); (case r => walk_at "R"); intro v0 H0 s0 r0)
  | with_reducible refine G.st_lcL ?_
  | with_reducible refine G.st_lcT ?_
  | with_reducible refine G.st_lcS ?_
  | with_reducible refine G.st_lcR ?_
  | with_reducible refine G.st_M0 ?_
  | with_reducible refine G.st_M1 ?_
  | (with_reducible refine G.upper_one ?_; intro hu0)
  | ((with_reducible refine' G.upper_R ?l ?_); (case l => walk_at "side"))
  | (with_reducible refine G.st_strAnd ?_)
  | (with_reducible refine G.st_sub ?_)
  | ((with_reducible refine' G.set_20 ?hp ?_); (case hp => first | exact L2.upd_same | walk_at "P"))
  | ((with_reducible refine' G.set_21 ?hp ?_); (case hp => first | exact L2.upd_same | walk_at "P"))
  | ((with_reducible refine' G.set_at ?hp ?hi ?_); (case hp => first | exact L2.upd_same | walk_at "P"); (case hi => rfl))
  | with_reducible refine G.st_lst2 ?_
  | with_reducible refine G.st_shut ?_
  | with_reducible refine G.st_forR ?_
  | ((with_reducible refine' G.len_scr ?s ?_); (case s => walk_at "Q"))
  | ((with_reducible refine' G.ix_scr ?s ?h0 ?h1 ?_); (case s => walk_at "Q"); (case h0 => walk_at "side"); (case h1 => walk_at "side"); intro n0)
  | ((with_reducible refine' G.sl_scr ?s ?_); (case s => walk_at "Q"); intro v0 H0 s0 r0)
  | (with_reducible refine' G.st_disp1 ?_; intro v0 H0 s0 r0)
  | walk_at "c"
  | fail "no step")
local macro_rules | `(tactic| walk_at "r") => `(tactic| repeat' (walk_at "s"))

local macro_rules | `(tactic| walk_at "side") => `(tactic| first | exact G.nm_a (by with_reducible assumption) | exact G.fm_a (by with_reducible assumption) | exact G.nm_b (by with_reducible assumption) | exact G.nm_c (by with_reducible assumption) | fail)
local macro_rules | `(tactic| walk_at "c") => `(tactic| ((with_reducible refine' G.use_name ?hp ?_); (case hp => walk_at "P"); intro z0 H0 s0 hz0))
local macro_rules | `(tactic| walk_at "c") => `(tactic| ((with_reducible refine' G.use_form ?hp ?_); (case hp => walk_at "P"); intro z0 H0 s0 hz0))
local macro_rules | `(tactic| walk_at "c") => `(tactic| ((with_reducible refine' G.use_pool ?hp ?_); (case hp => walk_at "P"); intro v0 fs0 gs0 ns0 H0 s0 ok0 r0))
local macro_rules | `(tactic| walk_at "c") => `(tactic| ((with_reducible refine' G.use_leaf ?hp ?r ?ok ?h0 ?h1 ?_); (case hp => walk_at "P"); (case r => walk_at "R"); (case ok => with_reducible assumption); (case h0 => walk_at "side"); (case h1 => walk_at "side"); intro v0 t0 H0 s0 r0 ht0 hd0 hs0))
local macro_rules | `(tactic| walk_at "c") => `(tactic| ((with_reducible refine' G.use_term ?hp ?r ?ok ?h0 ?h1 ?e0 ?e1 ?_); (case hp => walk_at "P"); (case r => walk_at "R"); (case ok => with_reducible assumption); (case h0 => walk_at "side"); (case h1 => walk_at "side"); (case e0 => walk_at "side"); (case e1 => walk_at "side"); intro v0 t0 H0 s0 r0 ht0 hd0 hs0))
local macro_rules | `(tactic| walk_at "c") => `(tactic| ((with_reducible refine' G.use_tall ?hp ?r ?ok ?rt ?ht ?h0 ?h1 ?_); (case hp => walk_at "P"); (case r => walk_at "R"); (case ok => with_reducible assumption); (case rt => walk_at "R"); (case ht => with_reducible assumption); (case h0 => walk_at "side"); (case h1 => walk_at "side"); intro v0 t0 H0 s0 r0 ht0 hd0 hs0))
local macro_rules | `(tactic| walk_at "c") => `(tactic| ((with_reducible refine' G.use_anyT ?hp ?r ?ok ?h0 ?h1 ?_); (case hp => walk_at "P"); (case r => walk_at "R"); (case ok => with_reducible assumption); (case h0 => walk_at "side"); (case h1 => walk_at "side"); intro v0 t0 H0 s0 r0 ht0 hd0 hs0))

local macro_rules | `(tactic| walk_at "w") => `(tactic| first
  | with_reducible refine G.st_BM0 ?_
  | with_reducible refine G.st_BM ?_
  | ((with_reducible refine' G.st_tyl ?hl ?_); (case hl => walk_at "P"))
  | ((with_reducible refine' G.popR ?hl ?ra ?hn ?_); (case hl => walk_at "P"); (case ra => with_reducible assumption); (case hn => with_reducible assumption); intro v0 ws0 H0 x0 hl0 ra0 r0)
  | ((with_reducible refine' G.extR ?hl ?ra ?r ?hz ?hn ?hn' ?_); (case hl => walk_at "P"); (case ra => first | with_reducible assumption | exact G.ra_mono (by with_reducible assumption) (by walk_at "S")); (case r => walk_at "R"); (case hz => walk_at "side"); (case hn => walk_at "nol"); (case hn' => walk_at "nol"); intro ws0 H0 x0 hl0 ra0)
  | ((with_reducible refine' G.gtup2 ?r ?_); (case r => walk_at "R"); intro v1 v2 r1 r2)
  | with_reducible refine G.st_asgT ?_
  | with_reducible refine G.int_bl ?_
  | with_reducible refine G.max_2 ?_
  | ((with_reducible refine' G.st_aug ?hx ?_); (case hx => rfl))
  | with_reducible refine G.ipI_int ?_
  | with_reducible refine G.whB ?_
  | with_reducible refine G.st_lstF ?_
  | ((with_reducible refine' G.st_newLF ?r ?l ?_); (case r => walk_at "A"); (case l => first | exact Nat.le_of_ble_eq_true rfl | walk_at "side"); intro p0 H0 f0 s0 hl0 ra0)
  | fail "no step")
local macro_rules | `(tactic| walk_at "nol") => `(tactic| first | with_reducible assumption | rfl | exact G.Th.noL _ | exact G.Th.noLs _)
local macro_rules | `(tactic| walk_at "c") => `(tactic| walk_at "w")

local macro_rules | `(tactic| walk_at "c") => `(tactic| first
  | with_reducible refine G.neg_i ?_
  | with_reducible refine G.st_BMs ?_
  | with_reducible refine G.st_tys ?_
  | with_reducible refine G.st_gcons ?_
  | with_reducible refine G.st_gnil ?_
  | with_reducible refine G.st_gname ?_
  | with_reducible refine G.st_gsub ?_
  | ((with_reducible refine' G.iC ?hc ?_); (case hc => show (0 : Int) < _; decide +kernel))
  | ((with_reducible refine' G.ix_scrLast ?hs ?h1 ?_); (case hs => walk_at "Q"); (case h1 => walk_at "side"); intro n0)
  | ((with_reducible refine' G.divmodR ?h0 ?h1 ?_); (case h0 => walk_at "side"); (case h1 => walk_at "side"); intro p0 H0 f0 e0)
  | (with_reducible refine G.absR ?_; intro j0)
  | fail "no step")

local macro_rules | `(tactic| walk_at "B") => `(tactic| first | with_reducible assumption | exact G.bk_keep (by with_reducible assumption) (by walk_at "S"))
local macro_rules | `(tactic| walk_at "c") => `(tactic| first
  | ((with_reducible refine' G.use_nextU ?hp ?h0 ?h1 ?_); (case hp => walk_at "P"); (case h0 => walk_at "side"); (case h1 => walk_at "side"); intro r0 H0 s0 hr0 hr1)
  | ((with_reducible refine' G.ix_b1 ?h ?_); (case h => walk_at "B"); intro af0 lb0 lc0 hf0 rb0 rc0)
  | ((with_reducible refine' G.ix_b2 ?h ?_); (case h => walk_at "B"); intro v0 r0)
  | ((with_reducible refine' G.ix_b3 ?h ?_); (case h => walk_at "B"); intro v0 r0)
  | ((with_reducible refine' G.ix_b5 ?h ?_); (case h => walk_at "B"); intro v0 r0)
  | with_reducible refine G.st_dget ?_
  | with_reducible refine G.st_dget2 ?_
  | with_reducible refine G.st_lcLT ?_
  | with_reducible refine G.st_lcET ?_
  | with_reducible refine G.st_lcETT ?_
  | with_reducible refine G.st_forL ?_
  | with_reducible refine G.st_forE ?_
  | with_reducible refine G.st_forT ?_
  | fail "no step")
local macro_rules | `(tactic| walk_at "u") => `(tactic| repeat' ((fail_if_success (with_reducible refine G.st_if ?_)); walk_at "s"))
local macro_rules | `(tactic| walk_at "c") => `(tactic| (with_reducible refine G.minR ?_; intro m0 hm0 hm1 hm2))

namespace G
open PySem PySem.Spec PyProof.Rows L2
section
variable {P : Program} {w : World} {K : PySem.W.Frag} {mg : Str → Option Value} {base : Heap} {k n : Nat}
theorem ok_l_least (T : Tp K mg) (c_l_least : Cal P w K mg base k "_law_least" (spLeast K n)) : Cal P w K mg base (k + 1) "_law_least" (spLeast K (n + 1)) := by
  refine T.d_l_least.cal sc_l_least (fun vs H Q E h => ?_) (fun f cdv A outer s H vs Q E hr h => ?_)
  · obtain ⟨v, g, k, rfl, _⟩ := h; rfl
  obtain ⟨v, g, kk, rfl, hb, ok, hk, h1, h2, q⟩ := h
  have sc := @sc_l_least
  refine ⟨_, (pss_cons (ps_if (pt_cmpR (op_eqK K hr) (pv 1) (pe_ix (ix_K K) (pe_ix (ix_K K) (pv 0) pe_int (fun _ _ => rfl)) pe_int (fun _ _ => rfl)) (nomark _)) (pss_one (ps_ret (pe_tupK K (pa_cons pe_str (pa_cons (pe_ix (ix_K K) (pe_ix (ix_K K) (pe_ix (ix_K K) (pv 0) pe_int (fun _ _ => rfl)) pe_int (fun _ _ => rfl)) pe_int (fun _ _ => rfl)) (pa_cons (pe_tupK K pa_nil) pa_nil)))))) pss_nil)
      (pss_cons (ps_asg (pe_ix (ix_K K) (pe_dgetH hr (pe_ix (ix_K K) (pv 0) pe_int (fun _ _ => rfl)) (pv 1) (fun _ _ => rfl)) pe_int (fun _ _ => rfl)) (gtK K (pg_tup (n := 2) rfl (pgs_cons (pg_name (i := 2) sc.nd rfl (Or.inl rfl)) (pgs_cons (pg_name (i := 3) sc.nd rfl (Or.inl rfl)) pgs_nil)))))
      (pss_one (ps_ret (pe_tupK K (pa_cons pe_str (pa_cons (pv 2) (pa_cons (tupleOf_K K rfl T.n_tuple (pe_lc (own := [("_law_part", 4)]) (g := gName 4) (tt := tYes) rfl sc.nd (pi_tupK K (pv 3)) (blkOk_by (N := n_l_least) (sc := defScope s_l_least) (by decide +kernel)) (fun _ _ _ _ _ => pg_name (i := 4) sc.nd rfl (Or.inl rfl)) (fun _ _ _ _ _ => pts_nil) (fun _ _ _ _ _ => pe_hide (pe_c c_l_least hr (Nat.le_refl _) rfl (pa_cons (pv 0) (pa_cons (pv 4) pa_nil)))))) pa_nil)))))))), ?_⟩
  have hd0 : (g.kinds.map PyData.str)[(0 : Int).toNat]? = some (.str g.a) := rfl
  obtain ⟨fa, ra, ec⟩ := ok.c0
  have hc0 : (g.calls.map callD)[(0 : Int).toNat]? = some (.tuple [.str fa, .tuple [], .str g.a]) := by rw [ec]; rfl
  have hka : g.a ∈ g.kinds := by simp [Bk.kinds]
  have hkb : g.b ∈ g.kinds := by simp [Bk.kinds]
  have sigm : ∀ (o : Option Own), (fa, [], g.a) ∈ g.sig o := fun o => by
    rcases o with _ | ⟨f, ks, k, js⟩
    · show _ ∈ g.calls; rw [ec]; simp
    · show _ ∈ g.calls ++ _; rw [ec]; simp
  simp only [Bk.kinds, List.mem_cons, List.not_mem_nil, or_false] at hk
  by_cases ha : kk = g.a
  · subst ha
    walk_at "r"
    rename_i v9 H9 s9 r9
    exact q _ (.app .call fa []) _ (by walk_at "S") r9 (fun xs is o => ⟨[], sigm o, True.intro⟩) (by simp [Th.dep, Th.deps]) (by simp [Th.sz, Th.szs]) (fun _ => by simp [Th.dep, Th.deps, Th.sz, Th.szs])
  have hbc : kk = g.b ∨ kk = g.c := hk.resolve_left ha
  obtain ⟨nm, ps, r, hf, hps⟩ : ∃ nm ps r, g.forms kk = (nm, ps) :: r ∧ (ps = [] ∨ kk = g.c ∧ ps = [g.a, g.b]) := by
    rcases hbc with rfl | rfl
    · obtain ⟨n, r, e⟩ := ok.fb0
      exact ⟨n, [], r, by unfold Bk.forms; rw [if_pos rfl, e], .inl rfl⟩
    · obtain ⟨n, r, e⟩ := ok.fc0
      have e2 : g.forms g.c = g.fc := by unfold Bk.forms; rw [if_neg (fun h => ok.bc h.symm), if_pos rfl]
      rcases e with e | e
      · exact ⟨n, _, r, by rw [e2, e], .inl rfl⟩
      · exact ⟨n, _, r, by rw [e2, e], .inr ⟨rfl, rfl⟩⟩
  walk_at "r"
  rename_i af lb lc hf0 rb0 rc0
  obtain ⟨w1, hw1, rw1⟩ := (val_forms ok rb0 rc0).1 hbc
  refine dget_at hf0 hw1 ?_
  have hf1 : ((g.forms kk).map formD)[(0 : Int).toNat]? = some (.tuple [.str nm, partsD ps]) := by rw [hf]; rfl
  walk_at "r"
  rename_i v1 r1 v2 v3 r2 r3
  obtain rfl := r2.inv_str
  refine lc_T (K := K) (fun i e => ∃ t : Th, e = t.d ∧ ∃ k, ps[i]? = some k ∧ (∀ xs is o, t.kd g (g.sig o) xs is k) ∧ t.dep ≤ 1 ∧ t.sz ≤ 1) r3 (by rcases hps with rfl | ⟨_, rfl⟩ <;> simp) (fun _ => rfl) (fun i v d H1 hd rv s1 Qt hQ => ?_) (fun v9 H9 es s9 r9 hl9 hP => ?_)
  · rcases hps with rfl | ⟨hkc, rfl⟩
    · simp at hd
    · have hn : 2 ≤ n + 1 := h2 hkc
      have hi : i < 2 := by have := (List.getElem?_eq_some_iff.mp hd).1; simpa using this
      have hk1 : ∃ k1, [g.a, g.b][i]? = some k1 ∧ d = .str k1 ∧ k1 ∈ g.kinds ∧ k1 ≠ g.c := by
        rcases (by omega : i = 0 ∨ i = 1) with rfl | rfl
        · exact ⟨g.a, rfl, by simpa using hd.symm, hka, ok.ac⟩
        · exact ⟨g.b, rfl, by simpa using hd.symm, hkb, ok.bc⟩
      obtain ⟨k1, e1, rfl, hm1, hne⟩ := hk1
      obtain rfl := rv.inv_str
      walk_at "r"
      refine use_least (hb.mono (by walk_at "S")) ok hm1 (by omega) (fun e => absurd e hne) fun u t H2 s2 ru hkd hd2 hs2 hlo => ?_
      exact hQ _ _ _ (by walk_at "S") ru ⟨t, rfl, k1, e1, hkd, (hlo hne).1, (hlo hne).2⟩
  · have hex : ∃ ts : List Th, es = Th.ds ts ∧ (∀ xs is o, Th.kds g (g.sig o) xs is ts ps) ∧ Th.deps ts ≤ 1 ∧ Th.szs ts ≤ 2 ∧ (ps = [] → ts = []) := by
      rw [List.length_map] at hl9
      rcases hps with rfl | ⟨hkc, rfl⟩
      · have : es = [] := List.length_eq_zero_iff.mp (by simpa using hl9)
        subst this
        exact ⟨[], rfl, fun _ _ _ => True.intro, by decide, by decide, fun _ => rfl⟩
      · match es, hl9 with
        | [e1, e2], _ =>
          obtain ⟨t1, rfl, k1, hk1, q1, d1, z1⟩ := hP 0 e1 rfl
          obtain ⟨t2, rfl, k2, hk2, q2, d2, z2⟩ := hP 1 e2 rfl
          cases hk1
          cases hk2
          exact ⟨[t1, t2], rfl, fun xs is o => ⟨q1 xs is o, q2 xs is o, True.intro⟩, by simp only [Th.deps]; omega, by simp only [Th.szs]; omega, fun e => by cases e⟩
    obtain ⟨ts, rfl, hkd, hdp, hsz, hnil⟩ := hex
    walk_at "r"
    rename_i v10 H10 s10 r10 v11 H11 s11 r11
    refine q _ (.app .form nm ts) _ (by walk_at "S") r11 (fun xs is o => ⟨ps, by rw [hf]; simp, hkd xs is o⟩) (by simp only [Th.dep]; omega) (by simp only [Th.sz]; omega) fun hne => ?_
    have : ps = [] := hps.resolve_right fun h => hne h.1
    rw [hnil this]
    exact ⟨by simp [Th.dep, Th.deps], by simp [Th.sz, Th.szs]⟩
theorem least_n (T : Tp K mg) : ∀ n : Nat, Cal P w K mg base (n + 1) "_law_least" (spLeast K n)
  | 0 => T.d_l_least.none fun vs H Q E h => by obtain ⟨v, g, k, _, _, _, _, h1, _⟩ := h; omega
  | n + 1 => ok_l_least T (least_n T n)

end
end G

end

section
/-! the words of the walk: S (a heap keeps), R (a value stands for data), A (a row of them), no (a way that cannot be), s (one step), r (all steps) -/
local macro_rules | `(tactic| walk_at "S") => `(tactic| first | exact L2.Same.refl _ | assumption | exact G.sm_tr (by assumption) (by walk_at "S"))
local macro_rules | `(tactic| walk_at "R") => `(tactic| first
  | with_reducible exact G.R.int _ | with_reducible exact G.R.str _ | with_reducible exact G.R.bl _ | with_reducible exact G.R.non
  | with_reducible assumption
  | exact G.r_mono (by with_reducible assumption) (by walk_at "S")
  | ((with_reducible refine' G.R.lst L2.upd_same ?rl); (case rl => walk_at "A")))
local macro_rules | `(tactic| walk_at "A") => `(tactic| first | with_reducible exact G.RA.nil | ((with_reducible refine' G.RA.cons ?ra ?rb); (case ra => walk_at "R"); (case rb => walk_at "A")))
local macro_rules | `(tactic| walk_at "no") => `(tactic| first | contradiction | omega)
local macro_rules | `(tactic| walk_at "side") => `(tactic| first | with_reducible rfl | with_reducible assumption | omega | exact Int.lt_of_lt_of_le (by with_reducible assumption) (by decide +kernel) | ((with_reducible refine G.le_up ?_); decide +kernel) | (simp only [List.length_cons, List.length_nil, List.getElem?_cons_zero, List.getElem?_cons_succ, List.length_map]; done) | (simp only [List.length_cons, List.length_nil, List.length_map, List.length_append] at *; omega))
local macro_rules | `(tactic| walk_at "sideC") => `(tactic| first | with_reducible assumption | (with_reducible refine G.cmul_r ⟨?_, ?_⟩ <;> decide) | (with_reducible refine G.cdiv_r ⟨?_, ?_⟩ <;> decide) | (with_reducible refine G.cmul_l ⟨?_, ?_⟩ <;> decide) | (with_reducible refine G.cpow_c ⟨?_, ?_, ?_⟩ <;> decide) | (with_reducible refine G.cmul_r ⟨?_, ?_⟩ <;> omega) | (with_reducible refine G.cdiv_r ⟨?_, ?_⟩ <;> omega) | omega)
local macro_rules | `(tactic| walk_at "got") => `(tactic| (intro v0 r0; first
  | (have e0 := G.R.inv_str r0; subst e0) | (have e0 := G.R.inv_int r0; subst e0) | (have e0 := G.R.inv_bl r0; subst e0) | (have e0 := G.R.inv_non r0; subst e0) | skip))
local macro_rules | `(tactic| walk_at "P") => `(tactic| first | with_reducible assumption | exact G.keep_at (by with_reducible assumption) (by walk_at "S"))
local macro_rules | `(tactic| walk_at "c") => `(tactic| fail)
local macro_rules | `(tactic| walk_at "Q") => `(tactic| first | with_reducible assumption | exact G.seq_keep (by with_reducible assumption) (by walk_at "S"))
local macro_rules | `(tactic| walk_at "c") => `(tactic| ((with_reducible refine' G.use_state ?hp ?h0 ?h1 ?_); (case hp => walk_at "Q"); (case h0 => walk_at "side"); (case h1 => walk_at "side"); intro p0 H0 s0 hp0))
local macro_rules | `(tactic| walk_at "c") => `(tactic| ((with_reducible refine' G.use_draw ?hp ?h0 ?h1 ?_); (case hp => walk_at "P"); (case h0 => walk_at "side"); (case h1 => walk_at "side"); intro r0 hr0 hr1))
local macro_rules | `(tactic| walk_at "s") => `(tactic| first
  | with_reducible refine G.st_seq ?_
  | ((with_reducible refine' G.st_var ?hv ?_); (case hv => exact rfl))
  | with_reducible refine G.st_c ?_
  | with_reducible refine G.st_op ?_
  | with_reducible refine G.st_bl ?_
  | with_reducible refine L2.iteT ?_
  | with_reducible refine L2.iteF ?_
  | with_reducible refine G.ite_nt ?_
  | with_reducible refine G.ite_nf ?_
  | ((with_reducible refine G.st_ite ?_ ?_) <;> (intro hb; (try simp only [decide_eq_true_eq, decide_eq_false_iff_not, Bool.not_eq_true', Bool.not_eq_false', beq_iff_eq, Bool.and_eq_true, Bool.or_eq_true, Bool.and_eq_false_iff, Bool.or_eq_false_iff, beq_eq_false_iff_ne, ne_eq, Int.not_lt, Int.not_le, Nat.not_lt, Nat.not_le] at hb); first | (exfalso; walk_at "no"; done) | skip))
  | with_reducible refine G.st_if ?_
  | with_reducible refine G.st_ret ?_
  | with_reducible refine G.st_set ?_
  | with_reducible refine G.st_call ?_
  | with_reducible refine G.st_cons ?_
  | with_reducible refine G.st_nil ?_
  | with_reducible refine G.st_CB ?_
  | with_reducible refine G.st_tTest ?_
  | with_reducible refine G.st_tB ?_
  | with_reducible refine G.st_or ?_
  | with_reducible refine G.st_and ?_
  | with_reducible refine G.st_not ?_
  | with_reducible refine G.st_orV ?_
  | with_reducible refine G.st_andV ?_
  | with_reducible refine G.st_notV ?_
  | with_reducible refine G.st_tIf ?_
  | with_reducible refine G.st_chain ?_
  | with_reducible refine G.st_un ?_
  | with_reducible refine G.st_then ?_
  | with_reducible refine G.st_slice ?_
  | with_reducible refine G.st_noPart ?_
  | with_reducible refine G.st_part ?_
  | with_reducible refine G.st_exInt ?_
  | with_reducible refine G.st_drop ?_
  | with_reducible refine G.st_next ?_
  | with_reducible refine G.st_retN ?_
  | with_reducible refine G.add_int ?_
  | with_reducible refine G.i0 ?_
  | ((with_reducible refine G.imod2 (by decide) ?_ ?_) <;> (intro hm; first | (exfalso; walk_at "no"; done) | skip))
  | ((with_reducible refine G.imod3 (by decide) ?_ ?_ ?_) <;> (intro hm; first | (exfalso; walk_at "no"; done) | skip))
  | ((with_reducible refine' G.iC ?hc ?_); (case hc => walk_at "sideC"))
  | ((with_reducible refine' G.eq_str1 ?e ?_); (case e => with_reducible rfl))
  | ((with_reducible refine' G.eq_str0 ?e ?_); (case e => decide +kernel))
  | with_reducible refine G.eq_str ?_
  | with_reducible refine G.eq_int ?_
  | with_reducible refine G.eq_bl ?_
  | with_reducible refine G.ne_str ?_
  | with_reducible refine G.ne_int ?_
  | ((with_reducible refine' G.is_none ?r ?_); (case r => walk_at "R"))
  | ((with_reducible refine' G.isnt_none ?r ?_); (case r => walk_at "R"))
  | with_reducible refine G.is_bl ?_
  | with_reducible refine G.isnt_bl ?_
  | with_reducible refine G.in_sign ?_
  | with_reducible refine G.nin_sign ?_
  | ((with_reducible refine' G.in_strsT1 ?r ?c ?e ?_); (case r => walk_at "R"); (case c => rfl); (case e => decide +kernel))
  | ((with_reducible refine' G.in_strsT0 ?r ?c ?e ?_); (case r => walk_at "R"); (case c => rfl); (case e => decide +kernel))
  | ((with_reducible refine' G.in_strsT ?r ?c ?_); (case r => walk_at "R"); (case c => rfl))
  | ((with_reducible refine' G.nin_strsT ?r ?c ?_); (case r => walk_at "R"); (case c => rfl))
  | ((with_reducible refine' G.in_intsT ?r ?c ?_); (case r => walk_at "R"); (case c => rfl))
  | ((with_reducible refine' G.nin_intsT ?r ?c ?_); (case r => walk_at "R"); (case c => rfl))
  | ((with_reducible refine' G.add_str ?l ?_); (case l => walk_at "side"))
  | ((with_reducible refine' G.add_tup ?r ?s ?l ?_); (case r => walk_at "R"); (case s => walk_at "R"); (case l => walk_at "side"); intro v0 H0 s0 r0)
  | ((with_reducible refine' G.add_lst ?r ?s ?l ?_); (case r => walk_at "R"); (case s => walk_at "R"); (case l => walk_at "side"); intro v0 H0 s0 r0)
  | ((with_reducible refine' G.isi_1 ?r ?e ?t ?_); (case r => walk_at "R"); (case e => rfl); (case t => simp only [List.mem_cons, true_or, or_true]))
  | ((with_reducible refine' G.isi_0 ?r ?e ?t ?_); (case r => walk_at "R"); (case e => rfl); (case t => simp only [List.mem_cons, true_or, or_true]))
  | ((with_reducible refine' G.isi_R ?r ?t ?_); (case r => walk_at "R"); (case t => simp only [List.mem_cons, true_or, or_true]))
  | ((with_reducible refine' G.len_str ?l ?_); (case l => walk_at "side"))
  | ((with_reducible refine' G.len_tup ?r ?_); (case r => walk_at "R"))
  | ((with_reducible refine' G.len_lst ?r ?_); (case r => walk_at "R"))
  | (with_reducible refine G.st_tup ?_)
  | (with_reducible refine G.st_lst ?_)
  | ((with_reducible refine' G.st_newT ?r ?l ?_); (case r => walk_at "A"); (case l => first | exact Nat.le_of_ble_eq_true rfl | walk_at "side"); intro v0 H0 s0 r0)
  | ((with_reducible refine' G.st_newL ?r ?l ?_); (case r => walk_at "A"); (case l => first | exact Nat.le_of_ble_eq_true rfl | walk_at "side"); intro v0 H0 s0 r0)
  | ((with_reducible refine' G.ix_tupR ?r ?h0 ?hd ?_); (case r => walk_at "R"); (case h0 => walk_at "side"); (case hd => first | rfl | assumption); walk_at "got")
  | ((with_reducible refine' G.ix_lstR ?r ?h0 ?hd ?_); (case r => walk_at "R"); (case h0 => walk_at "side"); (case hd => first | rfl | assumption); walk_at "got")
  | ((with_reducible refine' G.ix_strR ?l ?h0 ?hd ?_); (case l => walk_at "side"); (case h0 => walk_at "side"); (case hd => first | rfl | assumption))
  | ((with_reducible refine' G.ix_strM ?l ?h0 ?h1 ?_); (case l => walk_at "side"); (case h0 => walk_at "side"); (case h1 => walk_at "side"); intro c0 hc0)
  | ((with_reducible refine' G.ix_tupN ?r ?h0 ?h1 ?_); (case r => walk_at "R"); (case h0 => walk_at "side"); (case h1 => walk_at "side"); intro v0 d0 hd0 r0)
  | ((with_reducible refine' G.ix_lstS ?r ?h0 ?h1 ?_); (case r => walk_at "R"); (case h0 => walk_at "side"); (case h1 => walk_at "side"); intro z0 hz0)
  | ((with_reducible refine' G.ix_lstN ?r ?h0 ?h1 ?_); (case r => walk_at "R"); (case h0 => walk_at "side"); (case h1 => walk_at "side"); intro v0 d0 hd0 r0)
  | ((with_reducible refine' G.sl_strR ?l ?_); (case l => walk_at "side"))
  | ((with_reducible refine' G.sl_tupR ?r ?_); (case r => walk_at "R"); intro v0 H0 s0 r0)
  | ((with_reducible refine' G.sl_lstR ?r ?_); (case r => walk_at "R"); intro v0 H0 s0 r0)
  | ((with_reducible refine' G.tupOf_L ?r ?_); (case r => walk_at "R"); intro v0 H0 s0 r0)
  | ((with_reducible refine' G.tupOf_T ?r ?_); (case r => walk_at "R"))
  | ((with_reducible refine' G.lstOf_T ?r ?_); (case r => walk_at "R"); intro v0 H0 s0 r0)
  | ((with_reducible refine' G.lstOf_L ?r ?_); (case r => walk_at "R"); intro v0 H0 s0 r0)
  | with_reducible refine G.st_lcL ?_
  | with_reducible refine G.st_lcT ?_
  | with_reducible refine G.st_lcS ?_
  | with_reducible refine G.st_lcR ?_
  | with_reducible refine G.st_M0 ?_
  | with_reducible refine G.st_M1 ?_
  | (with_reducible refine G.upper_one ?_; intro hu0)
  | ((with_reducible refine' G.upper_R ?l ?_); (case l => walk_at "side"))
  | (with_reducible refine G.st_strAnd ?_)
  | (with_reducible refine G.st_sub ?_)
  | ((with_reducible refine' G.set_20 ?hp ?_); (case hp => first | exact L2.upd_same | walk_at "P"))
  | ((with_reducible refine' G.set_21 ?hp ?_); (case hp => first | exact L2.upd_same | walk_at "P"))
  | ((with_reducible refine' G.set_at ?hp ?hi ?_); (case hp => first | exact L2.upd_same | walk_at "P"); (case hi => rfl))
  | with_reducible refine G.st_lst2 ?_
  | with_reducible refine G.st_shut ?_
  | with_reducible refine G.st_forR ?_
  | ((with_reducible refine' G.len_scr ?s ?_); (case s => walk_at "Q"))
  | ((with_reducible refine' G.ix_scr ?s ?h0 ?h1 ?_); (case s => walk_at "Q"); (case h0 => walk_at "side"); (case h1 => walk_at "side"); intro n0)
  | ((with_reducible refine' G.sl_scr ?s ?_); (case s => walk_at "Q"); intro v0 H0 s0 r0)
  | (with_reducible refine' G.st_disp1 ?_; intro v0 H0 s0 r0)
  | walk_at "c"
  | fail "no step")
local macro_rules | `(tactic| walk_at "r") => `(tactic| repeat' (walk_at "s"))

local macro_rules | `(tactic| walk_at "side") => `(tactic| first | exact G.nm_a (by with_reducible assumption) | exact G.fm_a (by with_reducible assumption) | exact G.nm_b (by with_reducible assumption) | exact G.nm_c (by with_reducible assumption) | fail)
local macro_rules | `(tactic| walk_at "c") => `(tactic| ((with_reducible refine' G.use_name ?hp ?_); (case hp => walk_at "P"); intro z0 H0 s0 hz0))
local macro_rules | `(tactic| walk_at "c") => `(tactic| ((with_reducible refine' G.use_form ?hp ?_); (case hp => walk_at "P"); intro z0 H0 s0 hz0))
local macro_rules | `(tactic| walk_at "c") => `(tactic| ((with_reducible refine' G.use_pool ?hp ?_); (case hp => walk_at "P"); intro v0 fs0 gs0 ns0 H0 s0 ok0 r0))
local macro_rules | `(tactic| walk_at "c") => `(tactic| ((with_reducible refine' G.use_leaf ?hp ?r ?ok ?h0 ?h1 ?_); (case hp => walk_at "P"); (case r => walk_at "R"); (case ok => with_reducible assumption); (case h0 => walk_at "side"); (case h1 => walk_at "side"); intro v0 t0 H0 s0 r0 ht0 hd0 hs0))
local macro_rules | `(tactic| walk_at "c") => `(tactic| ((with_reducible refine' G.use_term ?hp ?r ?ok ?h0 ?h1 ?e0 ?e1 ?_); (case hp => walk_at "P"); (case r => walk_at "R"); (case ok => with_reducible assumption); (case h0 => walk_at "side"); (case h1 => walk_at "side"); (case e0 => walk_at "side"); (case e1 => walk_at "side"); intro v0 t0 H0 s0 r0 ht0 hd0 hs0))
local macro_rules | `(tactic| walk_at "c") => `(tactic| ((with_reducible refine' G.use_tall ?hp ?r ?ok ?rt ?ht ?h0 ?h1 ?_); (case hp => walk_at "P"); (case r => walk_at "R"); (case ok => with_reducible assumption); (case rt => walk_at "R"); (case ht => with_reducible assumption); (case h0 => walk_at "side"); (case h1 => walk_at "side"); intro v0 t0 H0 s0 r0 ht0 hd0 hs0))
local macro_rules | `(tactic| walk_at "c") => `(tactic| ((with_reducible refine' G.use_anyT ?hp ?r ?ok ?h0 ?h1 ?_); (case hp => walk_at "P"); (case r => walk_at "R"); (case ok => with_reducible assumption); (case h0 => walk_at "side"); (case h1 => walk_at "side"); intro v0 t0 H0 s0 r0 ht0 hd0 hs0))

local macro_rules | `(tactic| walk_at "w") => `(tactic| first
  | with_reducible refine G.st_BM0 ?_
  | with_reducible refine G.st_BM ?_
  | ((with_reducible refine' G.st_tyl ?hl ?_); (case hl => walk_at "P"))
  | ((with_reducible refine' G.popR ?hl ?ra ?hn ?_); (case hl => walk_at "P"); (case ra => with_reducible assumption); (case hn => with_reducible assumption); intro v0 ws0 H0 x0 hl0 ra0 r0)
  | ((with_reducible refine' G.extR ?hl ?ra ?r ?hz ?hn ?hn' ?_); (case hl => walk_at "P"); (case ra => first | with_reducible assumption | exact G.ra_mono (by with_reducible assumption) (by walk_at "S")); (case r => walk_at "R"); (case hz => walk_at "side"); (case hn => walk_at "nol"); (case hn' => walk_at "nol"); intro ws0 H0 x0 hl0 ra0)
  | ((with_reducible refine' G.gtup2 ?r ?_); (case r => walk_at "R"); intro v1 v2 r1 r2)
  | with_reducible refine G.st_asgT ?_
  | with_reducible refine G.int_bl ?_
  | with_reducible refine G.max_2 ?_
  | ((with_reducible refine' G.st_aug ?hx ?_); (case hx => rfl))
  | with_reducible refine G.ipI_int ?_
  | with_reducible refine G.whB ?_
  | with_reducible refine G.st_lstF ?_
  | ((with_reducible refine' G.st_newLF ?r ?l ?_); (case r => walk_at "A"); (case l => first | exact Nat.le_of_ble_eq_true rfl | walk_at "side"); intro p0 H0 f0 s0 hl0 ra0)
  | fail "no step")
local macro_rules | `(tactic| walk_at "nol") => `(tactic| first | with_reducible assumption | rfl | exact G.Th.noL _ | exact G.Th.noLs _)
local macro_rules | `(tactic| walk_at "c") => `(tactic| walk_at "w")

local macro_rules | `(tactic| walk_at "c") => `(tactic| first
  | with_reducible refine G.neg_i ?_
  | with_reducible refine G.st_BMs ?_
  | with_reducible refine G.st_tys ?_
  | with_reducible refine G.st_gcons ?_
  | with_reducible refine G.st_gnil ?_
  | with_reducible refine G.st_gname ?_
  | with_reducible refine G.st_gsub ?_
  | ((with_reducible refine' G.iC ?hc ?_); (case hc => show (0 : Int) < _; decide +kernel))
  | ((with_reducible refine' G.ix_scrLast ?hs ?h1 ?_); (case hs => walk_at "Q"); (case h1 => walk_at "side"); intro n0)
  | ((with_reducible refine' G.divmodR ?h0 ?h1 ?_); (case h0 => walk_at "side"); (case h1 => walk_at "side"); intro p0 H0 f0 e0)
  | (with_reducible refine G.absR ?_; intro j0)
  | fail "no step")

local macro_rules | `(tactic| walk_at "B") => `(tactic| first | with_reducible assumption | exact G.bk_keep (by with_reducible assumption) (by walk_at "S"))
local macro_rules | `(tactic| walk_at "c") => `(tactic| first
  | ((with_reducible refine' G.use_nextU ?hp ?h0 ?h1 ?_); (case hp => walk_at "P"); (case h0 => walk_at "side"); (case h1 => walk_at "side"); intro r0 H0 s0 hr0 hr1)
  | ((with_reducible refine' G.ix_b1 ?h ?_); (case h => walk_at "B"); intro af0 lb0 lc0 hf0 rb0 rc0)
  | ((with_reducible refine' G.ix_b2 ?h ?_); (case h => walk_at "B"); intro v0 r0)
  | ((with_reducible refine' G.ix_b3 ?h ?_); (case h => walk_at "B"); intro v0 r0)
  | ((with_reducible refine' G.ix_b5 ?h ?_); (case h => walk_at "B"); intro v0 r0)
  | with_reducible refine G.st_dget ?_
  | with_reducible refine G.st_dget2 ?_
  | with_reducible refine G.st_lcLT ?_
  | with_reducible refine G.st_lcET ?_
  | with_reducible refine G.st_lcETT ?_
  | with_reducible refine G.st_forL ?_
  | with_reducible refine G.st_forE ?_
  | with_reducible refine G.st_forT ?_
  | fail "no step")
local macro_rules | `(tactic| walk_at "u") => `(tactic| repeat' ((fail_if_success (with_reducible refine G.st_if ?_)); walk_at "s"))
local macro_rules | `(tactic| walk_at "c") => `(tactic| (with_reducible refine G.minR ?_; intro m0 hm0 hm1 hm2))

namespace G
open PySem PySem.Spec PyProof.Rows L2
section
variable {P : Program} {w : World} {K : PySem.W.Frag} {mg : Str → Option Value} {base : Heap} {k n : Nat}
theorem ok_l_term (T : Tp K mg) (c_l_next : Cal P w K mg base k "_law_next" spNext) (c_l_least : Cal P w K mg base k "_law_least" (spLeast K 2)) (c_l_term : Cal P w K mg base k "_law_term" (spTermK K n)) : Cal P w K mg base (k + 1) "_law_term" (spTermK K (n + 1)) := by
  refine T.d_l_term.cal sc_l_term (fun vs H Q E h => ?_) (fun f cdv A outer s H vs Q E hr h => ?_)
  · obtain ⟨p, v, vt, vi, vo, g, k, xs, is, e, o, rfl, _⟩ := h; rfl
  obtain ⟨p, v, vt, vi, vo, g, kk, xs, is, e, o, rfl, hp, hb, ok, hk, rt, ri, ro, oo, lx, li, nx, h0, h1, q⟩ := h
  have sc := @sc_l_term
  refine ⟨_, (pss_cons (ps_setLc (i := 7) (own := [("_law_x", 15), ("_law_other", 16)]) (g := gN K [15, 16]) (tt := tHideT _) rfl sc.nd rfl rfl (sw_true rfl rfl rfl (by decide +kernel)) (pi_listK K (pv 3)) (blkOk_by (N := n_l_term) (sc := defScope s_l_term) (by decide +kernel)) (fun _ _ _ _ _ => gtK K (pg_tup (n := 2) rfl (pgs_cons (pg_name (i := 15) sc.nd rfl (Or.inl rfl)) (pgs_cons (pg_name (i := 16) sc.nd rfl (Or.inl rfl)) pgs_nil)))) (fun _ _ _ _ _ => (pts_hide (pt_cmpR (op_eqK K hr) (pv 16) (pv 2) (nomark _)))) (fun _ _ _ _ _ => pe_hide (pe_tupK K (pa_cons pe_str (pa_cons (pv 15) pa_nil)))))
      (pss_cons (ps_set (i := 7) sc.nd rfl (Or.inl rfl) (pe_op (op_addK K) (pv 7) (pe_lc (own := [("_law_k", 17), ("_law_other", 16)]) (g := g2 K 17 16) (tt := tHideT _) rfl sc.nd (pi_enumLK K rfl T.n_enumerate (pa_cons (pv 4) pa_nil)) (blkOk_by (N := n_l_term) (sc := defScope s_l_term) (by decide +kernel)) (fun _ _ _ _ _ => gtK K (pg_tup (n := 2) rfl (pgs_cons (pg_name (i := 17) sc.nd rfl (Or.inl rfl)) (pgs_cons (pg_name (i := 16) sc.nd rfl (Or.inl rfl)) pgs_nil)))) (fun _ _ _ _ _ => (pts_hide (pt_cmpR (op_eqK K hr) (pv 16) (pv 2) (nomark _)))) (fun _ _ _ _ _ => pe_hide (pe_tupK K (pa_cons pe_str (pa_cons (pv 17) pa_nil)))))))
      (pss_cons (ps_set (i := 8) sc.nd rfl (Or.inl rfl) (pe_c c_l_next hr (Nat.le_refl _) rfl (pa_cons (pv 0) (pa_cons pe_int pa_nil))))
      (pss_cons (ps_if (PW.pt (pw_and (pt_cmpR (op_neK K hr) (pv 7) (pe_lstK K pa_nil) (nomark _)) (pw_and1 (PW.pt (pw_or (pt_cmpR (op_eqK K hr) (pv 5) pe_int (nomark _)) (pw_or1 (pt_cmpR (op_eqK K hr) (pv 8) pe_int (nomark _)))))))) (pss_one (ps_ret (pe_ix (ix_K K) (pv 7) (pe_c c_l_next hr (Nat.le_refl _) rfl (pa_cons (pv 0) (pa_cons (pe_callB (len_K K) rfl T.n_len bt_len (pa_cons (pv 7) pa_nil)) pa_nil))) (fun _ _ => rfl)))) pss_nil)
      (pss_cons (ps_if (pt_cmpR (op_eqK K hr) (pv 5) pe_int (nomark _)) (pss_one (ps_ret (pe_c c_l_least hr (Nat.le_refl _) rfl (pa_cons (pv 1) (pa_cons (pv 2) pa_nil))))) pss_nil)
      (pss_cons (ps_if (PW.pt (pw_and (pt_cmpR op_nisU (pv 6) pe_non (nomark _)) (pw_and (pt_cmpR (op_eqK K hr) (pe_ix (ix_K K) (pv 6) pe_int (fun _ _ => rfl)) (pv 2) (nomark _)) (pw_and (pt_cmpR (op_neK K hr) (pe_ix (ix_K K) (pv 6) pe_int (fun _ _ => rfl)) (pe_lstK K pa_nil) (nomark _)) (pw_and1 (pt_cmpR (op_eqK K hr) (pv 8) pe_int (nomark _))))))) (pss_cons (ps_set (i := 9) sc.nd rfl (Or.inl rfl) (pe_tupK K (pa_cons pe_str (pa_cons (pe_ix (ix_K K) (pe_ix (ix_K K) (pv 6) pe_int (fun _ _ => rfl)) (pe_c c_l_next hr (Nat.le_refl _) rfl (pa_cons (pv 0) (pa_cons (pe_callB (len_K K) rfl T.n_len bt_len (pa_cons (pe_ix (ix_K K) (pv 6) pe_int (fun _ _ => rfl)) pa_nil)) pa_nil))) (fun _ _ => rfl)) pa_nil))))
      (pss_cons (ps_setLc (i := 10) (own := [("_law_part", 18)]) (g := gName 18) (tt := tYes) rfl sc.nd rfl rfl (sw_true rfl rfl rfl (by decide +kernel)) (pi_tupK K (pe_slice (sl_K K) (pe_ix (ix_K K) (pv 6) pe_int (fun _ _ => rfl)) (po_some pe_int) po_none)) (blkOk_by (N := n_l_term) (sc := defScope s_l_term) (by decide +kernel)) (fun _ _ _ _ _ => pg_name (i := 18) sc.nd rfl (Or.inl rfl)) (fun _ _ _ _ _ => pts_nil) (fun _ _ _ _ _ => pe_hide (pe_c c_l_term hr (Nat.le_refl _) rfl (pa_cons (pv 0) (pa_cons (pv 1) (pa_cons (pv 18) (pa_cons (pv 3) (pa_cons (pv 4) (pa_cons (pe_op op_sub (pv 5) pe_int) (pa_cons (pv 6) pa_nil))))))))))
      (pss_one (ps_ret (pe_tupK K (pa_cons pe_str (pa_cons (pe_ix (ix_K K) (pv 6) pe_int (fun _ _ => rfl)) (pa_cons (pe_op (op_addK K) (pe_tupK K (pa_cons (pv 9) pa_nil)) (tupleOf_K K rfl T.n_tuple (pv 10))) pa_nil)))))))) pss_nil)
      (pss_cons (ps_setLc (i := 11) (own := [("_law_name", 13), ("_law_parts", 14)]) (g := g2 K 13 14) (tt := tYes) rfl sc.nd rfl rfl (sw_true rfl rfl rfl (by decide +kernel)) (pi_listK K (pe_dget2H hr (pe_ix (ix_K K) (pv 1) pe_int (fun _ _ => rfl)) (pv 2) (pe_lstK K pa_nil) ⟨rfl, rfl, rfl, rfl⟩)) (blkOk_by (N := n_l_term) (sc := defScope s_l_term) (by decide +kernel)) (fun _ _ _ _ _ => gtK K (pg_tup (n := 2) rfl (pgs_cons (pg_name (i := 13) sc.nd rfl (Or.inl rfl)) (pgs_cons (pg_name (i := 14) sc.nd rfl (Or.inl rfl)) pgs_nil)))) (fun _ _ _ _ _ => pts_nil) (fun _ _ _ _ _ => pe_hide (pe_tupK K (pa_cons pe_str (pa_cons (pv 13) (pa_cons (pv 14) pa_nil))))))
      (pss_cons (ps_set (i := 11) sc.nd rfl (Or.inl rfl) (pe_op (op_addK K) (pv 11) (pe_lc (own := [("_law_f", 19), ("_law_parts", 14), ("_law_other", 16)]) (g := gN K [19, 14, 16]) (tt := tHideT _) rfl sc.nd (pi_listK K (pe_ix (ix_K K) (pv 1) pe_int (fun _ _ => rfl))) (blkOk_by (N := n_l_term) (sc := defScope s_l_term) (by decide +kernel)) (fun _ _ _ _ _ => gtK K (pg_tup (n := 3) rfl (pgs_cons (pg_name (i := 19) sc.nd rfl (Or.inl rfl)) (pgs_cons (pg_name (i := 14) sc.nd rfl (Or.inl rfl)) (pgs_cons (pg_name (i := 16) sc.nd rfl (Or.inl rfl)) pgs_nil))))) (fun _ _ _ _ _ => (pts_hide (pt_cmpR (op_eqK K hr) (pv 16) (pv 2) (nomark _)))) (fun _ _ _ _ _ => pe_hide (pe_tupK K (pa_cons pe_str (pa_cons (pv 19) (pa_cons (pv 14) pa_nil))))))))
      (pss_cons (ps_asg (pe_ix (ix_K K) (pv 11) (pe_c c_l_next hr (Nat.le_refl _) rfl (pa_cons (pv 0) (pa_cons (pe_callB (len_K K) rfl T.n_len bt_len (pa_cons (pv 11) pa_nil)) pa_nil))) (fun _ _ => rfl)) (gtK K (pg_tup (n := 3) rfl (pgs_cons (pg_name (i := 12) sc.nd rfl (Or.inl rfl)) (pgs_cons (pg_name (i := 13) sc.nd rfl (Or.inl rfl)) (pgs_cons (pg_name (i := 14) sc.nd rfl (Or.inl rfl)) pgs_nil))))))
      (pss_one (ps_ret (pe_tupK K (pa_cons (pv 12) (pa_cons (pv 13) (pa_cons (tupleOf_K K rfl T.n_tuple (pe_lc (own := [("_law_part", 18)]) (g := gName 18) (tt := tYes) rfl sc.nd (pi_tupK K (pv 14)) (blkOk_by (N := n_l_term) (sc := defScope s_l_term) (by decide +kernel)) (fun _ _ _ _ _ => pg_name (i := 18) sc.nd rfl (Or.inl rfl)) (fun _ _ _ _ _ => pts_nil) (fun _ _ _ _ _ => pe_hide (pe_c c_l_term hr (Nat.le_refl _) rfl (pa_cons (pv 0) (pa_cons (pv 1) (pa_cons (pv 18) (pa_cons (pv 3) (pa_cons (pv 4) (pa_cons (pe_op op_sub (pv 5) pe_int) (pa_cons (pv 6) pa_nil))))))))))) pa_nil))))))))))))))), ?_⟩
  have sok := sig_ok ok oo
  have layk : ∀ t : Th, t.kd g (g.sig o) xs is kk → t.d.canLay0 = true := fun t h => Th.layT t (Th.kd_isT ok sok nx t h)
  walk_at "r"
  refine lcLT (K := K) (is := [15, 16]) (thK kk) thF rt (by rw [List.length_map]; omega) (fun ws => by rcases ws with _ | ⟨_, _ | ⟨_, _⟩⟩ <;> rfl)
    (fun d hd => by obtain ⟨x, _, rfl⟩ := List.mem_map.mp hd; exact ⟨_, rfl, rfl⟩) (fun ws cs H1 hd hl rws s1 Qt hQ => ?_) (fun ws cs H1 hd hl hpd rws s1 Qt hQ => ?_) (fun v7 H1 s1 r1 => ?_)
  · obtain ⟨x, _, e⟩ := List.mem_map.mp hd
    cases e
    obtain ⟨v1, ws, rfl, q1, rws⟩ := rws.inv_cons
    obtain ⟨v2, ws, rfl, q2, rws⟩ := rws.inv_cons
    obtain rfl := rws.inv_nil
    obtain rfl := q1.inv_str
    obtain rfl := q2.inv_str
    walk_at "r"
    exact hQ _ (by walk_at "S")
  · obtain ⟨x, _, e⟩ := List.mem_map.mp hd
    cases e
    obtain ⟨v1, ws, rfl, q1, rws⟩ := rws.inv_cons
    obtain ⟨v2, ws, rfl, q2, rws⟩ := rws.inv_cons
    obtain rfl := rws.inv_nil
    obtain rfl := q1.inv_str
    walk_at "r"
    rename_i v3 H3 s3 r3
    exact hQ _ _ (by walk_at "S") r3
  walk_at "r"
  refine lcET (K := K) (inK kk) inF (ri.mono (by walk_at "S")) (by rw [List.length_map]; omega) (fun _ _ => rfl) (fun j v2 d H2 hd rv s2 Qt hQ => ?_) (fun j v2 d H2 hd hpd rv s2 Qt hQ => ?_) (fun v8 H2 s2 r2 => ?_)
  · rw [List.getElem?_map] at hd
    obtain ⟨x, _, rfl⟩ := Option.map_eq_some_iff.mp hd
    obtain rfl := rv.inv_str
    walk_at "r"
    exact hQ _ (by walk_at "S")
  · walk_at "r"
    rename_i v3 H3 s3 r3
    exact hQ _ _ (by walk_at "S") r3
  have lf : ∀ d ∈ ((xs.map thingD).filter (thK kk)).map thF ++ ((is.map PyData.str).zipIdx.filter fun x => inK kk x.2 x.1).map (fun x => inF x.2 x.1), IsLeaf g (g.sig o) xs is kk d := fun d hd => by
    rcases List.mem_append.mp hd with h | h
    · exact leaf_th d h
    · exact leaf_in d h
  have ll1 : (((xs.map thingD).filter (thK kk)).map thF).length ≤ 100 := by
    rw [List.length_map]; exact Nat.le_trans (List.length_filter_le _ _) (by rw [List.length_map]; exact lx)
  have ll2 : (((is.map PyData.str).zipIdx.filter fun x => inK kk x.2 x.1).map (fun x => inF x.2 x.1)).length ≤ 100 := by
    rw [List.length_map]; exact Nat.le_trans (List.length_filter_le _ _) (by rw [List.length_zipIdx, List.length_map]; exact li)
  refine add_lst (r1.mono (by walk_at "S")) r2 (by omega) fun v9 H3 s3 r3 => ?_
  have ll : (((xs.map thingD).filter (thK kk)).map thF ++ ((is.map PyData.str).zipIdx.filter fun x => inK kk x.2 x.1).map (fun x => inF x.2 x.1)).length ≤ 200 := by rw [List.length_append]; omega
  generalize ((xs.map thingD).filter (thK kk)).map thF ++ ((is.map PyData.str).zipIdx.filter fun x => inK kk x.2 x.1).map (fun x => inF x.2 x.1) = L at lf ll r3
  have layL : (PyData.list L).canLay0 = true := by
    simp only [PyData.canLay0]
    refine layAll fun d hd => ?_
    obtain ⟨t, rfl, hkd, _⟩ := lf d hd
    exact layk t hkd
  have zk := szK_pos e.toNat
  have s03 : Same H H3 := by walk_at "S"
  walk_at "u"
  rename_i rp H4 s4 hp0 hp1
  refine if_join (fun P hP => ?_) fun H5 s5 => ?_
  · walk_at "r"
    rename_i v10 H5 s5 r10
    refine ne_R (r3.mono (by walk_at "S")) r10 layL rfl (by show min _ 1 ≤ 190; omega) ?_
    rw [eqv_nilL]
    have r9 : R K H5 v9 (.list L) := r3.mono (s4.trans s5)
    cases hL : L.isEmpty
    · have hpos : 0 < L.length := List.length_pos_iff.mpr (fun e => by rw [e] at hL; cases hL)
      walk_at "r"
      all_goals first
        | exact hP _ (by walk_at "S")
        | (rename_i hd11 r11
           obtain ⟨t, rfl, hkd, hd1, hz1⟩ := lf _ (List.mem_of_getElem? hd11)
           exact q _ t _ (by walk_at "S") r11 hkd (by omega) (by omega))
    · walk_at "r"
      exact hP _ (by walk_at "S")
  walk_at "u"
  refine if_joinA (e ≠ 0) (fun P hP => ?_) fun he0 H6 s6 => ?_
  · walk_at "r"
    · refine use_least (by walk_at "B") ok hk (by decide) (fun _ => by decide) fun u t H6 s6 ru hkd hd2 hs2 hlo => ?_
      exact q _ t _ (by walk_at "S") ru (hkd _ _ _) (by omega) (by omega)
    · exact hP (by assumption) _ (by walk_at "S")
  have hsz : szK e.toNat = 1 + 4 * szK (e - 1).toNat := by
    have : e.toNat = (e - 1).toNat + 1 := by omega
    rw [this]; rfl
  walk_at "u"
  refine if_join (fun P hP => ?_) fun H7 s7 => ?_
  · rcases o with _ | ⟨fo, ks, k2, js⟩
    · obtain rfl := R.inv_non ro
      walk_at "r"
      exact hP _ (by walk_at "S")
    · have ro' : R K H6 vo (.tuple [.str fo, partsD ks, .str k2, .list (js.map fun j : Nat => PyData.int (j : Int))]) := R.mono (H := H) (by walk_at "S") ro
      obtain ⟨n1, n2, n3, n4, n5, n6, n7⟩ := oo.ok fo ks k2 js rfl
      have layj : (PyData.list (js.map fun j : Nat => PyData.int (j : Int))).canLay0 = true := by
        simp only [PyData.canLay0]
        refine layAll fun d hd => ?_
        obtain ⟨j, _, rfl⟩ := List.mem_map.mp hd
        rfl
      walk_at "r"
      · rename_i hk2 w3 r3' w4 H7 s7 r4
        refine ne_R (r3'.mono (by walk_at "S")) r4 layj rfl (by show min _ 1 ≤ 190; omega) ?_
        rw [eqv_nilL]
        cases hj : (js.map fun j : Nat => PyData.int (j : Int)).isEmpty
        · have hpos : 0 < (js.map fun j : Nat => PyData.int (j : Int)).length := List.length_pos_iff.mpr (fun e => by rw [e] at hj; cases hj)
          have hjl : (js.map fun j : Nat => PyData.int (j : Int)).length ≤ 100 := by rw [List.length_map]; exact n6
          walk_at "r"
          · rename_i rk H8 s8 hrk0 hrk1 vj dj hdj rj w9 H9 s9 r9 w10 r10a w10b H10 s10 r10
            rw [List.getElem?_map] at hdj
            obtain ⟨j, hjm, rfl⟩ := Option.map_eq_some_iff.mp hdj
            obtain rfl := rj.inv_int
            have hjis := n7 j (List.mem_of_getElem? hjm)
            rw [cutD_1, ← List.map_drop] at r10
            have hkl : (ks.drop 1).length ≤ 3 := by rw [List.length_drop]; omega
            refine lc_T (K := K) (fun i e' => ∃ t : Th, e' = t.d ∧ ∃ k, (ks.drop 1)[i]? = some k ∧ t.kd g (g.sig (some (fo, ks, k2, js))) xs is k ∧ t.dep ≤ (e - 1).toNat + 2 ∧ t.sz ≤ szK (e - 1).toNat) r10 (by rw [List.length_map]; omega) (fun _ => rfl) (fun i v d H11 hd rv s11 Qt hQ => ?_) (fun v11 H11 es s11 r11 hl11 hP11 => ?_)
            · rw [List.getElem?_map] at hd
              obtain ⟨k1, hk1, rfl⟩ := Option.map_eq_some_iff.mp hd
              obtain rfl := rv.inv_str
              walk_at "r"
              refine use_termK (by walk_at "P") (by walk_at "B") ok (n4 k1 (List.mem_of_mem_drop (List.mem_of_getElem? hk1))) (rt.mono (by walk_at "S")) (ri.mono (by walk_at "S")) (ro.mono (by walk_at "S")) oo lx li nx (by omega) (by omega) fun u t H12 s12 ru hkd hd2 hs2 => ?_
              exact hQ _ _ _ (by walk_at "S") ru ⟨t, rfl, k1, hk1, hkd, hd2, hs2⟩
            obtain ⟨ts, rfl, hkds, hdp, hsz2⟩ := terms_of (by rw [hl11, List.length_map]) hP11
            have hz3 : (ks.drop 1).length * szK (e - 1).toNat ≤ 3 * szK (e - 1).toNat := Nat.mul_le_mul_right _ hkl
            have hz4 := szK_pos (e - 1).toNat
            have htl := kds_len hkds
            have htl2 : (Th.ds ts).length = ts.length := by rw [Th.ds_map, List.length_map]
            walk_at "r"
            rename_i w12 H12 s12 r12 w13 H13 s13 r13 w14 H14 s14 r14 w15 H15 s15 r15
            have hk0 : ∃ k0 kr, ks = k0 :: kr := by
              rcases ks with _ | ⟨k0, kr⟩
              · simp at n2
              · exact ⟨k0, kr, rfl⟩
            obtain ⟨k0, kr, rfl⟩ := hk0
            refine q _ (.app .call fo (.bnd j :: ts)) _ (by walk_at "S") r15 ⟨k0 :: kr, by rw [hk2]; exact List.mem_append_right _ (by simp), hjis, hkds⟩ ?_ ?_
            · simp only [Th.dep, Th.deps]; omega
            · simp only [Th.sz, Th.szs]; omega
          · exact hP _ (by walk_at "S")
        · walk_at "r"
          exact hP _ (by walk_at "S")
      · exact hP _ (by walk_at "S")
  walk_at "r"
  rename_i af lb lc hf0 rb0 rc0
  refine ⟨af, rfl, isD_k hf0, ?_⟩
  walk_at "r"
  rename_i w8 H8 s8 r8
  refine dget_o (s8 _ _ hf0) ?_
  have ff := forms_ok ok kk
  refine lcLY (K := K) foF (forms_get (kk := kk) ok (rb0.mono s8) (rc0.mono s8) r8) (by rw [List.length_map]; have := ff.len; omega) (fun _ _ => rfl) (fun d hd => by obtain ⟨x, _, rfl⟩ := List.mem_map.mp hd; exact ⟨_, _, rfl⟩) (fun v1 v2 d1 d2 H9 hd r1 r2 s9 Qt hQ => ?_) (fun w9 H9 s9 r9 => ?_)
  · obtain ⟨x, _, e'⟩ := List.mem_map.mp hd
    cases e'
    walk_at "r"
    rename_i v3 H3 s3 r3
    exact hQ _ _ (by walk_at "S") r3
  walk_at "r"
  rename_i w10 r10
  refine lcLT (K := K) (is := [19, 14, 16]) (caK kk) caF r10 (by rw [List.length_map]; have := ok.cl; omega) (fun ws => by rcases ws with _ | ⟨_, _ | ⟨_, _ | ⟨_, _⟩⟩⟩ <;> rfl)
    (fun d hd => by obtain ⟨x, _, rfl⟩ := List.mem_map.mp hd; exact ⟨_, rfl, rfl⟩) (fun ws cs H1 hd hl rws s1 Qt hQ => ?_) (fun ws cs H1 hd hl hpd rws s1 Qt hQ => ?_) (fun w11 H10 s10 r11 => ?_)
  · obtain ⟨x, _, e'⟩ := List.mem_map.mp hd
    cases e'
    obtain ⟨v1, ws, rfl, q1, rws⟩ := rws.inv_cons
    obtain ⟨v2, ws, rfl, q2, rws⟩ := rws.inv_cons
    obtain ⟨v3, ws, rfl, q3, rws⟩ := rws.inv_cons
    obtain rfl := rws.inv_nil
    obtain rfl := q1.inv_str
    obtain rfl := q3.inv_str
    walk_at "r"
    exact hQ _ (by walk_at "S")
  · obtain ⟨x, _, e'⟩ := List.mem_map.mp hd
    cases e'
    obtain ⟨v1, ws, rfl, q1, rws⟩ := rws.inv_cons
    obtain ⟨v2, ws, rfl, q2, rws⟩ := rws.inv_cons
    obtain ⟨v3, ws, rfl, q3, rws⟩ := rws.inv_cons
    obtain rfl := rws.inv_nil
    obtain rfl := q1.inv_str
    walk_at "r"
    rename_i v4 H4 s4 r4
    exact hQ _ _ (by walk_at "S") r4
  have hway : ∀ d ∈ ((g.forms kk).map formD).map foF ++ ((g.calls.map callD).filter (caK kk)).map caF, IsWay g (g.sig o) kk d := fun d hd => by
    rcases List.mem_append.mp hd with h | h
    · exact way_form ok d h
    · exact way_call ok d h
  have hwp := ways_pos ok hk
  have hwl1 : (((g.forms kk).map formD).map foF).length ≤ 4 := by rw [List.length_map, List.length_map]; exact ff.len
  have hwl2 : (((g.calls.map callD).filter (caK kk)).map caF).length ≤ 100 := by
    rw [List.length_map]; exact Nat.le_trans (List.length_filter_le _ _) (by rw [List.length_map]; exact ok.cl)
  have hwl : (((g.forms kk).map formD).map foF ++ ((g.calls.map callD).filter (caK kk)).map caF).length ≤ 104 := by rw [List.length_append]; omega
  refine add_lst (r9.mono (by walk_at "S")) r11 (by omega) fun w12 H11 s11 r12 => ?_
  generalize ((g.forms kk).map formD).map foF ++ ((g.calls.map callD).filter (caK kk)).map caF = W at hway hwp hwl r12
  walk_at "r"
  rename_i rk H12 s12 hrk0 hrk1 vw dw hdw rw1
  obtain ⟨aw, c, ps, rfl, hpl, hpk, hway2⟩ := hway dw (List.mem_of_getElem? hdw)
  refine gtup3 rw1 fun u1 u2 u3 q1 q2 q3 => ?_
  obtain rfl := q1.inv_str
  obtain rfl := q2.inv_str
  walk_at "r"
  refine lc_T (K := K) (fun i e' => ∃ t : Th, e' = t.d ∧ ∃ k, ps[i]? = some k ∧ t.kd g (g.sig o) xs is k ∧ t.dep ≤ (e - 1).toNat + 2 ∧ t.sz ≤ szK (e - 1).toNat) q3 (by rw [List.length_map]; omega) (fun _ => rfl) (fun i v d H13 hd rv s13 Qt hQ => ?_) (fun v13 H13 es s13 r13 hl13 hP13 => ?_)
  · rw [List.getElem?_map] at hd
    obtain ⟨k1, hk1, rfl⟩ := Option.map_eq_some_iff.mp hd
    obtain rfl := rv.inv_str
    walk_at "r"
    refine use_termK (by walk_at "P") (by walk_at "B") ok (hpk k1 (List.mem_of_getElem? hk1)) (rt.mono (by walk_at "S")) (ri.mono (by walk_at "S")) (ro.mono (by walk_at "S")) oo lx li nx (by omega) (by omega) fun u t H14 s14 ru hkd hd2 hs2 => ?_
    exact hQ _ _ _ (by walk_at "S") ru ⟨t, rfl, k1, hk1, hkd, hd2, hs2⟩
  obtain ⟨ts, rfl, hkds, hdp, hsz2⟩ := terms_of (by rw [hl13, List.length_map]) hP13
  have hz3 : ps.length * szK (e - 1).toNat ≤ 4 * szK (e - 1).toNat := Nat.mul_le_mul_right _ hpl
  walk_at "r"
  rename_i w14 H14 s14 r14 w15 H15 s15 r15
  refine q _ (.app aw c ts) _ (by walk_at "S") r15 (hway2 xs is ts hkds) ?_ ?_
  · simp only [Th.dep]; omega
  · simp only [Th.sz]; omega
theorem termK_n (T : Tp K mg) : ∀ n : Nat, Cal P w K mg base (n + 4) "_law_term" (spTermK K n)
  | 0 => T.d_l_term.none fun vs H Q E h => by obtain ⟨p, v, vt, vi, vo, g, k, xs, is, e, o, _, _, _, _, _, _, _, _, _, _, _, _, h0, h1, _⟩ := h; omega
  | n + 1 => ok_l_term T ((ok_l_next (k := 0) T).lift (by omega)) ((least_n T 2).lift (by omega)) (termK_n T n)

end
end G

end

section
/-! the words of the walk: S (a heap keeps), R (a value stands for data), A (a row of them), no (a way that cannot be), s (one step), r (all steps) -/
local macro_rules | `(tactic| walk_at "S") => `(tactic| first | exact L2.Same.refl _ | assumption | exact G.sm_tr (by assumption) (by walk_at "S"))
local macro_rules | `(tactic| walk_at "R") => `(tactic| first
  | with_reducible exact G.R.int _ | with_reducible exact G.R.str _ | with_reducible exact G.R.bl _ | with_reducible exact G.R.non
  | with_reducible assumption
  | exact G.r_mono (by with_reducible assumption) (by walk_at "S")
  | ((with_reducible refine' G.R.lst L2.upd_same ?rl); (case rl => walk_at "A")))
local macro_rules | `(tactic| walk_at "A") => `(tactic| first | with_reducible exact G.RA.nil | ((with_reducible refine' G.RA.cons ?ra ?rb); (case ra => walk_at "R"); (case rb => walk_at "A")))
local macro_rules | `(tactic| walk_at "no") => `(tactic| first | contradiction | omega)
local macro_rules | `(tactic| walk_at "side") => `(tactic| first | with_reducible rfl | with_reducible assumption | omega | exact Int.lt_of_lt_of_le (by with_reducible assumption) (by decide +kernel) | ((with_reducible refine G.le_up ?_); decide +kernel) | (simp only [List.length_cons, List.length_nil, List.getElem?_cons_zero, List.getElem?_cons_succ, List.length_map]; done) | (simp only [List.length_cons, List.length_nil, List.length_map, List.length_append] at *; omega))
local macro_rules | `(tactic| walk_at "sideC") => `(tactic| first | with_reducible assumption | (with_reducible refine G.cmul_r ⟨?_, ?_⟩ <;> decide) | (with_reducible refine G.cdiv_r ⟨?_, ?_⟩ <;> decide) | (with_reducible refine G.cmul_l ⟨?_, ?_⟩ <;> decide) | (with_reducible refine G.cpow_c ⟨?_, ?_, ?_⟩ <;> decide) | (with_reducible refine G.cmul_r ⟨?_, ?_⟩ <;> omega) | (with_reducible refine G.cdiv_r ⟨?_, ?_⟩ <;> omega) | omega)
local macro_rules | `(tactic| walk_at "got") => `(tactic| (intro v0 r0; first
  | (have e0 := G.R.inv_str r0; subst e0) | (have e0 := G.R.inv_int r0; subst e0) | (have e0 := G.R.inv_bl r0; subst e0) | (have e0 := G.R.inv_non r0; subst e0) | skip))
local macro_rules | `(tactic| walk_at "P") => `(tactic| first | with_reducible assumption | exact G.keep_at (by with_reducible assumption) (by walk_at "S"))
local macro_rules | `(tactic| walk_at "c") => `(tactic| fail)
local macro_rules | `(tactic| walk_at "Q") => `(tactic| first | with_reducible assumption | exact G.seq_keep (by with_reducible assumption) (by walk_at "S"))
local macro_rules | `(tactic| walk_at "c") => `(tactic| ((with_reducible refine' G.use_state ?hp ?h0 ?h1 ?_); (case hp => walk_at "Q"); (case h0 => walk_at "side"); (case h1 => walk_at "side"); intro p0 H0 s0 hp0))
local macro_rules | `(tactic| walk_at "c") => `(tactic| ((with_reducible refine' G.use_draw ?hp ?h0 ?h1 ?_); (case hp => walk_at "P"); (case h0 => walk_at "side"); (case h1 => walk_at "side"); intro r0 hr0 hr1))
local macro_rules | `(tactic| walk_at "s") => `(tactic| first
  | with_reducible refine G.st_seq ?_
  | ((with_reducible refine' G.st_var ?hv ?_); (case hv => exact rfl))
  | with_reducible refine G.st_c ?_
  | with_reducible refine G.st_op ?_
  | with_reducible refine G.st_bl ?_
  | with_reducible refine L2.iteT ?_
  | with_reducible refine L2.iteF ?_
  | with_reducible refine G.ite_nt ?_
  | with_reducible refine G.ite_nf ?_
  | ((with_reducible refine G.st_ite ?_ ?_) <;> (intro hb; (try simp only [decide_eq_true_eq, decide_eq_false_iff_not, Bool.not_eq_true', Bool.not_eq_false', beq_iff_eq, Bool.and_eq_true, Bool.or_eq_true, Bool.and_eq_false_iff, Bool.or_eq_false_iff, beq_eq_false_iff_ne, ne_eq, Int.not_lt, Int.not_le, Nat.not_lt, Nat.not_le] at hb); first | (exfalso; walk_at "no"; done) | skip))
  | with_reducible refine G.st_if ?_
  | with_reducible refine G.st_ret ?_
  | with_reducible refine G.st_set ?_
  | with_reducible refine G.st_call ?_
  | with_reducible refine G.st_cons ?_
  | with_reducible refine G.st_nil ?_
  | with_reducible refine G.st_CB ?_
  | with_reducible refine G.st_tTest ?_
  | with_reducible refine G.st_tB ?_
  | with_reducible refine G.st_or ?_
  | with_reducible refine G.st_and ?_
  | with_reducible refine G.st_not ?_
  | with_reducible refine G.st_orV ?_
  | with_reducible refine G.st_andV ?_
  | with_reducible refine G.st_notV ?_
  | with_reducible refine G.st_tIf ?_
  | with_reducible refine G.st_chain ?_
  | with_reducible refine G.st_un ?_
  | with_reducible refine G.st_then ?_
  | with_reducible refine G.st_slice ?_
  | with_reducible refine G.st_noPart ?_
  | with_reducible refine G.st_part ?_
  | with_reducible refine G.st_exInt ?_
  | with_reducible refine G.st_drop ?_
  | with_reducible refine G.st_next ?_
  | with_reducible refine G.st_retN ?_
  | with_reducible refine G.add_int ?_
  | with_reducible refine G.i0 ?_
  | ((with_reducible refine G.imod2 (by decide) ?_ ?_) <;> (intro hm; first | (exfalso; walk_at "no"; done) | skip))
  | ((with_reducible refine G.imod3 (by decide) ?_ ?_ ?_) <;> (intro hm; first | (exfalso; walk_at "no"; done) | skip))
  | ((with_reducible refine' G.iC ?hc ?_); (case hc => walk_at "sideC"))
  | ((with_reducible refine' G.eq_str1 ?e ?_); (case e => with_reducible rfl))
  | ((with_reducible refine' G.eq_str0 ?e ?_); (case e => decide +kernel))
  | with_reducible refine G.eq_str ?_
  | with_reducible refine G.eq_int ?_
  | with_reducible refine G.eq_bl ?_
  | with_reducible refine G.ne_str ?_
  | with_reducible refine G.ne_int ?_
  | ((with_reducible refine' G.is_none ?r ?_); (case r => walk_at "R"))
  | ((with_reducible refine' G.isnt_none ?r ?_); (case r => walk_at "R"))
  | with_reducible refine G.is_bl ?_
  | with_reducible refine G.isnt_bl ?_
  | with_reducible refine G.in_sign ?_
  | with_reducible refine G.nin_sign ?_
  | ((with_reducible refine' G.in_strsT1 ?r ?c ?e ?_); (case r => walk_at "R"); (case c => rfl); (case e => decide +kernel))
  | ((with_reducible refine' G.in_strsT0 ?r ?c ?e ?_); (case r => walk_at "R"); (case c => rfl); (case e => decide +kernel))
  | ((with_reducible refine' G.in_strsT ?r ?c ?_); (case r => walk_at "R"); (case c => rfl))
  | ((with_reducible refine' G.nin_strsT ?r ?c ?_); (case r => walk_at "R"); (case c => rfl))
  | ((with_reducible refine' G.in_intsT ?r ?c ?_); (case r => walk_at "R"); (case c => rfl))
  | ((with_reducible refine' G.nin_intsT ?r ?c ?_); (case r => walk_at "R"); (case c => rfl))
  | ((with_reducible refine' G.add_str ?l ?_); (case l => walk_at "side"))
  | ((with_reducible refine' G.add_tup ?r ?s ?l ?_); (case r => walk_at "R"); (case s => walk_at "R"); (case l => walk_at "side"); intro v0 H0 s0 r0)
  | ((with_reducible refine' G.add_lst ?r ?s ?l ?_); (case r => walk_at "R"); (case s => walk_at "R"); (case l => walk_at "side"); intro v0 H0 s0 r0)
  | ((with_reducible refine' G.isi_1 ?r ?e ?t ?_); (case r => walk_at "R"); (case e => rfl); (case t => simp only [List.mem_cons, true_or, or_true]))
  | ((with_reducible refine' G.isi_0 ?r ?e ?t ?_); (case r => walk_at "R"); (case e => rfl); (case t => simp only [List.mem_cons, true_or, or_true]))
  | ((with_reducible refine' G.isi_R ?r ?t ?_); (case r => walk_at "R"); (case t => simp only [List.mem_cons, true_or, or_true]))
  | ((with_reducible refine' G.len_str ?l ?_); (case l => walk_at "side"))
  | ((with_reducible refine' G.len_tup ?r ?_); (case r => walk_at "R"))
  | ((with_reducible refine' G.len_lst ?r ?_); (case r => walk_at "R"))
  | (with_reducible refine G.st_tup ?_)
  | (with_reducible refine G.st_lst ?_)
  | ((with_reducible refine' G.st_newT ?r ?l ?_); (case r => walk_at "A"); (case l => first | exact Nat.le_of_ble_eq_true rfl | walk_at "side"); intro v0 H0 s0 r0)
  | ((with_reducible refine' G.st_newL ?r ?l ?_); (case r => walk_at "A"); (case l => first | exact Nat.le_of_ble_eq_true rfl | walk_at "side"); intro v0 H0 s0 r0)
  | ((with_reducible refine' G.ix_tupR ?r ?h0 ?hd ?_); (case r => walk_at "R"); (case h0 => walk_at "side"); (case hd => first | rfl | assumption); walk_at "got")
  | ((with_reducible refine' G.ix_lstR ?r ?h0 ?hd ?_); (case r => walk_at "R"); (case h0 => walk_at "side"); (case hd => first | rfl | assumption); walk_at "got")
  | ((with_reducible refine' G.ix_strR ?l ?h0 ?hd ?_); (case l => walk_at "side"); (case h0 => walk_at "side"); (case hd => first | rfl | assumption))
  | ((with_reducible refine' G.ix_strM ?l ?h0 ?h1 ?_); (case l => walk_at "side"); (case h0 => walk_at "side"); (case h1 => walk_at "side"); intro c0 hc0)
  | ((with_reducible refine' G.ix_tupN ?r ?h0 ?h1 ?_); (case r => walk_at "R"); (case h0 => walk_at "side"); (case h1 => walk_at "side"); intro v0 d0 hd0 r0)
  | ((with_reducible refine' G.ix_lstS ?r ?h0 ?h1 ?_); (case r => walk_at "R"); (case h0 => walk_at "side"); (case h1 => walk_at "side"); intro z0 hz0)
  | ((with_reducible refine' G.ix_lstN ?r ?h0 ?h1 ?_); (case r => walk_at "R"); (case h0 => walk_at "side"); (case h1 => walk_at "side"); intro v0 d0 hd0 r0)
  | ((with_reducible refine' G.sl_strR ?l ?_); (case l => walk_at "side"))
  | ((with_reducible refine' G.sl_tupR ?r ?_); (case r => walk_at "R"); intro v0 H0 s0 r0)
  | ((with_reducible refine' G.sl_lstR ?r ?_); (case r => walk_at "R"); intro v0 H0 s0 r0)
  | ((with_reducible refine' G.tupOf_L ?r ?_); (case r => walk_at "R"); intro v0 H0 s0 r0)
  | ((with_reducible refine' G.tupOf_T ?r ?_); (case r => walk_at "R"))
  | ((with_reducible refine' G.lstOf_T ?r ?_); (case r => walk_at "R"); intro v0 H0 s0 r0)
  | ((with_reducible refine' G.lstOf_L ?r ?_); (case r => walk_at "R"); intro v0 H0 s0 r0)
  | with_reducible refine G.st_lcL ?_
  | with_reducible refine G.st_lcT ?_
  | with_reducible refine G.st_lcS ?_
  | with_reducible refine G.st_lcR ?_
  | with_reducible refine G.st_M0 ?_
  | with_reducible refine G.st_M1 ?_
  | (with_reducible refine G.upper_one ?_; intro hu0)
  | ((with_reducible refine' G.upper_R ?l ?_); (case l => walk_at "side"))
  | (with_reducible refine G.st_strAnd ?_)
  | (with_reducible refine G.st_sub ?_)
  | ((with_reducible refine' G.set_20 ?hp ?_); (case hp => first | exact L2.upd_same | walk_at "P"))
  | ((with_reducible refine' G.set_21 ?hp ?_); (case hp => first | exact L2.upd_same | walk_at "P"))
  | ((with_reducible refine' G.set_at ?hp ?hi ?_); (case hp => first | exact L2.upd_same | walk_at "P"); (case hi => rfl))
  | with_reducible refine G.st_lst2 ?_
  | with_reducible refine G.st_shut ?_
  | with_reducible refine G.st_forR ?_
  | ((with_reducible refine' G.len_scr ?s ?_); (case s => walk_at "Q"))
  | ((with_reducible refine' G.ix_scr ?s ?h0 ?h1 ?_); (case s => walk_at "Q"); (case h0 => walk_at "side"); (case h1 => walk_at "side"); intro n0)
  | ((with_reducible refine' G.sl_scr ?s ?_); (case s => walk_at "Q"); intro v0 H0 s0 r0)
  | (with_reducible refine' G.st_disp1 ?_; intro v0 H0 s0 r0)
  | walk_at "c"
  | fail "no step")
local macro_rules | `(tactic| walk_at "r") => `(tactic| repeat' (walk_at "s"))

local macro_rules | `(tactic| walk_at "side") => `(tactic| first | exact G.nm_a (by with_reducible assumption) | exact G.fm_a (by with_reducible assumption) | exact G.nm_b (by with_reducible assumption) | exact G.nm_c (by with_reducible assumption) | fail)
local macro_rules | `(tactic| walk_at "c") => `(tactic| ((with_reducible refine' G.use_name ?hp ?_); (case hp => walk_at "P"); intro z0 H0 s0 hz0))
local macro_rules | `(tactic| walk_at "c") => `(tactic| ((with_reducible refine' G.use_form ?hp ?_); (case hp => walk_at "P"); intro z0 H0 s0 hz0))
local macro_rules | `(tactic| walk_at "c") => `(tactic| ((with_reducible refine' G.use_pool ?hp ?_); (case hp => walk_at "P"); intro v0 fs0 gs0 ns0 H0 s0 ok0 r0))
local macro_rules | `(tactic| walk_at "c") => `(tactic| ((with_reducible refine' G.use_leaf ?hp ?r ?ok ?h0 ?h1 ?_); (case hp => walk_at "P"); (case r => walk_at "R"); (case ok => with_reducible assumption); (case h0 => walk_at "side"); (case h1 => walk_at "side"); intro v0 t0 H0 s0 r0 ht0 hd0 hs0))
local macro_rules | `(tactic| walk_at "c") => `(tactic| ((with_reducible refine' G.use_term ?hp ?r ?ok ?h0 ?h1 ?e0 ?e1 ?_); (case hp => walk_at "P"); (case r => walk_at "R"); (case ok => with_reducible assumption); (case h0 => walk_at "side"); (case h1 => walk_at "side"); (case e0 => walk_at "side"); (case e1 => walk_at "side"); intro v0 t0 H0 s0 r0 ht0 hd0 hs0))
local macro_rules | `(tactic| walk_at "c") => `(tactic| ((with_reducible refine' G.use_tall ?hp ?r ?ok ?rt ?ht ?h0 ?h1 ?_); (case hp => walk_at "P"); (case r => walk_at "R"); (case ok => with_reducible assumption); (case rt => walk_at "R"); (case ht => with_reducible assumption); (case h0 => walk_at "side"); (case h1 => walk_at "side"); intro v0 t0 H0 s0 r0 ht0 hd0 hs0))
local macro_rules | `(tactic| walk_at "c") => `(tactic| ((with_reducible refine' G.use_anyT ?hp ?r ?ok ?h0 ?h1 ?_); (case hp => walk_at "P"); (case r => walk_at "R"); (case ok => with_reducible assumption); (case h0 => walk_at "side"); (case h1 => walk_at "side"); intro v0 t0 H0 s0 r0 ht0 hd0 hs0))

local macro_rules | `(tactic| walk_at "w") => `(tactic| first
  | with_reducible refine G.st_BM0 ?_
  | with_reducible refine G.st_BM ?_
  | ((with_reducible refine' G.st_tyl ?hl ?_); (case hl => walk_at "P"))
  | ((with_reducible refine' G.popR ?hl ?ra ?hn ?_); (case hl => walk_at "P"); (case ra => with_reducible assumption); (case hn => with_reducible assumption); intro v0 ws0 H0 x0 hl0 ra0 r0)
  | ((with_reducible refine' G.extR ?hl ?ra ?r ?hz ?hn ?hn' ?_); (case hl => walk_at "P"); (case ra => first | with_reducible assumption | exact G.ra_mono (by with_reducible assumption) (by walk_at "S")); (case r => walk_at "R"); (case hz => walk_at "side"); (case hn => walk_at "nol"); (case hn' => walk_at "nol"); intro ws0 H0 x0 hl0 ra0)
  | ((with_reducible refine' G.gtup2 ?r ?_); (case r => walk_at "R"); intro v1 v2 r1 r2)
  | with_reducible refine G.st_asgT ?_
  | with_reducible refine G.int_bl ?_
  | with_reducible refine G.max_2 ?_
  | ((with_reducible refine' G.st_aug ?hx ?_); (case hx => rfl))
  | with_reducible refine G.ipI_int ?_
  | with_reducible refine G.whB ?_
  | with_reducible refine G.st_lstF ?_
  | ((with_reducible refine' G.st_newLF ?r ?l ?_); (case r => walk_at "A"); (case l => first | exact Nat.le_of_ble_eq_true rfl | walk_at "side"); intro p0 H0 f0 s0 hl0 ra0)
  | fail "no step")
local macro_rules | `(tactic| walk_at "nol") => `(tactic| first | with_reducible assumption | rfl | exact G.Th.noL _ | exact G.Th.noLs _)
local macro_rules | `(tactic| walk_at "c") => `(tactic| walk_at "w")

local macro_rules | `(tactic| walk_at "c") => `(tactic| first
  | with_reducible refine G.neg_i ?_
  | with_reducible refine G.st_BMs ?_
  | with_reducible refine G.st_tys ?_
  | with_reducible refine G.st_gcons ?_
  | with_reducible refine G.st_gnil ?_
  | with_reducible refine G.st_gname ?_
  | with_reducible refine G.st_gsub ?_
  | ((with_reducible refine' G.iC ?hc ?_); (case hc => show (0 : Int) < _; decide +kernel))
  | ((with_reducible refine' G.ix_scrLast ?hs ?h1 ?_); (case hs => walk_at "Q"); (case h1 => walk_at "side"); intro n0)
  | ((with_reducible refine' G.divmodR ?h0 ?h1 ?_); (case h0 => walk_at "side"); (case h1 => walk_at "side"); intro p0 H0 f0 e0)
  | (with_reducible refine G.absR ?_; intro j0)
  | fail "no step")

local macro_rules | `(tactic| walk_at "B") => `(tactic| first | with_reducible assumption | exact G.bk_keep (by with_reducible assumption) (by walk_at "S"))
local macro_rules | `(tactic| walk_at "c") => `(tactic| first
  | ((with_reducible refine' G.use_nextU ?hp ?h0 ?h1 ?_); (case hp => walk_at "P"); (case h0 => walk_at "side"); (case h1 => walk_at "side"); intro r0 H0 s0 hr0 hr1)
  | ((with_reducible refine' G.ix_b1 ?h ?_); (case h => walk_at "B"); intro af0 lb0 lc0 hf0 rb0 rc0)
  | ((with_reducible refine' G.ix_b2 ?h ?_); (case h => walk_at "B"); intro v0 r0)
  | ((with_reducible refine' G.ix_b3 ?h ?_); (case h => walk_at "B"); intro v0 r0)
  | ((with_reducible refine' G.ix_b5 ?h ?_); (case h => walk_at "B"); intro v0 r0)
  | with_reducible refine G.st_dget ?_
  | with_reducible refine G.st_dget2 ?_
  | with_reducible refine G.st_lcLT ?_
  | with_reducible refine G.st_lcET ?_
  | with_reducible refine G.st_lcETT ?_
  | with_reducible refine G.st_forL ?_
  | with_reducible refine G.st_forE ?_
  | with_reducible refine G.st_forT ?_
  | fail "no step")
local macro_rules | `(tactic| walk_at "u") => `(tactic| repeat' ((fail_if_success (with_reducible refine G.st_if ?_)); walk_at "s"))
local macro_rules | `(tactic| walk_at "c") => `(tactic| (with_reducible refine G.minR ?_; intro m0 hm0 hm1 hm2))

namespace G
open PySem PySem.Spec PyProof.Rows L2
section
variable {P : Program} {w : World} {K : PySem.W.Frag} {mg : Str → Option Value} {base : Heap} {k n : Nat}
local macro_rules | `(tactic| walk_at "v") => `(tactic| repeat' ((fail_if_success (with_reducible refine G.add_int ?_)); (fail_if_success (with_reducible refine G.imod3 ?_ ?_ ?_ ?_)); (fail_if_success (with_reducible refine G.st_if ?_)); walk_at "s"))
local macro_rules | `(tactic| walk_at "x") => `(tactic| repeat' ((fail_if_success (with_reducible refine' G.ix_b1 ?_ ?_)); walk_at "s"))
theorem ok_l_function (T : Tp K mg) (c_l_next : Cal P w K mg base k "_law_next" spNext) (c_l_term : Cal P w K mg base k "_law_term" (spTermK K 4)) : Cal P w K mg base (k + 1) "_law_function" (spFun K) := by
  refine T.d_l_function.cal sc_l_function (fun vs H Q E h => ?_) (fun f cdv A outer s H vs Q E hr h => ?_)
  · obtain ⟨p, v, g, ff, rfl, _⟩ := h; rfl
  obtain ⟨p, v, g, ff, rfl, hp, hb, ok, hf, q⟩ := h
  have sc := @sc_l_function
  refine ⟨_, (pss_cons (ps_set (i := 3) sc.nd rfl (Or.inr rfl) (pe_ix (ix_K K) (pv 1) pe_int (fun _ _ => rfl)))
      (pss_cons (ps_if (pt_cmpR (op_eqK K hr) (pe_c c_l_next hr (Nat.le_refl _) rfl (pa_cons (pv 0) (pa_cons pe_int pa_nil))) pe_int (nomark _)) (pss_cons (ps_set (i := 4) sc.nd rfl (Or.inl rfl) (tupleOf_K K rfl T.n_tuple (pe_lc (own := [("_law_k", 11)]) (g := gName 11) (tt := tYes) rfl sc.nd (pi_range1 rfl T.n_range (pa_cons (pe_c c_l_next hr (Nat.le_refl _) rfl (pa_cons (pv 0) (pa_cons pe_int pa_nil))) pa_nil)) (blkOk_by (N := n_l_function) (sc := defScope s_l_function) (by decide +kernel)) (fun _ _ _ _ _ => pg_name (i := 11) sc.nd rfl (Or.inl rfl)) (fun _ _ _ _ _ => pts_nil) (fun _ _ _ _ _ => pe_hide (pe_ix (ix_K K) (pv 3) (pe_c c_l_next hr (Nat.le_refl _) rfl (pa_cons (pv 0) (pa_cons pe_int pa_nil))) (fun _ _ => rfl))))))
      (pss_cons (ps_set (i := 5) sc.nd rfl (Or.inl rfl) (pe_ix (ix_K K) (pv 3) (pe_c c_l_next hr (Nat.le_refl _) rfl (pa_cons (pv 0) (pa_cons pe_int pa_nil))) (fun _ _ => rfl)))
      (pss_one (ps_ret (pe_tupK K (pa_cons pe_str (pa_cons (pv 2) (pa_cons (pv 4) (pa_cons (pv 5) (pa_cons (pe_c c_l_term hr (Nat.le_refl _) rfl (pa_cons (pv 0) (pa_cons (pv 1) (pa_cons (pv 5) (pa_cons (pe_lstF K pa_nil) (pa_cons (pe_callTy (list_K K) rfl T.n_list bt_list (pa_cons (pv 4) pa_nil)) (pa_cons pe_int (pa_cons pe_non pa_nil)))))))) pa_nil)))))))))) pss_nil)
      (pss_cons (ps_set (i := 6) sc.nd rfl (Or.inr rfl) (pe_ix (ix_K K) (pv 3) (pe_op (op_addK K) pe_int (pe_c c_l_next hr (Nat.le_refl _) rfl (pa_cons (pv 0) (pa_cons pe_int pa_nil)))) (fun _ _ => rfl)))
      (pss_cons (ps_set (i := 4) sc.nd rfl (Or.inl rfl) (pe_op (op_addK K) (pe_tupK K (pa_cons (pv 6) pa_nil)) (tupleOf_K K rfl T.n_tuple (pe_lc (own := [("_law_k", 11)]) (g := gName 11) (tt := tYes) rfl sc.nd (pi_range1 rfl T.n_range (pa_cons (pe_c c_l_next hr (Nat.le_refl _) rfl (pa_cons (pv 0) (pa_cons pe_int pa_nil))) pa_nil)) (blkOk_by (N := n_l_function) (sc := defScope s_l_function) (by decide +kernel)) (fun _ _ _ _ _ => pg_name (i := 11) sc.nd rfl (Or.inl rfl)) (fun _ _ _ _ _ => pts_nil) (fun _ _ _ _ _ => pe_hide (pe_ix (ix_K K) (pv 3) (pe_c c_l_next hr (Nat.le_refl _) rfl (pa_cons (pv 0) (pa_cons pe_int pa_nil))) (fun _ _ => rfl)))))))
      (pss_cons (ps_set (i := 5) sc.nd rfl (Or.inl rfl) (pe_ix (ix_K K) (pv 3) (pe_op op_mod (pe_c c_l_next hr (Nat.le_refl _) rfl (pa_cons (pv 0) (pa_cons pe_int pa_nil))) pe_int) (fun _ _ => rfl)))
      (pss_cons (ps_set (i := 7) sc.nd rfl (Or.inl rfl) (pe_lstF K pa_nil))
      (pss_cons (ps_for PassesOwn.never rfl (pi_listK K (pe_dgetH hr (pe_ix (ix_K K) (pv 1) pe_int (fun _ _ => rfl)) (pv 6) (fun _ _ => rfl))) (gtK K (pg_tup (n := 2) rfl (pgs_cons (pg_name (i := 8) sc.nd rfl (Or.inl rfl)) (pgs_cons (pg_name (i := 9) sc.nd rfl (Or.inl rfl)) pgs_nil)))) (pss_cons (ps_set (i := 10) sc.nd rfl (Or.inl rfl) (pe_tupK K (pa_cons (pv 2) (pa_cons (pv 4) (pa_cons (pv 5) (pa_cons (pe_lc (own := [("_law_k", 11), ("_law_part", 12)]) (g := g2 K 11 12) (tt := tHideT _) rfl sc.nd (pi_enumTK K rfl T.n_enumerate (pa_cons (pv 9) pa_nil)) (blkOk_by (N := n_l_function) (sc := defScope s_l_function) (by decide +kernel)) (fun _ _ _ _ _ => gtK K (pg_tup (n := 2) rfl (pgs_cons (pg_name (i := 11) sc.nd rfl (Or.inl rfl)) (pgs_cons (pg_name (i := 12) sc.nd rfl (Or.inl rfl)) pgs_nil)))) (fun _ _ _ _ _ => (pts_hide (pt_cmpR (op_eqK K hr) (pv 12) (pv 6) (nomark _)))) (fun _ _ _ _ _ => pe_hide (pv 11))) pa_nil))))))
      (pss_one (ps_expr (bmK K (pe_bm PySem.F.plainAttrs_list PySem.F.slot_list_append PySem.F.type_list_append mt_append (pv 7) (pa_cons (pe_c c_l_term hr (Nat.le_refl _) rfl (pa_cons (pv 0) (pa_cons (pv 1) (pa_cons (pv 5) (pa_cons (pe_lstF K pa_nil) (pa_cons (pe_callTy (list_K K) rfl T.n_list bt_list (pa_cons (pe_op (op_addK K) (pv 9) (pe_slice (sl_K K) (pv 4) (po_some pe_int) po_none)) pa_nil)) (pa_cons pe_int (pa_cons (pv 10) pa_nil)))))))) pa_nil)))))))
      (pss_one (ps_ret (pe_tupK K (pa_cons pe_str (pa_cons (pv 2) (pa_cons (pv 4) (pa_cons (pv 5) (pa_cons (tupleOf_K K rfl T.n_tuple (pv 7)) pa_nil))))))))))))))), ?_⟩
  have hkl : (g.kinds.length : Int) = 3 := rfl
  have hkl' : g.kinds.length = 3 := rfl
  walk_at "v"
  rename_i yk rk
  refine if_join (fun P hP => ?_) fun H1 s1 => ?_
  · walk_at "r"
    · rename_i r1 H1 s1 hr10 hr11 hr1 r2 H2 s2 hr20 hr21
      refine lc_R (K := K) (fun _ e => ∃ z, e = .str z ∧ z ∈ g.kinds) (by omega) (by omega) (fun _ => rfl) (fun i H3 hi s3 Qt hQ => ?_) (fun v3 H3 es s3 r3 hl3 hP3 => ?_)
      · walk_at "r"
        exact hQ _ _ _ (by walk_at "S") (R.str _) ⟨_, rfl, by assumption⟩
      obtain ⟨ks, rfl, hks⟩ := kinds_of hP3
      rw [List.length_map] at hl3
      walk_at "r"
      rename_i va H4 s4 ra rn H5 s5 hrn0 hrn1 zk hzk p0 H6 f6 s6 hl6 ra6 vi H7 s7 ri
      refine use_termK (xs := []) (o := none) (by walk_at "P") (by walk_at "B") ok hzk (.lst (s7 _ _ hl6) (ra6.mono s7)) ri .non ⟨fun _ _ _ _ h => by cases h⟩ (by decide) (by omega) (fun _ h => by cases h) (by decide) (by decide) fun u t H8 s8 ru hkd hd2 hs2 => ?_
      walk_at "r"
      rename_i v9 H9 s9 r9
      exact q _ _ _ _ (by walk_at "S") r9 (.short ks zk t (by omega) hks hzk hkd hd2 hs2)
    · exact hP _ (by walk_at "S")
  walk_at "v"
  rename_i r2 H2 s2 hr20 hr21
  refine add_int ?_
  refine ix_bc (rk.mono (by walk_at "S")) (by omega) (by omega) fun k0 hk0 => ?_
  have hk0m : k0 ∈ g.kinds := by
    rcases hk0 with rfl | rfl <;> simp [Bk.kinds]
  walk_at "v"
  rename_i v3 H3 s3 r3 r4 H4 s4 hr40 hr41
  refine lc_R (K := K) (fun _ e => ∃ z, e = .str z ∧ z ∈ g.kinds) (by omega) (by omega) (fun _ => rfl) (fun i H5 hi s5 Qt hQ => ?_) (fun v5 H5 es s5 r5 hl5 hP5 => ?_)
  · walk_at "r"
    exact hQ _ _ _ (by walk_at "S") (R.str _) ⟨_, rfl, by assumption⟩
  obtain ⟨ks, rfl, hks⟩ := kinds_of hP5
  rw [List.length_map] at hl5
  have hl5' : (ks.map PyData.str).length ≤ 3 := by rw [List.length_map]; omega
  walk_at "v"
  rename_i v6 H6 s6 r6 v7 H7 s7 r7 r8 H8 s8 hr80 hr81
  have r7' : R K H7 v7 (partsD (k0 :: ks)) := r7
  have hm3 : 0 ≤ r8 % 3 ∧ r8 % 3 < 3 := by omega
  refine iC (show (0 : Int) < 3 by decide) ?_
  refine ix_lstS (zs := g.kinds) (rk.mono (by walk_at "S")) hm3.1 (by omega) fun kk hkk => ?_
  obtain ⟨xb, y0, af, lb, lc, y2, y3, y4, y5, rfl, b1, b2, b3, b4, b5, b6, b7⟩ := hb.ex
  walk_at "x"
  rename_i l H9 f9 s9 hl9 ra9
  refine .inr (.inl ⟨xb, _, 1, .ref af, rfl, rfl, (show Same H H9 by walk_at "S").tup b1, atI_pos (by decide) rfl, ?_⟩)
  show tVar 6 _ _ _
  walk_at "r"
  obtain ⟨w1, hw1, rw1⟩ := (val_forms ok b3 b4).1 hk0
  refine dget_at ((show Same H H9 by walk_at "S") _ _ b2) hw1 ?_
  have fok := forms_ok ok k0
  have fl : H l = none := by
    cases e : H l with
    | none => rfl
    | some o => exact absurd ((show Same H H8 by walk_at "S") _ _ e) (by rw [f9]; simp)
  have s09 : Same H H9 := by walk_at "S"
  refine for_L2b (K := K) (Hb := H) (fun i σ' H' => Same H H' ∧ (∃ ys ts, H' l = some (.lst ys) ∧ RA K H' ys (Th.ds ts) ∧ ts.length = i ∧ i ≤ (g.forms k0).length ∧ (∀ (j : Nat) t x, ts[j]? = some t → (g.forms k0)[j]? = some x → t.kd g (g.sig (some (ff, k0 :: ks, kk, ownJs x.2 k0))) [] (x.2 ++ ks) kk ∧ t.dep ≤ 4 ∧ t.sz ≤ 53)) ∧
      R K H' v7 (partsD (k0 :: ks)) ∧ ∃ (x8 x9 x10 x11 x12 : Option V), σ' = [some (.ref p), some (.ref xb), some (.str ff), some yk, some v7, some (.str kk), some (.str k0), some (.ref l), x8, x9, x10, x11, x12]) rw1 ?_ ?_ ?_ ?_ ?_
  · exact ⟨s09, ⟨[], [], hl9, ra9, rfl, Nat.zero_le _, fun j t x h => by simp at h⟩, r7'.mono (s8.trans s9), _, _, _, _, _, rfl⟩
  · exact fun _ _ _ p => p.1
  · exact fun d hd => by obtain ⟨x, _, rfl⟩ := List.mem_map.mp hd; exact ⟨_, _, rfl⟩
  · rintro i d1 d2 v1 v2 σ' H10 hd r1 r2 ⟨s10, ⟨ys, ts, hl10, ra10, htl, hil, hts⟩, r10, x8, x9, x10, x11, x12, rfl⟩
    rw [List.getElem?_map] at hd
    obtain ⟨⟨nm, ps⟩, hnp, e⟩ := Option.map_eq_some_iff.mp hd
    cases e
    obtain rfl := r1.inv_str
    have hnpm := List.mem_of_getElem? hnp
    obtain ⟨hp4, hpk⟩ := fok.ps _ hnpm
    have hp4' : ps.length ≤ 4 := hp4
    walk_at "r"
    refine lcETT (K := K) (inK k0) (fun j _ => .int (j : Int)) r2 (by rw [List.length_map]; omega) (fun _ _ => rfl) (fun j v3 d H11 hd rv s11 Qt hQ => ?_) (fun j v3 d H11 hd hpd rv s11 Qt hQ => ?_) (fun v11 H11 s11 r11 => ?_)
    · rw [List.getElem?_map] at hd
      obtain ⟨x, _, rfl⟩ := Option.map_eq_some_iff.mp hd
      obtain rfl := rv.inv_str
      walk_at "r"
      exact hQ _ (by walk_at "S")
    · walk_at "r"
      exact hQ _ _ (by walk_at "S") (R.int _)
    rw [ownJs_d] at r11
    have hol := ownJs_len ps k0
    have r2 : R K H10 v2 (partsD ps) := r2
    have hcd : (ps.map PyData.str).length + (cutD ((k0 :: ks).map PyData.str) (some 1) none).length ≤ 1000000 := by
      have := cutD_len ((k0 :: ks).map PyData.str) (some 1) none
      rw [List.length_map, List.length_cons] at this
      rw [List.length_map] at hl5' ⊢
      have hp4' : ps.length ≤ 4 := hp4
      omega
    walk_at "r"
    rename_i vo H12 s12 ro pl H13 f13 s13 hl13 ra13 vs1 H14 s14 r14 vs2 H15 s15 r15 vs3 H16 s16 r16
    have ro' : R K H12 vo (ownD (some (ff, k0 :: ks, kk, ownJs ps k0))) := ro
    have hl16 : H16 l = some (.lst ys) := s16 _ _ (s15 _ _ (s14 _ _ (s13 _ _ (s12 _ _ (s11 _ _ hl10)))))
    have s1016 : Same H10 H16 := ((((s11.trans s12).trans s13).trans s14).trans s15).trans s16
    have ri : R K H16 vs3 (.list ((ps ++ ks).map PyData.str)) := by
      have e : (ps.map PyData.str ++ cutD ((k0 :: ks).map PyData.str) (some 1) none) = (ps ++ ks).map PyData.str := by
        rw [cutD_1, List.map_append]; rfl
      rw [← e]; exact r16
    have pool : ∀ j ∈ ownJs ps k0, (ps ++ ks)[j]? = (k0 :: ks)[0]? := fun j hj => by
      have h := ownJs_mem hj
      rw [List.getElem?_append_left (List.getElem?_eq_some_iff.mp h).1, h]; rfl
    refine use_termK (xs := []) (o := some (ff, k0 :: ks, kk, ownJs ps k0)) (show H16 p = some (Stt p) from (s10.trans s1016) _ _ hp) (hb.mono (s10.trans s1016)) ok hkk (.lst (s16 _ _ (s15 _ _ (s14 _ _ hl13))) (((ra13.mono s14).mono s15).mono s16)) ri ((((ro'.mono s13).mono s14).mono s15).mono s16) ⟨fun f' ks' k' js' h => ?_⟩ (by decide) (by rw [List.length_append]; rw [List.length_map] at hl5'; omega) (fun _ h => by cases h) (by decide) (by decide) fun u t H17 s17 ru hkd hd2 hs2 => ?_
    · cases h
      refine ⟨hf, by simp, by simp only [List.length_cons]; rw [List.length_map] at hl5'; omega, fun x hx => ?_, hkk, by omega, pool⟩
      rcases List.mem_cons.mp hx with rfl | hx
      · exact hk0m
      · exact hks x hx
    walk_at "r"
    have hl17 := s17 _ _ hl16
    have ra17 := (ra10.mono s1016).mono s17
    refine appR (K := K) hl17 ra17 ru (by rw [Th.ds_map, List.length_map]; have := fok.len; omega) (Th.noLs _) (Th.noL _) fun ws H18 x18 hl18 ra18 => ?_
    walk_at "r"
    have s18 : Same H H18 := SameX.same ((s10.trans s1016).trans s17) x18 fl
    refine ⟨s18, ⟨ws, ts ++ [t], hl18, by rw [Th.ds_append]; exact ra18, by simp [htl], ?_, fun j t' x' h1 h2 => ?_⟩, (r10.mono (s1016.trans s17)).monoX x18 hl17 (by exact noLs_strs _), _, _, _, _, _, rfl⟩
    · have := (List.getElem?_eq_some_iff.mp hnp).1; omega
    · rw [List.getElem?_append] at h1
      split at h1
      · exact hts j t' x' h1 h2
      · have hj : j = ts.length := by
          have := (List.getElem?_eq_some_iff.mp h1).1
          simp at this; omega
        rw [hj, Nat.sub_self] at h1
        cases h1
        rw [hj, htl, hnp] at h2
        cases h2
        exact ⟨hkd, hd2, hs2⟩
  · rintro σ' H10 ⟨s10, ⟨ys, ts, hl10, ra10, htl, hil, hts⟩, r10, x8, x9, x10, x11, x12, rfl⟩
    have rl : R K H10 (.ref l) (.list (Th.ds ts)) := .lst hl10 ra10
    walk_at "r"
    rename_i v11 H11 s11 r11 v12 H12 s12 r12
    exact q _ _ _ _ (by walk_at "S") r12 (.rule k0 ks kk ts hk0 (by rw [List.length_map] at hl5'; exact hl5') hks hkk (by rw [htl, List.length_map]) hts)

end
end G

end

section
/-! the words of the walk: S (a heap keeps), R (a value stands for data), A (a row of them), no (a way that cannot be), s (one step), r (all steps) -/
local macro_rules | `(tactic| walk_at "S") => `(tactic| first | exact L2.Same.refl _ | assumption | exact G.sm_tr (by assumption) (by walk_at "S"))
local macro_rules | `(tactic| walk_at "R") => `(tactic| first
  | with_reducible exact G.R.int _ | with_reducible exact G.R.str _ | with_reducible exact G.R.bl _ | with_reducible exact G.R.non
  | with_reducible assumption
  | exact G.r_mono (by with_reducible assumption) (by walk_at "S")
  | ((with_reducible refine' G.R.lst L2.upd_same ?rl); (case rl => walk_at "A")))
local macro_rules | `(tactic| walk_at "A") => `(tactic| first | with_reducible exact G.RA.nil | ((with_reducible refine' G.RA.cons ?ra ?rb); (case ra => walk_at "R"); (case rb => walk_at "A")))
local macro_rules | `(tactic| walk_at "no") => `(tactic| first | contradiction | omega)
local macro_rules | `(tactic| walk_at "side") => `(tactic| first | with_reducible rfl | with_reducible assumption | omega | exact Int.lt_of_lt_of_le (by with_reducible assumption) (by decide +kernel) | ((with_reducible refine G.le_up ?_); decide +kernel) | (simp only [List.length_cons, List.length_nil, List.getElem?_cons_zero, List.getElem?_cons_succ, List.length_map]; done) | (simp only [List.length_cons, List.length_nil, List.length_map, List.length_append] at *; omega))
local macro_rules | `(tactic| walk_at "sideC") => `(tactic| first | with_reducible assumption | (with_reducible refine G.cmul_r ⟨?_, ?_⟩ <;> decide) | (with_reducible refine G.cdiv_r ⟨?_, ?_⟩ <;> decide) | (with_reducible refine G.cmul_l ⟨?_, ?_⟩ <;> decide) | (with_reducible refine G.cpow_c ⟨?_, ?_, ?_⟩ <;> decide) | (with_reducible refine G.cmul_r ⟨?_, ?_⟩ <;> omega) | (with_reducible refine G.cdiv_r ⟨?_, ?_⟩ <;> omega) | omega)
local macro_rules | `(tactic| walk_at "got") => `(tactic| (intro v0 r0; first
  | (have e0 := G.R.inv_str r0; subst e0) | (have e0 := G.R.inv_int r0; subst e0) | (have e0 := G.R.inv_bl r0; subst e0) | (have e0 := G.R.inv_non r0; subst e0) | skip))
local macro_rules | `(tactic| walk_at "P") => `(tactic| first | with_reducible assumption | exact G.keep_at (by with_reducible assumption) (by walk_at "S"))
local macro_rules | `(tactic| walk_at "c") => `(tactic| fail)
local macro_rules | `(tactic| walk_at "Q") => `(tactic| first | with_reducible assumption | exact G.seq_keep (by with_reducible assumption) (by walk_at "S"))
local macro_rules | `(tactic| walk_at "c") => `(tactic| ((with_reducible refine' G.use_state ?hp ?h0 ?h1 ?_); (case hp => walk_at "Q"); (case h0 => walk_at "side"); (case h1 => walk_at "side"); intro p0 H0 s0 hp0))
local macro_rules | `(tactic| walk_at "c") => `(tactic| ((with_reducible refine' G.use_draw ?hp ?h0 ?h1 ?_); (case hp => walk_at "P"); (case h0 => walk_at "side"); (case h1 => walk_at "side"); intro r0 hr0 hr1))
local macro_rules | `(tactic| walk_at "s") => `(tactic| first
  | with_reducible refine G.st_seq ?_
  | ((with_reducible refine' G.st_var ?hv ?_); (case hv => exact rfl))
  | with_reducible refine G.st_c ?_
  | with_reducible refine G.st_op ?_
  | with_reducible refine G.st_bl ?_
  | with_reducible refine L2.iteT ?_
  | with_reducible refine L2.iteF ?_
  | with_reducible refine G.ite_nt ?_
  | with_reducible refine G.ite_nf ?_
  | ((with_reducible refine G.st_ite ?_ ?_) <;> (intro hb; (try simp only [decide_eq_true_eq, decide_eq_false_iff_not, Bool.not_eq_true', Bool.not_eq_false', beq_iff_eq, Bool.and_eq_true, Bool.or_eq_true, Bool.and_eq_false_iff, Bool.or_eq_false_iff, beq_eq_false_iff_ne, ne_eq, Int.not_lt, Int.not_le, Nat.not_lt, Nat.not_le] at hb); first | (exfalso; walk_at "no"; done) | skip))
  | with_reducible refine G.st_if ?_
  | with_reducible refine G.st_ret ?_
  | with_reducible refine G.st_set ?_
  | with_reducible refine G.st_call ?_
  | with_reducible refine G.st_cons ?_
  | with_reducible refine G.st_nil ?_
  | with_reducible refine G.st_CB ?_
  | with_reducible refine G.st_tTest ?_
  | with_reducible refine G.st_tB ?_
  | with_reducible refine G.st_or ?_
  | with_reducible refine G.st_and ?_
  | with_reducible refine G.st_not ?_
  | with_reducible refine G.st_orV ?_
  | with_reducible refine G.st_andV ?_
  | with_reducible refine G.st_notV ?_
  | with_reducible refine G.st_tIf ?_
  | with_reducible refine G.st_chain ?_
  | with_reducible refine G.st_un ?_
  | with_reducible refine G.st_then ?_
  | with_reducible refine G.st_slice ?_
  | with_reducible refine G.st_noPart ?_
  | with_reducible refine G.st_part ?_
  | with_reducible refine G.st_exInt ?_
  | with_reducible refine G.st_drop ?_
  | with_reducible refine G.st_next ?_
  | with_reducible refine G.st_retN ?_
  | with_reducible refine G.add_int ?_
  | with_reducible refine G.i0 ?_
  | ((with_reducible refine G.imod2 (by decide) ?_ ?_) <;> (intro hm; first | (exfalso; walk_at "no"; done) | skip))
  | ((with_reducible refine G.imod3 (by decide) ?_ ?_ ?_) <;> (intro hm; first | (exfalso; walk_at "no"; done) | skip))
  | ((with_reducible refine' G.iC ?hc ?_); (case hc => walk_at "sideC"))
  | ((with_reducible refine' G.eq_str1 ?e ?_); (case e => with_reducible rfl))
  | ((with_reducible refine' G.eq_str0 ?e ?_); (case e => decide +kernel))
  | with_reducible refine G.eq_str ?_
  | with_reducible refine G.eq_int ?_
  | with_reducible refine G.eq_bl ?_
  | with_reducible refine G.ne_str ?_
  | with_reducible refine G.ne_int ?_
  | ((with_reducible refine' G.is_none ?r ?_); (case r => walk_at "R"))
  | ((with_reducible refine' G.isnt_none ?r ?_); (case r => walk_at "R"))
  | with_reducible refine G.is_bl ?_
  | with_reducible refine G.isnt_bl ?_
  | with_reducible refine G.in_sign ?_
  | with_reducible refine G.nin_sign ?_
  | ((with_reducible refine' G.in_strsT1 ?r ?c ?e ?_); (case r => walk_at "R"); (case c => rfl); (case e => decide +kernel))
  | ((with_reducible refine' G.in_strsT0 ?r ?c ?e ?_); (case r => walk_at "R"); (case c => rfl); (case e => decide +kernel))
  | ((with_reducible refine' G.in_strsT ?r ?c ?_); (case r => walk_at "R"); (case c => rfl))
  | ((with_reducible refine' G.nin_strsT ?r ?c ?_); (case r => walk_at "R"); (case c => rfl))
  | ((with_reducible refine' G.in_intsT ?r ?c ?_); (case r => walk_at "R"); (case c => rfl))
  | ((with_reducible refine' G.nin_intsT ?r ?c ?_); (case r => walk_at "R"); (case c => rfl))
  | ((with_reducible refine' G.add_str ?l ?_); (case l => walk_at "side"))
  | ((with_reducible refine' G.add_tup ?r ?s ?l ?_); (case r => walk_at "R"); (case s => walk_at "R"); (case l => walk_at "side"); intro v0 H0 s0 r0)
  | ((with_reducible refine' G.add_lst ?r ?s ?l ?_); (case r => walk_at "R"); (case s => walk_at "R"); (case l => walk_at "side"); intro v0 H0 s0 r0)
  | ((with_reducible refine' G.isi_1 ?r ?e ?t ?_); (case r => walk_at "R"); (case e => rfl); (case t => simp only [List.mem_cons, true_or, or_true]))
  | ((with_reducible refine' G.isi_0 ?r ?e ?t ?_); (case r => walk_at "R"); (case e => rfl); (case t => simp only [List.mem_cons, true_or, or_true]))
  | ((with_reducible refine' G.isi_R ?r ?t ?_); (case r => walk_at "R"); (case t => simp only [List.mem_cons, true_or, or_true]))
  | ((with_reducible refine' G.len_str ?l ?_); (case l => walk_at "side"))
  | ((with_reducible refine' G.len_tup ?r ?_); (case r => walk_at "R"))
  | ((with_reducible refine' G.len_lst ?r ?_); (case r => walk_at "R"))
  | (with_reducible refine G.st_tup ?_)
  | (with_reducible refine G.st_lst ?_)
  | ((with_reducible refine' G.st_newT ?r ?l ?_); (case r => walk_at "A"); (case l => first | exact Nat.le_of_ble_eq_true rfl | walk_at "side"); intro v0 H0 s0 r0)
  | ((with_reducible refine' G.st_newL ?r ?l ?_); (case r => walk_at "A"); (case l => first | exact Nat.le_of_ble_eq_true rfl | walk_at "side"); intro v0 H0 s0 r0)
  | ((with_reducible refine' G.ix_tupR ?r ?h0 ?hd ?_); (case r => walk_at "R"); (case h0 => walk_at "side"); (case hd => first | rfl | assumption); walk_at "got")
  | ((with_reducible refine' G.ix_lstR ?r ?h0 ?hd ?_); (case r => walk_at "R"); (case h0 => walk_at "side"); (case hd => first | rfl | assumption); walk_at "got")
  | ((with_reducible refine' G.ix_strR ?l ?h0 ?hd ?_); (case l => walk_at "side"); (case h0 => walk_at "side"); (case hd => first | rfl | assumption))
  | ((with_reducible refine' G.ix_strM ?l ?h0 ?h1 ?_); (case l => walk_at "side"); (case h0 => walk_at "side"); (case h1 => walk_at "side"); intro c0 hc0)
  | ((with_reducible refine' G.ix_tupN ?r ?h0 ?h1 ?_); (case r => walk_at "R"); (case h0 => walk_at "side"); (case h1 => walk_at "side"); intro v0 d0 hd0 r0)
  | ((with_reducible refine' G.ix_lstS ?r ?h0 ?h1 ?_); (case r => walk_at "R"); (case h0 => walk_at "side"); (case h1 => walk_at "side"); intro z0 hz0)
  | ((with_reducible refine' G.ix_lstN ?r ?h0 ?h1 ?_); (case r => walk_at "R"); (case h0 => walk_at "side"); (case h1 => walk_at "side"); intro v0 d0 hd0 r0)
  | ((with_reducible refine' G.sl_strR ?l ?_); (case l => walk_at "side"))
  | ((with_reducible refine' G.sl_tupR ?r ?_); (case r => walk_at "R"); intro v0 H0 s0 r0)
  | ((with_reducible refine' G.sl_lstR ?r ?_); (case r => walk_at "R"); intro v0 H0 s0 r0)
  | ((with_reducible refine' G.tupOf_L ?r ?_); (case r => walk_at "R"); intro v0 H0 s0 r0)
  | ((with_reducible refine' G.tupOf_T ?r ?_); (case r => walk_at "R"))
  | ((with_reducible refine' G.lstOf_T ?r ?_); (case r => walk_at "R"); intro v0 H0 s0 r0)
  | ((with_reducible refine' G.lstOf_L ?r ?_); (case r => walk_at "R"); intro v0 H0 s0 r0)
  | with_reducible refine G.st_lcL ?_
  | with_reducible refine G.st_lcT ?_
  | with_reducible refine G.st_lcS ?_
  | with_reducible refine G.st_lcR ?_
  | with_reducible refine G.st_M0 ?_
  | with_reducible refine G.st_M1 ?_
  | (with_reducible refine G.upper_one ?_; intro hu0)
  | ((with_reducible refine' G.upper_R ?l ?_); (case l => walk_at "side"))
  | (with_reducible refine G.st_strAnd ?_)
  | (with_reducible refine G.st_sub ?_)
  | ((with_reducible refine' G.set_20 ?hp ?_); (case hp => first | exact L2.upd_same | walk_at "P"))
  | ((with_reducible refine' G.set_21 ?hp ?_); (case hp => first | exact L2.upd_same | walk_at "P"))
  | ((with_reducible refine' G.set_at ?hp ?hi ?_); (case hp => first | exact L2.upd_same | walk_at "P"); (case hi => rfl))
  | with_reducible refine G.st_lst2 ?_
  | with_reducible refine G.st_shut ?_
  | with_reducible refine G.st_forR ?_
  | ((with_reducible refine' G.len_scr ?s ?_); (case s => walk_at "Q"))
  | ((with_reducible refine' G.ix_scr ?s ?h0 ?h1 ?_); (case s => walk_at "Q"); (case h0 => walk_at "side"); (case h1 => walk_at "side"); intro n0)
  | ((with_reducible refine' G.sl_scr ?s ?_); (case s => walk_at "Q"); intro v0 H0 s0 r0)
  | (with_reducible refine' G.st_disp1 ?_; intro v0 H0 s0 r0)
  | walk_at "c"
  | fail "no step")
local macro_rules | `(tactic| walk_at "r") => `(tactic| repeat' (walk_at "s"))

local macro_rules | `(tactic| walk_at "side") => `(tactic| first | exact G.nm_a (by with_reducible assumption) | exact G.fm_a (by with_reducible assumption) | exact G.nm_b (by with_reducible assumption) | exact G.nm_c (by with_reducible assumption) | fail)
local macro_rules | `(tactic| walk_at "c") => `(tactic| ((with_reducible refine' G.use_name ?hp ?_); (case hp => walk_at "P"); intro z0 H0 s0 hz0))
local macro_rules | `(tactic| walk_at "c") => `(tactic| ((with_reducible refine' G.use_form ?hp ?_); (case hp => walk_at "P"); intro z0 H0 s0 hz0))
local macro_rules | `(tactic| walk_at "c") => `(tactic| ((with_reducible refine' G.use_pool ?hp ?_); (case hp => walk_at "P"); intro v0 fs0 gs0 ns0 H0 s0 ok0 r0))
local macro_rules | `(tactic| walk_at "c") => `(tactic| ((with_reducible refine' G.use_leaf ?hp ?r ?ok ?h0 ?h1 ?_); (case hp => walk_at "P"); (case r => walk_at "R"); (case ok => with_reducible assumption); (case h0 => walk_at "side"); (case h1 => walk_at "side"); intro v0 t0 H0 s0 r0 ht0 hd0 hs0))
local macro_rules | `(tactic| walk_at "c") => `(tactic| ((with_reducible refine' G.use_term ?hp ?r ?ok ?h0 ?h1 ?e0 ?e1 ?_); (case hp => walk_at "P"); (case r => walk_at "R"); (case ok => with_reducible assumption); (case h0 => walk_at "side"); (case h1 => walk_at "side"); (case e0 => walk_at "side"); (case e1 => walk_at "side"); intro v0 t0 H0 s0 r0 ht0 hd0 hs0))
local macro_rules | `(tactic| walk_at "c") => `(tactic| ((with_reducible refine' G.use_tall ?hp ?r ?ok ?rt ?ht ?h0 ?h1 ?_); (case hp => walk_at "P"); (case r => walk_at "R"); (case ok => with_reducible assumption); (case rt => walk_at "R"); (case ht => with_reducible assumption); (case h0 => walk_at "side"); (case h1 => walk_at "side"); intro v0 t0 H0 s0 r0 ht0 hd0 hs0))
local macro_rules | `(tactic| walk_at "c") => `(tactic| ((with_reducible refine' G.use_anyT ?hp ?r ?ok ?h0 ?h1 ?_); (case hp => walk_at "P"); (case r => walk_at "R"); (case ok => with_reducible assumption); (case h0 => walk_at "side"); (case h1 => walk_at "side"); intro v0 t0 H0 s0 r0 ht0 hd0 hs0))

local macro_rules | `(tactic| walk_at "w") => `(tactic| first
  | with_reducible refine G.st_BM0 ?_
  | with_reducible refine G.st_BM ?_
  | ((with_reducible refine' G.st_tyl ?hl ?_); (case hl => walk_at "P"))
  | ((with_reducible refine' G.popR ?hl ?ra ?hn ?_); (case hl => walk_at "P"); (case ra => with_reducible assumption); (case hn => with_reducible assumption); intro v0 ws0 H0 x0 hl0 ra0 r0)
  | ((with_reducible refine' G.extR ?hl ?ra ?r ?hz ?hn ?hn' ?_); (case hl => walk_at "P"); (case ra => first | with_reducible assumption | exact G.ra_mono (by with_reducible assumption) (by walk_at "S")); (case r => walk_at "R"); (case hz => walk_at "side"); (case hn => walk_at "nol"); (case hn' => walk_at "nol"); intro ws0 H0 x0 hl0 ra0)
  | ((with_reducible refine' G.gtup2 ?r ?_); (case r => walk_at "R"); intro v1 v2 r1 r2)
  | with_reducible refine G.st_asgT ?_
  | with_reducible refine G.int_bl ?_
  | with_reducible refine G.max_2 ?_
  | ((with_reducible refine' G.st_aug ?hx ?_); (case hx => rfl))
  | with_reducible refine G.ipI_int ?_
  | with_reducible refine G.whB ?_
  | with_reducible refine G.st_lstF ?_
  | ((with_reducible refine' G.st_newLF ?r ?l ?_); (case r => walk_at "A"); (case l => first | exact Nat.le_of_ble_eq_true rfl | walk_at "side"); intro p0 H0 f0 s0 hl0 ra0)
  | fail "no step")
local macro_rules | `(tactic| walk_at "nol") => `(tactic| first | with_reducible assumption | rfl | exact G.Th.noL _ | exact G.Th.noLs _)
local macro_rules | `(tactic| walk_at "c") => `(tactic| walk_at "w")

local macro_rules | `(tactic| walk_at "c") => `(tactic| first
  | with_reducible refine G.neg_i ?_
  | with_reducible refine G.st_BMs ?_
  | with_reducible refine G.st_tys ?_
  | with_reducible refine G.st_gcons ?_
  | with_reducible refine G.st_gnil ?_
  | with_reducible refine G.st_gname ?_
  | with_reducible refine G.st_gsub ?_
  | ((with_reducible refine' G.iC ?hc ?_); (case hc => show (0 : Int) < _; decide +kernel))
  | ((with_reducible refine' G.ix_scrLast ?hs ?h1 ?_); (case hs => walk_at "Q"); (case h1 => walk_at "side"); intro n0)
  | ((with_reducible refine' G.divmodR ?h0 ?h1 ?_); (case h0 => walk_at "side"); (case h1 => walk_at "side"); intro p0 H0 f0 e0)
  | (with_reducible refine G.absR ?_; intro j0)
  | fail "no step")

local macro_rules | `(tactic| walk_at "B") => `(tactic| first | with_reducible assumption | exact G.bk_keep (by with_reducible assumption) (by walk_at "S"))
local macro_rules | `(tactic| walk_at "c") => `(tactic| first
  | ((with_reducible refine' G.use_nextU ?hp ?h0 ?h1 ?_); (case hp => walk_at "P"); (case h0 => walk_at "side"); (case h1 => walk_at "side"); intro r0 H0 s0 hr0 hr1)
  | ((with_reducible refine' G.ix_b1 ?h ?_); (case h => walk_at "B"); intro af0 lb0 lc0 hf0 rb0 rc0)
  | ((with_reducible refine' G.ix_b2 ?h ?_); (case h => walk_at "B"); intro v0 r0)
  | ((with_reducible refine' G.ix_b3 ?h ?_); (case h => walk_at "B"); intro v0 r0)
  | ((with_reducible refine' G.ix_b5 ?h ?_); (case h => walk_at "B"); intro v0 r0)
  | with_reducible refine G.st_dget ?_
  | with_reducible refine G.st_dget2 ?_
  | with_reducible refine G.st_lcLT ?_
  | with_reducible refine G.st_lcET ?_
  | with_reducible refine G.st_lcETT ?_
  | with_reducible refine G.st_forL ?_
  | with_reducible refine G.st_forE ?_
  | with_reducible refine G.st_forT ?_
  | fail "no step")
local macro_rules | `(tactic| walk_at "u") => `(tactic| repeat' ((fail_if_success (with_reducible refine G.st_if ?_)); walk_at "s"))
local macro_rules | `(tactic| walk_at "c") => `(tactic| (with_reducible refine G.minR ?_; intro m0 hm0 hm1 hm2))

namespace G
open PySem PySem.Spec PyProof.Rows L2
section
variable {P : Program} {w : World} {K : PySem.W.Frag} {mg : Str → Option Value} {base : Heap} {k n : Nat}
local macro_rules | `(tactic| walk_at "z") => `(tactic| repeat' ((fail_if_success (with_reducible refine' G.sl_lstR ?_ ?_)); walk_at "s"))
local macro_rules | `(tactic| walk_at "y") => `(tactic| repeat' ((fail_if_success (with_reducible refine G.int_bl2 ?_ ?_)); walk_at "s"))
theorem ok_l_book (T : Tp K mg) (c_l_next : Cal P w K mg base k "_law_next" spNext) (c_l_great : Cal P w K mg base k "_law_great" spGreat) (c_l_function : Cal P w K mg base k "_law_function" (spFun K)) : Cal P w K mg base (k + 1) "_law_book" (spBook K) := by
  refine T.d_l_book.cal sc_l_book (fun vs H Q E h => ?_) (fun f cdv A outer s H vs Q E hr h => ?_)
  · obtain ⟨p, v, zs, rfl, _⟩ := h; rfl
  obtain ⟨p, v, zs, rfl, hp, rz, n42, q⟩ := h
  have sc := @sc_l_book
  refine ⟨_, (pss_cons (ps_asg (pe_slice (sl_K K) (pv 1) po_none (po_some pe_int)) (gtLK K (pg_lst (n := 3) rfl (pgs_cons (pg_name (i := 2) sc.nd rfl (Or.inl rfl)) (pgs_cons (pg_name (i := 3) sc.nd rfl (Or.inl rfl)) (pgs_cons (pg_name (i := 4) sc.nd rfl (Or.inl rfl)) pgs_nil))))))
      (pss_cons (ps_setLc (i := 5) (own := [("_law_name", 14)]) (g := gName 14) (tt := tYes) rfl sc.nd rfl rfl (sw_true rfl rfl rfl (by decide +kernel)) (pi_listK K (pe_slice (sl_K K) (pv 1) (po_some pe_int) (po_some pe_int))) (blkOk_by (N := n_l_book) (sc := defScope s_l_book) (by decide +kernel)) (fun _ _ _ _ _ => pg_name (i := 14) sc.nd rfl (Or.inl rfl)) (fun _ _ _ _ _ => pts_nil) (fun _ _ _ _ _ => pe_hide (pe_c c_l_great hr (Nat.le_refl _) rfl (pa_cons (pv 14) pa_nil))))
      (pss_cons (ps_set (i := 6) sc.nd rfl (Or.inl rfl) (pe_dispK K (pps_cons (pv 3) (pe_lstF K (pa_cons (pe_tupK K (pa_cons (pe_ix (ix_K K) (pv 5) pe_int (fun _ _ => rfl)) (pa_cons (pe_tupK K pa_nil) pa_nil))) (pa_cons (pe_tupK K (pa_cons (pe_ix (ix_K K) (pv 5) pe_int (fun _ _ => rfl)) (pa_cons (pe_tupK K (pa_cons (pv 3) pa_nil)) pa_nil))) pa_nil))) (pps_cons (pv 4) (pe_lstF K (pa_cons (pe_tupK K (pa_cons (pe_ix (ix_K K) (pv 5) pe_int (fun _ _ => rfl)) (pa_cons (pe_tupK K pa_nil) pa_nil))) (pa_cons (pe_tupK K (pa_cons (pe_ix (ix_K K) (pv 5) pe_int (fun _ _ => rfl)) (pa_cons (pe_tupK K (pa_cons (pv 3) (pa_cons (pv 4) pa_nil))) pa_nil))) pa_nil))) pps_nil)) rfl rfl (by simp) (by decide)))
      (pss_cons (ps_if (pt_cmpR (op_eqK K hr) (pe_c c_l_next hr (Nat.le_refl _) rfl (pa_cons (pv 0) (pa_cons pe_int pa_nil))) pe_int (nomark _)) (pss_one (ps_expr (bmK K (pe_bm PySem.F.plainAttrs_list PySem.F.slot_list_append PySem.F.type_list_append mt_append (pe_dgetH hr (pv 6) (pv 3) (fun _ _ => rfl)) (pa_cons (pe_tupK K (pa_cons (pe_ix (ix_K K) (pv 5) pe_int (fun _ _ => rfl)) (pa_cons (pe_tupK K (pa_cons (pv 3) (pa_cons (pv 3) pa_nil))) pa_nil))) pa_nil))))) pss_nil)
      (pss_cons (ps_if (pt_cmpR (op_eqK K hr) (pe_c c_l_next hr (Nat.le_refl _) rfl (pa_cons (pv 0) (pa_cons pe_int pa_nil))) pe_int (nomark _)) (pss_one (ps_expr (bmK K (pe_bm PySem.F.plainAttrs_list PySem.F.slot_list_insert PySem.F.type_list_insert mt_insertR (pe_dgetH hr (pv 6) (pv 4) (fun _ _ => rfl)) (pa_cons (pe_op (op_addK K) pe_int (pe_c c_l_next hr (Nat.le_refl _) rfl (pa_cons (pv 0) (pa_cons pe_int pa_nil)))) (pa_cons (pe_tupK K (pa_cons (pe_ix (ix_K K) (pv 5) pe_int (fun _ _ => rfl)) (pa_cons (pe_tupK K (pa_cons (pv 4) (pa_cons (pv 2) (pa_cons (pv 3) (pa_cons (pv 4) pa_nil))))) pa_nil))) pa_nil)))))) pss_nil)
      (pss_cons (ps_if (pt_cmpR (op_eqK K hr) (pe_c c_l_next hr (Nat.le_refl _) rfl (pa_cons (pv 0) (pa_cons pe_int pa_nil))) pe_int (nomark _)) (pss_one (ps_asg (pe_tupK K (pa_cons (pe_ix (ix_K K) (pv 5) pe_int (fun _ _ => rfl)) (pa_cons (pe_tupK K (pa_cons (pv 2) (pa_cons (pv 3) pa_nil))) pa_nil))) (pg_sub (pe_dgetH hr (pv 6) (pv 4) (fun _ _ => rfl)) pe_int set_list))) pss_nil)
      (pss_cons (ps_set (i := 7) sc.nd rfl (Or.inl rfl) (pe_lstF K (pa_cons (pe_tupK K (pa_cons (pe_ix (ix_K K) (pv 1) pe_int (fun _ _ => rfl)) (pa_cons (pe_tupK K pa_nil) (pa_cons (pv 2) pa_nil)))) (pa_cons (pe_tupK K (pa_cons (pe_ix (ix_K K) (pv 1) pe_int (fun _ _ => rfl)) (pa_cons (pe_tupK K (pa_cons (pv 2) (pa_cons (pv 3) pa_nil))) (pa_cons (pv 2) pa_nil)))) (pa_cons (pe_tupK K (pa_cons (pe_ix (ix_K K) (pv 1) pe_int (fun _ _ => rfl)) (pa_cons (pe_tupK K (pa_cons (pv 3) pa_nil)) (pa_cons (pv 3) pa_nil)))) pa_nil)))))
      (pss_cons (ps_set (i := 8) sc.nd rfl (Or.inl rfl) (pe_lstK K (pa_cons (pe_tupK K (pa_cons pe_str (pa_cons (pv 2) pa_nil))) (pa_cons (pe_tupK K (pa_cons pe_str (pa_cons (pv 3) (pa_cons (tupleOf_K K rfl T.n_tuple (pe_dgetH hr (pv 6) (pv 3) (fun _ _ => rfl))) pa_nil)))) (pa_cons (pe_tupK K (pa_cons pe_str (pa_cons (pv 4) (pa_cons (tupleOf_K K rfl T.n_tuple (pe_dgetH hr (pv 6) (pv 4) (fun _ _ => rfl))) pa_nil)))) pa_nil)))))
      (pss_cons (ps_set (i := 8) sc.nd rfl (Or.inl rfl) (pe_op (op_addK K) (pv 8) (pe_lc (own := [("_law_f", 11), ("_law_parts", 15), ("_law_kind", 16)]) (g := gN K [11, 15, 16]) (tt := tYes) rfl sc.nd (pi_listK K (pv 7)) (blkOk_by (N := n_l_book) (sc := defScope s_l_book) (by decide +kernel)) (fun _ _ _ _ _ => gtK K (pg_tup (n := 3) rfl (pgs_cons (pg_name (i := 11) sc.nd rfl (Or.inl rfl)) (pgs_cons (pg_name (i := 15) sc.nd rfl (Or.inl rfl)) (pgs_cons (pg_name (i := 16) sc.nd rfl (Or.inl rfl)) pgs_nil))))) (fun _ _ _ _ _ => pts_nil) (fun _ _ _ _ _ => pe_hide (pe_tupK K (pa_cons pe_str (pa_cons (pv 11) (pa_cons (pv 15) (pa_cons (pv 16) pa_nil)))))))))
      (pss_cons (ps_set (i := 9) sc.nd rfl (Or.inr rfl) (pe_tupK K (pa_cons (pv 8) (pa_cons (pv 6) (pa_cons (pv 7) (pa_cons (pe_lstF K (pa_cons (pv 2) (pa_cons (pv 3) (pa_cons (pv 4) pa_nil)))) (pa_cons pe_dnewK (pa_cons (pe_lstF K pa_nil) pa_nil))))))))
      (pss_cons (ps_set (i := 10) sc.nd rfl (Or.inl rfl) (pe_callTy call_int1R rfl T.n_int bt_int (pa_cons (pe_cmpR (op_eqK K hr) (pe_c c_l_next hr (Nat.le_refl _) rfl (pa_cons (pv 0) (pa_cons pe_int pa_nil))) pe_int (nomark _)) pa_nil)))
      (pss_cons (ps_for PassesOwn.never rfl (pi_listK K (pe_slice (sl_K K) (pe_op (op_addK K) (pe_slice (sl_K K) (pv 1) (po_some pe_int) (po_some pe_int)) (pe_slice (sl_K K) (pv 1) (po_some pe_int) (po_some pe_int))) po_none (po_some (pe_op (op_addK K) (pe_op (op_addK K) pe_int (pe_op op_mul pe_int (pv 10))) (pe_c c_l_next hr (Nat.le_refl _) rfl (pa_cons (pv 0) (pa_cons (pe_op op_sub pe_int (pv 10)) pa_nil))))))) (pg_name (i := 11) sc.nd rfl (Or.inl rfl)) (pss_cons (ps_set (i := 12) sc.nd rfl (Or.inl rfl) (pe_c c_l_function hr (Nat.le_refl _) rfl (pa_cons (pv 0) (pa_cons (pv 9) (pa_cons (pv 11) pa_nil)))))
      (pss_cons (ps_expr (bmK K (pe_bm PySem.F.plainAttrs_list PySem.F.slot_list_append PySem.F.type_list_append mt_append (pv 8) (pa_cons (pv 12) pa_nil))))
      (pss_one (ps_expr (bmK K (pe_bm PySem.F.plainAttrs_list PySem.F.slot_list_append PySem.F.type_list_append mt_append (pv 7) (pa_cons (pe_tupK K (pa_cons (pe_ix (ix_K K) (pv 12) pe_int (fun _ _ => rfl)) (pa_cons (pe_ix (ix_K K) (pv 12) pe_int (fun _ _ => rfl)) (pa_cons (pe_ix (ix_K K) (pv 12) pe_int (fun _ _ => rfl)) pa_nil)))) pa_nil))))))))
      (pss_cons (ps_for PassesOwn.never rfl (pi_listK K (pe_slice (sl_K K) (pv 8) (po_some pe_int) po_none)) (pg_name (i := 12) sc.nd rfl (Or.inl rfl)) (pss_one (ps_asg (pv 12) (pg_sub (pe_ix (ix_K K) (pv 9) pe_int (fun _ _ => rfl)) (pe_ix (ix_K K) (pv 12) pe_int (fun _ _ => rfl)) (set_dictK hr)))))
      (pss_cons (ps_for PassesOwn.never rfl (pi_listK K (pe_slice (sl_K K) (pe_op (op_addK K) (pe_slice (sl_K K) (pv 1) (po_some pe_int) (po_some pe_int)) (pe_slice (sl_K K) (pv 1) (po_some pe_int) (po_some pe_int))) po_none (po_some (pe_op (op_addK K) pe_int (pe_op op_mul pe_int (pv 10)))))) (pg_name (i := 13) sc.nd rfl (Or.inl rfl)) (pss_cons (ps_expr (bmK K (pe_bm PySem.F.plainAttrs_list PySem.F.slot_list_append PySem.F.type_list_append mt_append (pe_ix (ix_K K) (pv 9) pe_int (fun _ _ => rfl)) (pa_cons (pe_tupK K (pa_cons (pv 13) (pa_cons (tupleOf_K K rfl T.n_tuple (pe_lc (own := [("_law_j", 17)]) (g := gName 17) (tt := tYes) rfl sc.nd (pi_range1 rfl T.n_range (pa_cons (pe_c c_l_next hr (Nat.le_refl _) rfl (pa_cons (pv 0) (pa_cons pe_int pa_nil))) pa_nil)) (blkOk_by (N := n_l_book) (sc := defScope s_l_book) (by decide +kernel)) (fun _ _ _ _ _ => pg_name (i := 17) sc.nd rfl (Or.inl rfl)) (fun _ _ _ _ _ => pts_nil) (fun _ _ _ _ _ => pe_hide (pe_ix (ix_K K) (pe_ix (ix_K K) (pv 9) pe_int (fun _ _ => rfl)) (pe_c c_l_next hr (Nat.le_refl _) rfl (pa_cons (pv 0) (pa_cons pe_int pa_nil))) (fun _ _ => rfl))))) pa_nil))) pa_nil))))
      (pss_one (ps_expr (bmK K (pe_bm PySem.F.plainAttrs_list PySem.F.slot_list_append PySem.F.type_list_append mt_append (pv 8) (pa_cons (pe_op (op_addK K) (pe_tupK K (pa_cons pe_str pa_nil)) (pe_ix (ix_K K) (pe_ix (ix_K K) (pv 9) pe_int (fun _ _ => rfl)) (pe_un un_neg pe_int) (fun _ _ => rfl))) pa_nil)))))))
      (pss_one (ps_ret (pv 9))))))))))))))))), ?_⟩
  have hz : ∀ i : Nat, i < 42 → (zs.map PyData.str)[i]? = some (.str (zs.getD i "")) := fun i hi => by rw [List.getElem?_map, n42_at n42 hi]; rfl
  have zl : (zs.map PyData.str).length = 42 := by rw [List.length_map, n42.len]
  walk_at "r"
  rename_i v0 H1 s1 r1
  rw [show (3 : Int) = ((3 : Nat) : Int) from rfl, cutD_to, take3 (hz 0 (by decide)) (hz 1 (by decide)) (hz 2 (by decide))] at r1
  refine glst3 r1 fun u1 u2 u3 q1 q2 q3 => ?_
  obtain rfl := q1.inv_str
  obtain rfl := q2.inv_str
  obtain rfl := q3.inv_str
  have na := n42_nm n42 (i := 0) (by decide)
  have nb := n42_nm n42 (i := 1) (by decide)
  have nc := n42_nm n42 (i := 2) (by decide)
  have ab := n42_ne n42 (i := 0) (j := 1) (by decide) (by decide) (by decide)
  have ac := n42_ne n42 (i := 0) (j := 2) (by decide) (by decide) (by decide)
  have bc := n42_ne n42 (i := 1) (j := 2) (by decide) (by decide) (by decide)
  generalize zs.getD 0 "" = a at *
  generalize zs.getD 1 "" = b at *
  generalize zs.getD 2 "" = c at *
  walk_at "r"
  rename_i v4 H4 s4 r4
  rw [show (3 : Int) = ((3 : Nat) : Int) from rfl, show (10 : Int) = ((10 : Nat) : Int) from rfl, cutD_mid _ 3 10 (by rw [zl]; decide) (by decide), ← List.map_drop, ← List.map_take] at r4
  have gm : ∀ z ∈ (zs.drop 3).take (10 - 3), Nm z := fun z hz => n42.nm z (List.mem_of_mem_drop (List.mem_of_mem_take hz))
  have gl : ((zs.drop 3).take (10 - 3)).length = 7 := by rw [List.length_take, List.length_drop, n42.len]; rfl
  refine lcL_f (K := K) (fun d => match d with | .str z => .str (greatS z) | _ => .none) r4 (by rw [List.length_map, gl]; decide) (fun _ => rfl) (fun v d H5 hd rv s5 Qt hQ => ?_) (fun v5 H5 s5 r5 => ?_)
  · obtain ⟨z, hzm, rfl⟩ := List.mem_map.mp hd
    obtain rfl := rv.inv_str
    walk_at "r"
    refine ⟨z, rfl, gm z hzm, fun H6 s6 => ?_⟩
    exact hQ _ _ (by walk_at "S") (R.str _)
  have e5 : ((((zs.drop 3).take (10 - 3)).map PyData.str).map fun d => match d with | .str z => PyData.str (greatS z) | _ => .none) = (((zs.drop 3).take (10 - 3)).map greatS).map PyData.str := by rw [List.map_map, List.map_map]; rfl
  rw [e5] at r5
  have gok : ∀ z ∈ ((zs.drop 3).take (10 - 3)).map greatS, isFormS z = true := fun z hz => by
    obtain ⟨y, hy, rfl⟩ := List.mem_map.mp hz
    exact greatS_ok (gm y hy)
  have ggl : (((zs.drop 3).take (10 - 3)).map greatS).length = 7 := by rw [List.length_map, gl]
  generalize ((zs.drop 3).take (10 - 3)).map greatS = GL at gok ggl r5
  obtain ⟨n0, n1, n2, n3, n4, n5, n6, rfl⟩ : ∃ n0 n1 n2 n3 n4 n5 n6, GL = [n0, n1, n2, n3, n4, n5, n6] := by
    match GL, ggl with
    | [n0, n1, n2, n3, n4, n5, n6], _ => exact ⟨n0, n1, n2, n3, n4, n5, n6, rfl⟩
  have f0 := gok n0 (by simp)
  have f1 := gok n1 (by simp)
  have f2 := gok n2 (by simp)
  have f3 := gok n3 (by simp)
  have f4 := gok n4 (by simp)
  have f5 := gok n5 (by simp)
  have s05 : Same H H5 := by walk_at "S"
  clear s1 s4 s5
  walk_at "r"
  refine st_disp2 fun F H6 fF s6 hF6 => ?_
  walk_at "r"
  rename_i z1 t1 G1 h1 w1 t2 G2 h2 w2 z2 t3 G3 h3 w3 t4 G4 h4 w4 lb G5 e5 h5 hlb rab z3 t5 G6 h6 w5 t6 G7 h7 w6 z4 t7 G8 h8 w7 t8 G9 h9 w8 lc G10 e10 h10 hlc rac
  clear z1 z2 z3 z4
  have s6_4 : Same H6 G4 := ((h1.trans h2).trans h3).trans h4
  have s5_10 : Same G5 G10 := (((h6.trans h7).trans h8).trans h9).trans h10
  have kb : Lk K G10 lb ([(n0, []), (n1, [b])].map formD) := (Lk.of hlb rab (by rfl)).mono s5_10
  have kc : Lk K G10 lc ([(n2, []), (n3, [b, c])].map formD) := Lk.of hlc rac (by rfl)
  have s6_9 : Same H6 G9 := ((((s6_4.trans h5).trans h6).trans h7).trans h8).trans h9
  have hF10 : G10 F = some (.dK []) := h10 _ _ (s6_9 _ _ hF6)
  have s5_10' : Same H5 G10 := (s6.trans s6_9).trans h10
  have nlb : H5 lb = none := none_of (s6.trans s6_4) e5
  have nlc : H5 lc = none := none_of (s6.trans s6_9) e10
  have hbc : lb ≠ lc := fun e => by
    have q1 := ((((h6.trans h7).trans h8).trans h9) _ _ hlb)
    rw [e] at q1; rw [e10] at q1; cases q1
  refine disp2R hF10 bc fun H7 x7 hF7 => ?_
  have s7 : Same H5 H7 := SameX.same s5_10' x7 fF
  have fs7 : FS K H7 F lb lc b c [(n0, []), (n1, [b])] [(n2, []), (n3, [b, c])] := ⟨hbc, hF7, kb.dx x7 hF10, kc.dx x7 hF10⟩
  clear hF6 hF10 s5_10 s5_10' s6_9 s6_4 h1 h2 h3 h4 h5 h6 h7 h8 h9 h10 w1 w2 w3 w4 w5 w6 w7 w8 rab rac hlb hlc kb kc hF7 x7 s6 e5 e10
  walk_at "u"
  have vb : ∀ {y1 y2 : V}, valV ([(Sum.inr b, y1), (Sum.inr c, y2)] : List (Key × V)) (Sum.inr b) = some y1 := fun {y1 y2} => valV_pos rfl
  have vc : ∀ {y1 y2 : V}, valV ([(Sum.inr b, y1), (Sum.inr c, y2)] : List (Key × V)) (Sum.inr c) = some y2 := fun {y1 y2} => by rw [valV_neg (fun h => bc (Sum.inr.inj h)), valV_pos rfl]
  refine if_joinP (fun H' => Same H5 H' ∧ ∃ fb, FbP a b c fb ∧ FS K H' F lb lc b c fb [(n2, []), (n3, [b, c])]) (fun P hP => ?_) ?_
  · walk_at "r"
    · rename_i rr Ha sa ra0 ra1 hrr
      have fsa := fs7.mono sa
      refine dget_at fsa.hF vb ?_
      refine fsa.hb.ty ?_
      walk_at "r"
      rename_i z1 t1 Hb sb wb t2 Hc scc wc
      have fsc := (fsa.mono sb).mono scc
      refine app_L fsc.hb wc (by simp) rfl fun Hd xd kd => ?_
      walk_at "r"
      exact hP _ ⟨SameX.same (s7.trans (sa.trans (sb.trans scc))) xd nlb, _, fb_1 f0 f1 f4, fsc.atB xd kd⟩
    · exact hP _ ⟨by walk_at "S", _, fb_0 f0 f1, fs7.mono (by walk_at "S")⟩
  rintro H8 ⟨s8, fb, fbp, fs8⟩
  clear s7 fs7
  walk_at "u"
  refine if_joinP (fun H' => Same H5 H' ∧ ∃ fc, ((∃ r, fc = (n2, []) :: r) ∧ fc.length ≤ 3 ∧ ∀ x ∈ fc, x ∈ [(n2, []), (n3, [b, c]), (n5, [c, a, b, c]), (n2, [a, b])]) ∧ FS K H' F lb lc b c fb fc) (fun P hP => ?_) ?_
  · walk_at "r"
    · rename_i rr Ha sa ra0 ra1 hrr
      have fsa := fs8.mono sa
      refine dget_at fsa.hF vc ?_
      refine fsa.hc.ty ?_
      walk_at "r"
      rename_i r2 Hb sb rb0 rb1 z1 t1 Hc scc wc t2 Hd sd wd
      have fsd := ((fsa.mono sb).mono scc).mono sd
      refine ins_L fsd.hc wd (by simp) (by omega) (by omega) rfl fun He xe ke => ?_
      walk_at "r"
      have e2 : ([(n2, []), (n3, [b, c])].map formD).take (1 + r2).toNat ++ [PyData.tuple [.str n5, .tuple [.str c, .str a, .str b, .str c]]] ++ ([(n2, []), (n3, [b, c])].map formD).drop (1 + r2).toNat = (([(n2, []), (n3, [b, c])] : List (Str × List Str)).take (1 + r2).toNat ++ [(n5, [c, a, b, c])] ++ ([(n2, []), (n3, [b, c])] : List (Str × List Str)).drop (1 + r2).toNat).map formD := by
        rw [List.map_append, List.map_append, List.map_take, List.map_drop]; rfl
      rw [e2] at ke
      refine hP _ ⟨SameX.same (s8.trans (sa.trans (sb.trans (scc.trans sd)))) xe nlc, _, ?_, fsd.atC xe ke⟩
      rcases (by omega : r2 = 0 ∨ r2 = 1) with rfl | rfl
      · exact ⟨⟨_, rfl⟩, by simp, by simp⟩
      · exact ⟨⟨_, rfl⟩, by simp, by simp⟩
    · exact hP _ ⟨by walk_at "S", _, ⟨⟨_, rfl⟩, by simp, by simp⟩, fs8.mono (by walk_at "S")⟩
  rintro H9 ⟨s9, fc, ⟨⟨fcr, hfc⟩, fcl, fcm⟩, fs9⟩
  clear s8 fs8
  walk_at "u"
  refine if_joinP (fun H' => Same H5 H' ∧ ∃ fc, FcP a b c fc ∧ FS K H' F lb lc b c fb fc) (fun P hP => ?_) ?_
  · walk_at "r"
    · rename_i rr Ha sa ra0 ra1 hrr z1 t1 Hb sb wb t2 Hc scc wc
      have fsc := ((fs9.mono sa).mono sb).mono scc
      refine dget_at fsc.hF vc ?_
      walk_at "r"
      have kc := fsc.hc
      rw [hfc, List.map_cons] at kc
      refine set0_L kc wc rfl fun Hd xd kd => ?_
      have kd' : Lk K Hd lc (((n2, [a, b]) :: fcr).map formD) := kd
      refine hP _ ⟨SameX.same (s9.trans (sa.trans (sb.trans scc))) xd nlc, _, ⟨fc_mem f2 f3 f5 (by rw [hfc] at fcl; simpa using fcl) (fun x hx => ?_), n2, fcr, .inr rfl⟩, fsc.atC xd kd'⟩
      rcases List.mem_cons.mp hx with rfl | hx
      · simp
      · exact fcm x (by rw [hfc]; exact List.mem_cons_of_mem _ hx)
    · exact hP _ ⟨by walk_at "S", fc, ⟨fc_mem f2 f3 f5 fcl fcm, n2, fcr, .inl hfc⟩, fs9.mono (by walk_at "S")⟩
  rintro H10 ⟨s10, fc, fcp, fs10⟩
  clear s9 fs9 hfc fcl fcm
  have eσ : (((((List.set (L2.start n_l_book [V.ref p, v]) 2 (some (V.str a))).set 3 (some (V.str b))).set 4 (some (V.str c))).set 5 (some v5)).set 6 (some (V.ref F))) = [some (.ref p), some v, some (.str a), some (.str b), some (.str c), some v5, some (.ref F), none, none, none, none, none, none, none, none, none, none, none] := rfl
  rw [eσ]
  clear eσ
  walk_at "u"
  rename_i y1 hy1 t1 K1 k1 w1 t2 K2 k2 w2 y2 hy2 t3 K3 k3 w3 t4 K4 k4 w4 y3 hy3 t5 K5 k5 w5 t6 K6 k6 w6 C K7 eC k7 hlC raC t7 K8 k8 w8
  have s5_6 : Same H5 K6 := (((((s10.trans k1).trans k2).trans k3).trans k4).trans k5).trans k6
  have nC : H5 C = none := none_of s5_6 eC
  have kC : Lk K K7 C ([(y1, [], a), (y2, [a, b], a), (y3, [b], b)].map callD) := Lk.of hlC raC (by rfl)
  have fs8 : FS K K8 F lb lc b c fb fc := fs10.mono ((((((k1.trans k2).trans k3).trans k4).trans k5).trans k6).trans (k7.trans k8))
  have s8 : Same H5 K8 := s5_6.trans (k7.trans k8)
  have kC8 := kC.mono k8
  have fsK6 := fs10.mono (((((k1.trans k2).trans k3).trans k4).trans k5).trans k6)
  have nebC : lb ≠ C := fresh_ne eC fsK6.hb
  have necC : lc ≠ C := fresh_ne eC fsK6.hc
  clear fsK6
  clear k1 k2 k3 k4 k5 k6 k7 s5_6 w1 w2 w3 w4 w5 w6 raC hlC kC
  refine dget_at fs8.hF vb ?_
  have rb8 := fs8.hb.R
  walk_at "u"
  rename_i t9 K9 k9 w9 t10 K10 k10 w10
  have fs10' : FS K K10 F lb lc b c fb fc := (fs8.mono k9).mono k10
  refine dget_at fs10'.hF vc ?_
  have rc10 := fs10'.hc.R
  have kC10 := (kC8.mono k9).mono k10
  walk_at "u"
  rename_i t11 K11 k11 w11 t12 K12 k12 w12 vr K13 k13 wr
  have kC13 := ((kC10.mono k11).mono k12).mono k13
  have rC13 := kC13.R
  have s5_13 : Same H5 K13 := ((((s8.trans k9).trans k10).trans k11).trans k12).trans k13
  have fs13 : FS K K13 F lb lc b c fb fc := ((fs10'.mono k11).mono k12).mono k13
  clear k8 k9 k10 k11 k12 k13 kC10 kC8 rc10 rb8 fs10' fs8 s8 w9 w10 w11 w12 w8 s10 fs10
  walk_at "u"
  refine lcLYn (K := K) (is := [11, 15, 16]) giF rC13 (by simp) (fun ws => hw_all (by simp) ws)
    (fun d hd => by obtain ⟨x, _, rfl⟩ := List.mem_map.mp hd; exact ⟨_, rfl, rfl⟩) (fun ws cs Hx hd hl rws sx Qt hQ => ?_) (fun v14 K14 k14 r14 => ?_)
  · obtain ⟨x, _, e'⟩ := List.mem_map.mp hd
    cases e'
    obtain ⟨v1, ws, rfl, q1, rws⟩ := rws.inv_cons
    obtain ⟨v2, ws, rfl, q2, rws⟩ := rws.inv_cons
    obtain ⟨v3, ws, rfl, q3, rws⟩ := rws.inv_cons
    obtain rfl := rws.inv_nil
    obtain rfl := q1.inv_str
    obtain rfl := q3.inv_str
    walk_at "r"
    rename_i v4 Hy sy ry
    exact hQ _ _ (by walk_at "S") ry
  have nlr : noLs ([PyData.tuple [.str "open", .str a], .tuple [.str "kind", .str b, .tuple (fb.map formD)], .tuple [.str "kind", .str c, .tuple (fc.map formD)]] ++ ([(y1, [], a), (y2, [a, b], a), (y3, [b], b)].map callD).map giF) = true := by
    rw [noLs_append, noLs_gi]
    simp [noLs, noL, noLs_forms]
  refine add_lstF (wr.mono k14) r14 (by simp) nlr fun Rw K15 eR k15 kR => ?_
  have s5_14 : Same H5 K14 := s5_13.trans k14
  have nR : H5 Rw = none := none_of s5_14 eR
  have hCR : C ≠ Rw := fresh_ne eR (kC13.mono k14)
  have nebR : lb ≠ Rw := fresh_ne eR (fs13.mono k14).hb
  have necR : lc ≠ Rw := fresh_ne eR (fs13.mono k14).hc
  have fs15 := (fs13.mono k14).mono k15
  have kC15 := (kC13.mono k14).mono k15
  have s15 : Same H5 K15 := s5_14.trans k15
  have r0ok : TailOk ([PyData.tuple [.str "open", .str a], .tuple [.str "kind", .str b, .tuple (fb.map formD)], .tuple [.str "kind", .str c, .tuple (fc.map formD)]] ++ ([(y1, [], a), (y2, [a, b], a), (y3, [b], b)].map callD).map giF) := by
    refine ⟨by simp, fun d hd => ?_⟩
    have hd : d ∈ ([(y1, [], a), (y2, [a, b], a), (y3, [b], b)].map callD).map giF := hd
    simp only [List.map_cons, List.map_nil, List.mem_cons, List.not_mem_nil, or_false] at hd
    rcases hd with rfl | rfl | rfl <;> exact ⟨_, _, _, rfl⟩
  have r0l : ([PyData.tuple [.str "open", .str a], .tuple [.str "kind", .str b, .tuple (fb.map formD)], .tuple [.str "kind", .str c, .tuple (fc.map formD)]] ++ ([(y1, [], a), (y2, [a, b], a), (y3, [b], b)].map callD).map giF).length ≤ 10 := by simp
  generalize ([PyData.tuple [.str "open", .str a], .tuple [.str "kind", .str b, .tuple (fb.map formD)], .tuple [.str "kind", .str c, .tuple (fc.map formD)]] ++ ([(y1, [], a), (y2, [a, b], a), (y3, [b], b)].map callD).map giF) = rows0 at kR r0ok r0l
  clear k14 k15 s5_14 s5_13 kC13 rC13 fs13 wr r14
  walk_at "u"
  rename_i Kd K16 fK k16 hlK raK
  have kK16 : Lk K K16 Kd ([a, b, c].map PyData.str) := Lk.of hlK raK (by rfl)
  have fs16 := fs15.mono k16
  have kC16 := kC15.mono k16
  have kR16 := kR.mono k16
  refine st_newD (K := K) fun D K17 fD k17 hD => ?_
  walk_at "u"
  rename_i W K18 fW k18 hlW raW
  have kW18 : Lk K K18 W [] := Lk.of hlW raW (by rfl)
  have nDF : D ≠ F := fun e => by rw [e, fs16.hF] at fD; cases fD
  have bn : BN H5 F lb lc C Rw Kd D W := by
    have s16 := s15.trans k16
    refine ⟨?_, nDF, nC, nR, none_of s16 fD, none_of (s16.trans k17) fW⟩
    have a1 := fresh_ne fK fs15.hb
    have a2 := fresh_ne fK fs15.hc
    have a3 := fresh_ne fK kC15
    have a4 := fresh_ne fK kR
    have b1 := fresh_ne fW (fs16.mono k17).hb
    have b2 := fresh_ne fW (fs16.mono k17).hc
    have b3 := fresh_ne fW (kC16.mono k17)
    have b4 := fresh_ne fW (kR16.mono k17)
    have b5 := fresh_ne fW (kK16.mono k17)
    simp [hbc, nebC, necC, hCR, nebR, necR, a1, a2, a3, a4, b1, b2, b3, b4, b5]
  refine st_newTF (K := K) (by simp) fun x K19 fx k19 hx => ?_
  have bs : BS K H5 K19 x F lb lc C Rw Kd D W ⟨a, b, c, fb, fc, [(y1, [], a), (y2, [a, b], a), (y3, [b], b)], []⟩ rows0 [] :=
    ⟨((s15.trans k16).trans (k17.trans k18)).trans k19, hx, (fs16.mono (k17.trans k18)).mono k19, (kC16.mono (k17.trans k18)).mono k19, (kR16.mono (k17.trans k18)).mono k19, (kK16.mono (k17.trans k18)).mono k19, k19 _ _ (k18 _ _ hD), kW18.mono k19⟩
  clear k16 k17 k18 k19 s15 fs15 kC15 kR fs16 kC16 kR16 kK16 kW18 hlK raK hlW raW fK fD hD fW fx hx
  have hp5 : H5 p = some (Stt p) := s05 _ _ hp
  have rz5 := rz.mono s05
  have bok : BkOk ⟨a, b, c, fb, fc, [(y1, [], a), (y2, [a, b], a), (y3, [b], b)], []⟩ := by
    refine ⟨ab, ac, bc, na.ok, nb.ok, nc.ok, ⟨fbp.ok.len, fbp.ok.nm, fbp.ok.ps⟩, ⟨fcp.ok.len, fcp.ok.nm, fcp.ok.ps⟩, fbp.hd, fcp.hd, ⟨_, _, rfl⟩, by simp, fun x hx => ?_, by simp, fun x hx => by cases hx⟩
    have m1 := (n42.nm y1 hy1).ok
    have m2 := (n42.nm y2 hy2).ok
    have m3 := (n42.nm y3 hy3).ok
    simp only [List.mem_cons, List.not_mem_nil, or_false] at hx
    rcases hx with rfl | rfl | rfl <;> simp [m1, m2, m3, Bk.kinds]
  have ga0 : (⟨a, b, c, fb, fc, [(y1, [], a), (y2, [a, b], a), (y3, [b], b)], []⟩ : Bk).a = a ∧ (⟨a, b, c, fb, fc, [(y1, [], a), (y2, [a, b], a), (y3, [b], b)], []⟩ : Bk).b = b ∧ (⟨a, b, c, fb, fc, [(y1, [], a), (y2, [a, b], a), (y3, [b], b)], []⟩ : Bk).c = c ∧ (⟨a, b, c, fb, fc, [(y1, [], a), (y2, [a, b], a), (y3, [b], b)], []⟩ : Bk).words = [] ∧ (⟨a, b, c, fb, fc, [(y1, [], a), (y2, [a, b], a), (y3, [b], b)], []⟩ : Bk).calls.length = 3 := ⟨rfl, rfl, rfl, rfl, rfl⟩
  generalize (⟨a, b, c, fb, fc, [(y1, [], a), (y2, [a, b], a), (y3, [b], b)], []⟩ : Bk) = g at bs bok ga0
  have hp19 : K19 p = some (Stt p) := bs.same _ _ hp5
  have rz19 := rz5.mono bs.same
  walk_at "y"
  rename_i rw0 K20 k20 hrw0 hrw1
  refine int_any fun wd hwd0 hwd1 => ?_
  walk_at "r"
  rename_i vA HA sA rA vB HB sB rB
  have cA := cutD_len (zs.map PyData.str) (some 13) (some 18)
  have cB := cutD_len (zs.map PyData.str) (some 21) (some 26)
  have hmA : ∀ d ∈ cutD (zs.map PyData.str) (some 13) (some 18) ++ cutD (zs.map PyData.str) (some 21) (some 26), ∃ z ∈ zs, d = .str z := fun d hd => by
    rcases List.mem_append.mp hd with h | h <;>
    · obtain ⟨z, hz, e⟩ := List.mem_map.mp (List.mem_of_mem_drop (List.mem_of_mem_take h))
      exact ⟨z, hz, e.symm⟩
  refine add_lst (rA.mono sB) rB (by omega) fun vL HL sL rL => ?_
  have nlA : noLs (cutD (zs.map PyData.str) (some 13) (some 18) ++ cutD (zs.map PyData.str) (some 21) (some 26)) = true := noLs_mem.mpr fun d hd => by
    obtain ⟨z, _, rfl⟩ := hmA d hd; rfl
  have lA : (cutD (zs.map PyData.str) (some 13) (some 18) ++ cutD (zs.map PyData.str) (some 21) (some 26)).length ≤ 84 := by rw [List.length_append]; omega
  generalize cutD (zs.map PyData.str) (some 13) (some 18) ++ cutD (zs.map PyData.str) (some 21) (some 26) = LA at rL hmA nlA lA
  have bsL := bs.mono (k20.trans (sA.trans (sB.trans sL)))
  have hpL : HL p = some (Stt p) := bsL.same _ _ hp5
  clear k20 sA sB sL rA rB bs hp19 rz19
  walk_at "z"
  rename_i rn HM sM hrn0 hrn1
  refine sl_lstF (rL.mono sM) nlA fun l HN fl sN kl => ?_
  have hml : ∀ d ∈ cutD LA none (some (2 + 6 * wd + rn)), ∃ z ∈ zs, d = .str z := fun d hd => hmA d (List.mem_of_mem_drop (List.mem_of_mem_take hd))
  have ll : (cutD LA none (some (2 + 6 * wd + rn))).length ≤ 84 := Nat.le_trans (cutD_len _ _ _) lA
  generalize cutD LA none (some (2 + 6 * wd + rn)) = LL at kl hml ll
  have bsM := bsL.mono sM
  have lC : l ≠ C := (fresh_ne fl bsM.kC).symm
  have lR : l ≠ Rw := (fresh_ne fl bsM.kR).symm
  have bsN := bsM.mono sN
  obtain ⟨xl, hl, ral⟩ := kl.ex
  have nll := kl.no
  clear bsM bsL sM sN rL kl fl hpL
  walk_at "r"
  have ga := ga0
  refine for_LDl (K := K) (ds := LL) (fun i σ' H' => (∃ g rows, BS K H5 H' x F lb lc C Rw Kd D W g rows [] ∧ BkOk g ∧ (g.a = a ∧ g.b = b ∧ g.c = c ∧ g.words = []) ∧ g.calls.length ≤ 3 + i ∧ i ≤ LL.length ∧ rows.length ≤ 10 + i ∧ TailOk rows) ∧ H' l = some (.lst xl) ∧ RA K H' xl LL ∧
      ∃ x11 x12 x13 x14 x15 x16 x17 : Option V, σ' = [some (.ref p), some v, some (.str a), some (.str b), some (.str c), some v5, some (.ref F), some (.ref C), some (.ref Rw), some (.ref x), some (.int wd), x11, x12, x13, x14, x15, x16, x17])
      ⟨⟨g, rows0, bsN, bok, ⟨ga.1, ga.2.1, ga.2.2.1, ga.2.2.2.1⟩, by rw [ga.2.2.2.2]; omega, Nat.zero_le _, by omega, r0ok⟩, hl, ral, _, _, _, _, _, _, _, rfl⟩ (fun _ _ _ h => ⟨⟨xl, h.2.1, h.2.2.1⟩, nll⟩) ?_ ?_ (fun xs hx k σ' H' h => by rw [hl] at hx; cases hx; exact h.2.1)
  · rintro i d vd σ' HQ hd rd ⟨⟨g, rows, bs, ok, hg, hcl, hil, hrl, htl⟩, hl2, ra2, x11, x12, x13, x14, x15, x16, x17, rfl⟩
    obtain ⟨z, hz, rfl⟩ := hml d (List.mem_of_getElem? hd)
    obtain rfl := rd.inv_str
    have hiL := (List.getElem?_eq_some_iff.mp hd).1
    walk_at "r"
    refine use_fun (bs.same _ _ hp5) bs.at ok (n42.nm z hz).ok fun u du cu H1 s1 ru row => ?_
    obtain ⟨w, ks, kk, X, rfl, rfl, nrow, hk4, hkm, hkk⟩ := row_is row
    have bs1 := bs.mono s1
    walk_at "r"
    refine bs1.kR.ty ?_
    walk_at "r"
    refine app_L bs1.kR ru (by omega) nrow fun H2 x2 k2 => ?_
    have bs2 := BS.appR bn bs1 x2 k2
    obtain ⟨xr, qr, _⟩ := bs1.kR.ex
    have ru2 : R K H2 u (.tuple [.str w, .str z, partsD ks, .str kk, X]) := ru.monoX x2 qr nrow
    walk_at "r"
    refine bs2.kC.ty ?_
    walk_at "r"
    rename_i q1 uv q2 q3 tv H3 s3 r3
    have bs3 := bs2.mono s3
    refine app_L bs3.kC r3 (by rw [List.length_map]; omega) (by simp [noL, noLs, noLs_strs]) fun H4 x4 k4 => ?_
    have k4' : Lk K H4 C ((g.calls ++ [(z, ks, kk)]).map callD) := by rw [List.map_append]; exact k4
    have bs4 := BS.appC bn bs3 x4 k4'
    obtain ⟨xc, qc, _⟩ := bs3.kC.ex
    walk_at "r"
    refine ⟨⟨{ g with calls := g.calls ++ [(z, ks, kk)] }, _, bs4, bk_call ok ⟨(n42.nm z hz).ok, hk4, hkm, hkk⟩ (by rw [List.length_append, List.length_singleton]; omega), hg, ?_, by omega, by rw [List.length_append, List.length_singleton]; omega, tail_app htl⟩, x4 l _ lC (s3 _ _ (x2 l _ lR (s1 _ _ hl2))), (((ra2.mono s1).monoX x2 qr nll).mono s3).monoX x4 qc nll, _, _, _, _, _, _, _, rfl⟩
    show (g.calls ++ [(z, ks, kk)]).length ≤ _
    rw [List.length_append, List.length_singleton]; omega
  · rintro σ' HQ ⟨⟨g, rows, bs, ok, hg, hcl, hil, hrl, htl⟩, hl2, ra2, x11, x12, x13, x14, x15, x16, x17, rfl⟩
    clear hl ral bsN
    walk_at "r"
    refine sl_lstF bs.kR.R bs.kR.no fun l2 H1 fl2 s1 kl2 => ?_
    rw [show (3 : Int) = ((3 : Nat) : Int) from rfl, cutD_from rows 3] at kl2
    have l2D : l2 ≠ D := fun e => by rw [e, bs.kD] at fl2; cases fl2
    obtain ⟨xl2, hl3, ral3⟩ := kl2.ex
    have nll2 := kl2.no
    have bs1 := bs.mono s1
    refine for_LDl (K := K) (ds := rows.drop 3) (fun i σ' H' => (∃ kvs, BS K H5 H' x F lb lc C Rw Kd D W g rows kvs ∧ kvs.length ≤ i ∧ i ≤ (rows.drop 3).length) ∧ H' l2 = some (.lst xl2) ∧ RA K H' xl2 (rows.drop 3) ∧
      ∃ x11 x12 x13 x14 x15 x16 x17 : Option V, σ' = [some (.ref p), some v, some (.str a), some (.str b), some (.str c), some v5, some (.ref F), some (.ref C), some (.ref Rw), some (.ref x), some (.int wd), x11, x12, x13, x14, x15, x16, x17])
      ⟨⟨[], bs1, Nat.le_refl _, Nat.zero_le _⟩, hl3, ral3, _, _, _, _, _, _, _, rfl⟩ (fun _ _ _ h => ⟨⟨xl2, h.2.1, h.2.2.1⟩, nll2⟩) ?_ ?_ (fun xs hx k σ' H' h => by rw [hl3] at hx; cases hx; exact h.2.1)
    · rintro i d vd σ' H2 hd rd ⟨⟨kvs, bs2, hk, hil2⟩, hl4, ra4, x11, x12, x13, x14, x15, x16, x17, rfl⟩
      obtain ⟨w, z, cs, rfl⟩ := htl.2 d (List.mem_of_getElem? hd)
      have hiL := (List.getElem?_eq_some_iff.mp hd).1
      have hrd : (rows.drop 3).length ≤ rows.length := by rw [List.length_drop]; omega
      walk_at "r"
      refine .inr (.inl ⟨x, _, 4, .ref D, rfl, rfl, bs2.tup, atI_pos (by decide) rfl, ?_⟩)
      show tOp (rIx K) _ _ _ _ _
      walk_at "r"
      refine putG bs2.kD (by omega) fun H3 x3 h3 => ?_
      have bs3 := BS.putD bn bs2 x3 h3
      have hpl := putK_len (kvs := kvs) (k := Sum.inr z) (v := vd)
      walk_at "r"
      exact ⟨⟨_, bs3, by omega, by omega⟩, x3 l2 _ l2D hl4, ra4.monoD x3 bs2.kD nll2, _, _, _, _, _, _, _, rfl⟩
    · rintro σ' H2 ⟨⟨kvs, bs2, hk, hil2⟩, hl4, ra4, x11, x12, x13, x14, x15, x16, x17, rfl⟩
      clear hl3 ral3 bs1 bs s1 hl2 ra2
      have rz2 := rz5.mono bs2.same
      walk_at "r"
      rename_i vA HA sA rA vB HB sB rB
      have cA := cutD_len (zs.map PyData.str) (some 18) (some 20)
      have cB := cutD_len (zs.map PyData.str) (some 26) (some 31)
      have hmA : ∀ d ∈ cutD (zs.map PyData.str) (some 18) (some 20) ++ cutD (zs.map PyData.str) (some 26) (some 31), ∃ z ∈ zs, d = .str z := fun d hd => by
        rcases List.mem_append.mp hd with h | h <;>
        · obtain ⟨z, hz, e⟩ := List.mem_map.mp (List.mem_of_mem_drop (List.mem_of_mem_take h))
          exact ⟨z, hz, e.symm⟩
      refine add_lst (rA.mono sB) rB (by omega) fun vL HL sL rL => ?_
      have nlA : noLs (cutD (zs.map PyData.str) (some 18) (some 20) ++ cutD (zs.map PyData.str) (some 26) (some 31)) = true := noLs_mem.mpr fun d hd => by
        obtain ⟨z, _, rfl⟩ := hmA d hd; rfl
      have lA : (cutD (zs.map PyData.str) (some 18) (some 20) ++ cutD (zs.map PyData.str) (some 26) (some 31)).length ≤ 84 := by rw [List.length_append]; omega
      have lB7 : (cutD (zs.map PyData.str) (some 18) (some 20) ++ cutD (zs.map PyData.str) (some 26) (some 31)).length = 7 := by
        rw [List.length_append, show (18 : Int) = ((18 : Nat) : Int) from rfl, show (20 : Int) = ((20 : Nat) : Int) from rfl, show (26 : Int) = ((26 : Nat) : Int) from rfl, show (31 : Int) = ((31 : Nat) : Int) from rfl, cutD_mid _ 18 20 (by rw [zl]; decide) (by decide), cutD_mid _ 26 31 (by rw [zl]; decide) (by decide), List.length_take, List.length_take, List.length_drop, List.length_drop, zl]
        rfl
      generalize cutD (zs.map PyData.str) (some 18) (some 20) ++ cutD (zs.map PyData.str) (some 26) (some 31) = LB at rL hmA nlA lA lB7
      have bsM := bs2.mono (sA.trans (sB.trans sL))
      clear sA sB sL rA rB bs2 rz2
      walk_at "z"
      refine sl_lstF rL nlA fun l4 HN fl4 sN kl4 => ?_
      have hml4 : ∀ d ∈ cutD LB none (some (2 + 5 * wd)), ∃ z ∈ zs, d = .str z := fun d hd => hmA d (List.mem_of_mem_drop (List.mem_of_mem_take hd))
      have ll4 : (cutD LB none (some (2 + 5 * wd))).length ≤ 84 := Nat.le_trans (cutD_len _ _ _) lA
      have hLW : 1 ≤ (cutD LB none (some (2 + 5 * wd))).length := by
        rcases (by omega : wd = 0 ∨ wd = 1) with rfl | rfl
        · rw [show (2 + 5 * 0 : Int) = ((2 : Nat) : Int) from rfl, cutD_to, List.length_take, lB7]; decide
        · rw [show (2 + 5 * 1 : Int) = ((7 : Nat) : Int) from rfl, cutD_to, List.length_take, lB7]; decide
      generalize cutD LB none (some (2 + 5 * wd)) = LW at kl4 hml4 ll4 hLW
      have lW : l4 ≠ W := (fresh_ne fl4 bsM.kW).symm
      have lR4 : l4 ≠ Rw := (fresh_ne fl4 bsM.kR).symm
      have bsN := bsM.mono sN
      obtain ⟨xl4, hl5, ral5⟩ := kl4.ex
      have nll4 := kl4.no
      clear bsM sN rL kl4 fl4
      refine for_LDl (K := K) (ds := LW) (fun i σ' H' => (∃ g rows, BS K H5 H' x F lb lc C Rw Kd D W g rows kvs ∧ BkOk g ∧ (g.a = a ∧ g.b = b ∧ g.c = c) ∧ g.words.length = i ∧ i ≤ LW.length ∧ rows.length ≤ 10 + LL.length + i) ∧ H' l4 = some (.lst xl4) ∧ RA K H' xl4 LW ∧
        ∃ x11 x12 x13 x14 x15 x16 x17 : Option V, σ' = [some (.ref p), some v, some (.str a), some (.str b), some (.str c), some v5, some (.ref F), some (.ref C), some (.ref Rw), some (.ref x), some (.int wd), x11, x12, x13, x14, x15, x16, x17])
        ⟨⟨g, rows, bsN, ok, ⟨hg.1, hg.2.1, hg.2.2.1⟩, by rw [hg.2.2.2]; rfl, Nat.zero_le _, by omega⟩, hl5, ral5, _, _, _, _, _, _, _, rfl⟩ (fun _ _ _ h => ⟨⟨xl4, h.2.1, h.2.2.1⟩, nll4⟩) ?_ ?_ (fun xs hx k σ' H' h => by rw [hl5] at hx; cases hx; exact h.2.1)
      · rintro i d vd σ' HQ2 hd rd ⟨⟨g, rows, bs, ok, hg, hwl, hil3, hrl3⟩, hl6, ra6, x11, x12, x13, x14, x15, x16, x17, rfl⟩
        obtain ⟨z, hz, rfl⟩ := hml4 d (List.mem_of_getElem? hd)
        obtain rfl := rd.inv_str
        have hiL := (List.getElem?_eq_some_iff.mp hd).1
        have hpq := bs.same _ _ hp5
        walk_at "r"
        refine .inr (.inl ⟨x, _, 5, .ref W, rfl, rfl, bs.tup, atI_pos (by decide) rfl, ?_⟩)
        refine bs.kW.ty ?_
        have bat := bs.at
        have hkl : (g.kinds.length : Int) = 3 := rfl
        walk_at "r"
        rename_i rr H1 s1 hrr0 hrr1
        refine lc_R (K := K) (fun _ e => ∃ z, e = .str z ∧ z ∈ g.kinds) (by omega) (by omega) (fun _ => rfl) (fun j H2 hj s2 Qt hQ => ?_) (fun v2 H2 es s2 r2 hl2' hP2 => ?_)
        · walk_at "r"
          exact hQ _ _ _ (by walk_at "S") (R.str _) ⟨_, rfl, by assumption⟩
        obtain ⟨ks, rfl, hks⟩ := kinds_of hP2
        rw [List.length_map] at hl2'
        walk_at "r"
        rename_i v3 H3 s3 r3 v4 H4 s4 r4
        have bs4 := bs.mono (((s1.trans s2).trans s3).trans s4)
        have hl7 : H4 l4 = some (.lst xl4) := s4 _ _ (s3 _ _ (s2 _ _ (s1 _ _ hl6)))
        have ra7 := (((ra6.mono s1).mono s2).mono s3).mono s4
        clear s1 s2 s3 bat r2 r3 hP2
        refine app_L bs4.kW r4 (by rw [List.length_map]; omega) (by simp [noL, noLs, noLs_strs]) fun H5' x5 k5 => ?_
        have k5' : Lk K H5' W ((g.words ++ [(z, ks)]).map formD) := by rw [List.map_append]; exact k5
        have bs5 := BS.appW bn bs4 x5 k5'
        obtain ⟨xw, qw, _⟩ := bs4.kW.ex
        have hl8 := x5 l4 _ lW hl7
        have ra8 := ra7.monoX x5 qw nll4
        clear s4 r4
        have rw5 : R K H5' (.ref W) (.list (g.words.map formD ++ [.tuple [.str z, partsD ks]])) := k5.R
        walk_at "r"
        refine bs5.kR.ty ?_
        walk_at "r"
        rename_i v6 H6 s6 r6
        refine .inr (.inl ⟨x, _, 5, .ref W, rfl, rfl, s6.tup bs5.tup, atI_pos (by decide) rfl, ?_⟩)
        show tUn _ _ _ _ _
        walk_at "r"
        refine ix_last (rw5.mono s6) fun v7 r7 => ?_
        walk_at "r"
        rename_i v8 H8 s8 r8
        have bs8 := (bs5.mono s6).mono s8
        refine app_L bs8.kR r8 (by omega) (by simp [noL, noLs, noLs_strs]) fun H9 x9 k9 => ?_
        have bs9 := BS.appR bn bs8 x9 k9
        obtain ⟨xr2, qr2, _⟩ := bs8.kR.ex
        walk_at "r"
        refine ⟨⟨{ g with words := g.words ++ [(z, ks)] }, _, bs9, bk_word ok ⟨(n42.nm z hz).ok, by show ks.length ≤ 4; omega, hks⟩ (by rw [List.length_append, List.length_singleton]; omega), hg, ?_, by omega, by rw [List.length_append, List.length_singleton]; omega⟩, x9 l4 _ lR4 (s8 _ _ (s6 _ _ hl8)), ((ra8.mono s6).mono s8).monoX x9 qr2 nll4, _, _, _, _, _, _, _, rfl⟩
        show (g.words ++ [(z, ks)]).length = _
        rw [List.length_append, List.length_singleton]; omega
      · rintro σ' HQ2 ⟨⟨g, rows, bs, ok, hg, hwl, hil3, hrl3⟩, hl6, ra6, x11, x12, x13, x14, x15, x16, x17, rfl⟩
        walk_at "r"
        exact q _ g _ (s05.trans bs.same) bs.at ok hg.1 hg.2.1 hg.2.2 (by omega)

end
end G

end

section
/-! the words of the walk: S (a heap keeps), R (a value stands for data), A (a row of them), no (a way that cannot be), s (one step), r (all steps) -/
local macro_rules | `(tactic| walk_at "S") => `(tactic| first | exact L2.Same.refl _ | assumption | exact G.sm_tr (by assumption) (by walk_at "S"))
local macro_rules | `(tactic| walk_at "R") => `(tactic| first
  | with_reducible exact G.R.int _ | with_reducible exact G.R.str _ | with_reducible exact G.R.bl _ | with_reducible exact G.R.non
  | with_reducible assumption
  | exact G.r_mono (by with_reducible assumption) (by walk_at "S")
  | ((with_reducible refine' G.R.lst L2.upd_same ?rl); (case rl => walk_at "A")))
local macro_rules | `(tactic| walk_at "A") => `(tactic| first | with_reducible exact G.RA.nil | ((with_reducible refine' G.RA.cons ?ra ?rb); (case ra => walk_at "R"); (case rb => walk_at "A")))
local macro_rules | `(tactic| walk_at "no") => `(tactic| first | contradiction | omega)
local macro_rules | `(tactic| walk_at "side") => `(tactic| first | with_reducible rfl | with_reducible assumption | omega | exact Int.lt_of_lt_of_le (by with_reducible assumption) (by decide +kernel) | ((with_reducible refine G.le_up ?_); decide +kernel) | (simp only [List.length_cons, List.length_nil, List.getElem?_cons_zero, List.getElem?_cons_succ, List.length_map]; done) | (simp only [List.length_cons, List.length_nil, List.length_map, List.length_append] at *; omega))
local macro_rules | `(tactic| walk_at "sideC") => `(tactic| first | with_reducible assumption | (with_reducible refine G.cmul_r ⟨?_, ?_⟩ <;> decide) | (with_reducible refine G.cdiv_r ⟨?_, ?_⟩ <;> decide) | (with_reducible refine G.cmul_l ⟨?_, ?_⟩ <;> decide) | (with_reducible refine G.cpow_c ⟨?_, ?_, ?_⟩ <;> decide) | (with_reducible refine G.cmul_r ⟨?_, ?_⟩ <;> omega) | (with_reducible refine G.cdiv_r ⟨?_, ?_⟩ <;> omega) | omega)
local macro_rules | `(tactic| walk_at "got") => `(tactic| (intro v0 r0; first
  | (have e0 := G.R.inv_str r0; subst e0) | (have e0 := G.R.inv_int r0; subst e0) | (have e0 := G.R.inv_bl r0; subst e0) | (have e0 := G.R.inv_non r0; subst e0) | skip))
local macro_rules | `(tactic| walk_at "P") => `(tactic| first | with_reducible assumption | exact G.keep_at (by with_reducible assumption) (by walk_at "S"))
local macro_rules | `(tactic| walk_at "c") => `(tactic| fail)
local macro_rules | `(tactic| walk_at "Q") => `(tactic| first | with_reducible assumption | exact G.seq_keep (by with_reducible assumption) (by walk_at "S"))
local macro_rules | `(tactic| walk_at "c") => `(tactic| ((with_reducible refine' G.use_state ?hp ?h0 ?h1 ?_); (case hp => walk_at "Q"); (case h0 => walk_at "side"); (case h1 => walk_at "side"); intro p0 H0 s0 hp0))
local macro_rules | `(tactic| walk_at "c") => `(tactic| ((with_reducible refine' G.use_draw ?hp ?h0 ?h1 ?_); (case hp => walk_at "P"); (case h0 => walk_at "side"); (case h1 => walk_at "side"); intro r0 hr0 hr1))
local macro_rules | `(tactic| walk_at "s") => `(tactic| first
  | with_reducible refine G.st_seq ?_
  | ((with_reducible refine' G.st_var ?hv ?_); (case hv => exact rfl))
  | with_reducible refine G.st_c ?_
  | with_reducible refine G.st_op ?_
  | with_reducible refine G.st_bl ?_
  | with_reducible refine L2.iteT ?_
  | with_reducible refine L2.iteF ?_
  | with_reducible refine G.ite_nt ?_
  | with_reducible refine G.ite_nf ?_
  | ((with_reducible refine G.st_ite ?_ ?_) <;> (intro hb; (try simp only [decide_eq_true_eq, decide_eq_false_iff_not, Bool.not_eq_true', Bool.not_eq_false', beq_iff_eq, Bool.and_eq_true, Bool.or_eq_true, Bool.and_eq_false_iff, Bool.or_eq_false_iff, beq_eq_false_iff_ne, ne_eq, Int.not_lt, Int.not_le, Nat.not_lt, Nat.not_le] at hb); first | (exfalso; walk_at "no"; done) | skip))
  | with_reducible refine G.st_if ?_
  | with_reducible refine G.st_ret ?_
  | with_reducible refine G.st_set ?_
  | with_reducible refine G.st_call ?_
  | with_reducible refine G.st_cons ?_
  | with_reducible refine G.st_nil ?_
  | with_reducible refine G.st_CB ?_
  | with_reducible refine G.st_tTest ?_
  | with_reducible refine G.st_tB ?_
  | with_reducible refine G.st_or ?_
  | with_reducible refine G.st_and ?_
  | with_reducible refine G.st_not ?_
  | with_reducible refine G.st_orV ?_
  | with_reducible refine G.st_andV ?_
  | with_reducible refine G.st_notV ?_
  | with_reducible refine G.st_tIf ?_
  | with_reducible refine G.st_chain ?_
  | with_reducible refine G.st_un ?_
  | with_reducible refine G.st_then ?_
  | with_reducible refine G.st_slice ?_
  | with_reducible refine G.st_noPart ?_
  | with_reducible refine G.st_part ?_
  | with_reducible refine G.st_exInt ?_
  | with_reducible refine G.st_drop ?_
  | with_reducible refine G.st_next ?_
  | with_reducible refine G.st_retN ?_
  | with_reducible refine G.add_int ?_
  | with_reducible refine G.i0 ?_
  | ((with_reducible refine G.imod2 (by decide) ?_ ?_) <;> (intro hm; first | (exfalso; walk_at "no"; done) | skip))
  | ((with_reducible refine G.imod3 (by decide) ?_ ?_ ?_) <;> (intro hm; first | (exfalso; walk_at "no"; done) | skip))
  | ((with_reducible refine' G.iC ?hc ?_); (case hc => walk_at "sideC"))
  | ((with_reducible refine' G.eq_str1 ?e ?_); (case e => with_reducible rfl))
  | ((with_reducible refine' G.eq_str0 ?e ?_); (case e => decide +kernel))
  | with_reducible refine G.eq_str ?_
  | with_reducible refine G.eq_int ?_
  | with_reducible refine G.eq_bl ?_
  | with_reducible refine G.ne_str ?_
  | with_reducible refine G.ne_int ?_
  | ((with_reducible refine' G.is_none ?r ?_); (case r => walk_at "R"))
  | ((with_reducible refine' G.isnt_none ?r ?_); (case r => walk_at "R"))
  | with_reducible refine G.is_bl ?_
  | with_reducible refine G.isnt_bl ?_
  | with_reducible refine G.in_sign ?_
  | with_reducible refine G.nin_sign ?_
  | ((with_reducible refine' G.in_strsT1 ?r ?c ?e ?_); (case r => walk_at "R"); (case c => rfl); (case e => decide +kernel))
  | ((with_reducible refine' G.in_strsT0 ?r ?c ?e ?_); (case r => walk_at "R"); (case c => rfl); (case e => decide +kernel))
  | ((with_reducible refine' G.in_strsT ?r ?c ?_); (case r => walk_at "R"); (case c => rfl))
  | ((with_reducible refine' G.nin_strsT ?r ?c ?_); (case r => walk_at "R"); (case c => rfl))
  | ((with_reducible refine' G.in_intsT ?r ?c ?_); (case r => walk_at "R"); (case c => rfl))
  | ((with_reducible refine' G.nin_intsT ?r ?c ?_); (case r => walk_at "R"); (case c => rfl))
  | ((with_reducible refine' G.add_str ?l ?_); (case l => walk_at "side"))
  | ((with_reducible refine' G.add_tup ?r ?s ?l ?_); (case r => walk_at "R"); (case s => walk_at "R"); (case l => walk_at "side"); intro v0 H0 s0 r0)
  | ((with_reducible refine' G.add_lst ?r ?s ?l ?_); (case r => walk_at "R"); (case s => walk_at "R"); (case l => walk_at "side"); intro v0 H0 s0 r0)
  | ((with_reducible refine' G.isi_1 ?r ?e ?t ?_); (case r => walk_at "R"); (case e => rfl); (case t => simp only [List.mem_cons, true_or, or_true]))
  | ((with_reducible refine' G.isi_0 ?r ?e ?t ?_); (case r => walk_at "R"); (case e => rfl); (case t => simp only [List.mem_cons, true_or, or_true]))
  | ((with_reducible refine' G.isi_R ?r ?t ?_); (case r => walk_at "R"); (case t => simp only [List.mem_cons, true_or, or_true]))
  | ((with_reducible refine' G.len_str ?l ?_); (case l => walk_at "side"))
  | ((with_reducible refine' G.len_tup ?r ?_); (case r => walk_at "R"))
  | ((with_reducible refine' G.len_lst ?r ?_); (case r => walk_at "R"))
  | (with_reducible refine G.st_tup ?_)
  | (with_reducible refine G.st_lst ?_)
  | ((with_reducible refine' G.st_newT ?r ?l ?_); (case r => walk_at "A"); (case l => first | exact Nat.le_of_ble_eq_true rfl | walk_at "side"); intro v0 H0 s0 r0)
  | ((with_reducible refine' G.st_newL ?r ?l ?_); (case r => walk_at "A"); (case l => first | exact Nat.le_of_ble_eq_true rfl | walk_at "side"); intro v0 H0 s0 r0)
  | ((with_reducible refine' G.ix_tupR ?r ?h0 ?hd ?_); (case r => walk_at "R"); (case h0 => walk_at "side"); (case hd => first | rfl | assumption); walk_at "got")
  | ((with_reducible refine' G.ix_lstR ?r ?h0 ?hd ?_); (case r => walk_at "R"); (case h0 => walk_at "side"); (case hd => first | rfl | assumption); walk_at "got")
  | ((with_reducible refine' G.ix_strR ?l ?h0 ?hd ?_); (case l => walk_at "side"); (case h0 => walk_at "side"); (case hd => first | rfl | assumption))
  | ((with_reducible refine' G.ix_strM ?l ?h0 ?h1 ?_); (case l => walk_at "side"); (case h0 => walk_at "side"); (case h1 => walk_at "side"); intro c0 hc0)
  | ((with_reducible refine' G.ix_tupN ?r ?h0 ?h1 ?_); (case r => walk_at "R"); (case h0 => walk_at "side"); (case h1 => walk_at "side"); intro v0 d0 hd0 r0)
  | ((with_reducible refine' G.ix_lstS ?r ?h0 ?h1 ?_); (case r => walk_at "R"); (case h0 => walk_at "side"); (case h1 => walk_at "side"); intro z0 hz0)
  | ((with_reducible refine' G.ix_lstN ?r ?h0 ?h1 ?_); (case r => walk_at "R"); (case h0 => walk_at "side"); (case h1 => walk_at "side"); intro v0 d0 hd0 r0)
  | ((with_reducible refine' G.sl_strR ?l ?_); (case l => walk_at "side"))
  | ((with_reducible refine' G.sl_tupR ?r ?_); (case r => walk_at "R"); intro v0 H0 s0 r0)
  | ((with_reducible refine' G.sl_lstR ?r ?_); (case r => walk_at "R"); intro v0 H0 s0 r0)
  | ((with_reducible refine' G.tupOf_L ?r ?_); (case r => walk_at "R"); intro v0 H0 s0 r0)
  | ((with_reducible refine' G.tupOf_T ?r ?_); (case r => walk_at "R"))
  | ((with_reducible refine' G.lstOf_T ?r ?_); (case r => walk_at "R"); intro v0 H0 s0 r0)
  | ((with_reducible refine' G.lstOf_L ?r ?_); (case r => walk_at "R"); intro v0 H0 s0 r0)
  | with_reducible refine G.st_lcL ?_
  | with_reducible refine G.st_lcT ?_
  | with_reducible refine G.st_lcS ?_
  | with_reducible refine G.st_lcR ?_
  | with_reducible refine G.st_M0 ?_
  | with_reducible refine G.st_M1 ?_
  | (with_reducible refine G.upper_one ?_; intro hu0)
  | ((with_reducible refine' G.upper_R ?l ?_); (case l => walk_at "side"))
  | (with_reducible refine G.st_strAnd ?_)
  | (with_reducible refine G.st_sub ?_)
  | ((with_reducible refine' G.set_20 ?hp ?_); (case hp => first | exact L2.upd_same | walk_at "P"))
  | ((with_reducible refine' G.set_21 ?hp ?_); (case hp => first | exact L2.upd_same | walk_at "P"))
  | ((with_reducible refine' G.set_at ?hp ?hi ?_); (case hp => first | exact L2.upd_same | walk_at "P"); (case hi => rfl))
  | with_reducible refine G.st_lst2 ?_
  | with_reducible refine G.st_shut ?_
  | with_reducible refine G.st_forR ?_
  | ((with_reducible refine' G.len_scr ?s ?_); (case s => walk_at "Q"))
  | ((with_reducible refine' G.ix_scr ?s ?h0 ?h1 ?_); (case s => walk_at "Q"); (case h0 => walk_at "side"); (case h1 => walk_at "side"); intro n0)
  | ((with_reducible refine' G.sl_scr ?s ?_); (case s => walk_at "Q"); intro v0 H0 s0 r0)
  | (with_reducible refine' G.st_disp1 ?_; intro v0 H0 s0 r0)
  | walk_at "c"
  | fail "no step")
local macro_rules | `(tactic| walk_at "r") => `(tactic| repeat' (walk_at "s"))

local macro_rules | `(tactic| walk_at "side") => `(tactic| first | exact G.nm_a (by with_reducible assumption) | exact G.fm_a (by with_reducible assumption) | exact G.nm_b (by with_reducible assumption) | exact G.nm_c (by with_reducible assumption) | fail)
local macro_rules | `(tactic| walk_at "c") => `(tactic| ((with_reducible refine' G.use_name ?hp ?_); (case hp => walk_at "P"); intro z0 H0 s0 hz0))
local macro_rules | `(tactic| walk_at "c") => `(tactic| ((with_reducible refine' G.use_form ?hp ?_); (case hp => walk_at "P"); intro z0 H0 s0 hz0))
local macro_rules | `(tactic| walk_at "c") => `(tactic| ((with_reducible refine' G.use_pool ?hp ?_); (case hp => walk_at "P"); intro v0 fs0 gs0 ns0 H0 s0 ok0 r0))
local macro_rules | `(tactic| walk_at "c") => `(tactic| ((with_reducible refine' G.use_leaf ?hp ?r ?ok ?h0 ?h1 ?_); (case hp => walk_at "P"); (case r => walk_at "R"); (case ok => with_reducible assumption); (case h0 => walk_at "side"); (case h1 => walk_at "side"); intro v0 t0 H0 s0 r0 ht0 hd0 hs0))
local macro_rules | `(tactic| walk_at "c") => `(tactic| ((with_reducible refine' G.use_term ?hp ?r ?ok ?h0 ?h1 ?e0 ?e1 ?_); (case hp => walk_at "P"); (case r => walk_at "R"); (case ok => with_reducible assumption); (case h0 => walk_at "side"); (case h1 => walk_at "side"); (case e0 => walk_at "side"); (case e1 => walk_at "side"); intro v0 t0 H0 s0 r0 ht0 hd0 hs0))
local macro_rules | `(tactic| walk_at "c") => `(tactic| ((with_reducible refine' G.use_tall ?hp ?r ?ok ?rt ?ht ?h0 ?h1 ?_); (case hp => walk_at "P"); (case r => walk_at "R"); (case ok => with_reducible assumption); (case rt => walk_at "R"); (case ht => with_reducible assumption); (case h0 => walk_at "side"); (case h1 => walk_at "side"); intro v0 t0 H0 s0 r0 ht0 hd0 hs0))
local macro_rules | `(tactic| walk_at "c") => `(tactic| ((with_reducible refine' G.use_anyT ?hp ?r ?ok ?h0 ?h1 ?_); (case hp => walk_at "P"); (case r => walk_at "R"); (case ok => with_reducible assumption); (case h0 => walk_at "side"); (case h1 => walk_at "side"); intro v0 t0 H0 s0 r0 ht0 hd0 hs0))

local macro_rules | `(tactic| walk_at "w") => `(tactic| first
  | with_reducible refine G.st_BM0 ?_
  | with_reducible refine G.st_BM ?_
  | ((with_reducible refine' G.st_tyl ?hl ?_); (case hl => walk_at "P"))
  | ((with_reducible refine' G.popR ?hl ?ra ?hn ?_); (case hl => walk_at "P"); (case ra => with_reducible assumption); (case hn => with_reducible assumption); intro v0 ws0 H0 x0 hl0 ra0 r0)
  | ((with_reducible refine' G.extR ?hl ?ra ?r ?hz ?hn ?hn' ?_); (case hl => walk_at "P"); (case ra => first | with_reducible assumption | exact G.ra_mono (by with_reducible assumption) (by walk_at "S")); (case r => walk_at "R"); (case hz => walk_at "side"); (case hn => walk_at "nol"); (case hn' => walk_at "nol"); intro ws0 H0 x0 hl0 ra0)
  | ((with_reducible refine' G.gtup2 ?r ?_); (case r => walk_at "R"); intro v1 v2 r1 r2)
  | with_reducible refine G.st_asgT ?_
  | with_reducible refine G.int_bl ?_
  | with_reducible refine G.max_2 ?_
  | ((with_reducible refine' G.st_aug ?hx ?_); (case hx => rfl))
  | with_reducible refine G.ipI_int ?_
  | with_reducible refine G.whB ?_
  | with_reducible refine G.st_lstF ?_
  | ((with_reducible refine' G.st_newLF ?r ?l ?_); (case r => walk_at "A"); (case l => first | exact Nat.le_of_ble_eq_true rfl | walk_at "side"); intro p0 H0 f0 s0 hl0 ra0)
  | fail "no step")
local macro_rules | `(tactic| walk_at "nol") => `(tactic| first | with_reducible assumption | rfl | exact G.Th.noL _ | exact G.Th.noLs _)
local macro_rules | `(tactic| walk_at "c") => `(tactic| walk_at "w")

local macro_rules | `(tactic| walk_at "c") => `(tactic| first
  | with_reducible refine G.neg_i ?_
  | with_reducible refine G.st_BMs ?_
  | with_reducible refine G.st_tys ?_
  | with_reducible refine G.st_gcons ?_
  | with_reducible refine G.st_gnil ?_
  | with_reducible refine G.st_gname ?_
  | with_reducible refine G.st_gsub ?_
  | ((with_reducible refine' G.iC ?hc ?_); (case hc => show (0 : Int) < _; decide +kernel))
  | ((with_reducible refine' G.ix_scrLast ?hs ?h1 ?_); (case hs => walk_at "Q"); (case h1 => walk_at "side"); intro n0)
  | ((with_reducible refine' G.divmodR ?h0 ?h1 ?_); (case h0 => walk_at "side"); (case h1 => walk_at "side"); intro p0 H0 f0 e0)
  | (with_reducible refine G.absR ?_; intro j0)
  | fail "no step")

local macro_rules | `(tactic| walk_at "B") => `(tactic| first | with_reducible assumption | exact G.bk_keep (by with_reducible assumption) (by walk_at "S"))
local macro_rules | `(tactic| walk_at "c") => `(tactic| first
  | ((with_reducible refine' G.use_nextU ?hp ?h0 ?h1 ?_); (case hp => walk_at "P"); (case h0 => walk_at "side"); (case h1 => walk_at "side"); intro r0 H0 s0 hr0 hr1)
  | ((with_reducible refine' G.ix_b1 ?h ?_); (case h => walk_at "B"); intro af0 lb0 lc0 hf0 rb0 rc0)
  | ((with_reducible refine' G.ix_b2 ?h ?_); (case h => walk_at "B"); intro v0 r0)
  | ((with_reducible refine' G.ix_b3 ?h ?_); (case h => walk_at "B"); intro v0 r0)
  | ((with_reducible refine' G.ix_b5 ?h ?_); (case h => walk_at "B"); intro v0 r0)
  | with_reducible refine G.st_dget ?_
  | with_reducible refine G.st_dget2 ?_
  | with_reducible refine G.st_lcLT ?_
  | with_reducible refine G.st_lcET ?_
  | with_reducible refine G.st_lcETT ?_
  | with_reducible refine G.st_forL ?_
  | with_reducible refine G.st_forE ?_
  | with_reducible refine G.st_forT ?_
  | fail "no step")
local macro_rules | `(tactic| walk_at "u") => `(tactic| repeat' ((fail_if_success (with_reducible refine G.st_if ?_)); walk_at "s"))
local macro_rules | `(tactic| walk_at "c") => `(tactic| (with_reducible refine G.minR ?_; intro m0 hm0 hm1 hm2))

namespace G
open PySem PySem.Spec PyProof.Rows L2
section
variable {P : Program} {w : World} {K : PySem.W.Frag} {mg : Str → Option Value} {base : Heap} {k n : Nat}
theorem ok_l_said (T : Tp K mg) (c_l_next : Cal P w K mg base k "_law_next" spNext) (c_l_term : Cal P w K mg base k "_law_term" (spTermK K 3)) (c_l_said : Cal P w K mg base k "_law_said" (spSaid K n)) : Cal P w K mg base (k + 1) "_law_said" (spSaid K (n + 1)) := by
  refine T.d_l_said.cal sc_l_said (fun vs H Q E h => ?_) (fun f cdv A outer s H vs Q E hr h => ?_)
  · obtain ⟨p, v, vt, vi, g, xs, is, e, rfl, _⟩ := h; rfl
  obtain ⟨p, v, vt, vi, g, xs, is, e, rfl, hp, hb, ok, hw, rt, ri, lx, li, nx, h0, h1, q⟩ := h
  have sc := @sc_l_said
  refine ⟨_, (pss_cons (ps_set (i := 5) sc.nd rfl (Or.inl rfl) (pe_c c_l_next hr (Nat.le_refl _) rfl (pa_cons (pv 0) (pa_cons pe_int pa_nil))))
      (pss_cons (ps_if (pt_cmpR (op_eqK K hr) (pv 5) pe_int (nomark _)) (pss_one (ps_ret (pe_tupK K (pa_cons pe_str pa_nil)))) pss_nil)
      (pss_cons (ps_if (pt_cmpR (op_eqK K hr) (pv 5) pe_int (nomark _)) (pss_cons (ps_asg (pe_ix (ix_K K) (pe_ix (ix_K K) (pv 1) pe_int (fun _ _ => rfl)) (pe_c c_l_next hr (Nat.le_refl _) rfl (pa_cons (pv 0) (pa_cons (pe_callB (len_K K) rfl T.n_len bt_len (pa_cons (pe_ix (ix_K K) (pv 1) pe_int (fun _ _ => rfl)) pa_nil)) pa_nil))) (fun _ _ => rfl)) (gtK K (pg_tup (n := 2) rfl (pgs_cons (pg_name (i := 6) sc.nd rfl (Or.inl rfl)) (pgs_cons (pg_name (i := 7) sc.nd rfl (Or.inl rfl)) pgs_nil)))))
      (pss_cons (ps_setLc (i := 8) (own := [("_law_kind", 9)]) (g := gName 9) (tt := tYes) rfl sc.nd rfl rfl (sw_true rfl rfl rfl (by decide +kernel)) (pi_tupK K (pv 7)) (blkOk_by (N := n_l_said) (sc := defScope s_l_said) (by decide +kernel)) (fun _ _ _ _ _ => pg_name (i := 9) sc.nd rfl (Or.inl rfl)) (fun _ _ _ _ _ => pts_nil) (fun _ _ _ _ _ => pe_hide (pe_c c_l_term hr (Nat.le_refl _) rfl (pa_cons (pv 0) (pa_cons (pv 1) (pa_cons (pv 9) (pa_cons (pv 2) (pa_cons (pv 3) (pa_cons (pe_callB (call_min2R rfl) rfl T.n_min bt_min (pa_cons pe_int (pa_cons (pv 4) pa_nil))) (pa_cons pe_non pa_nil))))))))))
      (pss_one (ps_ret (pe_tupK K (pa_cons pe_str (pa_cons (pv 6) (pa_cons (tupleOf_K K rfl T.n_tuple (pv 8)) pa_nil)))))))) pss_nil)
      (pss_cons (ps_set (i := 9) sc.nd rfl (Or.inl rfl) (pe_ix (ix_K K) (pe_ix (ix_K K) (pv 1) pe_int (fun _ _ => rfl)) (pe_c c_l_next hr (Nat.le_refl _) rfl (pa_cons (pv 0) (pa_cons pe_int pa_nil))) (fun _ _ => rfl)))
      (pss_cons (ps_if (PW.pt (pw_or (pt_cmpR op_lt (pv 5) pe_int (nomark _)) (pw_or1 (pt_cmpR (op_eqK K hr) (pv 4) pe_int (nomark _))))) (pss_cons (ps_set (i := 10) sc.nd rfl (Or.inl rfl) (pe_c c_l_term hr (Nat.le_refl _) rfl (pa_cons (pv 0) (pa_cons (pv 1) (pa_cons (pv 9) (pa_cons (pv 2) (pa_cons (pv 3) (pa_cons (pe_callB (call_min2R rfl) rfl T.n_min bt_min (pa_cons pe_int (pa_cons (pv 4) pa_nil))) (pa_cons pe_non pa_nil)))))))))
      (pss_one (ps_ret (pe_tupK K (pa_cons pe_str (pa_cons (pv 10) (pa_cons (pe_c c_l_term hr (Nat.le_refl _) rfl (pa_cons (pv 0) (pa_cons (pv 1) (pa_cons (pv 9) (pa_cons (pv 2) (pa_cons (pv 3) (pa_cons (pe_callB (call_min2R rfl) rfl T.n_min bt_min (pa_cons pe_int (pa_cons (pv 4) pa_nil))) (pa_cons pe_non pa_nil)))))))) pa_nil))))))) pss_nil)
      (pss_cons (ps_if (pt_cmpR op_lt (pv 5) pe_int (nomark _)) (pss_one (ps_ret (pe_tupK K (pa_cons (pe_ix (ix_K K) (pe_lstK K (pa_cons pe_str (pa_cons pe_str pa_nil))) (pe_op op_sub (pv 5) pe_int) (fun _ _ => rfl)) (pa_cons (pv 9) (pa_cons (pe_c c_l_said hr (Nat.le_refl _) rfl (pa_cons (pv 0) (pa_cons (pv 1) (pa_cons (pv 2) (pa_cons (pe_op (op_addK K) (pe_lstK K (pa_cons (pv 9) pa_nil)) (pv 3)) (pa_cons (pe_op op_sub (pv 4) pe_int) pa_nil)))))) pa_nil)))))) pss_nil)
      (pss_cons (ps_set (i := 6) sc.nd rfl (Or.inl rfl) (pe_ix (ix_K K) (pe_lstK K (pa_cons pe_str (pa_cons pe_str (pa_cons pe_str pa_nil)))) (pe_c c_l_next hr (Nat.le_refl _) rfl (pa_cons (pv 0) (pa_cons pe_int pa_nil))) (fun _ _ => rfl)))
      (pss_cons (ps_set (i := 10) sc.nd rfl (Or.inl rfl) (pe_c c_l_said hr (Nat.le_refl _) rfl (pa_cons (pv 0) (pa_cons (pv 1) (pa_cons (pv 2) (pa_cons (pv 3) (pa_cons (pe_op op_sub (pv 4) pe_int) pa_nil)))))))
      (pss_one (ps_ret (pe_tupK K (pa_cons (pv 6) (pa_cons (pv 10) (pa_cons (pe_c c_l_said hr (Nat.le_refl _) rfl (pa_cons (pv 0) (pa_cons (pv 1) (pa_cons (pv 2) (pa_cons (pv 3) (pa_cons (pe_op op_sub (pv 4) pe_int) pa_nil)))))) pa_nil)))))))))))))), ?_⟩
  have zd := szD_pos e.toNat
  have oo : OwnOk g is none := ⟨fun _ _ _ _ h => by cases h⟩
  have hwl : ((g.words.map formD).length : Int) = g.words.length := by rw [List.length_map]
  have hwl2 := ok.wl
  walk_at "u"
  rename_i way H1 s1 hw0 hw1
  refine if_joinA (way ≠ 0) (fun P hP => ?_) fun hwy H2 s2 => ?_
  · walk_at "r"
    · rename_i hway v2 H2 s2 r2
      exact q _ .fls _ (by walk_at "S") r2 True.intro (by simp [Th.dep]) (by simp only [Th.sz]; omega)
    · exact hP (by assumption) _ (by walk_at "S")
  walk_at "u"
  refine if_joinA (way ≠ 1) (fun P hP => ?_) fun hwy1 H3 s3 => ?_
  · walk_at "r"
    · rename_i vw dw hdw rw0
      rw [List.getElem?_map] at hdw
      obtain ⟨⟨c, ps⟩, hcp, rfl⟩ := Option.map_eq_some_iff.mp hdw
      have hcm := List.mem_of_getElem? hcp
      obtain ⟨wn1, wn2, wn3⟩ := ok.wn _ hcm
      refine gtup2 (d1 := .str c) (d2 := partsD ps) rw0 fun u1 u2 q1 q2 => ?_
      obtain rfl := q1.inv_str
      walk_at "r"
      refine lc_T (K := K) (fun i e' => ∃ t : Th, e' = t.d ∧ ∃ k, ps[i]? = some k ∧ t.kd g g.calls xs is k ∧ t.dep ≤ 4 ∧ t.sz ≤ 53) q2 (by rw [List.length_map]; have : ps.length ≤ 4 := wn2; omega) (fun _ => rfl) (fun i v d H13 hd rv s13 Qt hQ => ?_) (fun v13 H13 es s13 r13 hl13 hP13 => ?_)
      · rw [List.getElem?_map] at hd
        obtain ⟨k1, hk1, rfl⟩ := Option.map_eq_some_iff.mp hd
        obtain rfl := rv.inv_str
        walk_at "r"
        rename_i m hm1 hm2 hm3
        refine use_termK (o := none) (by walk_at "P") (by walk_at "B") ok (wn3 k1 (List.mem_of_getElem? hk1)) (rt.mono (by walk_at "S")) (ri.mono (by walk_at "S")) .non oo lx (by omega) nx (by omega) (by omega) fun u t H14 s14 ru hkd hd2 hs2 => ?_
        exact hQ _ _ _ (by walk_at "S") ru ⟨t, rfl, k1, hk1, hkd, by omega, Nat.le_trans hs2 (szK_mono (by omega : m.toNat ≤ 2))⟩
      obtain ⟨ts, rfl, hkds, hdp, hsz2⟩ := terms_of (by rw [hl13, List.length_map]) hP13
      have hz3 : ps.length * 53 ≤ 4 * 53 := Nat.mul_le_mul_right _ wn2
      walk_at "r"
      rename_i v14 H14 s14 r14 v15 H15 s15 r15
      refine q _ (.app .atom c ts) _ (by walk_at "S") r15 ⟨ps, hcm, hkds⟩ ?_ ?_
      · simp only [Th.dep]; omega
      · simp only [Th.sz]; omega
    · exact hP (by assumption) _ (by walk_at "S")
  have hkl : (g.kinds.length : Int) = 3 := rfl
  walk_at "u"
  rename_i yk r4 rk H4 s4 hrk0 hrk1 kk hkk
  refine if_joinA (4 ≤ way ∧ e ≠ 0) (fun P hP => ?_) fun hwy4 H5 s5 => ?_
  · walk_at "r"
    all_goals first
      | exact hP ⟨by omega, by assumption⟩ _ (by walk_at "S")
      | (rename_i m hm1 hm2 hm3
         refine use_termK (o := none) (by walk_at "P") (by walk_at "B") ok hkk (rt.mono (by walk_at "S")) (ri.mono (by walk_at "S")) .non oo lx (by omega) nx (by omega) (by omega) fun u1 t1 Ha sa ra k1 d1 z1 => ?_
         have z1' := Nat.le_trans z1 (szK_mono (by omega : m.toNat ≤ 2))
         have zz : szK 2 = 53 := rfl
         walk_at "r"
         rename_i m2 hm4 hm5 hm6
         refine use_termK (o := none) (by walk_at "P") (by walk_at "B") ok hkk (rt.mono (by walk_at "S")) (ri.mono (by walk_at "S")) .non oo lx (by omega) nx (by omega) (by omega) fun u2 t2 Hb sb rb k2 d2 z2 => ?_
         have z2' := Nat.le_trans z2 (szK_mono (by omega : m2.toNat ≤ 2))
         walk_at "r"
         rename_i v9 H9 s9 r9
         exact q _ (.two .same t1 t2) _ (by walk_at "S") r9 ⟨kk, hkk, k1, k2⟩ (by simp only [Th.dep]; omega) (by simp only [Th.sz]; omega))
  have he1 : szD e.toNat = 1 + 2 * szD (e - 1).toNat := by
    have : e.toNat = (e - 1).toNat + 1 := by omega
    rw [this]; rfl
  have zd1 := szD_pos (e - 1).toNat
  walk_at "u"
  refine if_joinA True (fun P hP => ?_) fun _ H6 s6 => ?_
  · walk_at "r"
    · rename_i va Ha sa ra vq dq hdq rq vb Hb sb rb vc Hc scc rc
      have hq : ∃ w : QW, dq = .str w.s := by
        have hm := List.mem_of_getElem? hdq
        simp only [List.mem_cons, List.not_mem_nil, or_false] at hm
        rcases hm with rfl | rfl
        · exact ⟨.all, rfl⟩
        · exact ⟨.some, rfl⟩
      obtain ⟨w, rfl⟩ := hq
      obtain rfl := rq.inv_str
      refine use_said (is := kk :: is) (by walk_at "P") (by walk_at "B") ok hw (rt.mono (by walk_at "S")) rc lx (by rw [List.length_cons]; omega) nx (by omega) (by omega) fun u t Hd sd rd kt dt zt => ?_
      walk_at "r"
      rename_i v9 H9 s9 r9
      exact q _ (.qua w kk t) _ (by walk_at "S") r9 ⟨hkk, kt⟩ (by simp only [Th.dep]; omega) (by simp only [Th.sz]; omega)
    · exact hP True.intro _ (by walk_at "S")
  walk_at "r"
  rename_i va Ha sa ra rn Hb sb hrn0 hrn1 vq dq hdq rq
  have hq : ∃ w : BW, dq = .str w.s ∧ (w = .and ∨ w = .or ∨ w = .iff) := by
    have hm := List.mem_of_getElem? hdq
    simp only [List.mem_cons, List.not_mem_nil, or_false] at hm
    rcases hm with rfl | rfl | rfl
    · exact ⟨.and, rfl, .inl rfl⟩
    · exact ⟨.or, rfl, .inr (.inl rfl)⟩
    · exact ⟨.iff, rfl, .inr (.inr rfl)⟩
  obtain ⟨w, rfl, hwi⟩ := hq
  obtain rfl := rq.inv_str
  refine use_said (by walk_at "P") (by walk_at "B") ok hw (rt.mono (by walk_at "S")) (ri.mono (by walk_at "S")) lx (by omega) nx (by omega) (by omega) fun u1 t1 Hc scc rc k1 d1 z1 => ?_
  walk_at "r"
  refine use_said (by walk_at "P") (by walk_at "B") ok hw (rt.mono (by walk_at "S")) (ri.mono (by walk_at "S")) lx (by omega) nx (by omega) (by omega) fun u2 t2 Hd sd rd k2 d2 z2 => ?_
  walk_at "r"
  rename_i v9 H9 s9 r9
  refine q _ (.two w t1 t2) _ (by walk_at "S") r9 ?_ (by simp only [Th.dep]; omega) (by simp only [Th.sz]; omega)
  rcases hwi with rfl | rfl | rfl <;> exact ⟨k1, k2⟩
theorem said_n (T : Tp K mg) : ∀ n : Nat, Cal P w K mg base (n + 8) "_law_said" (spSaid K n)
  | 0 => T.d_l_said.none fun vs H Q E h => by obtain ⟨p, v, vt, vi, g, xs, is, e, _, _, _, _, _, _, _, _, _, _, h0, h1, _⟩ := h; omega
  | n + 1 => ok_l_said T ((ok_l_next (k := 0) T).lift (by omega)) ((termK_n T 3).lift (by omega)) (said_n T n)

end
end G

end

section
/-! the words of the walk: S (a heap keeps), R (a value stands for data), A (a row of them), no (a way that cannot be), s (one step), r (all steps) -/
local macro_rules | `(tactic| walk_at "S") => `(tactic| first | exact L2.Same.refl _ | assumption | exact G.sm_tr (by assumption) (by walk_at "S"))
local macro_rules | `(tactic| walk_at "R") => `(tactic| first
  | with_reducible exact G.R.int _ | with_reducible exact G.R.str _ | with_reducible exact G.R.bl _ | with_reducible exact G.R.non
  | with_reducible assumption
  | exact G.r_mono (by with_reducible assumption) (by walk_at "S")
  | ((with_reducible refine' G.R.lst L2.upd_same ?rl); (case rl => walk_at "A")))
local macro_rules | `(tactic| walk_at "A") => `(tactic| first | with_reducible exact G.RA.nil | ((with_reducible refine' G.RA.cons ?ra ?rb); (case ra => walk_at "R"); (case rb => walk_at "A")))
local macro_rules | `(tactic| walk_at "no") => `(tactic| first | contradiction | omega)
local macro_rules | `(tactic| walk_at "side") => `(tactic| first | with_reducible rfl | with_reducible assumption | omega | exact Int.lt_of_lt_of_le (by with_reducible assumption) (by decide +kernel) | ((with_reducible refine G.le_up ?_); decide +kernel) | (simp only [List.length_cons, List.length_nil, List.getElem?_cons_zero, List.getElem?_cons_succ, List.length_map]; done) | (simp only [List.length_cons, List.length_nil, List.length_map, List.length_append] at *; omega))
local macro_rules | `(tactic| walk_at "sideC") => `(tactic| first | with_reducible assumption | (with_reducible refine G.cmul_r ⟨?_, ?_⟩ <;> decide) | (with_reducible refine G.cdiv_r ⟨?_, ?_⟩ <;> decide) | (with_reducible refine G.cmul_l ⟨?_, ?_⟩ <;> decide) | (with_reducible refine G.cpow_c ⟨?_, ?_, ?_⟩ <;> decide) | (with_reducible refine G.cmul_r ⟨?_, ?_⟩ <;> omega) | (with_reducible refine G.cdiv_r ⟨?_, ?_⟩ <;> omega) | omega)
local macro_rules | `(tactic| walk_at "got") => `(tactic| (intro v0 r0; first
  | (have e0 := G.R.inv_str r0; subst e0) | (have e0 := G.R.inv_int r0; subst e0) | (have e0 := G.R.inv_bl r0; subst e0) | (have e0 := G.R.inv_non r0; subst e0) | skip))
local macro_rules | `(tactic| walk_at "P") => `(tactic| first | with_reducible assumption | exact G.keep_at (by with_reducible assumption) (by walk_at "S"))
local macro_rules | `(tactic| walk_at "c") => `(tactic| fail)
local macro_rules | `(tactic| walk_at "Q") => `(tactic| first | with_reducible assumption | exact G.seq_keep (by with_reducible assumption) (by walk_at "S"))
local macro_rules | `(tactic| walk_at "c") => `(tactic| ((with_reducible refine' G.use_state ?hp ?h0 ?h1 ?_); (case hp => walk_at "Q"); (case h0 => walk_at "side"); (case h1 => walk_at "side"); intro p0 H0 s0 hp0))
local macro_rules | `(tactic| walk_at "c") => `(tactic| ((with_reducible refine' G.use_draw ?hp ?h0 ?h1 ?_); (case hp => walk_at "P"); (case h0 => walk_at "side"); (case h1 => walk_at "side"); intro r0 hr0 hr1))
local macro_rules | `(tactic| walk_at "s") => `(tactic| first
  | with_reducible refine G.st_seq ?_
  | ((with_reducible refine' G.st_var ?hv ?_); (case hv => exact rfl))
  | with_reducible refine G.st_c ?_
  | with_reducible refine G.st_op ?_
  | with_reducible refine G.st_bl ?_
  | with_reducible refine L2.iteT ?_
  | with_reducible refine L2.iteF ?_
  | with_reducible refine G.ite_nt ?_
  | with_reducible refine G.ite_nf ?_
  | ((with_reducible refine G.st_ite ?_ ?_) <;> (intro hb; (try simp only [decide_eq_true_eq, decide_eq_false_iff_not, Bool.not_eq_true', Bool.not_eq_false', beq_iff_eq, Bool.and_eq_true, Bool.or_eq_true, Bool.and_eq_false_iff, Bool.or_eq_false_iff, beq_eq_false_iff_ne, ne_eq, Int.not_lt, Int.not_le, Nat.not_lt, Nat.not_le] at hb); first | (exfalso; walk_at "no"; done) | skip))
  | with_reducible refine G.st_if ?_
  | with_reducible refine G.st_ret ?_
  | with_reducible refine G.st_set ?_
  | with_reducible refine G.st_call ?_
  | with_reducible refine G.st_cons ?_
  | with_reducible refine G.st_nil ?_
  | with_reducible refine G.st_CB ?_
  | with_reducible refine G.st_tTest ?_
  | with_reducible refine G.st_tB ?_
  | with_reducible refine G.st_or ?_
  | with_reducible refine G.st_and ?_
  | with_reducible refine G.st_not ?_
  | with_reducible refine G.st_orV ?_
  | with_reducible refine G.st_andV ?_
  | with_reducible refine G.st_notV ?_
  | with_reducible refine G.st_tIf ?_
  | with_reducible refine G.st_chain ?_
  | with_reducible refine G.st_un ?_
  | with_reducible refine G.st_then ?_
  | with_reducible refine G.st_slice ?_
  | with_reducible refine G.st_noPart ?_
  | with_reducible refine G.st_part ?_
  | with_reducible refine G.st_exInt ?_
  | with_reducible refine G.st_drop ?_
  | with_reducible refine G.st_next ?_
  | with_reducible refine G.st_retN ?_
  | with_reducible refine G.add_int ?_
  | with_reducible refine G.i0 ?_
  | ((with_reducible refine G.imod2 (by decide) ?_ ?_) <;> (intro hm; first | (exfalso; walk_at "no"; done) | skip))
  | ((with_reducible refine G.imod3 (by decide) ?_ ?_ ?_) <;> (intro hm; first | (exfalso; walk_at "no"; done) | skip))
  | ((with_reducible refine' G.iC ?hc ?_); (case hc => walk_at "sideC"))
  | ((with_reducible refine' G.eq_str1 ?e ?_); (case e => with_reducible rfl))
  | ((with_reducible refine' G.eq_str0 ?e ?_); (case e => decide +kernel))
  | with_reducible refine G.eq_str ?_
  | with_reducible refine G.eq_int ?_
  | with_reducible refine G.eq_bl ?_
  | with_reducible refine G.ne_str ?_
  | with_reducible refine G.ne_int ?_
  | ((with_reducible refine' G.is_none ?r ?_); (case r => walk_at "R"))
  | ((with_reducible refine' G.isnt_none ?r ?_); (case r => walk_at "R"))
  | with_reducible refine G.is_bl ?_
  | with_reducible refine G.isnt_bl ?_
  | with_reducible refine G.in_sign ?_
  | with_reducible refine G.nin_sign ?_
  | ((with_reducible refine' G.in_strsT1 ?r ?c ?e ?_); (case r => walk_at "R"); (case c => rfl); (case e => decide +kernel))
  | ((with_reducible refine' G.in_strsT0 ?r ?c ?e ?_); (case r => walk_at "R"); (case c => rfl); (case e => decide +kernel))
  | ((with_reducible refine' G.in_strsT ?r ?c ?_); (case r => walk_at "R"); (case c => rfl))
  | ((with_reducible refine' G.nin_strsT ?r ?c ?_); (case r => walk_at "R"); (case c => rfl))
  | ((with_reducible refine' G.in_intsT ?r ?c ?_); (case r => walk_at "R"); (case c => rfl))
  | ((with_reducible refine' G.nin_intsT ?r ?c ?_); (case r => walk_at "R"); (case c => rfl))
  | ((with_reducible refine' G.add_str ?l ?_); (case l => walk_at "side"))
  | ((with_reducible refine' G.add_tup ?r ?s ?l ?_); (case r => walk_at "R"); (case s => walk_at "R"); (case l => walk_at "side"); intro v0 H0 s0 r0)
  | ((with_reducible refine' G.add_lst ?r ?s ?l ?_); (case r => walk_at "R"); (case s => walk_at "R"); (case l => walk_at "side"); intro v0 H0 s0 r0)
  | ((with_reducible refine' G.isi_1 ?r ?e ?t ?_); (case r => walk_at "R"); (case e => rfl); (case t => simp only [List.mem_cons, true_or, or_true]))
  | ((with_reducible refine' G.isi_0 ?r ?e ?t ?_); (case r => walk_at "R"); (case e => rfl); (case t => simp only [List.mem_cons, true_or, or_true]))
  | ((with_reducible refine' G.isi_R ?r ?t ?_); (case r => walk_at "R"); (case t => simp only [List.mem_cons, true_or, or_true]))
  | ((with_reducible refine' G.len_str ?l ?_); (case l => walk_at "side"))
  | ((with_reducible refine' G.len_tup ?r ?_); (case r => walk_at "R"))
  | ((with_reducible refine' G.len_lst ?r ?_); (case r => walk_at "R"))
  | (with_reducible refine G.st_tup ?_)
  | (with_reducible refine G.st_lst ?_)
  | ((with_reducible refine' G.st_newT ?r ?l ?_); (case r => walk_at "A"); (case l => first | exact Nat.le_of_ble_eq_true rfl | walk_at "side"); intro v0 H0 s0 r0)
  | ((with_reducible refine' G.st_newL ?r ?l ?_); (case r => walk_at "A"); (case l => first | exact Nat.le_of_ble_eq_true rfl | walk_at "side"); intro v0 H0 s0 r0)
  | ((with_reducible refine' G.ix_tupR ?r ?h0 ?hd ?_); (case r => walk_at "R"); (case h0 => walk_at "side"); (case hd => first | rfl | assumption); walk_at "got")
  | ((with_reducible refine' G.ix_lstR ?r ?h0 ?hd ?_); (case r => walk_at "R"); (case h0 => walk_at "side"); (case hd => first | rfl | assumption); walk_at "got")
  | ((with_reducible refine' G.ix_strR ?l ?h0 ?hd ?_); (case l => walk_at "side"); (case h0 => walk_at "side"); (case hd => first | rfl | assumption))
  | ((with_reducible refine' G.ix_strM ?l ?h0 ?h1 ?_); (case l => walk_at "side"); (case h0 => walk_at "side"); (case h1 => walk_at "side"); intro c0 hc0)
  | ((with_reducible refine' G.ix_tupN ?r ?h0 ?h1 ?_); (case r => walk_at "R"); (case h0 => walk_at "side"); (case h1 => walk_at "side"); intro v0 d0 hd0 r0)
  | ((with_reducible refine' G.ix_lstS ?r ?h0 ?h1 ?_); (case r => walk_at "R"); (case h0 => walk_at "side"); (case h1 => walk_at "side"); intro z0 hz0)
  | ((with_reducible refine' G.ix_lstN ?r ?h0 ?h1 ?_); (case r => walk_at "R"); (case h0 => walk_at "side"); (case h1 => walk_at "side"); intro v0 d0 hd0 r0)
  | ((with_reducible refine' G.sl_strR ?l ?_); (case l => walk_at "side"))
  | ((with_reducible refine' G.sl_tupR ?r ?_); (case r => walk_at "R"); intro v0 H0 s0 r0)
  | ((with_reducible refine' G.sl_lstR ?r ?_); (case r => walk_at "R"); intro v0 H0 s0 r0)
  | ((with_reducible refine' G.tupOf_L ?r ?_); (case r => walk_at "R"); intro v0 H0 s0 r0)
  | ((with_reducible refine' G.tupOf_T ?r ?_); (case r => walk_at "R"))
  | ((with_reducible refine' G.lstOf_T ?r ?_); (case r => walk_at "R"); intro v0 H0 s0 r0)
  | ((with_reducible refine' G.lstOf_L ?r ?_); (case r => walk_at "R"); intro v0 H0 s0 r0)
  | with_reducible refine G.st_lcL ?_
  | with_reducible refine G.st_lcT ?_
  | with_reducible refine G.st_lcS ?_
  | with_reducible refine G.st_lcR ?_
  | with_reducible refine G.st_M0 ?_
  | with_reducible refine G.st_M1 ?_
  | (with_reducible refine G.upper_one ?_; intro hu0)
  | ((with_reducible refine' G.upper_R ?l ?_); (case l => walk_at "side"))
  | (with_reducible refine G.st_strAnd ?_)
  | (with_reducible refine G.st_sub ?_)
  | ((with_reducible refine' G.set_20 ?hp ?_); (case hp => first | exact L2.upd_same | walk_at "P"))
  | ((with_reducible refine' G.set_21 ?hp ?_); (case hp => first | exact L2.upd_same | walk_at "P"))
  | ((with_reducible refine' G.set_at ?hp ?hi ?_); (case hp => first | exact L2.upd_same | walk_at "P"); (case hi => rfl))
  | with_reducible refine G.st_lst2 ?_
  | with_reducible refine G.st_shut ?_
  | with_reducible refine G.st_forR ?_
  | ((with_reducible refine' G.len_scr ?s ?_); (case s => walk_at "Q"))
  | ((with_reducible refine' G.ix_scr ?s ?h0 ?h1 ?_); (case s => walk_at "Q"); (case h0 => walk_at "side"); (case h1 => walk_at "side"); intro n0)
  | ((with_reducible refine' G.sl_scr ?s ?_); (case s => walk_at "Q"); intro v0 H0 s0 r0)
  | (with_reducible refine' G.st_disp1 ?_; intro v0 H0 s0 r0)
  | walk_at "c"
  | fail "no step")
local macro_rules | `(tactic| walk_at "r") => `(tactic| repeat' (walk_at "s"))

local macro_rules | `(tactic| walk_at "side") => `(tactic| first | exact G.nm_a (by with_reducible assumption) | exact G.fm_a (by with_reducible assumption) | exact G.nm_b (by with_reducible assumption) | exact G.nm_c (by with_reducible assumption) | fail)
local macro_rules | `(tactic| walk_at "c") => `(tactic| ((with_reducible refine' G.use_name ?hp ?_); (case hp => walk_at "P"); intro z0 H0 s0 hz0))
local macro_rules | `(tactic| walk_at "c") => `(tactic| ((with_reducible refine' G.use_form ?hp ?_); (case hp => walk_at "P"); intro z0 H0 s0 hz0))
local macro_rules | `(tactic| walk_at "c") => `(tactic| ((with_reducible refine' G.use_pool ?hp ?_); (case hp => walk_at "P"); intro v0 fs0 gs0 ns0 H0 s0 ok0 r0))
local macro_rules | `(tactic| walk_at "c") => `(tactic| ((with_reducible refine' G.use_leaf ?hp ?r ?ok ?h0 ?h1 ?_); (case hp => walk_at "P"); (case r => walk_at "R"); (case ok => with_reducible assumption); (case h0 => walk_at "side"); (case h1 => walk_at "side"); intro v0 t0 H0 s0 r0 ht0 hd0 hs0))
local macro_rules | `(tactic| walk_at "c") => `(tactic| ((with_reducible refine' G.use_term ?hp ?r ?ok ?h0 ?h1 ?e0 ?e1 ?_); (case hp => walk_at "P"); (case r => walk_at "R"); (case ok => with_reducible assumption); (case h0 => walk_at "side"); (case h1 => walk_at "side"); (case e0 => walk_at "side"); (case e1 => walk_at "side"); intro v0 t0 H0 s0 r0 ht0 hd0 hs0))
local macro_rules | `(tactic| walk_at "c") => `(tactic| ((with_reducible refine' G.use_tall ?hp ?r ?ok ?rt ?ht ?h0 ?h1 ?_); (case hp => walk_at "P"); (case r => walk_at "R"); (case ok => with_reducible assumption); (case rt => walk_at "R"); (case ht => with_reducible assumption); (case h0 => walk_at "side"); (case h1 => walk_at "side"); intro v0 t0 H0 s0 r0 ht0 hd0 hs0))
local macro_rules | `(tactic| walk_at "c") => `(tactic| ((with_reducible refine' G.use_anyT ?hp ?r ?ok ?h0 ?h1 ?_); (case hp => walk_at "P"); (case r => walk_at "R"); (case ok => with_reducible assumption); (case h0 => walk_at "side"); (case h1 => walk_at "side"); intro v0 t0 H0 s0 r0 ht0 hd0 hs0))

local macro_rules | `(tactic| walk_at "w") => `(tactic| first
  | with_reducible refine G.st_BM0 ?_
  | with_reducible refine G.st_BM ?_
  | ((with_reducible refine' G.st_tyl ?hl ?_); (case hl => walk_at "P"))
  | ((with_reducible refine' G.popR ?hl ?ra ?hn ?_); (case hl => walk_at "P"); (case ra => with_reducible assumption); (case hn => with_reducible assumption); intro v0 ws0 H0 x0 hl0 ra0 r0)
  | ((with_reducible refine' G.extR ?hl ?ra ?r ?hz ?hn ?hn' ?_); (case hl => walk_at "P"); (case ra => first | with_reducible assumption | exact G.ra_mono (by with_reducible assumption) (by walk_at "S")); (case r => walk_at "R"); (case hz => walk_at "side"); (case hn => walk_at "nol"); (case hn' => walk_at "nol"); intro ws0 H0 x0 hl0 ra0)
  | ((with_reducible refine' G.gtup2 ?r ?_); (case r => walk_at "R"); intro v1 v2 r1 r2)
  | with_reducible refine G.st_asgT ?_
  | with_reducible refine G.int_bl ?_
  | with_reducible refine G.max_2 ?_
  | ((with_reducible refine' G.st_aug ?hx ?_); (case hx => rfl))
  | with_reducible refine G.ipI_int ?_
  | with_reducible refine G.whB ?_
  | with_reducible refine G.st_lstF ?_
  | ((with_reducible refine' G.st_newLF ?r ?l ?_); (case r => walk_at "A"); (case l => first | exact Nat.le_of_ble_eq_true rfl | walk_at "side"); intro p0 H0 f0 s0 hl0 ra0)
  | fail "no step")
local macro_rules | `(tactic| walk_at "nol") => `(tactic| first | with_reducible assumption | rfl | exact G.Th.noL _ | exact G.Th.noLs _)
local macro_rules | `(tactic| walk_at "c") => `(tactic| walk_at "w")

local macro_rules | `(tactic| walk_at "c") => `(tactic| first
  | with_reducible refine G.neg_i ?_
  | with_reducible refine G.st_BMs ?_
  | with_reducible refine G.st_tys ?_
  | with_reducible refine G.st_gcons ?_
  | with_reducible refine G.st_gnil ?_
  | with_reducible refine G.st_gname ?_
  | with_reducible refine G.st_gsub ?_
  | ((with_reducible refine' G.iC ?hc ?_); (case hc => show (0 : Int) < _; decide +kernel))
  | ((with_reducible refine' G.ix_scrLast ?hs ?h1 ?_); (case hs => walk_at "Q"); (case h1 => walk_at "side"); intro n0)
  | ((with_reducible refine' G.divmodR ?h0 ?h1 ?_); (case h0 => walk_at "side"); (case h1 => walk_at "side"); intro p0 H0 f0 e0)
  | (with_reducible refine G.absR ?_; intro j0)
  | fail "no step")

local macro_rules | `(tactic| walk_at "B") => `(tactic| first | with_reducible assumption | exact G.bk_keep (by with_reducible assumption) (by walk_at "S"))
local macro_rules | `(tactic| walk_at "c") => `(tactic| first
  | ((with_reducible refine' G.use_nextU ?hp ?h0 ?h1 ?_); (case hp => walk_at "P"); (case h0 => walk_at "side"); (case h1 => walk_at "side"); intro r0 H0 s0 hr0 hr1)
  | ((with_reducible refine' G.ix_b1 ?h ?_); (case h => walk_at "B"); intro af0 lb0 lc0 hf0 rb0 rc0)
  | ((with_reducible refine' G.ix_b2 ?h ?_); (case h => walk_at "B"); intro v0 r0)
  | ((with_reducible refine' G.ix_b3 ?h ?_); (case h => walk_at "B"); intro v0 r0)
  | ((with_reducible refine' G.ix_b5 ?h ?_); (case h => walk_at "B"); intro v0 r0)
  | with_reducible refine G.st_dget ?_
  | with_reducible refine G.st_dget2 ?_
  | with_reducible refine G.st_lcLT ?_
  | with_reducible refine G.st_lcET ?_
  | with_reducible refine G.st_lcETT ?_
  | with_reducible refine G.st_forL ?_
  | with_reducible refine G.st_forE ?_
  | with_reducible refine G.st_forT ?_
  | fail "no step")
local macro_rules | `(tactic| walk_at "u") => `(tactic| repeat' ((fail_if_success (with_reducible refine G.st_if ?_)); walk_at "s"))
local macro_rules | `(tactic| walk_at "c") => `(tactic| (with_reducible refine G.minR ?_; intro m0 hm0 hm1 hm2))

namespace G
open PySem PySem.Spec PyProof.Rows L2
section
variable {P : Program} {w : World} {K : PySem.W.Frag} {mg : Str → Option Value} {base : Heap} {k n : Nat}
theorem ok_l_planted (T : Tp K mg) (c_l_planted : Cal P w K mg base k "_law_planted" (spPlant K n)) : Cal P w K mg base (k + 1) "_law_planted" (spPlant K (n + 1)) := by
  refine T.d_l_planted.cal sc_l_planted (fun vs H Q E h => ?_) (fun f cdv A outer s H vs Q E hr h => ?_)
  · obtain ⟨v, vt, u, t, x, rfl, _⟩ := h; rfl
  obtain ⟨v, vt, u, t, x, rfl, r, rt, hx, lay, hd, hz, q⟩ := h
  have sc := @sc_l_planted
  refine ⟨_, (pss_cons (ps_if (pt_cmpR (op_eqK K hr) (pv 0) (pe_tupK K (pa_cons pe_str (pa_cons (pv 1) pa_nil))) (nomark _)) (pss_one (ps_ret (pv 2))) pss_nil)
      (pss_cons (ps_if (pt_cmpR (op_inK K) (pe_ix (ix_K K) (pv 0) pe_int (fun _ _ => rfl)) (pe_tupK K (pa_cons pe_str (pa_cons pe_str (pa_cons pe_str pa_nil)))) rfl) (pss_one (ps_ret (pv 0))) pss_nil)
      (pss_cons (ps_if (pt_cmpR (op_inK K) (pe_ix (ix_K K) (pv 0) pe_int (fun _ _ => rfl)) (pe_tupK K (pa_cons pe_str (pa_cons pe_str (pa_cons pe_str pa_nil)))) rfl) (pss_one (ps_ret (pe_tupK K (pa_cons (pe_ix (ix_K K) (pv 0) pe_int (fun _ _ => rfl)) (pa_cons (pe_ix (ix_K K) (pv 0) pe_int (fun _ _ => rfl)) (pa_cons (tupleOf_K K rfl T.n_tuple (pe_lc (own := [("_law_part", 3)]) (g := gName 3) (tt := tYes) rfl sc.nd (pi_tupK K (pe_ix (ix_K K) (pv 0) pe_int (fun _ _ => rfl))) (blkOk_by (N := n_l_planted) (sc := defScope s_l_planted) (by decide +kernel)) (fun _ _ _ _ _ => pg_name (i := 3) sc.nd rfl (Or.inl rfl)) (fun _ _ _ _ _ => pts_nil) (fun _ _ _ _ _ => pe_hide (pe_c c_l_planted hr (Nat.le_refl _) rfl (pa_cons (pv 3) (pa_cons (pv 1) (pa_cons (pv 2) pa_nil))))))) pa_nil)))))) pss_nil)
      (pss_cons (ps_if (pt_cmpR (op_inK K) (pe_ix (ix_K K) (pv 0) pe_int (fun _ _ => rfl)) (pe_tupK K (pa_cons pe_str (pa_cons pe_str pa_nil))) rfl) (pss_one (ps_ret (pe_tupK K (pa_cons (pe_ix (ix_K K) (pv 0) pe_int (fun _ _ => rfl)) (pa_cons (pe_ix (ix_K K) (pv 0) pe_int (fun _ _ => rfl)) (pa_cons (pe_c c_l_planted hr (Nat.le_refl _) rfl (pa_cons (pe_ix (ix_K K) (pv 0) pe_int (fun _ _ => rfl)) (pa_cons (pv 1) (pa_cons (pv 2) pa_nil)))) pa_nil)))))) pss_nil)
      (pss_one (ps_ret (pe_tupK K (pa_cons (pe_ix (ix_K K) (pv 0) pe_int (fun _ _ => rfl)) (pa_cons (pe_c c_l_planted hr (Nat.le_refl _) rfl (pa_cons (pe_ix (ix_K K) (pv 0) pe_int (fun _ _ => rfl)) (pa_cons (pv 1) (pa_cons (pv 2) pa_nil)))) (pa_cons (pe_c c_l_planted hr (Nat.le_refl _) rfl (pa_cons (pe_ix (ix_K K) (pv 0) pe_int (fun _ _ => rfl)) (pa_cons (pv 1) (pa_cons (pv 2) pa_nil)))) pa_nil)))))))))), ?_⟩
  have layf : (PyData.tuple [.str "free", .str x]).canLay0 = true := by simp [PyData.canLay0, PyData.canLayAll0, free_ok, name_ok hx]
  cases u with
  | free y =>
    have r' : R K H v (.tuple [.str "free", .str y]) := r
    walk_at "r"
    rename_i v1 H1 s1 r1
    refine eq_R (r'.mono s1) r1 lay layf (by show min _ 1 ≤ 190; omega) ?_
    rw [show PyData.eqv (.tuple [.str "free", .str y]) (.tuple [.str "free", .str x]) = decide (y = x) from eqv_ff y x]
    by_cases e : y = x
    · rw [decide_eq_true e]
      walk_at "r"
      exact q _ _ (by walk_at "S") (by unfold Th.plant; rw [if_pos e]; exact rt.mono (by walk_at "S"))
    · rw [decide_eq_false e]
      walk_at "r"
      exact q _ _ (by walk_at "S") (by unfold Th.plant; rw [if_neg e]; exact r.mono (by walk_at "S"))
  | bnd j =>
    have r' : R K H v (.tuple [.str "bound", .int (j : Int)]) := r
    walk_at "r"
    rename_i v1 H1 s1 r1
    refine eq_R (r'.mono s1) r1 lay layf (by show min _ 1 ≤ 190; omega) ?_
    rw [show PyData.eqv (.tuple [.str "bound", .int (j : Int)]) (.tuple [.str "free", .str x]) = false from eqv_bf x j]
    walk_at "r"
    exact q _ _ (by walk_at "S") (r.mono (by walk_at "S"))
  | fls =>
    have r' : R K H v (.tuple [.str "false"]) := r
    walk_at "r"
    rename_i v1 H1 s1 r1
    refine eq_R (r'.mono s1) r1 lay layf (by show min _ 1 ≤ 190; omega) ?_
    rw [show PyData.eqv (.tuple [.str "false"]) (.tuple [.str "free", .str x]) = false from eqv_free .fls]
    walk_at "r"
    exact q _ _ (by walk_at "S") (r.mono (by walk_at "S"))
  | app w c args =>
    have r' : R K H v (.tuple [.str w.s, .str c, .tuple (Th.ds args)]) := r
    simp only [Th.dep] at hd
    simp only [Th.sz] at hz
    have hal := len_szs args
    have hdl := ds_len args
    have layA : ∀ a ∈ args, a.d.canLay0 = true := by
      have h := lay
      simp only [Th.d, PyData.canLay0, PyData.canLayAll0, Bool.and_eq_true] at h
      exact lays_mem.mp h.2.2.1
    walk_at "r"
    rename_i v1 H1 s1 r1
    refine eq_R (r'.mono s1) r1 lay layf (by show min _ 1 ≤ 190; omega) ?_
    rw [show PyData.eqv (.tuple [.str w.s, .str c, .tuple (Th.ds args)]) (.tuple [.str "free", .str x]) = false from eqv_free (.app w c args)]
    cases w
    all_goals
      walk_at "r"
      rename_i v3 r3
      refine lc_T (K := K) (fun i e' => ∃ a : Th, args[i]? = some a ∧ e' = (a.plant x t).d) r3 (by omega) (fun _ => rfl) (fun i v d H13 hd' rv s13 Qt hQ => ?_) (fun v13 H13 es s13 r13 hl13 hP13 => ?_)
      · rw [Th.ds_map, List.getElem?_map] at hd'
        obtain ⟨a, ha, rfl⟩ := Option.map_eq_some_iff.mp hd'
        have ham := List.mem_of_getElem? ha
        have hda := Th.deps_le.mp (Nat.le_refl (Th.deps args)) a ham
        have hza := sz_mem ham
        walk_at "r"
        refine use_plant rv (rt.mono (by walk_at "S")) hx (layA a ham) (by omega) (by omega) fun y H14 s14 ry => ?_
        exact hQ _ _ _ (by walk_at "S") ry ⟨a, ha, rfl⟩
      have e13 : es = Th.ds (Th.plants args x t) := by
        rw [Th.ds_map, Th.plants_map, List.map_map]
        exact list_of_at (by rw [hl13, hdl]) fun i e h => hP13 i e h
      subst e13
      walk_at "r"
      rename_i v14 H14 s14 r14 v15 H15 s15 r15
      exact q _ _ (by walk_at "S") r15
  | qua w c a =>
    have r' : R K H v (.tuple [.str w.s, .str c, a.d]) := r
    simp only [Th.dep] at hd
    simp only [Th.sz] at hz
    have layA : a.d.canLay0 = true := by
      have h := lay
      simp only [Th.d, PyData.canLay0, PyData.canLayAll0, Bool.and_eq_true] at h
      exact h.2.2.1
    walk_at "r"
    rename_i v1 H1 s1 r1
    refine eq_R (r'.mono s1) r1 lay layf (by show min _ 1 ≤ 190; omega) ?_
    rw [show PyData.eqv (.tuple [.str w.s, .str c, a.d]) (.tuple [.str "free", .str x]) = false from eqv_free (.qua w c a)]
    cases w
    all_goals
      walk_at "r"
      rename_i v3 r3
      refine use_plant r3 (rt.mono (by walk_at "S")) hx layA (by omega) (by omega) fun y H14 s14 ry => ?_
      walk_at "r"
      rename_i v15 H15 s15 r15
      exact q _ _ (by walk_at "S") r15
  | two w a b =>
    have r' : R K H v (.tuple [.str w.s, a.d, b.d]) := r
    simp only [Th.dep] at hd
    simp only [Th.sz] at hz
    have layA : a.d.canLay0 = true ∧ b.d.canLay0 = true := by
      have h := lay
      simp only [Th.d, PyData.canLay0, PyData.canLayAll0, Bool.and_eq_true] at h
      exact ⟨h.2.1, h.2.2.1⟩
    walk_at "r"
    rename_i v1 H1 s1 r1
    refine eq_R (r'.mono s1) r1 lay layf (by show min _ 1 ≤ 190; omega) ?_
    rw [show PyData.eqv (.tuple [.str w.s, a.d, b.d]) (.tuple [.str "free", .str x]) = false from eqv_free (.two w a b)]
    cases w
    all_goals
      walk_at "r"
      rename_i v3 r3
      refine use_plant r3 (rt.mono (by walk_at "S")) hx layA.1 (by omega) (by omega) fun y1 H14 s14 ry1 => ?_
      walk_at "r"
      rename_i v4 r4
      refine use_plant r4 (rt.mono (by walk_at "S")) hx layA.2 (by omega) (by omega) fun y2 H15 s15 ry2 => ?_
      walk_at "r"
      rename_i v16 H16 s16 r16
      exact q _ _ (by walk_at "S") r16
theorem planted_n (T : Tp K mg) : ∀ n : Nat, Cal P w K mg base (n + 1) "_law_planted" (spPlant K n)
  | 0 => T.d_l_planted.none fun vs H Q E h => by obtain ⟨v, vt, u, t, x, _, _, _, _, _, h0, _⟩ := h; have := u.dep_pos; omega
  | n + 1 => ok_l_planted T (planted_n T n)

end
end G

end

section
/-! the words of the walk: S (a heap keeps), R (a value stands for data), A (a row of them), no (a way that cannot be), s (one step), r (all steps) -/
local macro_rules | `(tactic| walk_at "S") => `(tactic| first | exact L2.Same.refl _ | assumption | exact G.sm_tr (by assumption) (by walk_at "S"))
local macro_rules | `(tactic| walk_at "R") => `(tactic| first
  | with_reducible exact G.R.int _ | with_reducible exact G.R.str _ | with_reducible exact G.R.bl _ | with_reducible exact G.R.non
  | with_reducible assumption
  | exact G.r_mono (by with_reducible assumption) (by walk_at "S")
  | ((with_reducible refine' G.R.lst L2.upd_same ?rl); (case rl => walk_at "A")))
local macro_rules | `(tactic| walk_at "A") => `(tactic| first | with_reducible exact G.RA.nil | ((with_reducible refine' G.RA.cons ?ra ?rb); (case ra => walk_at "R"); (case rb => walk_at "A")))
local macro_rules | `(tactic| walk_at "no") => `(tactic| first | contradiction | omega)
local macro_rules | `(tactic| walk_at "side") => `(tactic| first | with_reducible rfl | with_reducible assumption | omega | exact Int.lt_of_lt_of_le (by with_reducible assumption) (by decide +kernel) | ((with_reducible refine G.le_up ?_); decide +kernel) | (simp only [List.length_cons, List.length_nil, List.getElem?_cons_zero, List.getElem?_cons_succ, List.length_map]; done) | (simp only [List.length_cons, List.length_nil, List.length_map, List.length_append] at *; omega))
local macro_rules | `(tactic| walk_at "sideC") => `(tactic| first | with_reducible assumption | (with_reducible refine G.cmul_r ⟨?_, ?_⟩ <;> decide) | (with_reducible refine G.cdiv_r ⟨?_, ?_⟩ <;> decide) | (with_reducible refine G.cmul_l ⟨?_, ?_⟩ <;> decide) | (with_reducible refine G.cpow_c ⟨?_, ?_, ?_⟩ <;> decide) | (with_reducible refine G.cmul_r ⟨?_, ?_⟩ <;> omega) | (with_reducible refine G.cdiv_r ⟨?_, ?_⟩ <;> omega) | omega)
local macro_rules | `(tactic| walk_at "got") => `(tactic| (intro v0 r0; first
  | (have e0 := G.R.inv_str r0; subst e0) | (have e0 := G.R.inv_int r0; subst e0) | (have e0 := G.R.inv_bl r0; subst e0) | (have e0 := G.R.inv_non r0; subst e0) | skip))
local macro_rules | `(tactic| walk_at "P") => `(tactic| first | with_reducible assumption | exact G.keep_at (by with_reducible assumption) (by walk_at "S"))
local macro_rules | `(tactic| walk_at "c") => `(tactic| fail)
local macro_rules | `(tactic| walk_at "Q") => `(tactic| first | with_reducible assumption | exact G.seq_keep (by with_reducible assumption) (by walk_at "S"))
local macro_rules | `(tactic| walk_at "c") => `(tactic| ((with_reducible refine' G.use_state ?hp ?h0 ?h1 ?_); (case hp => walk_at "Q"); (case h0 => walk_at "side"); (case h1 => walk_at "side"); intro p0 H0 s0 hp0))
local macro_rules | `(tactic| walk_at "c") => `(tactic| ((with_reducible refine' G.use_draw ?hp ?h0 ?h1 ?_); (case hp => walk_at "P"); (case h0 => walk_at "side"); (case h1 => walk_at "side"); intro r0 hr0 hr1))
local macro_rules | `(tactic| walk_at "s") => `(tactic| first
  | with_reducible refine G.st_seq ?_
  | ((with_reducible refine' G.st_var ?hv ?_); (case hv => exact rfl))
  | with_reducible refine G.st_c ?_
  | with_reducible refine G.st_op ?_
  | with_reducible refine G.st_bl ?_
  | with_reducible refine L2.iteT ?_
  | with_reducible refine L2.iteF ?_
  | with_reducible refine G.ite_nt ?_
  | with_reducible refine G.ite_nf ?_
  | ((with_reducible refine G.st_ite ?_ ?_) <;> (intro hb; (try simp only [decide_eq_true_eq, decide_eq_false_iff_not, Bool.not_eq_true', Bool.not_eq_false', beq_iff_eq, Bool.and_eq_true, Bool.or_eq_true, Bool.and_eq_false_iff, Bool.or_eq_false_iff, beq_eq_false_iff_ne, ne_eq, Int.not_lt, Int.not_le, Nat.not_lt, Nat.not_le] at hb); first | (exfalso; walk_at "no"; done) | skip))
  | with_reducible refine G.st_if ?_
  | with_reducible refine G.st_ret ?_
  | with_reducible refine G.st_set ?_
  | with_reducible refine G.st_call ?_
  | with_reducible refine G.st_cons ?_
  | with_reducible refine G.st_nil ?_
  | with_reducible refine G.st_CB ?_
  | with_reducible refine G.st_tTest ?_
  | with_reducible refine G.st_tB ?_
  | with_reducible refine G.st_or ?_
  | with_reducible refine G.st_and ?_
  | with_reducible refine G.st_not ?_
  | with_reducible refine G.st_orV ?_
  | with_reducible refine G.st_andV ?_
  | with_reducible refine G.st_notV ?_
  | with_reducible refine G.st_tIf ?_
  | with_reducible refine G.st_chain ?_
  | with_reducible refine G.st_un ?_
  | with_reducible refine G.st_then ?_
  | with_reducible refine G.st_slice ?_
  | with_reducible refine G.st_noPart ?_
  | with_reducible refine G.st_part ?_
  | with_reducible refine G.st_exInt ?_
  | with_reducible refine G.st_drop ?_
  | with_reducible refine G.st_next ?_
  | with_reducible refine G.st_retN ?_
  | with_reducible refine G.add_int ?_
  | with_reducible refine G.i0 ?_
  | ((with_reducible refine G.imod2 (by decide) ?_ ?_) <;> (intro hm; first | (exfalso; walk_at "no"; done) | skip))
  | ((with_reducible refine G.imod3 (by decide) ?_ ?_ ?_) <;> (intro hm; first | (exfalso; walk_at "no"; done) | skip))
  | ((with_reducible refine' G.iC ?hc ?_); (case hc => walk_at "sideC"))
  | ((with_reducible refine' G.eq_str1 ?e ?_); (case e => with_reducible rfl))
  | ((with_reducible refine' G.eq_str0 ?e ?_); (case e => decide +kernel))
  | with_reducible refine G.eq_str ?_
  | with_reducible refine G.eq_int ?_
  | with_reducible refine G.eq_bl ?_
  | with_reducible refine G.ne_str ?_
  | with_reducible refine G.ne_int ?_
  | ((with_reducible refine' G.is_none ?r ?_); (case r => walk_at "R"))
  | ((with_reducible refine' G.isnt_none ?r ?_); (case r => walk_at "R"))
  | with_reducible refine G.is_bl ?_
  | with_reducible refine G.isnt_bl ?_
  | with_reducible refine G.in_sign ?_
  | with_reducible refine G.nin_sign ?_
  | ((with_reducible refine' G.in_strsT1 ?r ?c ?e ?_); (case r => walk_at "R"); (case c => rfl); (case e => decide +kernel))
  | ((with_reducible refine' G.in_strsT0 ?r ?c ?e ?_); (case r => walk_at "R"); (case c => rfl); (case e => decide +kernel))
  | ((with_reducible refine' G.in_strsT ?r ?c ?_); (case r => walk_at "R"); (case c => rfl))
  | ((with_reducible refine' G.nin_strsT ?r ?c ?_); (case r => walk_at "R"); (case c => rfl))
  | ((with_reducible refine' G.in_intsT ?r ?c ?_); (case r => walk_at "R"); (case c => rfl))
  | ((with_reducible refine' G.nin_intsT ?r ?c ?_); (case r => walk_at "R"); (case c => rfl))
  | ((with_reducible refine' G.add_str ?l ?_); (case l => walk_at "side"))
  | ((with_reducible refine' G.add_tup ?r ?s ?l ?_); (case r => walk_at "R"); (case s => walk_at "R"); (case l => walk_at "side"); intro v0 H0 s0 r0)
  | ((with_reducible refine' G.add_lst ?r ?s ?l ?_); (case r => walk_at "R"); (case s => walk_at "R"); (case l => walk_at "side"); intro v0 H0 s0 r0)
  | ((with_reducible refine' G.isi_1 ?r ?e ?t ?_); (case r => walk_at "R"); (case e => rfl); (case t => simp only [List.mem_cons, true_or, or_true]))
  | ((with_reducible refine' G.isi_0 ?r ?e ?t ?_); (case r => walk_at "R"); (case e => rfl); (case t => simp only [List.mem_cons, true_or, or_true]))
  | ((with_reducible refine' G.isi_R ?r ?t ?_); (case r => walk_at "R"); (case t => simp only [List.mem_cons, true_or, or_true]))
  | ((with_reducible refine' G.len_str ?l ?_); (case l => walk_at "side"))
  | ((with_reducible refine' G.len_tup ?r ?_); (case r => walk_at "R"))
  | ((with_reducible refine' G.len_lst ?r ?_); (case r => walk_at "R"))
  | (with_reducible refine G.st_tup ?_)
  | (with_reducible refine G.st_lst ?_)
  | ((with_reducible refine' G.st_newT ?r ?l ?_); (case r => walk_at "A"); (case l => first | exact Nat.le_of_ble_eq_true rfl | walk_at "side"); intro v0 H0 s0 r0)
  | ((with_reducible refine' G.st_newL ?r ?l ?_); (case r => walk_at "A"); (case l => first | exact Nat.le_of_ble_eq_true rfl | walk_at "side"); intro v0 H0 s0 r0)
  | ((with_reducible refine' G.ix_tupR ?r ?h0 ?hd ?_); (case r => walk_at "R"); (case h0 => walk_at "side"); (case hd => first | rfl | assumption); walk_at "got")
  | ((with_reducible refine' G.ix_lstR ?r ?h0 ?hd ?_); (case r => walk_at "R"); (case h0 => walk_at "side"); (case hd => first | rfl | assumption); walk_at "got")
  | ((with_reducible refine' G.ix_strR ?l ?h0 ?hd ?_); (case l => walk_at "side"); (case h0 => walk_at "side"); (case hd => first | rfl | assumption))
  | ((with_reducible refine' G.ix_strM ?l ?h0 ?h1 ?_); (case l => walk_at "side"); (case h0 => walk_at "side"); (case h1 => walk_at "side"); intro c0 hc0)
  | ((with_reducible refine' G.ix_tupN ?r ?h0 ?h1 ?_); (case r => walk_at "R"); (case h0 => walk_at "side"); (case h1 => walk_at "side"); intro v0 d0 hd0 r0)
  | ((with_reducible refine' G.ix_lstS ?r ?h0 ?h1 ?_); (case r => walk_at "R"); (case h0 => walk_at "side"); (case h1 => walk_at "side"); intro z0 hz0)
  | ((with_reducible refine' G.ix_lstN ?r ?h0 ?h1 ?_); (case r => walk_at "R"); (case h0 => walk_at "side"); (case h1 => walk_at "side"); intro v0 d0 hd0 r0)
  | ((with_reducible refine' G.sl_strR ?l ?_); (case l => walk_at "side"))
  | ((with_reducible refine' G.sl_tupR ?r ?_); (case r => walk_at "R"); intro v0 H0 s0 r0)
  | ((with_reducible refine' G.sl_lstR ?r ?_); (case r => walk_at "R"); intro v0 H0 s0 r0)
  | ((with_reducible refine' G.tupOf_L ?r ?_); (case r => walk_at "R"); intro v0 H0 s0 r0)
  | ((with_reducible refine' G.tupOf_T ?r ?_); (case r => walk_at "R"))
  | ((with_reducible refine' G.lstOf_T ?r ?_); (case r => walk_at "R"); intro v0 H0 s0 r0)
  | ((with_reducible refine' G.lstOf_L ?r ?_); (case r => walk_at "R"); intro v0 H0 s0 r0)
  | with_reducible refine G.st_lcL ?_
  | with_reducible refine G.st_lcT ?_
  | with_reducible refine G.st_lcS ?_
  | with_reducible refine G.st_lcR ?_
  | with_reducible refine G.st_M0 ?_
  | with_reducible refine G.st_M1 ?_
  | (with_reducible refine G.upper_one ?_; intro hu0)
  | ((with_reducible refine' G.upper_R ?l ?_); (case l => walk_at "side"))
  | (with_reducible refine G.st_strAnd ?_)
  | (with_reducible refine G.st_sub ?_)
  | ((with_reducible refine' G.set_20 ?hp ?_); (case hp => first | exact L2.upd_same | walk_at "P"))
  | ((with_reducible refine' G.set_21 ?hp ?_); (case hp => first | exact L2.upd_same | walk_at "P"))
  | ((with_reducible refine' G.set_at ?hp ?hi ?_); (case hp => first | exact L2.upd_same | walk_at "P"); (case hi => rfl))
  | with_reducible refine G.st_lst2 ?_
  | with_reducible refine G.st_shut ?_
  | with_reducible refine G.st_forR ?_
  | ((with_reducible refine' G.len_scr ?s ?_); (case s => walk_at "Q"))
  | ((with_reducible refine' G.ix_scr ?s ?h0 ?h1 ?_); (case s => walk_at "Q"); (case h0 => walk_at "side"); (case h1 => walk_at "side"); intro n0)
  | ((with_reducible refine' G.sl_scr ?s ?_); (case s => walk_at "Q"); intro v0 H0 s0 r0)
  | (with_reducible refine' G.st_disp1 ?_; intro v0 H0 s0 r0)
  | walk_at "c"
  | fail "no step")
local macro_rules | `(tactic| walk_at "r") => `(tactic| repeat' (walk_at "s"))

local macro_rules | `(tactic| walk_at "side") => `(tactic| first | exact G.nm_a (by with_reducible assumption) | exact G.fm_a (by with_reducible assumption) | exact G.nm_b (by with_reducible assumption) | exact G.nm_c (by with_reducible assumption) | fail)
local macro_rules | `(tactic| walk_at "c") => `(tactic| ((with_reducible refine' G.use_name ?hp ?_); (case hp => walk_at "P"); intro z0 H0 s0 hz0))
local macro_rules | `(tactic| walk_at "c") => `(tactic| ((with_reducible refine' G.use_form ?hp ?_); (case hp => walk_at "P"); intro z0 H0 s0 hz0))
local macro_rules | `(tactic| walk_at "c") => `(tactic| ((with_reducible refine' G.use_pool ?hp ?_); (case hp => walk_at "P"); intro v0 fs0 gs0 ns0 H0 s0 ok0 r0))
local macro_rules | `(tactic| walk_at "c") => `(tactic| ((with_reducible refine' G.use_leaf ?hp ?r ?ok ?h0 ?h1 ?_); (case hp => walk_at "P"); (case r => walk_at "R"); (case ok => with_reducible assumption); (case h0 => walk_at "side"); (case h1 => walk_at "side"); intro v0 t0 H0 s0 r0 ht0 hd0 hs0))
local macro_rules | `(tactic| walk_at "c") => `(tactic| ((with_reducible refine' G.use_term ?hp ?r ?ok ?h0 ?h1 ?e0 ?e1 ?_); (case hp => walk_at "P"); (case r => walk_at "R"); (case ok => with_reducible assumption); (case h0 => walk_at "side"); (case h1 => walk_at "side"); (case e0 => walk_at "side"); (case e1 => walk_at "side"); intro v0 t0 H0 s0 r0 ht0 hd0 hs0))
local macro_rules | `(tactic| walk_at "c") => `(tactic| ((with_reducible refine' G.use_tall ?hp ?r ?ok ?rt ?ht ?h0 ?h1 ?_); (case hp => walk_at "P"); (case r => walk_at "R"); (case ok => with_reducible assumption); (case rt => walk_at "R"); (case ht => with_reducible assumption); (case h0 => walk_at "side"); (case h1 => walk_at "side"); intro v0 t0 H0 s0 r0 ht0 hd0 hs0))
local macro_rules | `(tactic| walk_at "c") => `(tactic| ((with_reducible refine' G.use_anyT ?hp ?r ?ok ?h0 ?h1 ?_); (case hp => walk_at "P"); (case r => walk_at "R"); (case ok => with_reducible assumption); (case h0 => walk_at "side"); (case h1 => walk_at "side"); intro v0 t0 H0 s0 r0 ht0 hd0 hs0))

local macro_rules | `(tactic| walk_at "w") => `(tactic| first
  | with_reducible refine G.st_BM0 ?_
  | with_reducible refine G.st_BM ?_
  | ((with_reducible refine' G.st_tyl ?hl ?_); (case hl => walk_at "P"))
  | ((with_reducible refine' G.popR ?hl ?ra ?hn ?_); (case hl => walk_at "P"); (case ra => with_reducible assumption); (case hn => with_reducible assumption); intro v0 ws0 H0 x0 hl0 ra0 r0)
  | ((with_reducible refine' G.extR ?hl ?ra ?r ?hz ?hn ?hn' ?_); (case hl => walk_at "P"); (case ra => first | with_reducible assumption | exact G.ra_mono (by with_reducible assumption) (by walk_at "S")); (case r => walk_at "R"); (case hz => walk_at "side"); (case hn => walk_at "nol"); (case hn' => walk_at "nol"); intro ws0 H0 x0 hl0 ra0)
  | ((with_reducible refine' G.gtup2 ?r ?_); (case r => walk_at "R"); intro v1 v2 r1 r2)
  | with_reducible refine G.st_asgT ?_
  | with_reducible refine G.int_bl ?_
  | with_reducible refine G.max_2 ?_
  | ((with_reducible refine' G.st_aug ?hx ?_); (case hx => rfl))
  | with_reducible refine G.ipI_int ?_
  | with_reducible refine G.whB ?_
  | with_reducible refine G.st_lstF ?_
  | ((with_reducible refine' G.st_newLF ?r ?l ?_); (case r => walk_at "A"); (case l => first | exact Nat.le_of_ble_eq_true rfl | walk_at "side"); intro p0 H0 f0 s0 hl0 ra0)
  | fail "no step")
local macro_rules | `(tactic| walk_at "nol") => `(tactic| first | with_reducible assumption | rfl | exact G.Th.noL _ | exact G.Th.noLs _)
local macro_rules | `(tactic| walk_at "c") => `(tactic| walk_at "w")

local macro_rules | `(tactic| walk_at "c") => `(tactic| first
  | with_reducible refine G.neg_i ?_
  | with_reducible refine G.st_BMs ?_
  | with_reducible refine G.st_tys ?_
  | with_reducible refine G.st_gcons ?_
  | with_reducible refine G.st_gnil ?_
  | with_reducible refine G.st_gname ?_
  | with_reducible refine G.st_gsub ?_
  | ((with_reducible refine' G.iC ?hc ?_); (case hc => show (0 : Int) < _; decide +kernel))
  | ((with_reducible refine' G.ix_scrLast ?hs ?h1 ?_); (case hs => walk_at "Q"); (case h1 => walk_at "side"); intro n0)
  | ((with_reducible refine' G.divmodR ?h0 ?h1 ?_); (case h0 => walk_at "side"); (case h1 => walk_at "side"); intro p0 H0 f0 e0)
  | (with_reducible refine G.absR ?_; intro j0)
  | fail "no step")

local macro_rules | `(tactic| walk_at "B") => `(tactic| first | with_reducible assumption | exact G.bk_keep (by with_reducible assumption) (by walk_at "S"))
local macro_rules | `(tactic| walk_at "c") => `(tactic| first
  | ((with_reducible refine' G.use_nextU ?hp ?h0 ?h1 ?_); (case hp => walk_at "P"); (case h0 => walk_at "side"); (case h1 => walk_at "side"); intro r0 H0 s0 hr0 hr1)
  | ((with_reducible refine' G.ix_b1 ?h ?_); (case h => walk_at "B"); intro af0 lb0 lc0 hf0 rb0 rc0)
  | ((with_reducible refine' G.ix_b2 ?h ?_); (case h => walk_at "B"); intro v0 r0)
  | ((with_reducible refine' G.ix_b3 ?h ?_); (case h => walk_at "B"); intro v0 r0)
  | ((with_reducible refine' G.ix_b5 ?h ?_); (case h => walk_at "B"); intro v0 r0)
  | with_reducible refine G.st_dget ?_
  | with_reducible refine G.st_dget2 ?_
  | with_reducible refine G.st_lcLT ?_
  | with_reducible refine G.st_lcET ?_
  | with_reducible refine G.st_lcETT ?_
  | with_reducible refine G.st_forL ?_
  | with_reducible refine G.st_forE ?_
  | with_reducible refine G.st_forT ?_
  | fail "no step")
local macro_rules | `(tactic| walk_at "u") => `(tactic| repeat' ((fail_if_success (with_reducible refine G.st_if ?_)); walk_at "s"))
local macro_rules | `(tactic| walk_at "c") => `(tactic| (with_reducible refine G.minR ?_; intro m0 hm0 hm1 hm2))

namespace G
open PySem PySem.Spec PyProof.Rows L2
section
variable {P : Program} {w : World} {K : PySem.W.Frag} {mg : Str → Option Value} {base : Heap} {k n : Nat}
theorem ok_args_of (T : Tp K mg) : Cal P w K mg base (k + 1) "args_of" (spArgs K) := by
  refine T.d_args_of.cal sc_args_of (fun vs H Q E h => ?_) (fun f cdv A outer s H vs Q E hr h => ?_)
  · obtain ⟨v, t, F, b, rfl, _⟩ := h; rfl
  obtain ⟨v, t, F, b, rfl, r, ht, q⟩ := h
  have sc := @sc_args_of
  refine ⟨_, (pss_cons (ps_if (PW.pt (pw_or (pt_cmpR (op_eqK K hr) (pe_ix (ix_K K) (pv 0) pe_int (fun _ _ => rfl)) pe_str (nomark _)) (pw_or1 (pt_cmpR (op_eqK K hr) (pe_ix (ix_K K) (pv 0) pe_int (fun _ _ => rfl)) pe_str (nomark _))))) (pss_one (ps_ret (pe_ix (ix_K K) (pv 0) pe_int (fun _ _ => rfl)))) pss_nil)
      (pss_one (ps_ret (pe_tupK K pa_nil)))), ?_⟩
  cases t with
  | free x =>
    have r' : R K H v (.tuple [.str "free", .str x]) := r
    walk_at "r"
    exact q _ _ (by walk_at "S") (by assumption)
  | bnd j =>
    have r' : R K H v (.tuple [.str "bound", .int (j : Int)]) := r
    walk_at "r"
    exact q _ _ (by walk_at "S") (by assumption)
  | app w c args =>
    cases w with
    | atom => exact absurd ht (by intro h; exact h)
    | form =>
      have r' : R K H v (.tuple [.str "form", .str c, .tuple (Th.ds args)]) := r
      walk_at "r"
      exact q _ _ (by walk_at "S") (by assumption)
    | call =>
      have r' : R K H v (.tuple [.str "call", .str c, .tuple (Th.ds args)]) := r
      walk_at "r"
      exact q _ _ (by walk_at "S") (by assumption)
  | fls => exact absurd ht (by intro h; exact h)
  | qua w c a => exact absurd ht (by intro h; exact h)
  | two w a b => exact absurd ht (by intro h; exact h)
theorem ok_terms_of (T : Tp K mg) (c_terms_of : Cal P w K mg base k "terms_of" (spTermsOf K n)) : Cal P w K mg base (k + 1) "terms_of" (spTermsOf K (n + 1)) := by
  refine T.d_terms_of.cal sc_terms_of (fun vs H Q E h => ?_) (fun f cdv A outer s H vs Q E hr h => ?_)
  · obtain ⟨v, t, F, b, rfl, _⟩ := h; rfl
  obtain ⟨v, t, F, b, rfl, r, ht, hd, hz, q⟩ := h
  have sc := @sc_terms_of
  refine ⟨_, (pss_cons (ps_if (pt_cmpR (op_eqK K hr) (pe_ix (ix_K K) (pv 0) pe_int (fun _ _ => rfl)) pe_str (nomark _)) (pss_one (ps_ret (pe_lstF K pa_nil))) pss_nil)
      (pss_cons (ps_if (pt_cmpR (op_eqK K hr) (pe_ix (ix_K K) (pv 0) pe_int (fun _ _ => rfl)) pe_str (nomark _)) (pss_one (ps_ret (pe_lstF K (pa_cons (pe_ix (ix_K K) (pv 0) pe_int (fun _ _ => rfl)) (pa_cons (pe_ix (ix_K K) (pv 0) pe_int (fun _ _ => rfl)) pa_nil))))) pss_nil)
      (pss_cons (ps_if (pt_cmpR (op_eqK K hr) (pe_ix (ix_K K) (pv 0) pe_int (fun _ _ => rfl)) pe_str (nomark _)) (pss_one (ps_ret (pe_callTy (list_KF K) rfl T.n_list bt_list (pa_cons (pe_ix (ix_K K) (pv 0) pe_int (fun _ _ => rfl)) pa_nil)))) pss_nil)
      (pss_cons (ps_if (PW.pt (pw_or (pt_cmpR (op_eqK K hr) (pe_ix (ix_K K) (pv 0) pe_int (fun _ _ => rfl)) pe_str (nomark _)) (pw_or1 (pt_cmpR (op_eqK K hr) (pe_ix (ix_K K) (pv 0) pe_int (fun _ _ => rfl)) pe_str (nomark _))))) (pss_one (ps_ret (pe_c c_terms_of hr (Nat.le_refl _) rfl (pa_cons (pe_ix (ix_K K) (pv 0) pe_int (fun _ _ => rfl)) pa_nil)))) pss_nil)
      (pss_one (ps_ret (pe_op (op_addK K) (pe_c c_terms_of hr (Nat.le_refl _) rfl (pa_cons (pe_ix (ix_K K) (pv 0) pe_int (fun _ _ => rfl)) pa_nil)) (pe_c c_terms_of hr (Nat.le_refl _) rfl (pa_cons (pe_ix (ix_K K) (pv 0) pe_int (fun _ _ => rfl)) pa_nil))))))))), ?_⟩
  cases t with
  | free x => exact absurd ht (by intro h; exact h)
  | bnd j => exact absurd ht (by intro h; exact h)
  | fls =>
    have r' : R K H v (.tuple [.str "false"]) := r
    walk_at "r"
    rename_i p0 H0 f0 s0 hl0 ra0
    exact q _ _ f0 s0 (Lk.of hl0 ra0 (by rfl))
  | app w c args =>
    cases w with
    | form => exact absurd ht (by intro h; exact h)
    | call => exact absurd ht (by intro h; exact h)
    | atom =>
      have r' : R K H v (.tuple [.str "atom", .str c, .tuple (Th.ds args)]) := r
      walk_at "r"
      rename_i v1 r1
      refine listF r1 fun p H1 xs f1 s1 hl1 ra1 => ?_
      first | exact q _ _ f1 s1 (Lk.of hl1 ra1 (Th.noLs _)) | (walk_at "r"; exact q _ _ f1 s1 (Lk.of hl1 ra1 (Th.noLs _)))
  | qua w c a =>
    simp only [Th.dep] at hd
    simp only [Th.sz] at hz
    have r' : R K H v (.tuple [.str w.s, .str c, a.d]) := r
    have hta := ht.2
    cases w
    all_goals
      walk_at "r"
      rename_i v3 r3
      refine use_termsOfF r3 hta (by omega) (by omega) fun y H1 f1 s1 ry => ?_
      first | exact q _ _ f1 s1 ry | (walk_at "r"; exact q _ _ f1 s1 ry)
  | two w a b =>
    simp only [Th.dep] at hd
    simp only [Th.sz] at hz
    have r' : R K H v (.tuple [.str w.s, a.d, b.d]) := r
    cases w with
    | same =>
      walk_at "r"
      rename_i p0 H0 f0 s0 hl0 ra0
      exact q _ _ f0 s0 (Lk.of hl0 ra0 (Th.noLs [a, b]))
    | _ =>
      have hta := ht.1
      have htb := ht.2
      have la := Th.termsOf_len a hta
      have lb := Th.termsOf_len b htb
      have hz3 : (Th.ds a.termsOf).length + (Th.ds b.termsOf).length ≤ 1000000 := by rw [ds_len, ds_len]; omega
      walk_at "r"
      rename_i v3 r3
      refine use_termsOf r3 hta (by omega) (by omega) fun y1 H1 s1 ry1 => ?_
      walk_at "r"
      rename_i v4 r4
      refine use_termsOf r4 htb (by omega) (by omega) fun y2 H2 s2 ry2 => ?_
      refine add_lstF (ry1.mono s2) ry2 hz3 (by rw [← ds_app]; exact Th.noLs _) fun y3 H3 f3 s3 r3' => ?_
      rw [← ds_app] at r3'
      have f0 : H y3 = none := none_of (s1.trans s2) f3
      have s0 : Same H H3 := (s1.trans s2).trans s3
      first | exact q _ _ f0 s0 r3' | (walk_at "r"; exact q _ _ f0 s0 r3')
theorem terms_of_n (T : Tp K mg) : ∀ n : Nat, Cal P w K mg base (n + 1) "terms_of" (spTermsOf K n)
  | 0 => T.d_terms_of.none fun vs H Q E h => by obtain ⟨v, t, F, b, _, _, _, h0, _⟩ := h; have := t.dep_pos; omega
  | n + 1 => ok_terms_of T (terms_of_n T n)
theorem ok_l_args (T : Tp K mg) : Cal P w K mg base (k + 1) "_law_args" (spArgs K) := by
  refine T.d_l_args.cal sc_l_args (fun vs H Q E h => ?_) (fun f cdv A outer s H vs Q E hr h => ?_)
  · obtain ⟨v, t, F, b, rfl, _⟩ := h; rfl
  obtain ⟨v, t, F, b, rfl, r, ht, q⟩ := h
  have sc := @sc_l_args
  refine ⟨_, (pss_cons (ps_if (PW.pt (pw_or (pt_cmpR (op_eqK K hr) (pe_ix (ix_K K) (pv 0) pe_int (fun _ _ => rfl)) pe_str (nomark _)) (pw_or1 (pt_cmpR (op_eqK K hr) (pe_ix (ix_K K) (pv 0) pe_int (fun _ _ => rfl)) pe_str (nomark _))))) (pss_one (ps_ret (pe_ix (ix_K K) (pv 0) pe_int (fun _ _ => rfl)))) pss_nil)
      (pss_one (ps_ret (pe_tupK K pa_nil)))), ?_⟩
  cases t with
  | free x =>
    have r' : R K H v (.tuple [.str "free", .str x]) := r
    walk_at "r"
    exact q _ _ (by walk_at "S") (by assumption)
  | bnd j =>
    have r' : R K H v (.tuple [.str "bound", .int (j : Int)]) := r
    walk_at "r"
    exact q _ _ (by walk_at "S") (by assumption)
  | app w c args =>
    cases w with
    | atom => exact absurd ht (by intro h; exact h)
    | form =>
      have r' : R K H v (.tuple [.str "form", .str c, .tuple (Th.ds args)]) := r
      walk_at "r"
      exact q _ _ (by walk_at "S") (by assumption)
    | call =>
      have r' : R K H v (.tuple [.str "call", .str c, .tuple (Th.ds args)]) := r
      walk_at "r"
      exact q _ _ (by walk_at "S") (by assumption)
  | fls => exact absurd ht (by intro h; exact h)
  | qua w c a => exact absurd ht (by intro h; exact h)
  | two w a b => exact absurd ht (by intro h; exact h)
theorem ok_l_terms (T : Tp K mg) (c_l_terms : Cal P w K mg base k "_law_terms" (spTermsOf K n)) : Cal P w K mg base (k + 1) "_law_terms" (spTermsOf K (n + 1)) := by
  refine T.d_l_terms.cal sc_l_terms (fun vs H Q E h => ?_) (fun f cdv A outer s H vs Q E hr h => ?_)
  · obtain ⟨v, t, F, b, rfl, _⟩ := h; rfl
  obtain ⟨v, t, F, b, rfl, r, ht, hd, hz, q⟩ := h
  have sc := @sc_l_terms
  refine ⟨_, (pss_cons (ps_if (pt_cmpR (op_eqK K hr) (pe_ix (ix_K K) (pv 0) pe_int (fun _ _ => rfl)) pe_str (nomark _)) (pss_one (ps_ret (pe_lstF K pa_nil))) pss_nil)
      (pss_cons (ps_if (pt_cmpR (op_eqK K hr) (pe_ix (ix_K K) (pv 0) pe_int (fun _ _ => rfl)) pe_str (nomark _)) (pss_one (ps_ret (pe_lstF K (pa_cons (pe_ix (ix_K K) (pv 0) pe_int (fun _ _ => rfl)) (pa_cons (pe_ix (ix_K K) (pv 0) pe_int (fun _ _ => rfl)) pa_nil))))) pss_nil)
      (pss_cons (ps_if (pt_cmpR (op_eqK K hr) (pe_ix (ix_K K) (pv 0) pe_int (fun _ _ => rfl)) pe_str (nomark _)) (pss_one (ps_ret (pe_callTy (list_KF K) rfl T.n_list bt_list (pa_cons (pe_ix (ix_K K) (pv 0) pe_int (fun _ _ => rfl)) pa_nil)))) pss_nil)
      (pss_cons (ps_if (PW.pt (pw_or (pt_cmpR (op_eqK K hr) (pe_ix (ix_K K) (pv 0) pe_int (fun _ _ => rfl)) pe_str (nomark _)) (pw_or1 (pt_cmpR (op_eqK K hr) (pe_ix (ix_K K) (pv 0) pe_int (fun _ _ => rfl)) pe_str (nomark _))))) (pss_one (ps_ret (pe_c c_l_terms hr (Nat.le_refl _) rfl (pa_cons (pe_ix (ix_K K) (pv 0) pe_int (fun _ _ => rfl)) pa_nil)))) pss_nil)
      (pss_one (ps_ret (pe_op (op_addK K) (pe_c c_l_terms hr (Nat.le_refl _) rfl (pa_cons (pe_ix (ix_K K) (pv 0) pe_int (fun _ _ => rfl)) pa_nil)) (pe_c c_l_terms hr (Nat.le_refl _) rfl (pa_cons (pe_ix (ix_K K) (pv 0) pe_int (fun _ _ => rfl)) pa_nil))))))))), ?_⟩
  cases t with
  | free x => exact absurd ht (by intro h; exact h)
  | bnd j => exact absurd ht (by intro h; exact h)
  | fls =>
    have r' : R K H v (.tuple [.str "false"]) := r
    walk_at "r"
    rename_i p0 H0 f0 s0 hl0 ra0
    exact q _ _ f0 s0 (Lk.of hl0 ra0 (by rfl))
  | app w c args =>
    cases w with
    | form => exact absurd ht (by intro h; exact h)
    | call => exact absurd ht (by intro h; exact h)
    | atom =>
      have r' : R K H v (.tuple [.str "atom", .str c, .tuple (Th.ds args)]) := r
      walk_at "r"
      rename_i v1 r1
      refine listF r1 fun p H1 xs f1 s1 hl1 ra1 => ?_
      first | exact q _ _ f1 s1 (Lk.of hl1 ra1 (Th.noLs _)) | (walk_at "r"; exact q _ _ f1 s1 (Lk.of hl1 ra1 (Th.noLs _)))
  | qua w c a =>
    simp only [Th.dep] at hd
    simp only [Th.sz] at hz
    have r' : R K H v (.tuple [.str w.s, .str c, a.d]) := r
    have hta := ht.2
    cases w
    all_goals
      walk_at "r"
      rename_i v3 r3
      refine use_termsOfF r3 hta (by omega) (by omega) fun y H1 f1 s1 ry => ?_
      first | exact q _ _ f1 s1 ry | (walk_at "r"; exact q _ _ f1 s1 ry)
  | two w a b =>
    simp only [Th.dep] at hd
    simp only [Th.sz] at hz
    have r' : R K H v (.tuple [.str w.s, a.d, b.d]) := r
    cases w with
    | same =>
      walk_at "r"
      rename_i p0 H0 f0 s0 hl0 ra0
      exact q _ _ f0 s0 (Lk.of hl0 ra0 (Th.noLs [a, b]))
    | _ =>
      have hta := ht.1
      have htb := ht.2
      have la := Th.termsOf_len a hta
      have lb := Th.termsOf_len b htb
      have hz3 : (Th.ds a.termsOf).length + (Th.ds b.termsOf).length ≤ 1000000 := by rw [ds_len, ds_len]; omega
      walk_at "r"
      rename_i v3 r3
      refine use_termsOf r3 hta (by omega) (by omega) fun y1 H1 s1 ry1 => ?_
      walk_at "r"
      rename_i v4 r4
      refine use_termsOf r4 htb (by omega) (by omega) fun y2 H2 s2 ry2 => ?_
      refine add_lstF (ry1.mono s2) ry2 hz3 (by rw [← ds_app]; exact Th.noLs _) fun y3 H3 f3 s3 r3' => ?_
      rw [← ds_app] at r3'
      have f0 : H y3 = none := none_of (s1.trans s2) f3
      have s0 : Same H H3 := (s1.trans s2).trans s3
      first | exact q _ _ f0 s0 r3' | (walk_at "r"; exact q _ _ f0 s0 r3')
theorem l_terms_n (T : Tp K mg) : ∀ n : Nat, Cal P w K mg base (n + 1) "_law_terms" (spTermsOf K n)
  | 0 => T.d_l_terms.none fun vs H Q E h => by obtain ⟨v, t, F, b, _, _, _, h0, _⟩ := h; have := t.dep_pos; omega
  | n + 1 => ok_l_terms T (l_terms_n T n)

end
end G

end

section
/-! the words of the walk: S (a heap keeps), R (a value stands for data), A (a row of them), no (a way that cannot be), s (one step), r (all steps) -/
local macro_rules | `(tactic| walk_at "S") => `(tactic| first | exact L2.Same.refl _ | assumption | exact G.sm_tr (by assumption) (by walk_at "S"))
local macro_rules | `(tactic| walk_at "R") => `(tactic| first
  | with_reducible exact G.R.int _ | with_reducible exact G.R.str _ | with_reducible exact G.R.bl _ | with_reducible exact G.R.non
  | with_reducible assumption
  | exact G.r_mono (by with_reducible assumption) (by walk_at "S")
  | ((with_reducible refine' G.R.lst L2.upd_same ?rl); (case rl => walk_at "A")))
local macro_rules | `(tactic| walk_at "A") => `(tactic| first | with_reducible exact G.RA.nil | ((with_reducible refine' G.RA.cons ?ra ?rb); (case ra => walk_at "R"); (case rb => walk_at "A")))
local macro_rules | `(tactic| walk_at "no") => `(tactic| first | contradiction | omega)
local macro_rules | `(tactic| walk_at "side") => `(tactic| first | with_reducible rfl | with_reducible assumption | omega | exact Int.lt_of_lt_of_le (by with_reducible assumption) (by decide +kernel) | ((with_reducible refine G.le_up ?_); decide +kernel) | (simp only [List.length_cons, List.length_nil, List.getElem?_cons_zero, List.getElem?_cons_succ, List.length_map]; done) | (simp only [List.length_cons, List.length_nil, List.length_map, List.length_append] at *; omega))
local macro_rules | `(tactic| walk_at "sideC") => `(tactic| first | with_reducible assumption | (with_reducible refine G.cmul_r ⟨?_, ?_⟩ <;> decide) | (with_reducible refine G.cdiv_r ⟨?_, ?_⟩ <;> decide) | (with_reducible refine G.cmul_l ⟨?_, ?_⟩ <;> decide) | (with_reducible refine G.cpow_c ⟨?_, ?_, ?_⟩ <;> decide) | (with_reducible refine G.cmul_r ⟨?_, ?_⟩ <;> omega) | (with_reducible refine G.cdiv_r ⟨?_, ?_⟩ <;> omega) | omega)
local macro_rules | `(tactic| walk_at "got") => `(tactic| (intro v0 r0; first
  | (have e0 := G.R.inv_str r0; subst e0) | (have e0 := G.R.inv_int r0; subst e0) | (have e0 := G.R.inv_bl r0; subst e0) | (have e0 := G.R.inv_non r0; subst e0) | skip))
local macro_rules | `(tactic| walk_at "P") => `(tactic| first | with_reducible assumption | exact G.keep_at (by with_reducible assumption) (by walk_at "S"))
local macro_rules | `(tactic| walk_at "c") => `(tactic| fail)
local macro_rules | `(tactic| walk_at "Q") => `(tactic| first | with_reducible assumption | exact G.seq_keep (by with_reducible assumption) (by walk_at "S"))
local macro_rules | `(tactic| walk_at "c") => `(tactic| ((with_reducible refine' G.use_state ?hp ?h0 ?h1 ?_); (case hp => walk_at "Q"); (case h0 => walk_at "side"); (case h1 => walk_at "side"); intro p0 H0 s0 hp0))
local macro_rules | `(tactic| walk_at "c") => `(tactic| ((with_reducible refine' G.use_draw ?hp ?h0 ?h1 ?_); (case hp => walk_at "P"); (case h0 => walk_at "side"); (case h1 => walk_at "side"); intro r0 hr0 hr1))
local macro_rules | `(tactic| walk_at "s") => `(tactic| first
  | with_reducible refine G.st_seq ?_
  | ((with_reducible refine' G.st_var ?hv ?_); (case hv => exact rfl))
  | with_reducible refine G.st_c ?_
  | with_reducible refine G.st_op ?_
  | with_reducible refine G.st_bl ?_
  | with_reducible refine L2.iteT ?_
  | with_reducible refine L2.iteF ?_
  | with_reducible refine G.ite_nt ?_
  | with_reducible refine G.ite_nf ?_
  | ((with_reducible refine G.st_ite ?_ ?_) <;> (intro hb; (try simp only [decide_eq_true_eq, decide_eq_false_iff_not, Bool.not_eq_true', Bool.not_eq_false', beq_iff_eq, Bool.and_eq_true, Bool.or_eq_true, Bool.and_eq_false_iff, Bool.or_eq_false_iff, beq_eq_false_iff_ne, ne_eq, Int.not_lt, Int.not_le, Nat.not_lt, Nat.not_le] at hb); first | (exfalso; walk_at "no"; done) | skip))
  | with_reducible refine G.st_if ?_
  | with_reducible refine G.st_ret ?_
  | with_reducible refine G.st_set ?_
  | with_reducible refine G.st_call ?_
  | with_reducible refine G.st_cons ?_
  | with_reducible refine G.st_nil ?_
  | with_reducible refine G.st_CB ?_
  | with_reducible refine G.st_tTest ?_
  | with_reducible refine G.st_tB ?_
  | with_reducible refine G.st_or ?_
  | with_reducible refine G.st_and ?_
  | with_reducible refine G.st_not ?_
  | with_reducible refine G.st_orV ?_
  | with_reducible refine G.st_andV ?_
  | with_reducible refine G.st_notV ?_
  | with_reducible refine G.st_tIf ?_
  | with_reducible refine G.st_chain ?_
  | with_reducible refine G.st_un ?_
  | with_reducible refine G.st_then ?_
  | with_reducible refine G.st_slice ?_
  | with_reducible refine G.st_noPart ?_
  | with_reducible refine G.st_part ?_
  | with_reducible refine G.st_exInt ?_
  | with_reducible refine G.st_drop ?_
  | with_reducible refine G.st_next ?_
  | with_reducible refine G.st_retN ?_
  | with_reducible refine G.add_int ?_
  | with_reducible refine G.i0 ?_
  | ((with_reducible refine G.imod2 (by decide) ?_ ?_) <;> (intro hm; first | (exfalso; walk_at "no"; done) | skip))
  | ((with_reducible refine G.imod3 (by decide) ?_ ?_ ?_) <;> (intro hm; first | (exfalso; walk_at "no"; done) | skip))
  | ((with_reducible refine' G.iC ?hc ?_); (case hc => walk_at "sideC"))
  | ((with_reducible refine' G.eq_str1 ?e ?_); (case e => with_reducible rfl))
  | ((with_reducible refine' G.eq_str0 ?e ?_); (case e => decide +kernel))
  | with_reducible refine G.eq_str ?_
  | with_reducible refine G.eq_int ?_
  | with_reducible refine G.eq_bl ?_
  | with_reducible refine G.ne_str ?_
  | with_reducible refine G.ne_int ?_
  | ((with_reducible refine' G.is_none ?r ?_); (case r => walk_at "R"))
  | ((with_reducible refine' G.isnt_none ?r ?_); (case r => walk_at "R"))
  | with_reducible refine G.is_bl ?_
  | with_reducible refine G.isnt_bl ?_
  | with_reducible refine G.in_sign ?_
  | with_reducible refine G.nin_sign ?_
  | ((with_reducible refine' G.in_strsT1 ?r ?c ?e ?_); (case r => walk_at "R"); (case c => rfl); (case e => decide +kernel))
  | ((with_reducible refine' G.in_strsT0 ?r ?c ?e ?_); (case r => walk_at "R"); (case c => rfl); (case e => decide +kernel))
  | ((with_reducible refine' G.in_strsT ?r ?c ?_); (case r => walk_at "R"); (case c => rfl))
  | ((with_reducible refine' G.nin_strsT ?r ?c ?_); (case r => walk_at "R"); (case c => rfl))
  | ((with_reducible refine' G.in_intsT ?r ?c ?_); (case r => walk_at "R"); (case c => rfl))
  | ((with_reducible refine' G.nin_intsT ?r ?c ?_); (case r => walk_at "R"); (case c => rfl))
  | ((with_reducible refine' G.add_str ?l ?_); (case l => walk_at "side"))
  | ((with_reducible refine' G.add_tup ?r ?s ?l ?_); (case r => walk_at "R"); (case s => walk_at "R"); (case l => walk_at "side"); intro v0 H0 s0 r0)
  | ((with_reducible refine' G.add_lst ?r ?s ?l ?_); (case r => walk_at "R"); (case s => walk_at "R"); (case l => walk_at "side"); intro v0 H0 s0 r0)
  | ((with_reducible refine' G.isi_1 ?r ?e ?t ?_); (case r => walk_at "R"); (case e => rfl); (case t => simp only [List.mem_cons, true_or, or_true]))
  | ((with_reducible refine' G.isi_0 ?r ?e ?t ?_); (case r => walk_at "R"); (case e => rfl); (case t => simp only [List.mem_cons, true_or, or_true]))
  | ((with_reducible refine' G.isi_R ?r ?t ?_); (case r => walk_at "R"); (case t => simp only [List.mem_cons, true_or, or_true]))
  | ((with_reducible refine' G.len_str ?l ?_); (case l => walk_at "side"))
  | ((with_reducible refine' G.len_tup ?r ?_); (case r => walk_at "R"))
  | ((with_reducible refine' G.len_lst ?r ?_); (case r => walk_at "R"))
  | (with_reducible refine G.st_tup ?_)
  | (with_reducible refine G.st_lst ?_)
  | ((with_reducible refine' G.st_newT ?r ?l ?_); (case r => walk_at "A"); (case l => first | exact Nat.le_of_ble_eq_true rfl | walk_at "side"); intro v0 H0 s0 r0)
  | ((with_reducible refine' G.st_newL ?r ?l ?_); (case r => walk_at "A"); (case l => first | exact Nat.le_of_ble_eq_true rfl | walk_at "side"); intro v0 H0 s0 r0)
  | ((with_reducible refine' G.ix_tupR ?r ?h0 ?hd ?_); (case r => walk_at "R"); (case h0 => walk_at "side"); (case hd => first | rfl | assumption); walk_at "got")
  | ((with_reducible refine' G.ix_lstR ?r ?h0 ?hd ?_); (case r => walk_at "R"); (case h0 => walk_at "side"); (case hd => first | rfl | assumption); walk_at "got")
  | ((with_reducible refine' G.ix_strR ?l ?h0 ?hd ?_); (case l => walk_at "side"); (case h0 => walk_at "side"); (case hd => first | rfl | assumption))
  | ((with_reducible refine' G.ix_strM ?l ?h0 ?h1 ?_); (case l => walk_at "side"); (case h0 => walk_at "side"); (case h1 => walk_at "side"); intro c0 hc0)
  | ((with_reducible refine' G.ix_tupN ?r ?h0 ?h1 ?_); (case r => walk_at "R"); (case h0 => walk_at "side"); (case h1 => walk_at "side"); intro v0 d0 hd0 r0)
  | ((with_reducible refine' G.ix_lstS ?r ?h0 ?h1 ?_); (case r => walk_at "R"); (case h0 => walk_at "side"); (case h1 => walk_at "side"); intro z0 hz0)
  | ((with_reducible refine' G.ix_lstN ?r ?h0 ?h1 ?_); (case r => walk_at "R"); (case h0 => walk_at "side"); (case h1 => walk_at "side"); intro v0 d0 hd0 r0)
  | ((with_reducible refine' G.sl_strR ?l ?_); (case l => walk_at "side"))
  | ((with_reducible refine' G.sl_tupR ?r ?_); (case r => walk_at "R"); intro v0 H0 s0 r0)
  | ((with_reducible refine' G.sl_lstR ?r ?_); (case r => walk_at "R"); intro v0 H0 s0 r0)
  | ((with_reducible refine' G.tupOf_L ?r ?_); (case r => walk_at "R"); intro v0 H0 s0 r0)
  | ((with_reducible refine' G.tupOf_T ?r ?_); (case r => walk_at "R"))
  | ((with_reducible refine' G.lstOf_T ?r ?_); (case r => walk_at "R"); intro v0 H0 s0 r0)
  | ((with_reducible refine' G.lstOf_L ?r ?_); (case r => walk_at "R"); intro v0 H0 s0 r0)
  | with_reducible refine G.st_lcL ?_
  | with_reducible refine G.st_lcT ?_
  | with_reducible refine G.st_lcS ?_
  | with_reducible refine G.st_lcR ?_
  | with_reducible refine G.st_M0 ?_
  | with_reducible refine G.st_M1 ?_
  | (with_reducible refine G.upper_one ?_; intro hu0)
  | ((with_reducible refine' G.upper_R ?l ?_); (case l => walk_at "side"))
  | (with_reducible refine G.st_strAnd ?_)
  | (with_reducible refine G.st_sub ?_)
  | ((with_reducible refine' G.set_20 ?hp ?_); (case hp => first | exact L2.upd_same | walk_at "P"))
  | ((with_reducible refine' G.set_21 ?hp ?_); (case hp => first | exact L2.upd_same | walk_at "P"))
  | ((with_reducible refine' G.set_at ?hp ?hi ?_); (case hp => first | exact L2.upd_same | walk_at "P"); (case hi => rfl))
  | with_reducible refine G.st_lst2 ?_
  | with_reducible refine G.st_shut ?_
  | with_reducible refine G.st_forR ?_
  | ((with_reducible refine' G.len_scr ?s ?_); (case s => walk_at "Q"))
  | ((with_reducible refine' G.ix_scr ?s ?h0 ?h1 ?_); (case s => walk_at "Q"); (case h0 => walk_at "side"); (case h1 => walk_at "side"); intro n0)
  | ((with_reducible refine' G.sl_scr ?s ?_); (case s => walk_at "Q"); intro v0 H0 s0 r0)
  | (with_reducible refine' G.st_disp1 ?_; intro v0 H0 s0 r0)
  | walk_at "c"
  | fail "no step")
local macro_rules | `(tactic| walk_at "r") => `(tactic| repeat' (walk_at "s"))

local macro_rules | `(tactic| walk_at "side") => `(tactic| first | exact G.nm_a (by with_reducible assumption) | exact G.fm_a (by with_reducible assumption) | exact G.nm_b (by with_reducible assumption) | exact G.nm_c (by with_reducible assumption) | fail)
local macro_rules | `(tactic| walk_at "c") => `(tactic| ((with_reducible refine' G.use_name ?hp ?_); (case hp => walk_at "P"); intro z0 H0 s0 hz0))
local macro_rules | `(tactic| walk_at "c") => `(tactic| ((with_reducible refine' G.use_form ?hp ?_); (case hp => walk_at "P"); intro z0 H0 s0 hz0))
local macro_rules | `(tactic| walk_at "c") => `(tactic| ((with_reducible refine' G.use_pool ?hp ?_); (case hp => walk_at "P"); intro v0 fs0 gs0 ns0 H0 s0 ok0 r0))
local macro_rules | `(tactic| walk_at "c") => `(tactic| ((with_reducible refine' G.use_leaf ?hp ?r ?ok ?h0 ?h1 ?_); (case hp => walk_at "P"); (case r => walk_at "R"); (case ok => with_reducible assumption); (case h0 => walk_at "side"); (case h1 => walk_at "side"); intro v0 t0 H0 s0 r0 ht0 hd0 hs0))
local macro_rules | `(tactic| walk_at "c") => `(tactic| ((with_reducible refine' G.use_term ?hp ?r ?ok ?h0 ?h1 ?e0 ?e1 ?_); (case hp => walk_at "P"); (case r => walk_at "R"); (case ok => with_reducible assumption); (case h0 => walk_at "side"); (case h1 => walk_at "side"); (case e0 => walk_at "side"); (case e1 => walk_at "side"); intro v0 t0 H0 s0 r0 ht0 hd0 hs0))
local macro_rules | `(tactic| walk_at "c") => `(tactic| ((with_reducible refine' G.use_tall ?hp ?r ?ok ?rt ?ht ?h0 ?h1 ?_); (case hp => walk_at "P"); (case r => walk_at "R"); (case ok => with_reducible assumption); (case rt => walk_at "R"); (case ht => with_reducible assumption); (case h0 => walk_at "side"); (case h1 => walk_at "side"); intro v0 t0 H0 s0 r0 ht0 hd0 hs0))
local macro_rules | `(tactic| walk_at "c") => `(tactic| ((with_reducible refine' G.use_anyT ?hp ?r ?ok ?h0 ?h1 ?_); (case hp => walk_at "P"); (case r => walk_at "R"); (case ok => with_reducible assumption); (case h0 => walk_at "side"); (case h1 => walk_at "side"); intro v0 t0 H0 s0 r0 ht0 hd0 hs0))

local macro_rules | `(tactic| walk_at "w") => `(tactic| first
  | with_reducible refine G.st_BM0 ?_
  | with_reducible refine G.st_BM ?_
  | ((with_reducible refine' G.st_tyl ?hl ?_); (case hl => walk_at "P"))
  | ((with_reducible refine' G.popR ?hl ?ra ?hn ?_); (case hl => walk_at "P"); (case ra => with_reducible assumption); (case hn => with_reducible assumption); intro v0 ws0 H0 x0 hl0 ra0 r0)
  | ((with_reducible refine' G.extR ?hl ?ra ?r ?hz ?hn ?hn' ?_); (case hl => walk_at "P"); (case ra => first | with_reducible assumption | exact G.ra_mono (by with_reducible assumption) (by walk_at "S")); (case r => walk_at "R"); (case hz => walk_at "side"); (case hn => walk_at "nol"); (case hn' => walk_at "nol"); intro ws0 H0 x0 hl0 ra0)
  | ((with_reducible refine' G.gtup2 ?r ?_); (case r => walk_at "R"); intro v1 v2 r1 r2)
  | with_reducible refine G.st_asgT ?_
  | with_reducible refine G.int_bl ?_
  | with_reducible refine G.max_2 ?_
  | ((with_reducible refine' G.st_aug ?hx ?_); (case hx => rfl))
  | with_reducible refine G.ipI_int ?_
  | with_reducible refine G.whB ?_
  | with_reducible refine G.st_lstF ?_
  | ((with_reducible refine' G.st_newLF ?r ?l ?_); (case r => walk_at "A"); (case l => first | exact Nat.le_of_ble_eq_true rfl | walk_at "side"); intro p0 H0 f0 s0 hl0 ra0)
  | fail "no step")
local macro_rules | `(tactic| walk_at "nol") => `(tactic| first | with_reducible assumption | rfl | exact G.Th.noL _ | exact G.Th.noLs _)
local macro_rules | `(tactic| walk_at "c") => `(tactic| walk_at "w")

local macro_rules | `(tactic| walk_at "c") => `(tactic| first
  | with_reducible refine G.neg_i ?_
  | with_reducible refine G.st_BMs ?_
  | with_reducible refine G.st_tys ?_
  | with_reducible refine G.st_gcons ?_
  | with_reducible refine G.st_gnil ?_
  | with_reducible refine G.st_gname ?_
  | with_reducible refine G.st_gsub ?_
  | ((with_reducible refine' G.iC ?hc ?_); (case hc => show (0 : Int) < _; decide +kernel))
  | ((with_reducible refine' G.ix_scrLast ?hs ?h1 ?_); (case hs => walk_at "Q"); (case h1 => walk_at "side"); intro n0)
  | ((with_reducible refine' G.divmodR ?h0 ?h1 ?_); (case h0 => walk_at "side"); (case h1 => walk_at "side"); intro p0 H0 f0 e0)
  | (with_reducible refine G.absR ?_; intro j0)
  | fail "no step")

local macro_rules | `(tactic| walk_at "B") => `(tactic| first | with_reducible assumption | exact G.bk_keep (by with_reducible assumption) (by walk_at "S"))
local macro_rules | `(tactic| walk_at "c") => `(tactic| first
  | ((with_reducible refine' G.use_nextU ?hp ?h0 ?h1 ?_); (case hp => walk_at "P"); (case h0 => walk_at "side"); (case h1 => walk_at "side"); intro r0 H0 s0 hr0 hr1)
  | ((with_reducible refine' G.ix_b1 ?h ?_); (case h => walk_at "B"); intro af0 lb0 lc0 hf0 rb0 rc0)
  | ((with_reducible refine' G.ix_b2 ?h ?_); (case h => walk_at "B"); intro v0 r0)
  | ((with_reducible refine' G.ix_b3 ?h ?_); (case h => walk_at "B"); intro v0 r0)
  | ((with_reducible refine' G.ix_b5 ?h ?_); (case h => walk_at "B"); intro v0 r0)
  | with_reducible refine G.st_dget ?_
  | with_reducible refine G.st_dget2 ?_
  | with_reducible refine G.st_lcLT ?_
  | with_reducible refine G.st_lcET ?_
  | with_reducible refine G.st_lcETT ?_
  | with_reducible refine G.st_forL ?_
  | with_reducible refine G.st_forE ?_
  | with_reducible refine G.st_forT ?_
  | fail "no step")
local macro_rules | `(tactic| walk_at "u") => `(tactic| repeat' ((fail_if_success (with_reducible refine G.st_if ?_)); walk_at "s"))
local macro_rules | `(tactic| walk_at "c") => `(tactic| (with_reducible refine G.minR ?_; intro m0 hm0 hm1 hm2))

namespace G
open PySem PySem.Spec PyProof.Rows L2
section
variable {P : Program} {w : World} {K : PySem.W.Frag} {mg : Str → Option Value} {base : Heap} {k n : Nat}
theorem ok_with_terms (T : Tp K mg) {m : Nat} (c_terms_of : Cal P w K mg base k "terms_of" (spTermsOf K m)) (c_with_terms : Cal P w K mg base k "with_terms" (spWithTs K n)) (hm : n ≤ m) : Cal P w K mg base (k + 1) "with_terms" (spWithTs K (n + 1)) := by
  refine T.d_with_terms.cal sc_with_terms (fun vs H Q E h => ?_) (fun f cdv A outer s H vs Q E hr h => ?_)
  · obtain ⟨v, vl, t, ts, F, b, rfl, _⟩ := h; rfl
  obtain ⟨v, vl, t, ts, F, b, rfl, r, rl, ht, hl, hd, hz, q⟩ := h
  have sc := @sc_with_terms
  refine ⟨_, (pss_cons (ps_if (pt_cmpR (op_eqK K hr) (pe_ix (ix_K K) (pv 0) pe_int (fun _ _ => rfl)) pe_str (nomark _)) (pss_one (ps_ret (pv 0))) pss_nil)
      (pss_cons (ps_if (pt_cmpR (op_eqK K hr) (pe_ix (ix_K K) (pv 0) pe_int (fun _ _ => rfl)) pe_str (nomark _)) (pss_one (ps_ret (pe_tupK K (pa_cons pe_str (pa_cons (pe_ix (ix_K K) (pv 1) pe_int (fun _ _ => rfl)) (pa_cons (pe_ix (ix_K K) (pv 1) pe_int (fun _ _ => rfl)) pa_nil)))))) pss_nil)
      (pss_cons (ps_if (pt_cmpR (op_eqK K hr) (pe_ix (ix_K K) (pv 0) pe_int (fun _ _ => rfl)) pe_str (nomark _)) (pss_one (ps_ret (pe_tupK K (pa_cons pe_str (pa_cons (pe_ix (ix_K K) (pv 0) pe_int (fun _ _ => rfl)) (pa_cons (tupleOf_K K rfl T.n_tuple (pv 1)) pa_nil)))))) pss_nil)
      (pss_cons (ps_if (PW.pt (pw_or (pt_cmpR (op_eqK K hr) (pe_ix (ix_K K) (pv 0) pe_int (fun _ _ => rfl)) pe_str (nomark _)) (pw_or1 (pt_cmpR (op_eqK K hr) (pe_ix (ix_K K) (pv 0) pe_int (fun _ _ => rfl)) pe_str (nomark _))))) (pss_one (ps_ret (pe_tupK K (pa_cons (pe_ix (ix_K K) (pv 0) pe_int (fun _ _ => rfl)) (pa_cons (pe_ix (ix_K K) (pv 0) pe_int (fun _ _ => rfl)) (pa_cons (pe_c c_with_terms hr (Nat.le_refl _) rfl (pa_cons (pe_ix (ix_K K) (pv 0) pe_int (fun _ _ => rfl)) (pa_cons (pv 1) pa_nil))) pa_nil)))))) pss_nil)
      (pss_cons (ps_set (i := 2) sc.nd rfl (Or.inl rfl) (pe_callB (len_K K) rfl T.n_len bt_len (pa_cons (pe_c c_terms_of hr (Nat.le_refl _) rfl (pa_cons (pe_ix (ix_K K) (pv 0) pe_int (fun _ _ => rfl)) pa_nil)) pa_nil)))
      (pss_one (ps_ret (pe_tupK K (pa_cons (pe_ix (ix_K K) (pv 0) pe_int (fun _ _ => rfl)) (pa_cons (pe_c c_with_terms hr (Nat.le_refl _) rfl (pa_cons (pe_ix (ix_K K) (pv 0) pe_int (fun _ _ => rfl)) (pa_cons (pe_slice (sl_K K) (pv 1) po_none (po_some (pv 2))) pa_nil))) (pa_cons (pe_c c_with_terms hr (Nat.le_refl _) rfl (pa_cons (pe_ix (ix_K K) (pv 0) pe_int (fun _ _ => rfl)) (pa_cons (pe_slice (sl_K K) (pv 1) (po_some (pv 2)) po_none) pa_nil))) pa_nil))))))))))), ?_⟩
  cases t with
  | free x => exact absurd ht (by intro h; exact h)
  | bnd j => exact absurd ht (by intro h; exact h)
  | fls =>
    have r' : R K H v (.tuple [.str "false"]) := r
    walk_at "r"
    exact q _ _ (by walk_at "S") (r.mono (by walk_at "S"))
  | app w c args =>
    cases w with
    | form => exact absurd ht (by intro h; exact h)
    | call => exact absurd ht (by intro h; exact h)
    | atom =>
      have r' : R K H v (.tuple [.str "atom", .str c, .tuple (Th.ds args)]) := r
      walk_at "r"
      exact q _ _ (by walk_at "S") (by assumption)
  | qua w c a =>
    simp only [Th.dep] at hd
    simp only [Th.sz] at hz
    have r' : R K H v (.tuple [.str w.s, .str c, a.d]) := r
    have hta := ht.2
    cases w
    all_goals
      walk_at "r"
      rename_i v3 r3
      refine use_withTs r3 (rl.mono (by walk_at "S")) hta hl (by omega) (by omega) fun y H1 s1 ry => ?_
      walk_at "r"
      exact q _ _ (by walk_at "S") (by assumption)
  | two w a b =>
    simp only [Th.dep] at hd
    simp only [Th.sz] at hz
    have r' : R K H v (.tuple [.str w.s, a.d, b.d]) := r
    cases w with
    | same =>
      obtain ⟨t0, t1, rfl⟩ : ∃ t0 t1, ts = [t0, t1] := by
        match ts, hl with
        | [t0, t1], _ => exact ⟨t0, t1, rfl⟩
      have rl' : R K H vl (.list [t0.d, t1.d]) := rl
      walk_at "r"
      exact q _ _ (by walk_at "S") (by assumption)
    | _ =>
      have hta := ht.1
      have htb := ht.2
      have hl' : ts.length = a.termsOf.length + b.termsOf.length := by rw [hl]; simp [Th.termsOf]
      walk_at "r"
      rename_i v3 r3
      refine use_termsOf r3 hta (by omega) (by omega) fun y1 H1 s1 ry1 => ?_
      walk_at "r"
      rename_i zw va ra vb Hb sb rb
      rw [ds_len, cut_to_ds] at rb
      refine use_withTs (R.mono sb ra) rb hta (by rw [List.length_take]; omega) (by omega) (by omega) fun y2 H2 s2 ry2 => ?_
      walk_at "r"
      rename_i vc rc vd Hd sd rd
      rw [ds_len, cut_from_ds] at rd
      refine use_withTs (R.mono sd rc) rd htb (by rw [List.length_drop]; omega) (by omega) (by omega) fun y3 H3 s3 ry3 => ?_
      walk_at "r"
      rename_i v9 H9 s9 r9
      exact q _ _ (by walk_at "S") r9
theorem with_terms_n (T : Tp K mg) {m : Nat} (c_terms_of : ∀ n, n ≤ m → Cal P w K mg base (m + 1) "terms_of" (spTermsOf K m)) : ∀ n : Nat, n ≤ m → Cal P w K mg base (m + 1 + n + 1) "with_terms" (spWithTs K n)
  | 0, _ => T.d_with_terms.none fun vs H Q E h => by obtain ⟨v, vl, t, ts, F, b, _, _, _, _, _, h0, _⟩ := h; have := t.dep_pos; omega
  | n + 1, h => ok_with_terms (m := m) T ((c_terms_of 0 (Nat.zero_le _)).lift (by omega)) (with_terms_n T c_terms_of n (by omega)) (by omega)

end
end G

end

section
/-! the words of the walk: S (a heap keeps), R (a value stands for data), A (a row of them), no (a way that cannot be), s (one step), r (all steps) -/
local macro_rules | `(tactic| walk_at "S") => `(tactic| first | exact L2.Same.refl _ | assumption | exact G.sm_tr (by assumption) (by walk_at "S"))
local macro_rules | `(tactic| walk_at "R") => `(tactic| first
  | with_reducible exact G.R.int _ | with_reducible exact G.R.str _ | with_reducible exact G.R.bl _ | with_reducible exact G.R.non
  | with_reducible assumption
  | exact G.r_mono (by with_reducible assumption) (by walk_at "S")
  | ((with_reducible refine' G.R.lst L2.upd_same ?rl); (case rl => walk_at "A")))
local macro_rules | `(tactic| walk_at "A") => `(tactic| first | with_reducible exact G.RA.nil | ((with_reducible refine' G.RA.cons ?ra ?rb); (case ra => walk_at "R"); (case rb => walk_at "A")))
local macro_rules | `(tactic| walk_at "no") => `(tactic| first | contradiction | omega)
local macro_rules | `(tactic| walk_at "side") => `(tactic| first | with_reducible rfl | with_reducible assumption | omega | exact Int.lt_of_lt_of_le (by with_reducible assumption) (by decide +kernel) | ((with_reducible refine G.le_up ?_); decide +kernel) | (simp only [List.length_cons, List.length_nil, List.getElem?_cons_zero, List.getElem?_cons_succ, List.length_map]; done) | (simp only [List.length_cons, List.length_nil, List.length_map, List.length_append] at *; omega))
local macro_rules | `(tactic| walk_at "sideC") => `(tactic| first | with_reducible assumption | (with_reducible refine G.cmul_r ⟨?_, ?_⟩ <;> decide) | (with_reducible refine G.cdiv_r ⟨?_, ?_⟩ <;> decide) | (with_reducible refine G.cmul_l ⟨?_, ?_⟩ <;> decide) | (with_reducible refine G.cpow_c ⟨?_, ?_, ?_⟩ <;> decide) | (with_reducible refine G.cmul_r ⟨?_, ?_⟩ <;> omega) | (with_reducible refine G.cdiv_r ⟨?_, ?_⟩ <;> omega) | omega)
local macro_rules | `(tactic| walk_at "got") => `(tactic| (intro v0 r0; first
  | (have e0 := G.R.inv_str r0; subst e0) | (have e0 := G.R.inv_int r0; subst e0) | (have e0 := G.R.inv_bl r0; subst e0) | (have e0 := G.R.inv_non r0; subst e0) | skip))
local macro_rules | `(tactic| walk_at "P") => `(tactic| first | with_reducible assumption | exact G.keep_at (by with_reducible assumption) (by walk_at "S"))
local macro_rules | `(tactic| walk_at "c") => `(tactic| fail)
local macro_rules | `(tactic| walk_at "Q") => `(tactic| first | with_reducible assumption | exact G.seq_keep (by with_reducible assumption) (by walk_at "S"))
local macro_rules | `(tactic| walk_at "c") => `(tactic| ((with_reducible refine' G.use_state ?hp ?h0 ?h1 ?_); (case hp => walk_at "Q"); (case h0 => walk_at "side"); (case h1 => walk_at "side"); intro p0 H0 s0 hp0))
local macro_rules | `(tactic| walk_at "c") => `(tactic| ((with_reducible refine' G.use_draw ?hp ?h0 ?h1 ?_); (case hp => walk_at "P"); (case h0 => walk_at "side"); (case h1 => walk_at "side"); intro r0 hr0 hr1))
local macro_rules | `(tactic| walk_at "s") => `(tactic| first
  | with_reducible refine G.st_seq ?_
  | ((with_reducible refine' G.st_var ?hv ?_); (case hv => exact rfl))
  | with_reducible refine G.st_c ?_
  | with_reducible refine G.st_op ?_
  | with_reducible refine G.st_bl ?_
  | with_reducible refine L2.iteT ?_
  | with_reducible refine L2.iteF ?_
  | with_reducible refine G.ite_nt ?_
  | with_reducible refine G.ite_nf ?_
  | ((with_reducible refine G.st_ite ?_ ?_) <;> (intro hb; (try simp only [decide_eq_true_eq, decide_eq_false_iff_not, Bool.not_eq_true', Bool.not_eq_false', beq_iff_eq, Bool.and_eq_true, Bool.or_eq_true, Bool.and_eq_false_iff, Bool.or_eq_false_iff, beq_eq_false_iff_ne, ne_eq, Int.not_lt, Int.not_le, Nat.not_lt, Nat.not_le] at hb); first | (exfalso; walk_at "no"; done) | skip))
  | with_reducible refine G.st_if ?_
  | with_reducible refine G.st_ret ?_
  | with_reducible refine G.st_set ?_
  | with_reducible refine G.st_call ?_
  | with_reducible refine G.st_cons ?_
  | with_reducible refine G.st_nil ?_
  | with_reducible refine G.st_CB ?_
  | with_reducible refine G.st_tTest ?_
  | with_reducible refine G.st_tB ?_
  | with_reducible refine G.st_or ?_
  | with_reducible refine G.st_and ?_
  | with_reducible refine G.st_not ?_
  | with_reducible refine G.st_orV ?_
  | with_reducible refine G.st_andV ?_
  | with_reducible refine G.st_notV ?_
  | with_reducible refine G.st_tIf ?_
  | with_reducible refine G.st_chain ?_
  | with_reducible refine G.st_un ?_
  | with_reducible refine G.st_then ?_
  | with_reducible refine G.st_slice ?_
  | with_reducible refine G.st_noPart ?_
  | with_reducible refine G.st_part ?_
  | with_reducible refine G.st_exInt ?_
  | with_reducible refine G.st_drop ?_
  | with_reducible refine G.st_next ?_
  | with_reducible refine G.st_retN ?_
  | with_reducible refine G.add_int ?_
  | with_reducible refine G.i0 ?_
  | ((with_reducible refine G.imod2 (by decide) ?_ ?_) <;> (intro hm; first | (exfalso; walk_at "no"; done) | skip))
  | ((with_reducible refine G.imod3 (by decide) ?_ ?_ ?_) <;> (intro hm; first | (exfalso; walk_at "no"; done) | skip))
  | ((with_reducible refine' G.iC ?hc ?_); (case hc => walk_at "sideC"))
  | ((with_reducible refine' G.eq_str1 ?e ?_); (case e => with_reducible rfl))
  | ((with_reducible refine' G.eq_str0 ?e ?_); (case e => decide +kernel))
  | with_reducible refine G.eq_str ?_
  | with_reducible refine G.eq_int ?_
  | with_reducible refine G.eq_bl ?_
  | with_reducible refine G.ne_str ?_
  | with_reducible refine G.ne_int ?_
  | ((with_reducible refine' G.is_none ?r ?_); (case r => walk_at "R"))
  | ((with_reducible refine' G.isnt_none ?r ?_); (case r => walk_at "R"))
  | with_reducible refine G.is_bl ?_
  | with_reducible refine G.isnt_bl ?_
  | with_reducible refine G.in_sign ?_
  | with_reducible refine G.nin_sign ?_
  | ((with_reducible refine' G.in_strsT1 ?r ?c ?e ?_); (case r => walk_at "R"); (case c => rfl); (case e => decide +kernel))
  | ((with_reducible refine' G.in_strsT0 ?r ?c ?e ?_); (case r => walk_at "R"); (case c => rfl); (case e => decide +kernel))
  | ((with_reducible refine' G.in_strsT ?r ?c ?_); (case r => walk_at "R"); (case c => rfl))
  | ((with_reducible refine' G.nin_strsT ?r ?c ?_); (case r => walk_at "R"); (case c => rfl))
  | ((with_reducible refine' G.in_intsT ?r ?c ?_); (case r => walk_at "R"); (case c => rfl))
  | ((with_reducible refine' G.nin_intsT ?r ?c ?_); (case r => walk_at "R"); (case c => rfl))
  | ((with_reducible refine' G.add_str ?l ?_); (case l => walk_at "side"))
  | ((with_reducible refine' G.add_tup ?r ?s ?l ?_); (case r => walk_at "R"); (case s => walk_at "R"); (case l => walk_at "side"); intro v0 H0 s0 r0)
  | ((with_reducible refine' G.add_lst ?r ?s ?l ?_); (case r => walk_at "R"); (case s => walk_at "R"); (case l => walk_at "side"); intro v0 H0 s0 r0)
  | ((with_reducible refine' G.isi_1 ?r ?e ?t ?_); (case r => walk_at "R"); (case e => rfl); (case t => simp only [List.mem_cons, true_or, or_true]))
  | ((with_reducible refine' G.isi_0 ?r ?e ?t ?_); (case r => walk_at "R"); (case e => rfl); (case t => simp only [List.mem_cons, true_or, or_true]))
  | ((with_reducible refine' G.isi_R ?r ?t ?_); (case r => walk_at "R"); (case t => simp only [List.mem_cons, true_or, or_true]))
  | ((with_reducible refine' G.len_str ?l ?_); (case l => walk_at "side"))
  | ((with_reducible refine' G.len_tup ?r ?_); (case r => walk_at "R"))
  | ((with_reducible refine' G.len_lst ?r ?_); (case r => walk_at "R"))
  | (with_reducible refine G.st_tup ?_)
  | (with_reducible refine G.st_lst ?_)
  | ((with_reducible refine' G.st_newT ?r ?l ?_); (case r => walk_at "A"); (case l => first | exact Nat.le_of_ble_eq_true rfl | walk_at "side"); intro v0 H0 s0 r0)
  | ((with_reducible refine' G.st_newL ?r ?l ?_); (case r => walk_at "A"); (case l => first | exact Nat.le_of_ble_eq_true rfl | walk_at "side"); intro v0 H0 s0 r0)
  | ((with_reducible refine' G.ix_tupR ?r ?h0 ?hd ?_); (case r => walk_at "R"); (case h0 => walk_at "side"); (case hd => first | rfl | assumption); walk_at "got")
  | ((with_reducible refine' G.ix_lstR ?r ?h0 ?hd ?_); (case r => walk_at "R"); (case h0 => walk_at "side"); (case hd => first | rfl | assumption); walk_at "got")
  | ((with_reducible refine' G.ix_strR ?l ?h0 ?hd ?_); (case l => walk_at "side"); (case h0 => walk_at "side"); (case hd => first | rfl | assumption))
  | ((with_reducible refine' G.ix_strM ?l ?h0 ?h1 ?_); (case l => walk_at "side"); (case h0 => walk_at "side"); (case h1 => walk_at "side"); intro c0 hc0)
  | ((with_reducible refine' G.ix_tupN ?r ?h0 ?h1 ?_); (case r => walk_at "R"); (case h0 => walk_at "side"); (case h1 => walk_at "side"); intro v0 d0 hd0 r0)
  | ((with_reducible refine' G.ix_lstS ?r ?h0 ?h1 ?_); (case r => walk_at "R"); (case h0 => walk_at "side"); (case h1 => walk_at "side"); intro z0 hz0)
  | ((with_reducible refine' G.ix_lstN ?r ?h0 ?h1 ?_); (case r => walk_at "R"); (case h0 => walk_at "side"); (case h1 => walk_at "side"); intro v0 d0 hd0 r0)
  | ((with_reducible refine' G.sl_strR ?l ?_); (case l => walk_at "side"))
  | ((with_reducible refine' G.sl_tupR ?r ?_); (case r => walk_at "R"); intro v0 H0 s0 r0)
  | ((with_reducible refine' G.sl_lstR ?r ?_); (case r => walk_at "R"); intro v0 H0 s0 r0)
  | ((with_reducible refine' G.tupOf_L ?r ?_); (case r => walk_at "R"); intro v0 H0 s0 r0)
  | ((with_reducible refine' G.tupOf_T ?r ?_); (case r => walk_at "R"))
  | ((with_reducible refine' G.lstOf_T ?r ?_); (case r => walk_at "R"); intro v0 H0 s0 r0)
  | ((with_reducible refine' G.lstOf_L ?r ?_); (case r => walk_at "R"); intro v0 H0 s0 r0)
  | with_reducible refine G.st_lcL ?_
  | with_reducible refine G.st_lcT ?_
  | with_reducible refine G.st_lcS ?_
  | with_reducible refine G.st_lcR ?_
  | with_reducible refine G.st_M0 ?_
  | with_reducible refine G.st_M1 ?_
  | (with_reducible refine G.upper_one ?_; intro hu0)
  | ((with_reducible refine' G.upper_R ?l ?_); (case l => walk_at "side"))
  | (with_reducible refine G.st_strAnd ?_)
  | (with_reducible refine G.st_sub ?_)
  | ((with_reducible refine' G.set_20 ?hp ?_); (case hp => first | exact L2.upd_same | walk_at "P"))
  | ((with_reducible refine' G.set_21 ?hp ?_); (case hp => first | exact L2.upd_same | walk_at "P"))
  | ((with_reducible refine' G.set_at ?hp ?hi ?_); (case hp => first | exact L2.upd_same | walk_at "P"); (case hi => rfl))
  | with_reducible refine G.st_lst2 ?_
  | with_reducible refine G.st_shut ?_
  | with_reducible refine G.st_forR ?_
  | ((with_reducible refine' G.len_scr ?s ?_); (case s => walk_at "Q"))
  | ((with_reducible refine' G.ix_scr ?s ?h0 ?h1 ?_); (case s => walk_at "Q"); (case h0 => walk_at "side"); (case h1 => walk_at "side"); intro n0)
  | ((with_reducible refine' G.sl_scr ?s ?_); (case s => walk_at "Q"); intro v0 H0 s0 r0)
  | (with_reducible refine' G.st_disp1 ?_; intro v0 H0 s0 r0)
  | walk_at "c"
  | fail "no step")
local macro_rules | `(tactic| walk_at "r") => `(tactic| repeat' (walk_at "s"))

local macro_rules | `(tactic| walk_at "side") => `(tactic| first | exact G.nm_a (by with_reducible assumption) | exact G.fm_a (by with_reducible assumption) | exact G.nm_b (by with_reducible assumption) | exact G.nm_c (by with_reducible assumption) | fail)
local macro_rules | `(tactic| walk_at "c") => `(tactic| ((with_reducible refine' G.use_name ?hp ?_); (case hp => walk_at "P"); intro z0 H0 s0 hz0))
local macro_rules | `(tactic| walk_at "c") => `(tactic| ((with_reducible refine' G.use_form ?hp ?_); (case hp => walk_at "P"); intro z0 H0 s0 hz0))
local macro_rules | `(tactic| walk_at "c") => `(tactic| ((with_reducible refine' G.use_pool ?hp ?_); (case hp => walk_at "P"); intro v0 fs0 gs0 ns0 H0 s0 ok0 r0))
local macro_rules | `(tactic| walk_at "c") => `(tactic| ((with_reducible refine' G.use_leaf ?hp ?r ?ok ?h0 ?h1 ?_); (case hp => walk_at "P"); (case r => walk_at "R"); (case ok => with_reducible assumption); (case h0 => walk_at "side"); (case h1 => walk_at "side"); intro v0 t0 H0 s0 r0 ht0 hd0 hs0))
local macro_rules | `(tactic| walk_at "c") => `(tactic| ((with_reducible refine' G.use_term ?hp ?r ?ok ?h0 ?h1 ?e0 ?e1 ?_); (case hp => walk_at "P"); (case r => walk_at "R"); (case ok => with_reducible assumption); (case h0 => walk_at "side"); (case h1 => walk_at "side"); (case e0 => walk_at "side"); (case e1 => walk_at "side"); intro v0 t0 H0 s0 r0 ht0 hd0 hs0))
local macro_rules | `(tactic| walk_at "c") => `(tactic| ((with_reducible refine' G.use_tall ?hp ?r ?ok ?rt ?ht ?h0 ?h1 ?_); (case hp => walk_at "P"); (case r => walk_at "R"); (case ok => with_reducible assumption); (case rt => walk_at "R"); (case ht => with_reducible assumption); (case h0 => walk_at "side"); (case h1 => walk_at "side"); intro v0 t0 H0 s0 r0 ht0 hd0 hs0))
local macro_rules | `(tactic| walk_at "c") => `(tactic| ((with_reducible refine' G.use_anyT ?hp ?r ?ok ?h0 ?h1 ?_); (case hp => walk_at "P"); (case r => walk_at "R"); (case ok => with_reducible assumption); (case h0 => walk_at "side"); (case h1 => walk_at "side"); intro v0 t0 H0 s0 r0 ht0 hd0 hs0))

local macro_rules | `(tactic| walk_at "w") => `(tactic| first
  | with_reducible refine G.st_BM0 ?_
  | with_reducible refine G.st_BM ?_
  | ((with_reducible refine' G.st_tyl ?hl ?_); (case hl => walk_at "P"))
  | ((with_reducible refine' G.popR ?hl ?ra ?hn ?_); (case hl => walk_at "P"); (case ra => with_reducible assumption); (case hn => with_reducible assumption); intro v0 ws0 H0 x0 hl0 ra0 r0)
  | ((with_reducible refine' G.extR ?hl ?ra ?r ?hz ?hn ?hn' ?_); (case hl => walk_at "P"); (case ra => first | with_reducible assumption | exact G.ra_mono (by with_reducible assumption) (by walk_at "S")); (case r => walk_at "R"); (case hz => walk_at "side"); (case hn => walk_at "nol"); (case hn' => walk_at "nol"); intro ws0 H0 x0 hl0 ra0)
  | ((with_reducible refine' G.gtup2 ?r ?_); (case r => walk_at "R"); intro v1 v2 r1 r2)
  | with_reducible refine G.st_asgT ?_
  | with_reducible refine G.int_bl ?_
  | with_reducible refine G.max_2 ?_
  | ((with_reducible refine' G.st_aug ?hx ?_); (case hx => rfl))
  | with_reducible refine G.ipI_int ?_
  | with_reducible refine G.whB ?_
  | with_reducible refine G.st_lstF ?_
  | ((with_reducible refine' G.st_newLF ?r ?l ?_); (case r => walk_at "A"); (case l => first | exact Nat.le_of_ble_eq_true rfl | walk_at "side"); intro p0 H0 f0 s0 hl0 ra0)
  | fail "no step")
local macro_rules | `(tactic| walk_at "nol") => `(tactic| first | with_reducible assumption | rfl | exact G.Th.noL _ | exact G.Th.noLs _)
local macro_rules | `(tactic| walk_at "c") => `(tactic| walk_at "w")

local macro_rules | `(tactic| walk_at "c") => `(tactic| first
  | with_reducible refine G.neg_i ?_
  | with_reducible refine G.st_BMs ?_
  | with_reducible refine G.st_tys ?_
  | with_reducible refine G.st_gcons ?_
  | with_reducible refine G.st_gnil ?_
  | with_reducible refine G.st_gname ?_
  | with_reducible refine G.st_gsub ?_
  | ((with_reducible refine' G.iC ?hc ?_); (case hc => show (0 : Int) < _; decide +kernel))
  | ((with_reducible refine' G.ix_scrLast ?hs ?h1 ?_); (case hs => walk_at "Q"); (case h1 => walk_at "side"); intro n0)
  | ((with_reducible refine' G.divmodR ?h0 ?h1 ?_); (case h0 => walk_at "side"); (case h1 => walk_at "side"); intro p0 H0 f0 e0)
  | (with_reducible refine G.absR ?_; intro j0)
  | fail "no step")

local macro_rules | `(tactic| walk_at "B") => `(tactic| first | with_reducible assumption | exact G.bk_keep (by with_reducible assumption) (by walk_at "S"))
local macro_rules | `(tactic| walk_at "c") => `(tactic| first
  | ((with_reducible refine' G.use_nextU ?hp ?h0 ?h1 ?_); (case hp => walk_at "P"); (case h0 => walk_at "side"); (case h1 => walk_at "side"); intro r0 H0 s0 hr0 hr1)
  | ((with_reducible refine' G.ix_b1 ?h ?_); (case h => walk_at "B"); intro af0 lb0 lc0 hf0 rb0 rc0)
  | ((with_reducible refine' G.ix_b2 ?h ?_); (case h => walk_at "B"); intro v0 r0)
  | ((with_reducible refine' G.ix_b3 ?h ?_); (case h => walk_at "B"); intro v0 r0)
  | ((with_reducible refine' G.ix_b5 ?h ?_); (case h => walk_at "B"); intro v0 r0)
  | with_reducible refine G.st_dget ?_
  | with_reducible refine G.st_dget2 ?_
  | with_reducible refine G.st_lcLT ?_
  | with_reducible refine G.st_lcET ?_
  | with_reducible refine G.st_lcETT ?_
  | with_reducible refine G.st_forL ?_
  | with_reducible refine G.st_forE ?_
  | with_reducible refine G.st_forT ?_
  | fail "no step")
local macro_rules | `(tactic| walk_at "u") => `(tactic| repeat' ((fail_if_success (with_reducible refine G.st_if ?_)); walk_at "s"))
local macro_rules | `(tactic| walk_at "c") => `(tactic| (with_reducible refine G.minR ?_; intro m0 hm0 hm1 hm2))

namespace G
open PySem PySem.Spec PyProof.Rows L2
section
variable {P : Program} {w : World} {K : PySem.W.Frag} {mg : Str → Option Value} {base : Heap} {k n : Nat}
theorem ok_with_place (T : Tp K mg) (c_with_place : Cal P w K mg base k "with_place" (spWith K n)) : Cal P w K mg base (k + 1) "with_place" (spWith K (n + 1)) := by
  refine T.d_with_place.cal sc_with_place (fun vs H Q E h => ?_) (fun f cdv A outer s H vs Q E hr h => ?_)
  · obtain ⟨v, vp, vo, t, o, ks, F, b, rfl, _⟩ := h; rfl
  obtain ⟨v, vp, vo, t, o, ks, F, b, rfl, r, rp, ro, ok, hm, hm', hz, q⟩ := h
  have sc := @sc_with_place
  refine ⟨_, (pss_cons (ps_if (pt_cmpR (op_eqK K hr) (pe_callB (len_K K) rfl T.n_len bt_len (pa_cons (pv 1) pa_nil)) pe_int (nomark _)) (pss_one (ps_ret (pv 2))) pss_nil)
      (pss_cons (ps_set (i := 3) sc.nd rfl (Or.inl rfl) (pe_ix (ix_K K) (pv 1) pe_int (fun _ _ => rfl)))
      (pss_cons (ps_set (i := 4) sc.nd rfl (Or.inl rfl) (pe_ix (ix_K K) (pv 0) pe_int (fun _ _ => rfl)))
      (pss_one (ps_ret (pe_tupK K (pa_cons (pe_ix (ix_K K) (pv 0) pe_int (fun _ _ => rfl)) (pa_cons (pe_ix (ix_K K) (pv 0) pe_int (fun _ _ => rfl)) (pa_cons (pe_op (op_addK K) (pe_op (op_addK K) (pe_slice (sl_K K) (pv 4) po_none (po_some (pv 3))) (pe_tupK K (pa_cons (pe_c c_with_place hr (Nat.le_refl _) rfl (pa_cons (pe_ix (ix_K K) (pv 4) (pv 3) (fun _ _ => rfl)) (pa_cons (pe_slice (sl_K K) (pv 1) (po_some pe_int) po_none) (pa_cons (pv 2) pa_nil)))) pa_nil))) (pe_slice (sl_K K) (pv 4) (po_some (pe_op (op_addK K) (pv 3) pe_int)) po_none)) pa_nil))))))))), ?_⟩
  have rp' : R K H vp (.tuple (ks.map fun i => .int (i : Nat))) := rp
  cases ks with
  | nil =>
    walk_at "r"
    exact q _ _ (by walk_at "S") (ro.mono (by walk_at "S"))
  | cons k1 ks =>
    cases t with
    | app w c args =>
      obtain ⟨hk, ok'⟩ := ok
      have r' : R K H v (.tuple [.str w.s, .str c, .tuple (Th.ds args)]) := r
      obtain ⟨hlen, hia⟩ := isT_app hz
      walk_at "r"
      · rename_i hb
        simp at hb
        omega
      rename_i hb rk va ra r3 r4 vt H1 s1 rt
      have hak : args[k1]? = some (args.getD k1 .fls) := by rw [List.getD_eq_getElem?_getD, List.getElem?_eq_getElem hk]; rfl
      have hsa := hia _ (List.mem_of_getElem? hak)
      refine ix_tupR (ra.mono s1) (by omega) (ds_get (t := args.getD k1 .fls) (by simpa using hak)) fun vx rx => ?_
      walk_at "r"
      rename_i vq H2 s2 rq
      have rq' : R K H2 vq (pls ks) := by rw [cutD_1] at rq; exact rq
      have hc := cutD_len (Th.ds args) none (some (k1 : Int))
      have hc2 := cutD_len (Th.ds args) (some ((k1 : Int) + 1)) none
      rw [ds_len] at hc hc2
      refine use_with (rx.mono s2) rq' (ro.mono (by walk_at "S")) ok' (by simp at hm; omega) (by simp at hm'; omega) hsa fun x3 H3 s3 r3' => ?_
      walk_at "r"
      rename_i vf Hf sf rf
      refine q _ _ (by walk_at "S") ?_
      have e : ((Th.app w c args).withP (k1 :: ks) o).d = .tuple [.str w.s, .str c, .tuple ((cutD (Th.ds args) none (some (k1 : Int)) ++ [((args.getD k1 .fls).withP ks o).d]) ++ cutD (Th.ds args) (some ((k1 : Int) + 1)) none)] := by
        rw [cutD_to, show ((k1 : Int) + 1) = ((k1 + 1 : Nat) : Int) from rfl, cutD_from]
        show PyData.tuple [.str w.s, .str c, .tuple (Th.ds (args.take k1 ++ [(args.getD k1 .fls).withP ks o] ++ args.drop (k1 + 1)))] = _
        rw [Th.ds_map, Th.ds_map, List.map_append, List.map_append, List.map_take, List.map_drop]
        rfl
      rw [e]
      exact rf
    | _ => exact absurd ok id
theorem with_place_n (T : Tp K mg) : ∀ n : Nat, Cal P w K mg base n "with_place" (spWith K n)
  | 0 => T.d_with_place.none fun vs H Q E h => by obtain ⟨v, vp, vo, t, o, ks, F, b, _, _, _, _, _, h0, _⟩ := h; exact absurd h0 (Nat.not_lt_zero _)
  | n + 1 => ok_with_place T (with_place_n T n)

end
end G

end

section
/-! the words of the walk: S (a heap keeps), R (a value stands for data), A (a row of them), no (a way that cannot be), s (one step), r (all steps) -/
local macro_rules | `(tactic| walk_at "S") => `(tactic| first | exact L2.Same.refl _ | assumption | exact G.sm_tr (by assumption) (by walk_at "S"))
local macro_rules | `(tactic| walk_at "R") => `(tactic| first
  | with_reducible exact G.R.int _ | with_reducible exact G.R.str _ | with_reducible exact G.R.bl _ | with_reducible exact G.R.non
  | with_reducible assumption
  | exact G.r_mono (by with_reducible assumption) (by walk_at "S")
  | ((with_reducible refine' G.R.lst L2.upd_same ?rl); (case rl => walk_at "A")))
local macro_rules | `(tactic| walk_at "A") => `(tactic| first | with_reducible exact G.RA.nil | ((with_reducible refine' G.RA.cons ?ra ?rb); (case ra => walk_at "R"); (case rb => walk_at "A")))
local macro_rules | `(tactic| walk_at "no") => `(tactic| first | contradiction | omega)
local macro_rules | `(tactic| walk_at "side") => `(tactic| first | with_reducible rfl | with_reducible assumption | omega | exact Int.lt_of_lt_of_le (by with_reducible assumption) (by decide +kernel) | ((with_reducible refine G.le_up ?_); decide +kernel) | (simp only [List.length_cons, List.length_nil, List.getElem?_cons_zero, List.getElem?_cons_succ, List.length_map]; done) | (simp only [List.length_cons, List.length_nil, List.length_map, List.length_append] at *; omega))
local macro_rules | `(tactic| walk_at "sideC") => `(tactic| first | with_reducible assumption | (with_reducible refine G.cmul_r ⟨?_, ?_⟩ <;> decide) | (with_reducible refine G.cdiv_r ⟨?_, ?_⟩ <;> decide) | (with_reducible refine G.cmul_l ⟨?_, ?_⟩ <;> decide) | (with_reducible refine G.cpow_c ⟨?_, ?_, ?_⟩ <;> decide) | (with_reducible refine G.cmul_r ⟨?_, ?_⟩ <;> omega) | (with_reducible refine G.cdiv_r ⟨?_, ?_⟩ <;> omega) | omega)
local macro_rules | `(tactic| walk_at "got") => `(tactic| (intro v0 r0; first
  | (have e0 := G.R.inv_str r0; subst e0) | (have e0 := G.R.inv_int r0; subst e0) | (have e0 := G.R.inv_bl r0; subst e0) | (have e0 := G.R.inv_non r0; subst e0) | skip))
local macro_rules | `(tactic| walk_at "P") => `(tactic| first | with_reducible assumption | exact G.keep_at (by with_reducible assumption) (by walk_at "S"))
local macro_rules | `(tactic| walk_at "c") => `(tactic| fail)
local macro_rules | `(tactic| walk_at "Q") => `(tactic| first | with_reducible assumption | exact G.seq_keep (by with_reducible assumption) (by walk_at "S"))
local macro_rules | `(tactic| walk_at "c") => `(tactic| ((with_reducible refine' G.use_state ?hp ?h0 ?h1 ?_); (case hp => walk_at "Q"); (case h0 => walk_at "side"); (case h1 => walk_at "side"); intro p0 H0 s0 hp0))
local macro_rules | `(tactic| walk_at "c") => `(tactic| ((with_reducible refine' G.use_draw ?hp ?h0 ?h1 ?_); (case hp => walk_at "P"); (case h0 => walk_at "side"); (case h1 => walk_at "side"); intro r0 hr0 hr1))
local macro_rules | `(tactic| walk_at "s") => `(tactic| first
  | with_reducible refine G.st_seq ?_
  | ((with_reducible refine' G.st_var ?hv ?_); (case hv => exact rfl))
  | with_reducible refine G.st_c ?_
  | with_reducible refine G.st_op ?_
  | with_reducible refine G.st_bl ?_
  | with_reducible refine L2.iteT ?_
  | with_reducible refine L2.iteF ?_
  | with_reducible refine G.ite_nt ?_
  | with_reducible refine G.ite_nf ?_
  | ((with_reducible refine G.st_ite ?_ ?_) <;> (intro hb; (try simp only [decide_eq_true_eq, decide_eq_false_iff_not, Bool.not_eq_true', Bool.not_eq_false', beq_iff_eq, Bool.and_eq_true, Bool.or_eq_true, Bool.and_eq_false_iff, Bool.or_eq_false_iff, beq_eq_false_iff_ne, ne_eq, Int.not_lt, Int.not_le, Nat.not_lt, Nat.not_le] at hb); first | (exfalso; walk_at "no"; done) | skip))
  | with_reducible refine G.st_if ?_
  | with_reducible refine G.st_ret ?_
  | with_reducible refine G.st_set ?_
  | with_reducible refine G.st_call ?_
  | with_reducible refine G.st_cons ?_
  | with_reducible refine G.st_nil ?_
  | with_reducible refine G.st_CB ?_
  | with_reducible refine G.st_tTest ?_
  | with_reducible refine G.st_tB ?_
  | with_reducible refine G.st_or ?_
  | with_reducible refine G.st_and ?_
  | with_reducible refine G.st_not ?_
  | with_reducible refine G.st_orV ?_
  | with_reducible refine G.st_andV ?_
  | with_reducible refine G.st_notV ?_
  | with_reducible refine G.st_tIf ?_
  | with_reducible refine G.st_chain ?_
  | with_reducible refine G.st_un ?_
  | with_reducible refine G.st_then ?_
  | with_reducible refine G.st_slice ?_
  | with_reducible refine G.st_noPart ?_
  | with_reducible refine G.st_part ?_
  | with_reducible refine G.st_exInt ?_
  | with_reducible refine G.st_drop ?_
  | with_reducible refine G.st_next ?_
  | with_reducible refine G.st_retN ?_
  | with_reducible refine G.add_int ?_
  | with_reducible refine G.i0 ?_
  | ((with_reducible refine G.imod2 (by decide) ?_ ?_) <;> (intro hm; first | (exfalso; walk_at "no"; done) | skip))
  | ((with_reducible refine G.imod3 (by decide) ?_ ?_ ?_) <;> (intro hm; first | (exfalso; walk_at "no"; done) | skip))
  | ((with_reducible refine' G.iC ?hc ?_); (case hc => walk_at "sideC"))
  | ((with_reducible refine' G.eq_str1 ?e ?_); (case e => with_reducible rfl))
  | ((with_reducible refine' G.eq_str0 ?e ?_); (case e => decide +kernel))
  | with_reducible refine G.eq_str ?_
  | with_reducible refine G.eq_int ?_
  | with_reducible refine G.eq_bl ?_
  | with_reducible refine G.ne_str ?_
  | with_reducible refine G.ne_int ?_
  | ((with_reducible refine' G.is_none ?r ?_); (case r => walk_at "R"))
  | ((with_reducible refine' G.isnt_none ?r ?_); (case r => walk_at "R"))
  | with_reducible refine G.is_bl ?_
  | with_reducible refine G.isnt_bl ?_
  | with_reducible refine G.in_sign ?_
  | with_reducible refine G.nin_sign ?_
  | ((with_reducible refine' G.in_strsT1 ?r ?c ?e ?_); (case r => walk_at "R"); (case c => rfl); (case e => decide +kernel))
  | ((with_reducible refine' G.in_strsT0 ?r ?c ?e ?_); (case r => walk_at "R"); (case c => rfl); (case e => decide +kernel))
  | ((with_reducible refine' G.in_strsT ?r ?c ?_); (case r => walk_at "R"); (case c => rfl))
  | ((with_reducible refine' G.nin_strsT ?r ?c ?_); (case r => walk_at "R"); (case c => rfl))
  | ((with_reducible refine' G.in_intsT ?r ?c ?_); (case r => walk_at "R"); (case c => rfl))
  | ((with_reducible refine' G.nin_intsT ?r ?c ?_); (case r => walk_at "R"); (case c => rfl))
  | ((with_reducible refine' G.add_str ?l ?_); (case l => walk_at "side"))
  | ((with_reducible refine' G.add_tup ?r ?s ?l ?_); (case r => walk_at "R"); (case s => walk_at "R"); (case l => walk_at "side"); intro v0 H0 s0 r0)
  | ((with_reducible refine' G.add_lst ?r ?s ?l ?_); (case r => walk_at "R"); (case s => walk_at "R"); (case l => walk_at "side"); intro v0 H0 s0 r0)
  | ((with_reducible refine' G.isi_1 ?r ?e ?t ?_); (case r => walk_at "R"); (case e => rfl); (case t => simp only [List.mem_cons, true_or, or_true]))
  | ((with_reducible refine' G.isi_0 ?r ?e ?t ?_); (case r => walk_at "R"); (case e => rfl); (case t => simp only [List.mem_cons, true_or, or_true]))
  | ((with_reducible refine' G.isi_R ?r ?t ?_); (case r => walk_at "R"); (case t => simp only [List.mem_cons, true_or, or_true]))
  | ((with_reducible refine' G.len_str ?l ?_); (case l => walk_at "side"))
  | ((with_reducible refine' G.len_tup ?r ?_); (case r => walk_at "R"))
  | ((with_reducible refine' G.len_lst ?r ?_); (case r => walk_at "R"))
  | (with_reducible refine G.st_tup ?_)
  | (with_reducible refine G.st_lst ?_)
  | ((with_reducible refine' G.st_newT ?r ?l ?_); (case r => walk_at "A"); (case l => first | exact Nat.le_of_ble_eq_true rfl | walk_at "side"); intro v0 H0 s0 r0)
  | ((with_reducible refine' G.st_newL ?r ?l ?_); (case r => walk_at "A"); (case l => first | exact Nat.le_of_ble_eq_true rfl | walk_at "side"); intro v0 H0 s0 r0)
  | ((with_reducible refine' G.ix_tupR ?r ?h0 ?hd ?_); (case r => walk_at "R"); (case h0 => walk_at "side"); (case hd => first | rfl | assumption); walk_at "got")
  | ((with_reducible refine' G.ix_lstR ?r ?h0 ?hd ?_); (case r => walk_at "R"); (case h0 => walk_at "side"); (case hd => first | rfl | assumption); walk_at "got")
  | ((with_reducible refine' G.ix_strR ?l ?h0 ?hd ?_); (case l => walk_at "side"); (case h0 => walk_at "side"); (case hd => first | rfl | assumption))
  | ((with_reducible refine' G.ix_strM ?l ?h0 ?h1 ?_); (case l => walk_at "side"); (case h0 => walk_at "side"); (case h1 => walk_at "side"); intro c0 hc0)
  | ((with_reducible refine' G.ix_tupN ?r ?h0 ?h1 ?_); (case r => walk_at "R"); (case h0 => walk_at "side"); (case h1 => walk_at "side"); intro v0 d0 hd0 r0)
  | ((with_reducible refine' G.ix_lstS ?r ?h0 ?h1 ?_); (case r => walk_at "R"); (case h0 => walk_at "side"); (case h1 => walk_at "side"); intro z0 hz0)
  | ((with_reducible refine' G.ix_lstN ?r ?h0 ?h1 ?_); (case r => walk_at "R"); (case h0 => walk_at "side"); (case h1 => walk_at "side"); intro v0 d0 hd0 r0)
  | ((with_reducible refine' G.sl_strR ?l ?_); (case l => walk_at "side"))
  | ((with_reducible refine' G.sl_tupR ?r ?_); (case r => walk_at "R"); intro v0 H0 s0 r0)
  | ((with_reducible refine' G.sl_lstR ?r ?_); (case r => walk_at "R"); intro v0 H0 s0 r0)
  | ((with_reducible refine' G.tupOf_L ?r ?_); (case r => walk_at "R"); intro v0 H0 s0 r0)
  | ((with_reducible refine' G.tupOf_T ?r ?_); (case r => walk_at "R"))
  | ((with_reducible refine' G.lstOf_T ?r ?_); (case r => walk_at "R"); intro v0 H0 s0 r0)
  | ((with_reducible refine' G.lstOf_L ?r ?_); (case r => walk_at "R"); intro v0 H0 s0 r0)
  | with_reducible refine G.st_lcL ?_
  | with_reducible refine G.st_lcT ?_
  | with_reducible refine G.st_lcS ?_
  | with_reducible refine G.st_lcR ?_
  | with_reducible refine G.st_M0 ?_
  | with_reducible refine G.st_M1 ?_
  | (with_reducible refine G.upper_one ?_; intro hu0)
  | ((with_reducible refine' G.upper_R ?l ?_); (case l => walk_at "side"))
  | (with_reducible refine G.st_strAnd ?_)
  | (with_reducible refine G.st_sub ?_)
  | ((with_reducible refine' G.set_20 ?hp ?_); (case hp => first | exact L2.upd_same | walk_at "P"))
  | ((with_reducible refine' G.set_21 ?hp ?_); (case hp => first | exact L2.upd_same | walk_at "P"))
  | ((with_reducible refine' G.set_at ?hp ?hi ?_); (case hp => first | exact L2.upd_same | walk_at "P"); (case hi => rfl))
  | with_reducible refine G.st_lst2 ?_
  | with_reducible refine G.st_shut ?_
  | with_reducible refine G.st_forR ?_
  | ((with_reducible refine' G.len_scr ?s ?_); (case s => walk_at "Q"))
  | ((with_reducible refine' G.ix_scr ?s ?h0 ?h1 ?_); (case s => walk_at "Q"); (case h0 => walk_at "side"); (case h1 => walk_at "side"); intro n0)
  | ((with_reducible refine' G.sl_scr ?s ?_); (case s => walk_at "Q"); intro v0 H0 s0 r0)
  | (with_reducible refine' G.st_disp1 ?_; intro v0 H0 s0 r0)
  | walk_at "c"
  | fail "no step")
local macro_rules | `(tactic| walk_at "r") => `(tactic| repeat' (walk_at "s"))

local macro_rules | `(tactic| walk_at "side") => `(tactic| first | exact G.nm_a (by with_reducible assumption) | exact G.fm_a (by with_reducible assumption) | exact G.nm_b (by with_reducible assumption) | exact G.nm_c (by with_reducible assumption) | fail)
local macro_rules | `(tactic| walk_at "c") => `(tactic| ((with_reducible refine' G.use_name ?hp ?_); (case hp => walk_at "P"); intro z0 H0 s0 hz0))
local macro_rules | `(tactic| walk_at "c") => `(tactic| ((with_reducible refine' G.use_form ?hp ?_); (case hp => walk_at "P"); intro z0 H0 s0 hz0))
local macro_rules | `(tactic| walk_at "c") => `(tactic| ((with_reducible refine' G.use_pool ?hp ?_); (case hp => walk_at "P"); intro v0 fs0 gs0 ns0 H0 s0 ok0 r0))
local macro_rules | `(tactic| walk_at "c") => `(tactic| ((with_reducible refine' G.use_leaf ?hp ?r ?ok ?h0 ?h1 ?_); (case hp => walk_at "P"); (case r => walk_at "R"); (case ok => with_reducible assumption); (case h0 => walk_at "side"); (case h1 => walk_at "side"); intro v0 t0 H0 s0 r0 ht0 hd0 hs0))
local macro_rules | `(tactic| walk_at "c") => `(tactic| ((with_reducible refine' G.use_term ?hp ?r ?ok ?h0 ?h1 ?e0 ?e1 ?_); (case hp => walk_at "P"); (case r => walk_at "R"); (case ok => with_reducible assumption); (case h0 => walk_at "side"); (case h1 => walk_at "side"); (case e0 => walk_at "side"); (case e1 => walk_at "side"); intro v0 t0 H0 s0 r0 ht0 hd0 hs0))
local macro_rules | `(tactic| walk_at "c") => `(tactic| ((with_reducible refine' G.use_tall ?hp ?r ?ok ?rt ?ht ?h0 ?h1 ?_); (case hp => walk_at "P"); (case r => walk_at "R"); (case ok => with_reducible assumption); (case rt => walk_at "R"); (case ht => with_reducible assumption); (case h0 => walk_at "side"); (case h1 => walk_at "side"); intro v0 t0 H0 s0 r0 ht0 hd0 hs0))
local macro_rules | `(tactic| walk_at "c") => `(tactic| ((with_reducible refine' G.use_anyT ?hp ?r ?ok ?h0 ?h1 ?_); (case hp => walk_at "P"); (case r => walk_at "R"); (case ok => with_reducible assumption); (case h0 => walk_at "side"); (case h1 => walk_at "side"); intro v0 t0 H0 s0 r0 ht0 hd0 hs0))

local macro_rules | `(tactic| walk_at "w") => `(tactic| first
  | with_reducible refine G.st_BM0 ?_
  | with_reducible refine G.st_BM ?_
  | ((with_reducible refine' G.st_tyl ?hl ?_); (case hl => walk_at "P"))
  | ((with_reducible refine' G.popR ?hl ?ra ?hn ?_); (case hl => walk_at "P"); (case ra => with_reducible assumption); (case hn => with_reducible assumption); intro v0 ws0 H0 x0 hl0 ra0 r0)
  | ((with_reducible refine' G.extR ?hl ?ra ?r ?hz ?hn ?hn' ?_); (case hl => walk_at "P"); (case ra => first | with_reducible assumption | exact G.ra_mono (by with_reducible assumption) (by walk_at "S")); (case r => walk_at "R"); (case hz => walk_at "side"); (case hn => walk_at "nol"); (case hn' => walk_at "nol"); intro ws0 H0 x0 hl0 ra0)
  | ((with_reducible refine' G.gtup2 ?r ?_); (case r => walk_at "R"); intro v1 v2 r1 r2)
  | with_reducible refine G.st_asgT ?_
  | with_reducible refine G.int_bl ?_
  | with_reducible refine G.max_2 ?_
  | ((with_reducible refine' G.st_aug ?hx ?_); (case hx => rfl))
  | with_reducible refine G.ipI_int ?_
  | with_reducible refine G.whB ?_
  | with_reducible refine G.st_lstF ?_
  | ((with_reducible refine' G.st_newLF ?r ?l ?_); (case r => walk_at "A"); (case l => first | exact Nat.le_of_ble_eq_true rfl | walk_at "side"); intro p0 H0 f0 s0 hl0 ra0)
  | fail "no step")
local macro_rules | `(tactic| walk_at "nol") => `(tactic| first | with_reducible assumption | rfl | exact G.Th.noL _ | exact G.Th.noLs _)
local macro_rules | `(tactic| walk_at "c") => `(tactic| walk_at "w")

local macro_rules | `(tactic| walk_at "c") => `(tactic| first
  | with_reducible refine G.neg_i ?_
  | with_reducible refine G.st_BMs ?_
  | with_reducible refine G.st_tys ?_
  | with_reducible refine G.st_gcons ?_
  | with_reducible refine G.st_gnil ?_
  | with_reducible refine G.st_gname ?_
  | with_reducible refine G.st_gsub ?_
  | ((with_reducible refine' G.iC ?hc ?_); (case hc => show (0 : Int) < _; decide +kernel))
  | ((with_reducible refine' G.ix_scrLast ?hs ?h1 ?_); (case hs => walk_at "Q"); (case h1 => walk_at "side"); intro n0)
  | ((with_reducible refine' G.divmodR ?h0 ?h1 ?_); (case h0 => walk_at "side"); (case h1 => walk_at "side"); intro p0 H0 f0 e0)
  | (with_reducible refine G.absR ?_; intro j0)
  | fail "no step")

local macro_rules | `(tactic| walk_at "B") => `(tactic| first | with_reducible assumption | exact G.bk_keep (by with_reducible assumption) (by walk_at "S"))
local macro_rules | `(tactic| walk_at "c") => `(tactic| first
  | ((with_reducible refine' G.use_nextU ?hp ?h0 ?h1 ?_); (case hp => walk_at "P"); (case h0 => walk_at "side"); (case h1 => walk_at "side"); intro r0 H0 s0 hr0 hr1)
  | ((with_reducible refine' G.ix_b1 ?h ?_); (case h => walk_at "B"); intro af0 lb0 lc0 hf0 rb0 rc0)
  | ((with_reducible refine' G.ix_b2 ?h ?_); (case h => walk_at "B"); intro v0 r0)
  | ((with_reducible refine' G.ix_b3 ?h ?_); (case h => walk_at "B"); intro v0 r0)
  | ((with_reducible refine' G.ix_b5 ?h ?_); (case h => walk_at "B"); intro v0 r0)
  | with_reducible refine G.st_dget ?_
  | with_reducible refine G.st_dget2 ?_
  | with_reducible refine G.st_lcLT ?_
  | with_reducible refine G.st_lcET ?_
  | with_reducible refine G.st_lcETT ?_
  | with_reducible refine G.st_forL ?_
  | with_reducible refine G.st_forE ?_
  | with_reducible refine G.st_forT ?_
  | fail "no step")
local macro_rules | `(tactic| walk_at "u") => `(tactic| repeat' ((fail_if_success (with_reducible refine G.st_if ?_)); walk_at "s"))
local macro_rules | `(tactic| walk_at "c") => `(tactic| (with_reducible refine G.minR ?_; intro m0 hm0 hm1 hm2))

namespace G
open PySem PySem.Spec PyProof.Rows L2
section
variable {P : Program} {w : World} {K : PySem.W.Frag} {mg : Str → Option Value} {base : Heap} {k n : Nat}
theorem ok_l_set (T : Tp K mg) (c_l_set : Cal P w K mg base k "_law_set" (spWith K n)) : Cal P w K mg base (k + 1) "_law_set" (spWith K (n + 1)) := by
  refine T.d_l_set.cal sc_l_set (fun vs H Q E h => ?_) (fun f cdv A outer s H vs Q E hr h => ?_)
  · obtain ⟨v, vp, vo, t, o, ks, F, b, rfl, _⟩ := h; rfl
  obtain ⟨v, vp, vo, t, o, ks, F, b, rfl, r, rp, ro, ok, hm, hm', hz, q⟩ := h
  have sc := @sc_l_set
  refine ⟨_, (pss_cons (ps_if (pt_cmpR (op_eqK K hr) (pv 1) (pe_tupK K pa_nil) (nomark _)) (pss_one (ps_ret (pv 2))) pss_nil)
      (pss_cons (ps_set (i := 3) sc.nd rfl (Or.inl rfl) (pe_ix (ix_K K) (pv 1) pe_int (fun _ _ => rfl)))
      (pss_one (ps_ret (pe_tupK K (pa_cons (pe_ix (ix_K K) (pv 0) pe_int (fun _ _ => rfl)) (pa_cons (pe_ix (ix_K K) (pv 0) pe_int (fun _ _ => rfl)) (pa_cons (pe_op (op_addK K) (pe_op (op_addK K) (pe_slice (sl_K K) (pe_ix (ix_K K) (pv 0) pe_int (fun _ _ => rfl)) po_none (po_some (pv 3))) (pe_tupK K (pa_cons (pe_c c_l_set hr (Nat.le_refl _) rfl (pa_cons (pe_ix (ix_K K) (pe_ix (ix_K K) (pv 0) pe_int (fun _ _ => rfl)) (pv 3) (fun _ _ => rfl)) (pa_cons (pe_slice (sl_K K) (pv 1) (po_some pe_int) po_none) (pa_cons (pv 2) pa_nil)))) pa_nil))) (pe_slice (sl_K K) (pe_ix (ix_K K) (pv 0) pe_int (fun _ _ => rfl)) (po_some (pe_op (op_addK K) (pv 3) pe_int)) po_none)) pa_nil)))))))), ?_⟩
  have rp' : R K H vp (.tuple (ks.map fun i => .int (i : Nat))) := rp
  cases ks with
  | nil =>
    walk_at "r"
    rename_i v0 H0 s0 r0
    refine eq_R (rp.mono s0) r0 (pls_lay []) (by rfl) (by show min _ (PyData.tuple []).depth ≤ 190; exact Nat.le_trans (Nat.min_le_right _ _) (by decide)) ?_
    rw [show PyData.eqv (pls []) (.tuple []) = true from rfl]
    walk_at "r"
    exact q _ _ (by walk_at "S") (ro.mono (by walk_at "S"))
  | cons k1 ks =>
    cases t with
    | app w c args =>
      obtain ⟨hk, ok'⟩ := ok
      have r' : R K H v (.tuple [.str w.s, .str c, .tuple (Th.ds args)]) := r
      obtain ⟨hlen, hia⟩ := isT_app hz
      walk_at "r"
      rename_i v0 H0 s0 r0
      refine eq_R (rp.mono s0) r0 (pls_lay (k1 :: ks)) (by rfl) (by show min _ (PyData.tuple []).depth ≤ 190; exact Nat.le_trans (Nat.min_le_right _ _) (by decide)) ?_
      rw [eqv_pls_cons]
      walk_at "r"
      rename_i rz zw zc va ra vt H1 s1 rt vb rb
      have hak : args[k1]? = some (args.getD k1 .fls) := by rw [List.getD_eq_getElem?_getD, List.getElem?_eq_getElem hk]; rfl
      have hsa := hia _ (List.mem_of_getElem? hak)
      refine ix_tupR rb (by omega) (ds_get (t := args.getD k1 .fls) (by simpa using hak)) fun vx rx => ?_
      walk_at "r"
      rename_i vq H2 s2 rq
      have rq' : R K H2 vq (pls ks) := by rw [cutD_1] at rq; exact rq
      have hc := cutD_len (Th.ds args) none (some (k1 : Int))
      have hc2 := cutD_len (Th.ds args) (some ((k1 : Int) + 1)) none
      rw [ds_len] at hc hc2
      refine use_with (rx.mono s2) rq' (ro.mono (by walk_at "S")) ok' (by simp at hm; omega) (by simp at hm'; omega) hsa fun x3 H3 s3 r3' => ?_
      walk_at "r"
      rename_i vf Hf sf rf
      refine q _ _ (by walk_at "S") ?_
      have e : ((Th.app w c args).withP (k1 :: ks) o).d = .tuple [.str w.s, .str c, .tuple ((cutD (Th.ds args) none (some (k1 : Int)) ++ [((args.getD k1 .fls).withP ks o).d]) ++ cutD (Th.ds args) (some ((k1 : Int) + 1)) none)] := by
        rw [cutD_to, show ((k1 : Int) + 1) = ((k1 + 1 : Nat) : Int) from rfl, cutD_from]
        show PyData.tuple [.str w.s, .str c, .tuple (Th.ds (args.take k1 ++ [(args.getD k1 .fls).withP ks o] ++ args.drop (k1 + 1)))] = _
        rw [Th.ds_map, Th.ds_map, List.map_append, List.map_append, List.map_take, List.map_drop]
        rfl
      rw [e]
      exact rf
    | _ => exact absurd ok id
theorem l_set_n (T : Tp K mg) : ∀ n : Nat, Cal P w K mg base n "_law_set" (spWith K n)
  | 0 => T.d_l_set.none fun vs H Q E h => by obtain ⟨v, vp, vo, t, o, ks, F, b, _, _, _, _, _, h0, _⟩ := h; exact absurd h0 (Nat.not_lt_zero _)
  | n + 1 => ok_l_set T (l_set_n T n)

end
end G

end

section
/-! the words of the walk: S (a heap keeps), R (a value stands for data), A (a row of them), no (a way that cannot be), s (one step), r (all steps) -/
local macro_rules | `(tactic| walk_at "S") => `(tactic| first | exact L2.Same.refl _ | assumption | exact G.sm_tr (by assumption) (by walk_at "S"))
local macro_rules | `(tactic| walk_at "R") => `(tactic| first
  | with_reducible exact G.R.int _ | with_reducible exact G.R.str _ | with_reducible exact G.R.bl _ | with_reducible exact G.R.non
  | with_reducible assumption
  | exact G.r_mono (by with_reducible assumption) (by walk_at "S")
  | ((with_reducible refine' G.R.lst L2.upd_same ?rl); (case rl => walk_at "A")))
local macro_rules | `(tactic| walk_at "A") => `(tactic| first | with_reducible exact G.RA.nil | ((with_reducible refine' G.RA.cons ?ra ?rb); (case ra => walk_at "R"); (case rb => walk_at "A")))
local macro_rules | `(tactic| walk_at "no") => `(tactic| first | contradiction | omega)
local macro_rules | `(tactic| walk_at "side") => `(tactic| first | with_reducible rfl | with_reducible assumption | omega | exact Int.lt_of_lt_of_le (by with_reducible assumption) (by decide +kernel) | ((with_reducible refine G.le_up ?_); decide +kernel) | (simp only [List.length_cons, List.length_nil, List.getElem?_cons_zero, List.getElem?_cons_succ, List.length_map]; done) | (simp only [List.length_cons, List.length_nil, List.length_map, List.length_append] at *; omega))
local macro_rules | `(tactic| walk_at "sideC") => `(tactic| first | with_reducible assumption | (with_reducible refine G.cmul_r ⟨?_, ?_⟩ <;> decide) | (with_reducible refine G.cdiv_r ⟨?_, ?_⟩ <;> decide) | (with_reducible refine G.cmul_l ⟨?_, ?_⟩ <;> decide) | (with_reducible refine G.cpow_c ⟨?_, ?_, ?_⟩ <;> decide) | (with_reducible refine G.cmul_r ⟨?_, ?_⟩ <;> omega) | (with_reducible refine G.cdiv_r ⟨?_, ?_⟩ <;> omega) | omega)
local macro_rules | `(tactic| walk_at "got") => `(tactic| (intro v0 r0; first
  | (have e0 := G.R.inv_str r0; subst e0) | (have e0 := G.R.inv_int r0; subst e0) | (have e0 := G.R.inv_bl r0; subst e0) | (have e0 := G.R.inv_non r0; subst e0) | skip))
local macro_rules | `(tactic| walk_at "P") => `(tactic| first | with_reducible assumption | exact G.keep_at (by with_reducible assumption) (by walk_at "S"))
local macro_rules | `(tactic| walk_at "c") => `(tactic| fail)
local macro_rules | `(tactic| walk_at "Q") => `(tactic| first | with_reducible assumption | exact G.seq_keep (by with_reducible assumption) (by walk_at "S"))
local macro_rules | `(tactic| walk_at "c") => `(tactic| ((with_reducible refine' G.use_state ?hp ?h0 ?h1 ?_); (case hp => walk_at "Q"); (case h0 => walk_at "side"); (case h1 => walk_at "side"); intro p0 H0 s0 hp0))
local macro_rules | `(tactic| walk_at "c") => `(tactic| ((with_reducible refine' G.use_draw ?hp ?h0 ?h1 ?_); (case hp => walk_at "P"); (case h0 => walk_at "side"); (case h1 => walk_at "side"); intro r0 hr0 hr1))
local macro_rules | `(tactic| walk_at "s") => `(tactic| first
  | with_reducible refine G.st_seq ?_
  | ((with_reducible refine' G.st_var ?hv ?_); (case hv => exact rfl))
  | with_reducible refine G.st_c ?_
  | with_reducible refine G.st_op ?_
  | with_reducible refine G.st_bl ?_
  | with_reducible refine L2.iteT ?_
  | with_reducible refine L2.iteF ?_
  | with_reducible refine G.ite_nt ?_
  | with_reducible refine G.ite_nf ?_
  | ((with_reducible refine G.st_ite ?_ ?_) <;> (intro hb; (try simp only [decide_eq_true_eq, decide_eq_false_iff_not, Bool.not_eq_true', Bool.not_eq_false', beq_iff_eq, Bool.and_eq_true, Bool.or_eq_true, Bool.and_eq_false_iff, Bool.or_eq_false_iff, beq_eq_false_iff_ne, ne_eq, Int.not_lt, Int.not_le, Nat.not_lt, Nat.not_le] at hb); first | (exfalso; walk_at "no"; done) | skip))
  | with_reducible refine G.st_if ?_
  | with_reducible refine G.st_ret ?_
  | with_reducible refine G.st_set ?_
  | with_reducible refine G.st_call ?_
  | with_reducible refine G.st_cons ?_
  | with_reducible refine G.st_nil ?_
  | with_reducible refine G.st_CB ?_
  | with_reducible refine G.st_tTest ?_
  | with_reducible refine G.st_tB ?_
  | with_reducible refine G.st_or ?_
  | with_reducible refine G.st_and ?_
  | with_reducible refine G.st_not ?_
  | with_reducible refine G.st_orV ?_
  | with_reducible refine G.st_andV ?_
  | with_reducible refine G.st_notV ?_
  | with_reducible refine G.st_tIf ?_
  | with_reducible refine G.st_chain ?_
  | with_reducible refine G.st_un ?_
  | with_reducible refine G.st_then ?_
  | with_reducible refine G.st_slice ?_
  | with_reducible refine G.st_noPart ?_
  | with_reducible refine G.st_part ?_
  | with_reducible refine G.st_exInt ?_
  | with_reducible refine G.st_drop ?_
  | with_reducible refine G.st_next ?_
  | with_reducible refine G.st_retN ?_
  | with_reducible refine G.add_int ?_
  | with_reducible refine G.i0 ?_
  | ((with_reducible refine G.imod2 (by decide) ?_ ?_) <;> (intro hm; first | (exfalso; walk_at "no"; done) | skip))
  | ((with_reducible refine G.imod3 (by decide) ?_ ?_ ?_) <;> (intro hm; first | (exfalso; walk_at "no"; done) | skip))
  | ((with_reducible refine' G.iC ?hc ?_); (case hc => walk_at "sideC"))
  | ((with_reducible refine' G.eq_str1 ?e ?_); (case e => with_reducible rfl))
  | ((with_reducible refine' G.eq_str0 ?e ?_); (case e => decide +kernel))
  | with_reducible refine G.eq_str ?_
  | with_reducible refine G.eq_int ?_
  | with_reducible refine G.eq_bl ?_
  | with_reducible refine G.ne_str ?_
  | with_reducible refine G.ne_int ?_
  | ((with_reducible refine' G.is_none ?r ?_); (case r => walk_at "R"))
  | ((with_reducible refine' G.isnt_none ?r ?_); (case r => walk_at "R"))
  | with_reducible refine G.is_bl ?_
  | with_reducible refine G.isnt_bl ?_
  | with_reducible refine G.in_sign ?_
  | with_reducible refine G.nin_sign ?_
  | ((with_reducible refine' G.in_strsT1 ?r ?c ?e ?_); (case r => walk_at "R"); (case c => rfl); (case e => decide +kernel))
  | ((with_reducible refine' G.in_strsT0 ?r ?c ?e ?_); (case r => walk_at "R"); (case c => rfl); (case e => decide +kernel))
  | ((with_reducible refine' G.in_strsT ?r ?c ?_); (case r => walk_at "R"); (case c => rfl))
  | ((with_reducible refine' G.nin_strsT ?r ?c ?_); (case r => walk_at "R"); (case c => rfl))
  | ((with_reducible refine' G.in_intsT ?r ?c ?_); (case r => walk_at "R"); (case c => rfl))
  | ((with_reducible refine' G.nin_intsT ?r ?c ?_); (case r => walk_at "R"); (case c => rfl))
  | ((with_reducible refine' G.add_str ?l ?_); (case l => walk_at "side"))
  | ((with_reducible refine' G.add_tup ?r ?s ?l ?_); (case r => walk_at "R"); (case s => walk_at "R"); (case l => walk_at "side"); intro v0 H0 s0 r0)
  | ((with_reducible refine' G.add_lst ?r ?s ?l ?_); (case r => walk_at "R"); (case s => walk_at "R"); (case l => walk_at "side"); intro v0 H0 s0 r0)
  | ((with_reducible refine' G.isi_1 ?r ?e ?t ?_); (case r => walk_at "R"); (case e => rfl); (case t => simp only [List.mem_cons, true_or, or_true]))
  | ((with_reducible refine' G.isi_0 ?r ?e ?t ?_); (case r => walk_at "R"); (case e => rfl); (case t => simp only [List.mem_cons, true_or, or_true]))
  | ((with_reducible refine' G.isi_R ?r ?t ?_); (case r => walk_at "R"); (case t => simp only [List.mem_cons, true_or, or_true]))
  | ((with_reducible refine' G.len_str ?l ?_); (case l => walk_at "side"))
  | ((with_reducible refine' G.len_tup ?r ?_); (case r => walk_at "R"))
  | ((with_reducible refine' G.len_lst ?r ?_); (case r => walk_at "R"))
  | (with_reducible refine G.st_tup ?_)
  | (with_reducible refine G.st_lst ?_)
  | ((with_reducible refine' G.st_newT ?r ?l ?_); (case r => walk_at "A"); (case l => first | exact Nat.le_of_ble_eq_true rfl | walk_at "side"); intro v0 H0 s0 r0)
  | ((with_reducible refine' G.st_newL ?r ?l ?_); (case r => walk_at "A"); (case l => first | exact Nat.le_of_ble_eq_true rfl | walk_at "side"); intro v0 H0 s0 r0)
  | ((with_reducible refine' G.ix_tupR ?r ?h0 ?hd ?_); (case r => walk_at "R"); (case h0 => walk_at "side"); (case hd => first | rfl | assumption); walk_at "got")
  | ((with_reducible refine' G.ix_lstR ?r ?h0 ?hd ?_); (case r => walk_at "R"); (case h0 => walk_at "side"); (case hd => first | rfl | assumption); walk_at "got")
  | ((with_reducible refine' G.ix_strR ?l ?h0 ?hd ?_); (case l => walk_at "side"); (case h0 => walk_at "side"); (case hd => first | rfl | assumption))
  | ((with_reducible refine' G.ix_strM ?l ?h0 ?h1 ?_); (case l => walk_at "side"); (case h0 => walk_at "side"); (case h1 => walk_at "side"); intro c0 hc0)
  | ((with_reducible refine' G.ix_tupN ?r ?h0 ?h1 ?_); (case r => walk_at "R"); (case h0 => walk_at "side"); (case h1 => walk_at "side"); intro v0 d0 hd0 r0)
  | ((with_reducible refine' G.ix_lstS ?r ?h0 ?h1 ?_); (case r => walk_at "R"); (case h0 => walk_at "side"); (case h1 => walk_at "side"); intro z0 hz0)
  | ((with_reducible refine' G.ix_lstN ?r ?h0 ?h1 ?_); (case r => walk_at "R"); (case h0 => walk_at "side"); (case h1 => walk_at "side"); intro v0 d0 hd0 r0)
  | ((with_reducible refine' G.sl_strR ?l ?_); (case l => walk_at "side"))
  | ((with_reducible refine' G.sl_tupR ?r ?_); (case r => walk_at "R"); intro v0 H0 s0 r0)
  | ((with_reducible refine' G.sl_lstR ?r ?_); (case r => walk_at "R"); intro v0 H0 s0 r0)
  | ((with_reducible refine' G.tupOf_L ?r ?_); (case r => walk_at "R"); intro v0 H0 s0 r0)
  | ((with_reducible refine' G.tupOf_T ?r ?_); (case r => walk_at "R"))
  | ((with_reducible refine' G.lstOf_T ?r ?_); (case r => walk_at "R"); intro v0 H0 s0 r0)
  | ((with_reducible refine' G.lstOf_L ?r ?_); (case r => walk_at "R"); intro v0 H0 s0 r0)
  | with_reducible refine G.st_lcL ?_
  | with_reducible refine G.st_lcT ?_
  | with_reducible refine G.st_lcS ?_
  | with_reducible refine G.st_lcR ?_
  | with_reducible refine G.st_M0 ?_
  | with_reducible refine G.st_M1 ?_
  | (with_reducible refine G.upper_one ?_; intro hu0)
  | ((with_reducible refine' G.upper_R ?l ?_); (case l => walk_at "side"))
  | (with_reducible refine G.st_strAnd ?_)
  | (with_reducible refine G.st_sub ?_)
  | ((with_reducible refine' G.set_20 ?hp ?_); (case hp => first | exact L2.upd_same | walk_at "P"))
  | ((with_reducible refine' G.set_21 ?hp ?_); (case hp => first | exact L2.upd_same | walk_at "P"))
  | ((with_reducible refine' G.set_at ?hp ?hi ?_); (case hp => first | exact L2.upd_same | walk_at "P"); (case hi => rfl))
  | with_reducible refine G.st_lst2 ?_
  | with_reducible refine G.st_shut ?_
  | with_reducible refine G.st_forR ?_
  | ((with_reducible refine' G.len_scr ?s ?_); (case s => walk_at "Q"))
  | ((with_reducible refine' G.ix_scr ?s ?h0 ?h1 ?_); (case s => walk_at "Q"); (case h0 => walk_at "side"); (case h1 => walk_at "side"); intro n0)
  | ((with_reducible refine' G.sl_scr ?s ?_); (case s => walk_at "Q"); intro v0 H0 s0 r0)
  | (with_reducible refine' G.st_disp1 ?_; intro v0 H0 s0 r0)
  | walk_at "c"
  | fail "no step")
local macro_rules | `(tactic| walk_at "r") => `(tactic| repeat' (walk_at "s"))

local macro_rules | `(tactic| walk_at "side") => `(tactic| first | exact G.nm_a (by with_reducible assumption) | exact G.fm_a (by with_reducible assumption) | exact G.nm_b (by with_reducible assumption) | exact G.nm_c (by with_reducible assumption) | fail)
local macro_rules | `(tactic| walk_at "c") => `(tactic| ((with_reducible refine' G.use_name ?hp ?_); (case hp => walk_at "P"); intro z0 H0 s0 hz0))
local macro_rules | `(tactic| walk_at "c") => `(tactic| ((with_reducible refine' G.use_form ?hp ?_); (case hp => walk_at "P"); intro z0 H0 s0 hz0))
local macro_rules | `(tactic| walk_at "c") => `(tactic| ((with_reducible refine' G.use_pool ?hp ?_); (case hp => walk_at "P"); intro v0 fs0 gs0 ns0 H0 s0 ok0 r0))
local macro_rules | `(tactic| walk_at "c") => `(tactic| ((with_reducible refine' G.use_leaf ?hp ?r ?ok ?h0 ?h1 ?_); (case hp => walk_at "P"); (case r => walk_at "R"); (case ok => with_reducible assumption); (case h0 => walk_at "side"); (case h1 => walk_at "side"); intro v0 t0 H0 s0 r0 ht0 hd0 hs0))
local macro_rules | `(tactic| walk_at "c") => `(tactic| ((with_reducible refine' G.use_term ?hp ?r ?ok ?h0 ?h1 ?e0 ?e1 ?_); (case hp => walk_at "P"); (case r => walk_at "R"); (case ok => with_reducible assumption); (case h0 => walk_at "side"); (case h1 => walk_at "side"); (case e0 => walk_at "side"); (case e1 => walk_at "side"); intro v0 t0 H0 s0 r0 ht0 hd0 hs0))
local macro_rules | `(tactic| walk_at "c") => `(tactic| ((with_reducible refine' G.use_tall ?hp ?r ?ok ?rt ?ht ?h0 ?h1 ?_); (case hp => walk_at "P"); (case r => walk_at "R"); (case ok => with_reducible assumption); (case rt => walk_at "R"); (case ht => with_reducible assumption); (case h0 => walk_at "side"); (case h1 => walk_at "side"); intro v0 t0 H0 s0 r0 ht0 hd0 hs0))
local macro_rules | `(tactic| walk_at "c") => `(tactic| ((with_reducible refine' G.use_anyT ?hp ?r ?ok ?h0 ?h1 ?_); (case hp => walk_at "P"); (case r => walk_at "R"); (case ok => with_reducible assumption); (case h0 => walk_at "side"); (case h1 => walk_at "side"); intro v0 t0 H0 s0 r0 ht0 hd0 hs0))

local macro_rules | `(tactic| walk_at "w") => `(tactic| first
  | with_reducible refine G.st_BM0 ?_
  | with_reducible refine G.st_BM ?_
  | ((with_reducible refine' G.st_tyl ?hl ?_); (case hl => walk_at "P"))
  | ((with_reducible refine' G.popR ?hl ?ra ?hn ?_); (case hl => walk_at "P"); (case ra => with_reducible assumption); (case hn => with_reducible assumption); intro v0 ws0 H0 x0 hl0 ra0 r0)
  | ((with_reducible refine' G.extR ?hl ?ra ?r ?hz ?hn ?hn' ?_); (case hl => walk_at "P"); (case ra => first | with_reducible assumption | exact G.ra_mono (by with_reducible assumption) (by walk_at "S")); (case r => walk_at "R"); (case hz => walk_at "side"); (case hn => walk_at "nol"); (case hn' => walk_at "nol"); intro ws0 H0 x0 hl0 ra0)
  | ((with_reducible refine' G.gtup2 ?r ?_); (case r => walk_at "R"); intro v1 v2 r1 r2)
  | with_reducible refine G.st_asgT ?_
  | with_reducible refine G.int_bl ?_
  | with_reducible refine G.max_2 ?_
  | ((with_reducible refine' G.st_aug ?hx ?_); (case hx => rfl))
  | with_reducible refine G.ipI_int ?_
  | with_reducible refine G.whB ?_
  | with_reducible refine G.st_lstF ?_
  | ((with_reducible refine' G.st_newLF ?r ?l ?_); (case r => walk_at "A"); (case l => first | exact Nat.le_of_ble_eq_true rfl | walk_at "side"); intro p0 H0 f0 s0 hl0 ra0)
  | fail "no step")
local macro_rules | `(tactic| walk_at "nol") => `(tactic| first | with_reducible assumption | rfl | exact G.Th.noL _ | exact G.Th.noLs _)
local macro_rules | `(tactic| walk_at "c") => `(tactic| walk_at "w")

local macro_rules | `(tactic| walk_at "c") => `(tactic| first
  | with_reducible refine G.neg_i ?_
  | with_reducible refine G.st_BMs ?_
  | with_reducible refine G.st_tys ?_
  | with_reducible refine G.st_gcons ?_
  | with_reducible refine G.st_gnil ?_
  | with_reducible refine G.st_gname ?_
  | with_reducible refine G.st_gsub ?_
  | ((with_reducible refine' G.iC ?hc ?_); (case hc => show (0 : Int) < _; decide +kernel))
  | ((with_reducible refine' G.ix_scrLast ?hs ?h1 ?_); (case hs => walk_at "Q"); (case h1 => walk_at "side"); intro n0)
  | ((with_reducible refine' G.divmodR ?h0 ?h1 ?_); (case h0 => walk_at "side"); (case h1 => walk_at "side"); intro p0 H0 f0 e0)
  | (with_reducible refine G.absR ?_; intro j0)
  | fail "no step")

local macro_rules | `(tactic| walk_at "B") => `(tactic| first | with_reducible assumption | exact G.bk_keep (by with_reducible assumption) (by walk_at "S"))
local macro_rules | `(tactic| walk_at "c") => `(tactic| first
  | ((with_reducible refine' G.use_nextU ?hp ?h0 ?h1 ?_); (case hp => walk_at "P"); (case h0 => walk_at "side"); (case h1 => walk_at "side"); intro r0 H0 s0 hr0 hr1)
  | ((with_reducible refine' G.ix_b1 ?h ?_); (case h => walk_at "B"); intro af0 lb0 lc0 hf0 rb0 rc0)
  | ((with_reducible refine' G.ix_b2 ?h ?_); (case h => walk_at "B"); intro v0 r0)
  | ((with_reducible refine' G.ix_b3 ?h ?_); (case h => walk_at "B"); intro v0 r0)
  | ((with_reducible refine' G.ix_b5 ?h ?_); (case h => walk_at "B"); intro v0 r0)
  | with_reducible refine G.st_dget ?_
  | with_reducible refine G.st_dget2 ?_
  | with_reducible refine G.st_lcLT ?_
  | with_reducible refine G.st_lcET ?_
  | with_reducible refine G.st_lcETT ?_
  | with_reducible refine G.st_forL ?_
  | with_reducible refine G.st_forE ?_
  | with_reducible refine G.st_forT ?_
  | fail "no step")
local macro_rules | `(tactic| walk_at "u") => `(tactic| repeat' ((fail_if_success (with_reducible refine G.st_if ?_)); walk_at "s"))
local macro_rules | `(tactic| walk_at "c") => `(tactic| (with_reducible refine G.minR ?_; intro m0 hm0 hm1 hm2))

namespace G
open PySem PySem.Spec PyProof.Rows L2
section
variable {P : Program} {w : World} {K : PySem.W.Frag} {mg : Str → Option Value} {base : Heap} {k n : Nat}
def spNodesT (K : PySem.W.Frag) (m : Nat) : Sp := fun vs H Q _ => ∃ (v : V) (t : Th) (F : List Str) (b : Nat), vs = [v] ∧ R K H v t.d ∧ t.isT F b ∧ t.dep ≤ m ∧ t.sz ≤ 400000 ∧ ∀ H', Same H H' → Q (.int (t.sz : Nat)) H'
theorem use_nodesT {H : Hp} {Q : VK} {E : XK} {m : Nat} {v : V} {t : Th} {F : List Str} {b : Nat} (r : R K H v t.d) (ht : t.isT F b) (hd : t.dep ≤ m) (hz : t.sz ≤ 400000) (h : ∀ H', Same H H' → Q (.int (t.sz : Nat)) H') : spNodesT K m [v] H Q E := ⟨v, t, F, b, rfl, r, ht, hd, hz, h⟩
theorem ok_l_nodes (T : Tp K mg) (c_l_args : Cal P w K mg base k "_law_args" (spArgs K)) (c_l_nodes : Cal P w K mg base k "_law_nodes" (spNodesT K n)) : Cal P w K mg base (k + 1) "_law_nodes" (spNodesT K (n + 1)) := by
  refine T.d_l_nodes.cal sc_l_nodes (fun vs H Q E h => ?_) (fun f cdv A outer s H vs Q E hr h => ?_)
  · obtain ⟨v, t, F, b, rfl, _⟩ := h; rfl
  obtain ⟨v, t, F, b, rfl, r, ht, hd, hz, q⟩ := h
  have sc := @sc_l_nodes
  refine ⟨_, (pss_one (ps_ret (pe_op (op_addK K) pe_int (pe_callB (sum_K K rfl) rfl T.n_sum bt_sum (pa_cons (pe_lc (own := [("_law_part", 1)]) (g := gName 1) (tt := tYes) rfl sc.nd (pi_tupK K (pe_c c_l_args hr (Nat.le_refl _) rfl (pa_cons (pv 0) pa_nil))) (blkOk_by (N := n_l_nodes) (sc := defScope s_l_nodes) (by decide +kernel)) (fun _ _ _ _ _ => pg_name (i := 1) sc.nd rfl (Or.inl rfl)) (fun _ _ _ _ _ => pts_nil) (fun _ _ _ _ _ => pe_hide (pe_c c_l_nodes hr (Nat.le_refl _) rfl (pa_cons (pv 1) pa_nil)))) pa_nil))))), ?_⟩
  have hargs : ∀ a ∈ t.args, a.isT F b ∧ a.dep ≤ n ∧ a.sz ≤ 400000 := by
    intro a ha
    cases t with
    | app w c args =>
      cases w with
      | atom => exact absurd ht (by intro h; exact h)
      | form | call =>
        simp only [Th.dep] at hd
        simp only [Th.sz] at hz
        have hda := Th.deps_le.mp (Nat.le_refl (Th.deps args)) a ha
        have hza := sz_mem (show a ∈ args from ha)
        exact ⟨Th.areT_all.mp ht.2.2 a ha, by omega, by omega⟩
    | _ => cases ha
  have hsz : t.sz = 1 + Th.szs t.args := by
    cases t with
    | app w c args =>
      cases w with
      | atom => exact absurd ht (by intro h; exact h)
      | form | call => simp only [Th.sz, Th.args]; omega
    | free x => rfl
    | bnd j => rfl
    | fls => exact absurd ht (by intro h; exact h)
    | qua w c a => exact absurd ht (by intro h; exact h)
    | two w a b => exact absurd ht (by intro h; exact h)
  walk_at "r"
  refine use_args r ht fun y H1 s1 ry => ?_
  walk_at "r"
  have hal := len_szs t.args
  refine lc_T (K := K) (fun i e' => ∃ a : Th, t.args[i]? = some a ∧ e' = .int (a.sz : Nat)) ry (by rw [ds_len]; omega) (fun _ => rfl) (fun i v d H13 hd' rv s13 Qt hQ => ?_) (fun v13 H13 es s13 r13 hl13 hP13 => ?_)
  · rw [Th.ds_map, List.getElem?_map] at hd'
    obtain ⟨a, ha, rfl⟩ := Option.map_eq_some_iff.mp hd'
    have h := hargs a (List.mem_of_getElem? ha)
    walk_at "r"
    refine use_nodesT rv h.1 h.2.1 h.2.2 fun H14 s14 => ?_
    exact hQ _ _ _ (by walk_at "S") (R.int _) ⟨a, ha, rfl⟩
  have e13 : es = (t.args.map fun a => ((a.sz : Nat) : Int)).map PyData.int := by
    rw [List.map_map]
    exact list_of_at (by rw [hl13, ds_len]) fun i e h => hP13 i e h
  subst e13
  walk_at "r"
  refine sum_R r13 ?_
  walk_at "r"
  rw [sum_sz', show (1 : Int) + ((Th.szs t.args : Nat) : Int) = ((t.sz : Nat) : Int) from by omega]
  exact q _ (by walk_at "S")
theorem l_nodes_n (T : Tp K mg) : ∀ n : Nat, Cal P w K mg base (n + 2) "_law_nodes" (spNodesT K n)
  | 0 => T.d_l_nodes.none fun vs H Q E h => by obtain ⟨v, t, F, b, _, _, _, h0, _⟩ := h; have := t.dep_pos; omega
  | n + 1 => ok_l_nodes T ((ok_l_args (k := 0) T).lift (by omega)) (l_nodes_n T n)

end
end G

end

section
/-! the words of the walk: S (a heap keeps), R (a value stands for data), A (a row of them), no (a way that cannot be), s (one step), r (all steps) -/
local macro_rules | `(tactic| walk_at "S") => `(tactic| first | exact L2.Same.refl _ | assumption | exact G.sm_tr (by assumption) (by walk_at "S"))
local macro_rules | `(tactic| walk_at "R") => `(tactic| first
  | with_reducible exact G.R.int _ | with_reducible exact G.R.str _ | with_reducible exact G.R.bl _ | with_reducible exact G.R.non
  | with_reducible assumption
  | exact G.r_mono (by with_reducible assumption) (by walk_at "S")
  | ((with_reducible refine' G.R.lst L2.upd_same ?rl); (case rl => walk_at "A")))
local macro_rules | `(tactic| walk_at "A") => `(tactic| first | with_reducible exact G.RA.nil | ((with_reducible refine' G.RA.cons ?ra ?rb); (case ra => walk_at "R"); (case rb => walk_at "A")))
local macro_rules | `(tactic| walk_at "no") => `(tactic| first | contradiction | omega)
local macro_rules | `(tactic| walk_at "side") => `(tactic| first | with_reducible rfl | with_reducible assumption | omega | exact Int.lt_of_lt_of_le (by with_reducible assumption) (by decide +kernel) | ((with_reducible refine G.le_up ?_); decide +kernel) | (simp only [List.length_cons, List.length_nil, List.getElem?_cons_zero, List.getElem?_cons_succ, List.length_map]; done) | (simp only [List.length_cons, List.length_nil, List.length_map, List.length_append] at *; omega))
local macro_rules | `(tactic| walk_at "sideC") => `(tactic| first | with_reducible assumption | (with_reducible refine G.cmul_r ⟨?_, ?_⟩ <;> decide) | (with_reducible refine G.cdiv_r ⟨?_, ?_⟩ <;> decide) | (with_reducible refine G.cmul_l ⟨?_, ?_⟩ <;> decide) | (with_reducible refine G.cpow_c ⟨?_, ?_, ?_⟩ <;> decide) | (with_reducible refine G.cmul_r ⟨?_, ?_⟩ <;> omega) | (with_reducible refine G.cdiv_r ⟨?_, ?_⟩ <;> omega) | omega)
local macro_rules | `(tactic| walk_at "got") => `(tactic| (intro v0 r0; first
  | (have e0 := G.R.inv_str r0; subst e0) | (have e0 := G.R.inv_int r0; subst e0) | (have e0 := G.R.inv_bl r0; subst e0) | (have e0 := G.R.inv_non r0; subst e0) | skip))
local macro_rules | `(tactic| walk_at "P") => `(tactic| first | with_reducible assumption | exact G.keep_at (by with_reducible assumption) (by walk_at "S"))
local macro_rules | `(tactic| walk_at "c") => `(tactic| fail)
local macro_rules | `(tactic| walk_at "Q") => `(tactic| first | with_reducible assumption | exact G.seq_keep (by with_reducible assumption) (by walk_at "S"))
local macro_rules | `(tactic| walk_at "c") => `(tactic| ((with_reducible refine' G.use_state ?hp ?h0 ?h1 ?_); (case hp => walk_at "Q"); (case h0 => walk_at "side"); (case h1 => walk_at "side"); intro p0 H0 s0 hp0))
local macro_rules | `(tactic| walk_at "c") => `(tactic| ((with_reducible refine' G.use_draw ?hp ?h0 ?h1 ?_); (case hp => walk_at "P"); (case h0 => walk_at "side"); (case h1 => walk_at "side"); intro r0 hr0 hr1))
local macro_rules | `(tactic| walk_at "s") => `(tactic| first
  | with_reducible refine G.st_seq ?_
  | ((with_reducible refine' G.st_var ?hv ?_); (case hv => exact rfl))
  | with_reducible refine G.st_c ?_
  | with_reducible refine G.st_op ?_
  | with_reducible refine G.st_bl ?_
  | with_reducible refine L2.iteT ?_
  | with_reducible refine L2.iteF ?_
  | with_reducible refine G.ite_nt ?_
  | with_reducible refine G.ite_nf ?_
  | ((with_reducible refine G.st_ite ?_ ?_) <;> (intro hb; (try simp only [decide_eq_true_eq, decide_eq_false_iff_not, Bool.not_eq_true', Bool.not_eq_false', beq_iff_eq, Bool.and_eq_true, Bool.or_eq_true, Bool.and_eq_false_iff, Bool.or_eq_false_iff, beq_eq_false_iff_ne, ne_eq, Int.not_lt, Int.not_le, Nat.not_lt, Nat.not_le] at hb); first | (exfalso; walk_at "no"; done) | skip))
  | with_reducible refine G.st_if ?_
  | with_reducible refine G.st_ret ?_
  | with_reducible refine G.st_set ?_
  | with_reducible refine G.st_call ?_
  | with_reducible refine G.st_cons ?_
  | with_reducible refine G.st_nil ?_
  | with_reducible refine G.st_CB ?_
  | with_reducible refine G.st_tTest ?_
  | with_reducible refine G.st_tB ?_
  | with_reducible refine G.st_or ?_
  | with_reducible refine G.st_and ?_
  | with_reducible refine G.st_not ?_
  | with_reducible refine G.st_orV ?_
  | with_reducible refine G.st_andV ?_
  | with_reducible refine G.st_notV ?_
  | with_reducible refine G.st_tIf ?_
  | with_reducible refine G.st_chain ?_
  | with_reducible refine G.st_un ?_
  | with_reducible refine G.st_then ?_
  | with_reducible refine G.st_slice ?_
  | with_reducible refine G.st_noPart ?_
  | with_reducible refine G.st_part ?_
  | with_reducible refine G.st_exInt ?_
  | with_reducible refine G.st_drop ?_
  | with_reducible refine G.st_next ?_
  | with_reducible refine G.st_retN ?_
  | with_reducible refine G.add_int ?_
  | with_reducible refine G.i0 ?_
  | ((with_reducible refine G.imod2 (by decide) ?_ ?_) <;> (intro hm; first | (exfalso; walk_at "no"; done) | skip))
  | ((with_reducible refine G.imod3 (by decide) ?_ ?_ ?_) <;> (intro hm; first | (exfalso; walk_at "no"; done) | skip))
  | ((with_reducible refine' G.iC ?hc ?_); (case hc => walk_at "sideC"))
  | ((with_reducible refine' G.eq_str1 ?e ?_); (case e => with_reducible rfl))
  | ((with_reducible refine' G.eq_str0 ?e ?_); (case e => decide +kernel))
  | with_reducible refine G.eq_str ?_
  | with_reducible refine G.eq_int ?_
  | with_reducible refine G.eq_bl ?_
  | with_reducible refine G.ne_str ?_
  | with_reducible refine G.ne_int ?_
  | ((with_reducible refine' G.is_none ?r ?_); (case r => walk_at "R"))
  | ((with_reducible refine' G.isnt_none ?r ?_); (case r => walk_at "R"))
  | with_reducible refine G.is_bl ?_
  | with_reducible refine G.isnt_bl ?_
  | with_reducible refine G.in_sign ?_
  | with_reducible refine G.nin_sign ?_
  | ((with_reducible refine' G.in_strsT1 ?r ?c ?e ?_); (case r => walk_at "R"); (case c => rfl); (case e => decide +kernel))
  | ((with_reducible refine' G.in_strsT0 ?r ?c ?e ?_); (case r => walk_at "R"); (case c => rfl); (case e => decide +kernel))
  | ((with_reducible refine' G.in_strsT ?r ?c ?_); (case r => walk_at "R"); (case c => rfl))
  | ((with_reducible refine' G.nin_strsT ?r ?c ?_); (case r => walk_at "R"); (case c => rfl))
  | ((with_reducible refine' G.in_intsT ?r ?c ?_); (case r => walk_at "R"); (case c => rfl))
  | ((with_reducible refine' G.nin_intsT ?r ?c ?_); (case r => walk_at "R"); (case c => rfl))
  | ((with_reducible refine' G.add_str ?l ?_); (case l => walk_at "side"))
  | ((with_reducible refine' G.add_tup ?r ?s ?l ?_); (case r => walk_at "R"); (case s => walk_at "R"); (case l => walk_at "side"); intro v0 H0 s0 r0)
  | ((with_reducible refine' G.add_lst ?r ?s ?l ?_); (case r => walk_at "R"); (case s => walk_at "R"); (case l => walk_at "side"); intro v0 H0 s0 r0)
  | ((with_reducible refine' G.isi_1 ?r ?e ?t ?_); (case r => walk_at "R"); (case e => rfl); (case t => simp only [List.mem_cons, true_or, or_true]))
  | ((with_reducible refine' G.isi_0 ?r ?e ?t ?_); (case r => walk_at "R"); (case e => rfl); (case t => simp only [List.mem_cons, true_or, or_true]))
  | ((with_reducible refine' G.isi_R ?r ?t ?_); (case r => walk_at "R"); (case t => simp only [List.mem_cons, true_or, or_true]))
  | ((with_reducible refine' G.len_str ?l ?_); (case l => walk_at "side"))
  | ((with_reducible refine' G.len_tup ?r ?_); (case r => walk_at "R"))
  | ((with_reducible refine' G.len_lst ?r ?_); (case r => walk_at "R"))
  | (with_reducible refine G.st_tup ?_)
  | (with_reducible refine G.st_lst ?_)
  | ((with_reducible refine' G.st_newT ?r ?l ?_); (case r => walk_at "A"); (case l => first | exact Nat.le_of_ble_eq_true rfl | walk_at "side"); intro v0 H0 s0 r0)
  | ((with_reducible refine' G.st_newL ?r ?l ?_); (case r => walk_at "A"); (case l => first | exact Nat.le_of_ble_eq_true rfl | walk_at "side"); intro v0 H0 s0 r0)
  | ((with_reducible refine' G.ix_tupR ?r ?h0 ?hd ?_); (case r => walk_at "R"); (case h0 => walk_at "side"); (case hd => first | rfl | assumption); walk_at "got")
  | ((with_reducible refine' G.ix_lstR ?r ?h0 ?hd ?_); (case r => walk_at "R"); (case h0 => walk_at "side"); (case hd => first | rfl | assumption); walk_at "got")
  | ((with_reducible refine' G.ix_strR ?l ?h0 ?hd ?_); (case l => walk_at "side"); (case h0 => walk_at "side"); (case hd => first | rfl | assumption))
  | ((with_reducible refine' G.ix_strM ?l ?h0 ?h1 ?_); (case l => walk_at "side"); (case h0 => walk_at "side"); (case h1 => walk_at "side"); intro c0 hc0)
  | ((with_reducible refine' G.ix_tupN ?r ?h0 ?h1 ?_); (case r => walk_at "R"); (case h0 => walk_at "side"); (case h1 => walk_at "side"); intro v0 d0 hd0 r0)
  | ((with_reducible refine' G.ix_lstS ?r ?h0 ?h1 ?_); (case r => walk_at "R"); (case h0 => walk_at "side"); (case h1 => walk_at "side"); intro z0 hz0)
  | ((with_reducible refine' G.ix_lstN ?r ?h0 ?h1 ?_); (case r => walk_at "R"); (case h0 => walk_at "side"); (case h1 => walk_at "side"); intro v0 d0 hd0 r0)
  | ((with_reducible refine' G.sl_strR ?l ?_); (case l => walk_at "side"))
  | ((with_reducible refine' G.sl_tupR ?r ?_); (case r => walk_at "R"); intro v0 H0 s0 r0)
  | ((with_reducible refine' G.sl_lstR ?r ?_); (case r => walk_at "R"); intro v0 H0 s0 r0)
  | ((with_reducible refine' G.tupOf_L ?r ?_); (case r => walk_at "R"); intro v0 H0 s0 r0)
  | ((with_reducible refine' G.tupOf_T ?r ?_); (case r => walk_at "R"))
  | ((with_reducible refine' G.lstOf_T ?r ?_); (case r => walk_at "R"); intro v0 H0 s0 r0)
  | ((with_reducible refine' G.lstOf_L ?r ?_); (case r => walk_at "R"); intro v0 H0 s0 r0)
  | with_reducible refine G.st_lcL ?_
  | with_reducible refine G.st_lcT ?_
  | with_reducible refine G.st_lcS ?_
  | with_reducible refine G.st_lcR ?_
  | with_reducible refine G.st_M0 ?_
  | with_reducible refine G.st_M1 ?_
  | (with_reducible refine G.upper_one ?_; intro hu0)
  | ((with_reducible refine' G.upper_R ?l ?_); (case l => walk_at "side"))
  | (with_reducible refine G.st_strAnd ?_)
  | (with_reducible refine G.st_sub ?_)
  | ((with_reducible refine' G.set_20 ?hp ?_); (case hp => first | exact L2.upd_same | walk_at "P"))
  | ((with_reducible refine' G.set_21 ?hp ?_); (case hp => first | exact L2.upd_same | walk_at "P"))
  | ((with_reducible refine' G.set_at ?hp ?hi ?_); (case hp => first | exact L2.upd_same | walk_at "P"); (case hi => rfl))
  | with_reducible refine G.st_lst2 ?_
  | with_reducible refine G.st_shut ?_
  | with_reducible refine G.st_forR ?_
  | ((with_reducible refine' G.len_scr ?s ?_); (case s => walk_at "Q"))
  | ((with_reducible refine' G.ix_scr ?s ?h0 ?h1 ?_); (case s => walk_at "Q"); (case h0 => walk_at "side"); (case h1 => walk_at "side"); intro n0)
  | ((with_reducible refine' G.sl_scr ?s ?_); (case s => walk_at "Q"); intro v0 H0 s0 r0)
  | (with_reducible refine' G.st_disp1 ?_; intro v0 H0 s0 r0)
  | walk_at "c"
  | fail "no step")
local macro_rules | `(tactic| walk_at "r") => `(tactic| repeat' (walk_at "s"))

local macro_rules | `(tactic| walk_at "side") => `(tactic| first | exact G.nm_a (by with_reducible assumption) | exact G.fm_a (by with_reducible assumption) | exact G.nm_b (by with_reducible assumption) | exact G.nm_c (by with_reducible assumption) | fail)
local macro_rules | `(tactic| walk_at "c") => `(tactic| ((with_reducible refine' G.use_name ?hp ?_); (case hp => walk_at "P"); intro z0 H0 s0 hz0))
local macro_rules | `(tactic| walk_at "c") => `(tactic| ((with_reducible refine' G.use_form ?hp ?_); (case hp => walk_at "P"); intro z0 H0 s0 hz0))
local macro_rules | `(tactic| walk_at "c") => `(tactic| ((with_reducible refine' G.use_pool ?hp ?_); (case hp => walk_at "P"); intro v0 fs0 gs0 ns0 H0 s0 ok0 r0))
local macro_rules | `(tactic| walk_at "c") => `(tactic| ((with_reducible refine' G.use_leaf ?hp ?r ?ok ?h0 ?h1 ?_); (case hp => walk_at "P"); (case r => walk_at "R"); (case ok => with_reducible assumption); (case h0 => walk_at "side"); (case h1 => walk_at "side"); intro v0 t0 H0 s0 r0 ht0 hd0 hs0))
local macro_rules | `(tactic| walk_at "c") => `(tactic| ((with_reducible refine' G.use_term ?hp ?r ?ok ?h0 ?h1 ?e0 ?e1 ?_); (case hp => walk_at "P"); (case r => walk_at "R"); (case ok => with_reducible assumption); (case h0 => walk_at "side"); (case h1 => walk_at "side"); (case e0 => walk_at "side"); (case e1 => walk_at "side"); intro v0 t0 H0 s0 r0 ht0 hd0 hs0))
local macro_rules | `(tactic| walk_at "c") => `(tactic| ((with_reducible refine' G.use_tall ?hp ?r ?ok ?rt ?ht ?h0 ?h1 ?_); (case hp => walk_at "P"); (case r => walk_at "R"); (case ok => with_reducible assumption); (case rt => walk_at "R"); (case ht => with_reducible assumption); (case h0 => walk_at "side"); (case h1 => walk_at "side"); intro v0 t0 H0 s0 r0 ht0 hd0 hs0))
local macro_rules | `(tactic| walk_at "c") => `(tactic| ((with_reducible refine' G.use_anyT ?hp ?r ?ok ?h0 ?h1 ?_); (case hp => walk_at "P"); (case r => walk_at "R"); (case ok => with_reducible assumption); (case h0 => walk_at "side"); (case h1 => walk_at "side"); intro v0 t0 H0 s0 r0 ht0 hd0 hs0))

local macro_rules | `(tactic| walk_at "w") => `(tactic| first
  | with_reducible refine G.st_BM0 ?_
  | with_reducible refine G.st_BM ?_
  | ((with_reducible refine' G.st_tyl ?hl ?_); (case hl => walk_at "P"))
  | ((with_reducible refine' G.popR ?hl ?ra ?hn ?_); (case hl => walk_at "P"); (case ra => with_reducible assumption); (case hn => with_reducible assumption); intro v0 ws0 H0 x0 hl0 ra0 r0)
  | ((with_reducible refine' G.extR ?hl ?ra ?r ?hz ?hn ?hn' ?_); (case hl => walk_at "P"); (case ra => first | with_reducible assumption | exact G.ra_mono (by with_reducible assumption) (by walk_at "S")); (case r => walk_at "R"); (case hz => walk_at "side"); (case hn => walk_at "nol"); (case hn' => walk_at "nol"); intro ws0 H0 x0 hl0 ra0)
  | ((with_reducible refine' G.gtup2 ?r ?_); (case r => walk_at "R"); intro v1 v2 r1 r2)
  | with_reducible refine G.st_asgT ?_
  | with_reducible refine G.int_bl ?_
  | with_reducible refine G.max_2 ?_
  | ((with_reducible refine' G.st_aug ?hx ?_); (case hx => rfl))
  | with_reducible refine G.ipI_int ?_
  | with_reducible refine G.whB ?_
  | with_reducible refine G.st_lstF ?_
  | ((with_reducible refine' G.st_newLF ?r ?l ?_); (case r => walk_at "A"); (case l => first | exact Nat.le_of_ble_eq_true rfl | walk_at "side"); intro p0 H0 f0 s0 hl0 ra0)
  | fail "no step")
local macro_rules | `(tactic| walk_at "nol") => `(tactic| first | with_reducible assumption | rfl | exact G.Th.noL _ | exact G.Th.noLs _)
local macro_rules | `(tactic| walk_at "c") => `(tactic| walk_at "w")

local macro_rules | `(tactic| walk_at "c") => `(tactic| first
  | with_reducible refine G.neg_i ?_
  | with_reducible refine G.st_BMs ?_
  | with_reducible refine G.st_tys ?_
  | with_reducible refine G.st_gcons ?_
  | with_reducible refine G.st_gnil ?_
  | with_reducible refine G.st_gname ?_
  | with_reducible refine G.st_gsub ?_
  | ((with_reducible refine' G.iC ?hc ?_); (case hc => show (0 : Int) < _; decide +kernel))
  | ((with_reducible refine' G.ix_scrLast ?hs ?h1 ?_); (case hs => walk_at "Q"); (case h1 => walk_at "side"); intro n0)
  | ((with_reducible refine' G.divmodR ?h0 ?h1 ?_); (case h0 => walk_at "side"); (case h1 => walk_at "side"); intro p0 H0 f0 e0)
  | (with_reducible refine G.absR ?_; intro j0)
  | fail "no step")

local macro_rules | `(tactic| walk_at "B") => `(tactic| first | with_reducible assumption | exact G.bk_keep (by with_reducible assumption) (by walk_at "S"))
local macro_rules | `(tactic| walk_at "c") => `(tactic| first
  | ((with_reducible refine' G.use_nextU ?hp ?h0 ?h1 ?_); (case hp => walk_at "P"); (case h0 => walk_at "side"); (case h1 => walk_at "side"); intro r0 H0 s0 hr0 hr1)
  | ((with_reducible refine' G.ix_b1 ?h ?_); (case h => walk_at "B"); intro af0 lb0 lc0 hf0 rb0 rc0)
  | ((with_reducible refine' G.ix_b2 ?h ?_); (case h => walk_at "B"); intro v0 r0)
  | ((with_reducible refine' G.ix_b3 ?h ?_); (case h => walk_at "B"); intro v0 r0)
  | ((with_reducible refine' G.ix_b5 ?h ?_); (case h => walk_at "B"); intro v0 r0)
  | with_reducible refine G.st_dget ?_
  | with_reducible refine G.st_dget2 ?_
  | with_reducible refine G.st_lcLT ?_
  | with_reducible refine G.st_lcET ?_
  | with_reducible refine G.st_lcETT ?_
  | with_reducible refine G.st_forL ?_
  | with_reducible refine G.st_forE ?_
  | with_reducible refine G.st_forT ?_
  | fail "no step")
local macro_rules | `(tactic| walk_at "u") => `(tactic| repeat' ((fail_if_success (with_reducible refine G.st_if ?_)); walk_at "s"))
local macro_rules | `(tactic| walk_at "c") => `(tactic| (with_reducible refine G.minR ?_; intro m0 hm0 hm1 hm2))

namespace G
open PySem PySem.Spec PyProof.Rows L2
section
variable {P : Program} {w : World} {K : PySem.W.Frag} {mg : Str → Option Value} {base : Heap} {k n : Nat}
theorem ok_l_spots (T : Tp K mg) (c_l_args : Cal P w K mg base k "_law_args" (spArgs K)) (c_l_spots : Cal P w K mg base k "_law_spots" (spSpots K n)) : Cal P w K mg base (k + 1) "_law_spots" (spSpots K (n + 1)) := by
  refine T.d_l_spots.cal sc_l_spots (fun vs H Q E h => ?_) (fun f cdv A outer s H vs Q E hr h => ?_)
  · obtain ⟨v, vo, vp, t, one, pre, F, b, rfl, _⟩ := h; rfl
  obtain ⟨v, vo, vp, t, one, pre, F, b, rfl, r, ro, rp, ht, ho, hd, hd2, hz, hpl, hm, q⟩ := h
  have sc := @sc_l_spots
  refine ⟨_, (pss_cons (ps_if (pt_cmpR (op_eqK K hr) (pv 0) (pv 1) (nomark _)) (pss_one (ps_ret (pe_lstF K (pa_cons (pv 2) pa_nil)))) pss_nil)
      (pss_cons (ps_set (i := 3) sc.nd rfl (Or.inl rfl) (pe_lstF K pa_nil))
      (pss_cons (ps_for PassesOwn.never rfl (pi_enumTK K rfl T.n_enumerate (pa_cons (pe_c c_l_args hr (Nat.le_refl _) rfl (pa_cons (pv 0) pa_nil)) pa_nil)) (gtK K (pg_tup (n := 2) rfl (pgs_cons (pg_name (i := 4) sc.nd rfl (Or.inl rfl)) (pgs_cons (pg_name (i := 5) sc.nd rfl (Or.inl rfl)) pgs_nil)))) (pss_one (ps_expr (bmK K (pe_bm PySem.F.plainAttrs_list PySem.F.slot_list_extend PySem.F.type_list_extend mt_extend (pv 3) (pa_cons (pe_c c_l_spots hr (Nat.le_refl _) rfl (pa_cons (pv 5) (pa_cons (pv 1) (pa_cons (pe_op (op_addK K) (pv 2) (pe_tupK K (pa_cons (pv 4) pa_nil))) pa_nil)))) pa_nil))))))
      (pss_one (ps_ret (pv 3)))))), ?_⟩
  have hargs : ∀ a ∈ t.args, a.isT F b ∧ a.dep ≤ n ∧ a.sz ≤ 400000 := by
    intro a ha
    cases t with
    | app w c args =>
      cases w with
      | atom => exact absurd ht (by intro h; exact h)
      | form | call =>
        simp only [Th.dep] at hd
        simp only [Th.sz] at hz
        have hda := Th.deps_le.mp (Nat.le_refl (Th.deps args)) a ha
        have hza := sz_mem (show a ∈ args from ha)
        exact ⟨Th.areT_all.mp ht.2.2 a ha, by omega, by omega⟩
    | _ => cases ha
  have hszs : Th.szs t.args ≤ 400000 := by
    cases t with
    | app w c args =>
      cases w with
      | atom => exact absurd ht (by intro h; exact h)
      | form | call => simp only [Th.sz] at hz; simp only [Th.args]; omega
    | _ => simp [Th.args, Th.szs]
  have dp1 := Th.depth_le one
  have rp' : R K H vp (.tuple (pre.map fun i : Nat => PyData.int (i : Nat))) := rp
  rw [Th.spots_args t one ht] at q
  walk_at "u"
  refine if_joinA (PyData.eqv t.d one.d = false) (fun P hP => ?_) fun he H1 s1 => ?_
  · walk_at "r"
    refine eq_R r ro (Th.layT t ht) (Th.layT one ho) (by omega) ?_
    cases he : PyData.eqv t.d one.d
    · walk_at "r"
      exact hP he _ (by walk_at "S")
    · rw [he] at q
      walk_at "r"
      rename_i l1 H1 f1 s1 hl1 ra1
      refine q _ _ (by first | exact f1 | exact none_of (by walk_at "S") f1) (by walk_at "S") ?_
      have e : plD pre (bif true then [[]] else Th.spotsL t.args 0 one) = [pls pre] := by
        show [pls (pre ++ [])] = _
        rw [List.append_nil]
      rw [e]; exact Lk.of hl1 ra1 (by simp [noLs, noL_pls])
  rw [he] at q
  walk_at "u"
  rename_i l H2 f2 s2 hl2 ra2
  have kl : Lk K H2 l (plD pre (Th.spotsL (t.args.take 0) 0 one)) := Lk.of hl2 ra2 (by rfl)
  refine use_args (R.mono (s1.trans s2) r) ht fun y H3 s3 ry => ?_
  obtain ⟨a, xs, rfl, ha, ra⟩ := ry.inv_tup
  have fl : H l = none := none_of s1 f2
  walk_at "u"
  have hal := len_szs t.args
  refine for_Ex (K := K) (ds := Th.ds t.args) (fun i σ' H' => (Same H H' ∧ Lk K H' l (plD pre (Th.spotsL (t.args.take i) 0 one)) ∧ i ≤ t.args.length) ∧ (SqT K H' a xs ∧ RA K H' xs (Th.ds t.args)) ∧ ∃ x4 x5 : Option V, σ' = [some v, some vo, some vp, some (.ref l), x4, x5])
    ⟨⟨(s1.trans s2).trans s3, kl.mono s3, Nat.zero_le _⟩, ⟨ha, ra⟩, _, _, rfl⟩ (fun _ _ _ h => h.2.1) (fun i σ' H' H'' h s => ⟨⟨h.1.1.trans s, h.1.2.1.mono s, h.1.2.2⟩, ⟨s.tup h.2.1.1, h.2.1.2.mono s⟩, h.2.2⟩) ?_ ?_
  · rintro i d vd σ' H4 hd' rd ⟨⟨s4, k4, hil⟩, ⟨ha4, ra4⟩, x4, x5, rfl⟩
    rw [Th.ds_map, List.getElem?_map] at hd'
    obtain ⟨p, hpi, rfl⟩ := Option.map_eq_some_iff.mp hd'
    have hpm := List.mem_of_getElem? hpi
    have hp3 := hargs p hpm
    have hiL := (List.getElem?_eq_some_iff.mp hpi).1
    have hpl2 : (pre.map fun i : Nat => PyData.int (i : Nat)).length + 1 ≤ 1000000 := by rw [List.length_map]; omega
    clear s1 s2 s3 kl ra ry ra2 hl2
    walk_at "r"
    refine k4.ty ?_
    walk_at "r"
    rename_i v5 H5 s5 r5 v6 H6 s6 r6
    have r6' : R K H6 v6 (pls (pre ++ [i])) := by
      have e : pls (pre ++ [i]) = .tuple ((pre.map fun i : Nat => PyData.int (i : Nat)) ++ [.int (i : Nat)]) := by simp [pls]
      rw [e]; exact r6
    refine use_spots (R.mono (s5.trans s6) rd) (ro.mono (s4.trans (s5.trans s6))) r6' hp3.1 ho hp3.2.1 hd2 hp3.2.2 (by rw [List.length_append, List.length_singleton]; omega) (by omega) fun y7 H7 s7 r7 => ?_
    walk_at "r"
    have s47 : Same H4 H7 := (s5.trans s6).trans s7
    have k7 := k4.mono s47
    have hl1 := Th.spotsL_len (t.args.take i) 0 one
    have hl2 := szs_take'' t.args i
    have hl3 := Th.spots_len p one
    refine ext_L k7 r7 (by simp only [plD, List.length_map]; omega) (noLs_plD _ _) fun H8 x8 k8 => ?_
    obtain ⟨xl, ql, _⟩ := k7.ex
    walk_at "r"
    have e8 : plD pre (Th.spotsL (t.args.take i) 0 one) ++ plD (pre ++ [i]) (p.spots one) = plD pre (Th.spotsL (t.args.take (i + 1)) 0 one) := by
      have e9 : t.args.take (i + 1) = t.args.take i ++ [p] := by rw [List.take_add_one, hpi]; rfl
      rw [e9, Th.spotsL_snoc, List.length_take, Nat.min_eq_left hil, Nat.zero_add]
      simp [plD, List.map_append, List.map_map, Function.comp_def, List.append_assoc]
    rw [e8] at k8
    exact ⟨⟨SameX.same (s4.trans s47) x8 fl, k8, by omega⟩, ⟨SameX.tupL x8 k7 (s47.tup ha4), (ra4.mono s47).monoX x8 ql (Th.noLs _)⟩, _, _, rfl⟩
  · rintro σ' H4 ⟨⟨s4, k4, hil⟩, ⟨ha4, ra4⟩, x4, x5, rfl⟩
    rw [ds_len, List.take_length] at k4
    walk_at "r"
    exact q _ _ fl s4 k4
theorem l_spots_n (T : Tp K mg) : ∀ n : Nat, Cal P w K mg base (n + 2) "_law_spots" (spSpots K n)
  | 0 => T.d_l_spots.none fun vs H Q E h => by obtain ⟨v, vo, vp, t, one, pre, F, b, _, _, _, _, _, _, h0, _⟩ := h; have := t.dep_pos; omega
  | n + 1 => ok_l_spots T ((ok_l_args (k := 0) T).lift (by omega)) (l_spots_n T n)

end
end G

end

section
/-! the words of the walk: S (a heap keeps), R (a value stands for data), A (a row of them), no (a way that cannot be), s (one step), r (all steps) -/
local macro_rules | `(tactic| walk_at "S") => `(tactic| first | exact L2.Same.refl _ | assumption | exact G.sm_tr (by assumption) (by walk_at "S"))
local macro_rules | `(tactic| walk_at "R") => `(tactic| first
  | with_reducible exact G.R.int _ | with_reducible exact G.R.str _ | with_reducible exact G.R.bl _ | with_reducible exact G.R.non
  | with_reducible assumption
  | exact G.r_mono (by with_reducible assumption) (by walk_at "S")
  | ((with_reducible refine' G.R.lst L2.upd_same ?rl); (case rl => walk_at "A")))
local macro_rules | `(tactic| walk_at "A") => `(tactic| first | with_reducible exact G.RA.nil | ((with_reducible refine' G.RA.cons ?ra ?rb); (case ra => walk_at "R"); (case rb => walk_at "A")))
local macro_rules | `(tactic| walk_at "no") => `(tactic| first | contradiction | omega)
local macro_rules | `(tactic| walk_at "side") => `(tactic| first | with_reducible rfl | with_reducible assumption | omega | exact Int.lt_of_lt_of_le (by with_reducible assumption) (by decide +kernel) | ((with_reducible refine G.le_up ?_); decide +kernel) | (simp only [List.length_cons, List.length_nil, List.getElem?_cons_zero, List.getElem?_cons_succ, List.length_map]; done) | (simp only [List.length_cons, List.length_nil, List.length_map, List.length_append] at *; omega))
local macro_rules | `(tactic| walk_at "sideC") => `(tactic| first | with_reducible assumption | (with_reducible refine G.cmul_r ⟨?_, ?_⟩ <;> decide) | (with_reducible refine G.cdiv_r ⟨?_, ?_⟩ <;> decide) | (with_reducible refine G.cmul_l ⟨?_, ?_⟩ <;> decide) | (with_reducible refine G.cpow_c ⟨?_, ?_, ?_⟩ <;> decide) | (with_reducible refine G.cmul_r ⟨?_, ?_⟩ <;> omega) | (with_reducible refine G.cdiv_r ⟨?_, ?_⟩ <;> omega) | omega)
local macro_rules | `(tactic| walk_at "got") => `(tactic| (intro v0 r0; first
  | (have e0 := G.R.inv_str r0; subst e0) | (have e0 := G.R.inv_int r0; subst e0) | (have e0 := G.R.inv_bl r0; subst e0) | (have e0 := G.R.inv_non r0; subst e0) | skip))
local macro_rules | `(tactic| walk_at "P") => `(tactic| first | with_reducible assumption | exact G.keep_at (by with_reducible assumption) (by walk_at "S"))
local macro_rules | `(tactic| walk_at "c") => `(tactic| fail)
local macro_rules | `(tactic| walk_at "Q") => `(tactic| first | with_reducible assumption | exact G.seq_keep (by with_reducible assumption) (by walk_at "S"))
local macro_rules | `(tactic| walk_at "c") => `(tactic| ((with_reducible refine' G.use_state ?hp ?h0 ?h1 ?_); (case hp => walk_at "Q"); (case h0 => walk_at "side"); (case h1 => walk_at "side"); intro p0 H0 s0 hp0))
local macro_rules | `(tactic| walk_at "c") => `(tactic| ((with_reducible refine' G.use_draw ?hp ?h0 ?h1 ?_); (case hp => walk_at "P"); (case h0 => walk_at "side"); (case h1 => walk_at "side"); intro r0 hr0 hr1))
local macro_rules | `(tactic| walk_at "s") => `(tactic| first
  | with_reducible refine G.st_seq ?_
  | ((with_reducible refine' G.st_var ?hv ?_); (case hv => exact rfl))
  | with_reducible refine G.st_c ?_
  | with_reducible refine G.st_op ?_
  | with_reducible refine G.st_bl ?_
  | with_reducible refine L2.iteT ?_
  | with_reducible refine L2.iteF ?_
  | with_reducible refine G.ite_nt ?_
  | with_reducible refine G.ite_nf ?_
  | ((with_reducible refine G.st_ite ?_ ?_) <;> (intro hb; (try simp only [decide_eq_true_eq, decide_eq_false_iff_not, Bool.not_eq_true', Bool.not_eq_false', beq_iff_eq, Bool.and_eq_true, Bool.or_eq_true, Bool.and_eq_false_iff, Bool.or_eq_false_iff, beq_eq_false_iff_ne, ne_eq, Int.not_lt, Int.not_le, Nat.not_lt, Nat.not_le] at hb); first | (exfalso; walk_at "no"; done) | skip))
  | with_reducible refine G.st_if ?_
  | with_reducible refine G.st_ret ?_
  | with_reducible refine G.st_set ?_
  | with_reducible refine G.st_call ?_
  | with_reducible refine G.st_cons ?_
  | with_reducible refine G.st_nil ?_
  | with_reducible refine G.st_CB ?_
  | with_reducible refine G.st_tTest ?_
  | with_reducible refine G.st_tB ?_
  | with_reducible refine G.st_or ?_
  | with_reducible refine G.st_and ?_
  | with_reducible refine G.st_not ?_
  | with_reducible refine G.st_orV ?_
  | with_reducible refine G.st_andV ?_
  | with_reducible refine G.st_notV ?_
  | with_reducible refine G.st_tIf ?_
  | with_reducible refine G.st_chain ?_
  | with_reducible refine G.st_un ?_
  | with_reducible refine G.st_then ?_
  | with_reducible refine G.st_slice ?_
  | with_reducible refine G.st_noPart ?_
  | with_reducible refine G.st_part ?_
  | with_reducible refine G.st_exInt ?_
  | with_reducible refine G.st_drop ?_
  | with_reducible refine G.st_next ?_
  | with_reducible refine G.st_retN ?_
  | with_reducible refine G.add_int ?_
  | with_reducible refine G.i0 ?_
  | ((with_reducible refine G.imod2 (by decide) ?_ ?_) <;> (intro hm; first | (exfalso; walk_at "no"; done) | skip))
  | ((with_reducible refine G.imod3 (by decide) ?_ ?_ ?_) <;> (intro hm; first | (exfalso; walk_at "no"; done) | skip))
  | ((with_reducible refine' G.iC ?hc ?_); (case hc => walk_at "sideC"))
  | ((with_reducible refine' G.eq_str1 ?e ?_); (case e => with_reducible rfl))
  | ((with_reducible refine' G.eq_str0 ?e ?_); (case e => decide +kernel))
  | with_reducible refine G.eq_str ?_
  | with_reducible refine G.eq_int ?_
  | with_reducible refine G.eq_bl ?_
  | with_reducible refine G.ne_str ?_
  | with_reducible refine G.ne_int ?_
  | ((with_reducible refine' G.is_none ?r ?_); (case r => walk_at "R"))
  | ((with_reducible refine' G.isnt_none ?r ?_); (case r => walk_at "R"))
  | with_reducible refine G.is_bl ?_
  | with_reducible refine G.isnt_bl ?_
  | with_reducible refine G.in_sign ?_
  | with_reducible refine G.nin_sign ?_
  | ((with_reducible refine' G.in_strsT1 ?r ?c ?e ?_); (case r => walk_at "R"); (case c => rfl); (case e => decide +kernel))
  | ((with_reducible refine' G.in_strsT0 ?r ?c ?e ?_); (case r => walk_at "R"); (case c => rfl); (case e => decide +kernel))
  | ((with_reducible refine' G.in_strsT ?r ?c ?_); (case r => walk_at "R"); (case c => rfl))
  | ((with_reducible refine' G.nin_strsT ?r ?c ?_); (case r => walk_at "R"); (case c => rfl))
  | ((with_reducible refine' G.in_intsT ?r ?c ?_); (case r => walk_at "R"); (case c => rfl))
  | ((with_reducible refine' G.nin_intsT ?r ?c ?_); (case r => walk_at "R"); (case c => rfl))
  | ((with_reducible refine' G.add_str ?l ?_); (case l => walk_at "side"))
  | ((with_reducible refine' G.add_tup ?r ?s ?l ?_); (case r => walk_at "R"); (case s => walk_at "R"); (case l => walk_at "side"); intro v0 H0 s0 r0)
  | ((with_reducible refine' G.add_lst ?r ?s ?l ?_); (case r => walk_at "R"); (case s => walk_at "R"); (case l => walk_at "side"); intro v0 H0 s0 r0)
  | ((with_reducible refine' G.isi_1 ?r ?e ?t ?_); (case r => walk_at "R"); (case e => rfl); (case t => simp only [List.mem_cons, true_or, or_true]))
  | ((with_reducible refine' G.isi_0 ?r ?e ?t ?_); (case r => walk_at "R"); (case e => rfl); (case t => simp only [List.mem_cons, true_or, or_true]))
  | ((with_reducible refine' G.isi_R ?r ?t ?_); (case r => walk_at "R"); (case t => simp only [List.mem_cons, true_or, or_true]))
  | ((with_reducible refine' G.len_str ?l ?_); (case l => walk_at "side"))
  | ((with_reducible refine' G.len_tup ?r ?_); (case r => walk_at "R"))
  | ((with_reducible refine' G.len_lst ?r ?_); (case r => walk_at "R"))
  | (with_reducible refine G.st_tup ?_)
  | (with_reducible refine G.st_lst ?_)
  | ((with_reducible refine' G.st_newT ?r ?l ?_); (case r => walk_at "A"); (case l => first | exact Nat.le_of_ble_eq_true rfl | walk_at "side"); intro v0 H0 s0 r0)
  | ((with_reducible refine' G.st_newL ?r ?l ?_); (case r => walk_at "A"); (case l => first | exact Nat.le_of_ble_eq_true rfl | walk_at "side"); intro v0 H0 s0 r0)
  | ((with_reducible refine' G.ix_tupR ?r ?h0 ?hd ?_); (case r => walk_at "R"); (case h0 => walk_at "side"); (case hd => first | rfl | assumption); walk_at "got")
  | ((with_reducible refine' G.ix_lstR ?r ?h0 ?hd ?_); (case r => walk_at "R"); (case h0 => walk_at "side"); (case hd => first | rfl | assumption); walk_at "got")
  | ((with_reducible refine' G.ix_strR ?l ?h0 ?hd ?_); (case l => walk_at "side"); (case h0 => walk_at "side"); (case hd => first | rfl | assumption))
  | ((with_reducible refine' G.ix_strM ?l ?h0 ?h1 ?_); (case l => walk_at "side"); (case h0 => walk_at "side"); (case h1 => walk_at "side"); intro c0 hc0)
  | ((with_reducible refine' G.ix_tupN ?r ?h0 ?h1 ?_); (case r => walk_at "R"); (case h0 => walk_at "side"); (case h1 => walk_at "side"); intro v0 d0 hd0 r0)
  | ((with_reducible refine' G.ix_lstS ?r ?h0 ?h1 ?_); (case r => walk_at "R"); (case h0 => walk_at "side"); (case h1 => walk_at "side"); intro z0 hz0)
  | ((with_reducible refine' G.ix_lstN ?r ?h0 ?h1 ?_); (case r => walk_at "R"); (case h0 => walk_at "side"); (case h1 => walk_at "side"); intro v0 d0 hd0 r0)
  | ((with_reducible refine' G.sl_strR ?l ?_); (case l => walk_at "side"))
  | ((with_reducible refine' G.sl_tupR ?r ?_); (case r => walk_at "R"); intro v0 H0 s0 r0)
  | ((with_reducible refine' G.sl_lstR ?r ?_); (case r => walk_at "R"); intro v0 H0 s0 r0)
  | ((with_reducible refine' G.tupOf_L ?r ?_); (case r => walk_at "R"); intro v0 H0 s0 r0)
  | ((with_reducible refine' G.tupOf_T ?r ?_); (case r => walk_at "R"))
  | ((with_reducible refine' G.lstOf_T ?r ?_); (case r => walk_at "R"); intro v0 H0 s0 r0)
  | ((with_reducible refine' G.lstOf_L ?r ?_); (case r => walk_at "R"); intro v0 H0 s0 r0)
  | with_reducible refine G.st_lcL ?_
  | with_reducible refine G.st_lcT ?_
  | with_reducible refine G.st_lcS ?_
  | with_reducible refine G.st_lcR ?_
  | with_reducible refine G.st_M0 ?_
  | with_reducible refine G.st_M1 ?_
  | (with_reducible refine G.upper_one ?_; intro hu0)
  | ((with_reducible refine' G.upper_R ?l ?_); (case l => walk_at "side"))
  | (with_reducible refine G.st_strAnd ?_)
  | (with_reducible refine G.st_sub ?_)
  | ((with_reducible refine' G.set_20 ?hp ?_); (case hp => first | exact L2.upd_same | walk_at "P"))
  | ((with_reducible refine' G.set_21 ?hp ?_); (case hp => first | exact L2.upd_same | walk_at "P"))
  | ((with_reducible refine' G.set_at ?hp ?hi ?_); (case hp => first | exact L2.upd_same | walk_at "P"); (case hi => rfl))
  | with_reducible refine G.st_lst2 ?_
  | with_reducible refine G.st_shut ?_
  | with_reducible refine G.st_forR ?_
  | ((with_reducible refine' G.len_scr ?s ?_); (case s => walk_at "Q"))
  | ((with_reducible refine' G.ix_scr ?s ?h0 ?h1 ?_); (case s => walk_at "Q"); (case h0 => walk_at "side"); (case h1 => walk_at "side"); intro n0)
  | ((with_reducible refine' G.sl_scr ?s ?_); (case s => walk_at "Q"); intro v0 H0 s0 r0)
  | (with_reducible refine' G.st_disp1 ?_; intro v0 H0 s0 r0)
  | walk_at "c"
  | fail "no step")
local macro_rules | `(tactic| walk_at "r") => `(tactic| repeat' (walk_at "s"))

local macro_rules | `(tactic| walk_at "side") => `(tactic| first | exact G.nm_a (by with_reducible assumption) | exact G.fm_a (by with_reducible assumption) | exact G.nm_b (by with_reducible assumption) | exact G.nm_c (by with_reducible assumption) | fail)
local macro_rules | `(tactic| walk_at "c") => `(tactic| ((with_reducible refine' G.use_name ?hp ?_); (case hp => walk_at "P"); intro z0 H0 s0 hz0))
local macro_rules | `(tactic| walk_at "c") => `(tactic| ((with_reducible refine' G.use_form ?hp ?_); (case hp => walk_at "P"); intro z0 H0 s0 hz0))
local macro_rules | `(tactic| walk_at "c") => `(tactic| ((with_reducible refine' G.use_pool ?hp ?_); (case hp => walk_at "P"); intro v0 fs0 gs0 ns0 H0 s0 ok0 r0))
local macro_rules | `(tactic| walk_at "c") => `(tactic| ((with_reducible refine' G.use_leaf ?hp ?r ?ok ?h0 ?h1 ?_); (case hp => walk_at "P"); (case r => walk_at "R"); (case ok => with_reducible assumption); (case h0 => walk_at "side"); (case h1 => walk_at "side"); intro v0 t0 H0 s0 r0 ht0 hd0 hs0))
local macro_rules | `(tactic| walk_at "c") => `(tactic| ((with_reducible refine' G.use_term ?hp ?r ?ok ?h0 ?h1 ?e0 ?e1 ?_); (case hp => walk_at "P"); (case r => walk_at "R"); (case ok => with_reducible assumption); (case h0 => walk_at "side"); (case h1 => walk_at "side"); (case e0 => walk_at "side"); (case e1 => walk_at "side"); intro v0 t0 H0 s0 r0 ht0 hd0 hs0))
local macro_rules | `(tactic| walk_at "c") => `(tactic| ((with_reducible refine' G.use_tall ?hp ?r ?ok ?rt ?ht ?h0 ?h1 ?_); (case hp => walk_at "P"); (case r => walk_at "R"); (case ok => with_reducible assumption); (case rt => walk_at "R"); (case ht => with_reducible assumption); (case h0 => walk_at "side"); (case h1 => walk_at "side"); intro v0 t0 H0 s0 r0 ht0 hd0 hs0))
local macro_rules | `(tactic| walk_at "c") => `(tactic| ((with_reducible refine' G.use_anyT ?hp ?r ?ok ?h0 ?h1 ?_); (case hp => walk_at "P"); (case r => walk_at "R"); (case ok => with_reducible assumption); (case h0 => walk_at "side"); (case h1 => walk_at "side"); intro v0 t0 H0 s0 r0 ht0 hd0 hs0))

local macro_rules | `(tactic| walk_at "w") => `(tactic| first
  | with_reducible refine G.st_BM0 ?_
  | with_reducible refine G.st_BM ?_
  | ((with_reducible refine' G.st_tyl ?hl ?_); (case hl => walk_at "P"))
  | ((with_reducible refine' G.popR ?hl ?ra ?hn ?_); (case hl => walk_at "P"); (case ra => with_reducible assumption); (case hn => with_reducible assumption); intro v0 ws0 H0 x0 hl0 ra0 r0)
  | ((with_reducible refine' G.extR ?hl ?ra ?r ?hz ?hn ?hn' ?_); (case hl => walk_at "P"); (case ra => first | with_reducible assumption | exact G.ra_mono (by with_reducible assumption) (by walk_at "S")); (case r => walk_at "R"); (case hz => walk_at "side"); (case hn => walk_at "nol"); (case hn' => walk_at "nol"); intro ws0 H0 x0 hl0 ra0)
  | ((with_reducible refine' G.gtup2 ?r ?_); (case r => walk_at "R"); intro v1 v2 r1 r2)
  | with_reducible refine G.st_asgT ?_
  | with_reducible refine G.int_bl ?_
  | with_reducible refine G.max_2 ?_
  | ((with_reducible refine' G.st_aug ?hx ?_); (case hx => rfl))
  | with_reducible refine G.ipI_int ?_
  | with_reducible refine G.whB ?_
  | with_reducible refine G.st_lstF ?_
  | ((with_reducible refine' G.st_newLF ?r ?l ?_); (case r => walk_at "A"); (case l => first | exact Nat.le_of_ble_eq_true rfl | walk_at "side"); intro p0 H0 f0 s0 hl0 ra0)
  | fail "no step")
local macro_rules | `(tactic| walk_at "nol") => `(tactic| first | with_reducible assumption | rfl | exact G.Th.noL _ | exact G.Th.noLs _)
local macro_rules | `(tactic| walk_at "c") => `(tactic| walk_at "w")

local macro_rules | `(tactic| walk_at "c") => `(tactic| first
  | with_reducible refine G.neg_i ?_
  | with_reducible refine G.st_BMs ?_
  | with_reducible refine G.st_tys ?_
  | with_reducible refine G.st_gcons ?_
  | with_reducible refine G.st_gnil ?_
  | with_reducible refine G.st_gname ?_
  | with_reducible refine G.st_gsub ?_
  | ((with_reducible refine' G.iC ?hc ?_); (case hc => show (0 : Int) < _; decide +kernel))
  | ((with_reducible refine' G.ix_scrLast ?hs ?h1 ?_); (case hs => walk_at "Q"); (case h1 => walk_at "side"); intro n0)
  | ((with_reducible refine' G.divmodR ?h0 ?h1 ?_); (case h0 => walk_at "side"); (case h1 => walk_at "side"); intro p0 H0 f0 e0)
  | (with_reducible refine G.absR ?_; intro j0)
  | fail "no step")

local macro_rules | `(tactic| walk_at "B") => `(tactic| first | with_reducible assumption | exact G.bk_keep (by with_reducible assumption) (by walk_at "S"))
local macro_rules | `(tactic| walk_at "c") => `(tactic| first
  | ((with_reducible refine' G.use_nextU ?hp ?h0 ?h1 ?_); (case hp => walk_at "P"); (case h0 => walk_at "side"); (case h1 => walk_at "side"); intro r0 H0 s0 hr0 hr1)
  | ((with_reducible refine' G.ix_b1 ?h ?_); (case h => walk_at "B"); intro af0 lb0 lc0 hf0 rb0 rc0)
  | ((with_reducible refine' G.ix_b2 ?h ?_); (case h => walk_at "B"); intro v0 r0)
  | ((with_reducible refine' G.ix_b3 ?h ?_); (case h => walk_at "B"); intro v0 r0)
  | ((with_reducible refine' G.ix_b5 ?h ?_); (case h => walk_at "B"); intro v0 r0)
  | with_reducible refine G.st_dget ?_
  | with_reducible refine G.st_dget2 ?_
  | with_reducible refine G.st_lcLT ?_
  | with_reducible refine G.st_lcET ?_
  | with_reducible refine G.st_lcETT ?_
  | with_reducible refine G.st_forL ?_
  | with_reducible refine G.st_forE ?_
  | with_reducible refine G.st_forT ?_
  | fail "no step")
local macro_rules | `(tactic| walk_at "u") => `(tactic| repeat' ((fail_if_success (with_reducible refine G.st_if ?_)); walk_at "s"))
local macro_rules | `(tactic| walk_at "c") => `(tactic| (with_reducible refine G.minR ?_; intro m0 hm0 hm1 hm2))

namespace G
open PySem PySem.Spec PyProof.Rows L2
section
variable {P : Program} {w : World} {K : PySem.W.Frag} {mg : Str → Option Value} {base : Heap} {k n : Nat}
def spPlacesT (K : PySem.W.Frag) : Sp := fun vs H Q _ => ∃ (v vo : V) (t one : Th) (F : List Str) (b : Nat), vs = [v, vo] ∧ R K H v t.d ∧ R K H vo one.d ∧ t.isS F b ∧ (∀ p ∈ t.termsOf, p.isT F (b + 50) ∧ p.dep ≤ 90) ∧ one.isT F (b + 50) ∧ t.dep ≤ 90 ∧ one.dep ≤ 90 ∧ t.sz ≤ 400000 ∧ ∀ H', Same H H' → Q (.int ((t.termsOf.map fun p => (p.spots one).length).sum : Nat)) H'
theorem termsOf_sz : ∀ (t p : Th), p ∈ t.termsOf → p.sz ≤ t.sz
  | .two .same a b, p, h => by
    simp only [Th.termsOf, List.mem_cons, List.not_mem_nil, or_false] at h
    simp only [Th.sz]
    rcases h with rfl | rfl <;> omega
  | .app .atom c args, p, h => by have := sz_mem (show p ∈ args from h); simp only [Th.sz]; omega
  | .qua w k a, p, h => by have := termsOf_sz a p h; simp only [Th.sz]; omega
  | .two .and a b, p, h => by
    simp only [Th.sz]
    rcases List.mem_append.mp h with h | h
    · have := termsOf_sz a p h; omega
    · have := termsOf_sz b p h; omega
  | .two .or a b, p, h => by
    simp only [Th.sz]
    rcases List.mem_append.mp h with h | h
    · have := termsOf_sz a p h; omega
    · have := termsOf_sz b p h; omega
  | .two .iff a b, p, h => by
    simp only [Th.sz]
    rcases List.mem_append.mp h with h | h
    · have := termsOf_sz a p h; omega
    · have := termsOf_sz b p h; omega
theorem ok_l_places (T : Tp K mg) (c_l_terms : Cal P w K mg base k "_law_terms" (spTermsOf K 90)) (c_l_spots : Cal P w K mg base k "_law_spots" (spSpots K 90)) : Cal P w K mg base (k + 1) "_law_places" (spPlacesT K) := by
  refine T.d_l_places.cal sc_l_places (fun vs H Q E h => ?_) (fun f cdv A outer s H vs Q E hr h => ?_)
  · obtain ⟨v, vo, t, one, F, b, rfl, _⟩ := h; rfl
  obtain ⟨v, vo, t, one, F, b, rfl, r, ro, ht, hts, ho, hd, hd2, hz, q⟩ := h
  have sc := @sc_l_places
  refine ⟨_, (pss_one (ps_ret (pe_callB (sum_K K rfl) rfl T.n_sum bt_sum (pa_cons (pe_lc (own := [("_law_one", 2)]) (g := gName 2) (tt := tYes) rfl sc.nd (pi_listK K (pe_c c_l_terms hr (Nat.le_refl _) rfl (pa_cons (pv 0) pa_nil))) (blkOk_by (N := n_l_places) (sc := defScope s_l_places) (by decide +kernel)) (fun _ _ _ _ _ => pg_name (i := 2) sc.nd rfl (Or.inl rfl)) (fun _ _ _ _ _ => pts_nil) (fun _ _ _ _ _ => pe_hide (pe_callB (len_K K) rfl T.n_len bt_len (pa_cons (pe_c c_l_spots hr (Nat.le_refl _) rfl (pa_cons (pv 2) (pa_cons (pv 1) (pa_cons (pe_tupK K pa_nil) pa_nil)))) pa_nil)))) pa_nil)))), ?_⟩
  have htl := Th.termsOf_len t ht
  walk_at "r"
  refine use_termsOf r ht hd hz fun y H1 s1 ry => ?_
  walk_at "r"
  refine lc_L (K := K) (fun i e' => ∃ p : Th, t.termsOf[i]? = some p ∧ e' = .int ((p.spots one).length : Nat)) ry (by rw [ds_len]; omega) (fun _ => rfl) (fun i v d H13 hd' rv s13 Qt hQ => ?_) (fun v13 H13 es s13 r13 hl13 hP13 => ?_)
  · rw [Th.ds_map, List.getElem?_map] at hd'
    obtain ⟨p, hp, rfl⟩ := Option.map_eq_some_iff.mp hd'
    have hpm := List.mem_of_getElem? hp
    have hpz := termsOf_sz t p hpm
    walk_at "r"
    rename_i v2 H2 s2 r2
    refine use_spots (pre := []) (R.mono s2 rv) (ro.mono (by walk_at "S")) r2 (hts p hpm).1 ho (hts p hpm).2 hd2 (by omega) (by simp) (by decide) fun y3 H3 s3 r3 => ?_
    walk_at "r"
    refine hQ _ _ _ (by walk_at "S") (R.int _) ⟨p, hp, ?_⟩
    simp [plD]
  have e13 : es = (t.termsOf.map fun p => (((p.spots one).length : Nat) : Int)).map PyData.int := by
    rw [List.map_map]
    exact list_of_at (by rw [hl13, ds_len]) fun i e h => hP13 i e h
  subst e13
  walk_at "r"
  refine sum_R r13 ?_
  have e14 : (t.termsOf.map fun p => (((p.spots one).length : Nat) : Int)).sum = ((t.termsOf.map fun p => (p.spots one).length).sum : Nat) := by
    generalize t.termsOf = ps
    induction ps with
    | nil => rfl
    | cons p ps ih => simp only [List.map_cons, List.sum_cons, ih]; omega
  rw [e14]
  exact q _ (by walk_at "S")

end
end G

end

section
/-! the words of the walk: S (a heap keeps), R (a value stands for data), A (a row of them), no (a way that cannot be), s (one step), r (all steps) -/
local macro_rules | `(tactic| walk_at "S") => `(tactic| first | exact L2.Same.refl _ | assumption | exact G.sm_tr (by assumption) (by walk_at "S"))
local macro_rules | `(tactic| walk_at "R") => `(tactic| first
  | with_reducible exact G.R.int _ | with_reducible exact G.R.str _ | with_reducible exact G.R.bl _ | with_reducible exact G.R.non
  | with_reducible assumption
  | exact G.r_mono (by with_reducible assumption) (by walk_at "S")
  | ((with_reducible refine' G.R.lst L2.upd_same ?rl); (case rl => walk_at "A")))
local macro_rules | `(tactic| walk_at "A") => `(tactic| first | with_reducible exact G.RA.nil | ((with_reducible refine' G.RA.cons ?ra ?rb); (case ra => walk_at "R"); (case rb => walk_at "A")))
local macro_rules | `(tactic| walk_at "no") => `(tactic| first | contradiction | omega)
local macro_rules | `(tactic| walk_at "side") => `(tactic| first | with_reducible rfl | with_reducible assumption | omega | exact Int.lt_of_lt_of_le (by with_reducible assumption) (by decide +kernel) | ((with_reducible refine G.le_up ?_); decide +kernel) | (simp only [List.length_cons, List.length_nil, List.getElem?_cons_zero, List.getElem?_cons_succ, List.length_map]; done) | (simp only [List.length_cons, List.length_nil, List.length_map, List.length_append] at *; omega))
local macro_rules | `(tactic| walk_at "sideC") => `(tactic| first | with_reducible assumption | (with_reducible refine G.cmul_r ⟨?_, ?_⟩ <;> decide) | (with_reducible refine G.cdiv_r ⟨?_, ?_⟩ <;> decide) | (with_reducible refine G.cmul_l ⟨?_, ?_⟩ <;> decide) | (with_reducible refine G.cpow_c ⟨?_, ?_, ?_⟩ <;> decide) | (with_reducible refine G.cmul_r ⟨?_, ?_⟩ <;> omega) | (with_reducible refine G.cdiv_r ⟨?_, ?_⟩ <;> omega) | omega)
local macro_rules | `(tactic| walk_at "got") => `(tactic| (intro v0 r0; first
  | (have e0 := G.R.inv_str r0; subst e0) | (have e0 := G.R.inv_int r0; subst e0) | (have e0 := G.R.inv_bl r0; subst e0) | (have e0 := G.R.inv_non r0; subst e0) | skip))
local macro_rules | `(tactic| walk_at "P") => `(tactic| first | with_reducible assumption | exact G.keep_at (by with_reducible assumption) (by walk_at "S"))
local macro_rules | `(tactic| walk_at "c") => `(tactic| fail)
local macro_rules | `(tactic| walk_at "Q") => `(tactic| first | with_reducible assumption | exact G.seq_keep (by with_reducible assumption) (by walk_at "S"))
local macro_rules | `(tactic| walk_at "c") => `(tactic| ((with_reducible refine' G.use_state ?hp ?h0 ?h1 ?_); (case hp => walk_at "Q"); (case h0 => walk_at "side"); (case h1 => walk_at "side"); intro p0 H0 s0 hp0))
local macro_rules | `(tactic| walk_at "c") => `(tactic| ((with_reducible refine' G.use_draw ?hp ?h0 ?h1 ?_); (case hp => walk_at "P"); (case h0 => walk_at "side"); (case h1 => walk_at "side"); intro r0 hr0 hr1))
local macro_rules | `(tactic| walk_at "s") => `(tactic| first
  | with_reducible refine G.st_seq ?_
  | ((with_reducible refine' G.st_var ?hv ?_); (case hv => exact rfl))
  | with_reducible refine G.st_c ?_
  | with_reducible refine G.st_op ?_
  | with_reducible refine G.st_bl ?_
  | with_reducible refine L2.iteT ?_
  | with_reducible refine L2.iteF ?_
  | with_reducible refine G.ite_nt ?_
  | with_reducible refine G.ite_nf ?_
  | ((with_reducible refine G.st_ite ?_ ?_) <;> (intro hb; (try simp only [decide_eq_true_eq, decide_eq_false_iff_not, Bool.not_eq_true', Bool.not_eq_false', beq_iff_eq, Bool.and_eq_true, Bool.or_eq_true, Bool.and_eq_false_iff, Bool.or_eq_false_iff, beq_eq_false_iff_ne, ne_eq, Int.not_lt, Int.not_le, Nat.not_lt, Nat.not_le] at hb); first | (exfalso; walk_at "no"; done) | skip))
  | with_reducible refine G.st_if ?_
  | with_reducible refine G.st_ret ?_
  | with_reducible refine G.st_set ?_
  | with_reducible refine G.st_call ?_
  | with_reducible refine G.st_cons ?_
  | with_reducible refine G.st_nil ?_
  | with_reducible refine G.st_CB ?_
  | with_reducible refine G.st_tTest ?_
  | with_reducible refine G.st_tB ?_
  | with_reducible refine G.st_or ?_
  | with_reducible refine G.st_and ?_
  | with_reducible refine G.st_not ?_
  | with_reducible refine G.st_orV ?_
  | with_reducible refine G.st_andV ?_
  | with_reducible refine G.st_notV ?_
  | with_reducible refine G.st_tIf ?_
  | with_reducible refine G.st_chain ?_
  | with_reducible refine G.st_un ?_
  | with_reducible refine G.st_then ?_
  | with_reducible refine G.st_slice ?_
  | with_reducible refine G.st_noPart ?_
  | with_reducible refine G.st_part ?_
  | with_reducible refine G.st_exInt ?_
  | with_reducible refine G.st_drop ?_
  | with_reducible refine G.st_next ?_
  | with_reducible refine G.st_retN ?_
  | with_reducible refine G.add_int ?_
  | with_reducible refine G.i0 ?_
  | ((with_reducible refine G.imod2 (by decide) ?_ ?_) <;> (intro hm; first | (exfalso; walk_at "no"; done) | skip))
  | ((with_reducible refine G.imod3 (by decide) ?_ ?_ ?_) <;> (intro hm; first | (exfalso; walk_at "no"; done) | skip))
  | ((with_reducible refine' G.iC ?hc ?_); (case hc => walk_at "sideC"))
  | ((with_reducible refine' G.eq_str1 ?e ?_); (case e => with_reducible rfl))
  | ((with_reducible refine' G.eq_str0 ?e ?_); (case e => decide +kernel))
  | with_reducible refine G.eq_str ?_
  | with_reducible refine G.eq_int ?_
  | with_reducible refine G.eq_bl ?_
  | with_reducible refine G.ne_str ?_
  | with_reducible refine G.ne_int ?_
  | ((with_reducible refine' G.is_none ?r ?_); (case r => walk_at "R"))
  | ((with_reducible refine' G.isnt_none ?r ?_); (case r => walk_at "R"))
  | with_reducible refine G.is_bl ?_
  | with_reducible refine G.isnt_bl ?_
  | with_reducible refine G.in_sign ?_
  | with_reducible refine G.nin_sign ?_
  | ((with_reducible refine' G.in_strsT1 ?r ?c ?e ?_); (case r => walk_at "R"); (case c => rfl); (case e => decide +kernel))
  | ((with_reducible refine' G.in_strsT0 ?r ?c ?e ?_); (case r => walk_at "R"); (case c => rfl); (case e => decide +kernel))
  | ((with_reducible refine' G.in_strsT ?r ?c ?_); (case r => walk_at "R"); (case c => rfl))
  | ((with_reducible refine' G.nin_strsT ?r ?c ?_); (case r => walk_at "R"); (case c => rfl))
  | ((with_reducible refine' G.in_intsT ?r ?c ?_); (case r => walk_at "R"); (case c => rfl))
  | ((with_reducible refine' G.nin_intsT ?r ?c ?_); (case r => walk_at "R"); (case c => rfl))
  | ((with_reducible refine' G.add_str ?l ?_); (case l => walk_at "side"))
  | ((with_reducible refine' G.add_tup ?r ?s ?l ?_); (case r => walk_at "R"); (case s => walk_at "R"); (case l => walk_at "side"); intro v0 H0 s0 r0)
  | ((with_reducible refine' G.add_lst ?r ?s ?l ?_); (case r => walk_at "R"); (case s => walk_at "R"); (case l => walk_at "side"); intro v0 H0 s0 r0)
  | ((with_reducible refine' G.isi_1 ?r ?e ?t ?_); (case r => walk_at "R"); (case e => rfl); (case t => simp only [List.mem_cons, true_or, or_true]))
  | ((with_reducible refine' G.isi_0 ?r ?e ?t ?_); (case r => walk_at "R"); (case e => rfl); (case t => simp only [List.mem_cons, true_or, or_true]))
  | ((with_reducible refine' G.isi_R ?r ?t ?_); (case r => walk_at "R"); (case t => simp only [List.mem_cons, true_or, or_true]))
  | ((with_reducible refine' G.len_str ?l ?_); (case l => walk_at "side"))
  | ((with_reducible refine' G.len_tup ?r ?_); (case r => walk_at "R"))
  | ((with_reducible refine' G.len_lst ?r ?_); (case r => walk_at "R"))
  | (with_reducible refine G.st_tup ?_)
  | (with_reducible refine G.st_lst ?_)
  | ((with_reducible refine' G.st_newT ?r ?l ?_); (case r => walk_at "A"); (case l => first | exact Nat.le_of_ble_eq_true rfl | walk_at "side"); intro v0 H0 s0 r0)
  | ((with_reducible refine' G.st_newL ?r ?l ?_); (case r => walk_at "A"); (case l => first | exact Nat.le_of_ble_eq_true rfl | walk_at "side"); intro v0 H0 s0 r0)
  | ((with_reducible refine' G.ix_tupR ?r ?h0 ?hd ?_); (case r => walk_at "R"); (case h0 => walk_at "side"); (case hd => first | rfl | assumption); walk_at "got")
  | ((with_reducible refine' G.ix_lstR ?r ?h0 ?hd ?_); (case r => walk_at "R"); (case h0 => walk_at "side"); (case hd => first | rfl | assumption); walk_at "got")
  | ((with_reducible refine' G.ix_strR ?l ?h0 ?hd ?_); (case l => walk_at "side"); (case h0 => walk_at "side"); (case hd => first | rfl | assumption))
  | ((with_reducible refine' G.ix_strM ?l ?h0 ?h1 ?_); (case l => walk_at "side"); (case h0 => walk_at "side"); (case h1 => walk_at "side"); intro c0 hc0)
  | ((with_reducible refine' G.ix_tupN ?r ?h0 ?h1 ?_); (case r => walk_at "R"); (case h0 => walk_at "side"); (case h1 => walk_at "side"); intro v0 d0 hd0 r0)
  | ((with_reducible refine' G.ix_lstS ?r ?h0 ?h1 ?_); (case r => walk_at "R"); (case h0 => walk_at "side"); (case h1 => walk_at "side"); intro z0 hz0)
  | ((with_reducible refine' G.ix_lstN ?r ?h0 ?h1 ?_); (case r => walk_at "R"); (case h0 => walk_at "side"); (case h1 => walk_at "side"); intro v0 d0 hd0 r0)
  | ((with_reducible refine' G.sl_strR ?l ?_); (case l => walk_at "side"))
  | ((with_reducible refine' G.sl_tupR ?r ?_); (case r => walk_at "R"); intro v0 H0 s0 r0)
  | ((with_reducible refine' G.sl_lstR ?r ?_); (case r => walk_at "R"); intro v0 H0 s0 r0)
  | ((with_reducible refine' G.tupOf_L ?r ?_); (case r => walk_at "R"); intro v0 H0 s0 r0)
  | ((with_reducible refine' G.tupOf_T ?r ?_); (case r => walk_at "R"))
  | ((with_reducible refine' G.lstOf_T ?r ?_); (case r => walk_at "R"); intro v0 H0 s0 r0)
  | ((with_reducible refine' G.lstOf_L ?r ?_); (case r => walk_at "R"); intro v0 H0 s0 r0)
  | with_reducible refine G.st_lcL ?_
  | with_reducible refine G.st_lcT ?_
  | with_reducible refine G.st_lcS ?_
  | with_reducible refine G.st_lcR ?_
  | with_reducible refine G.st_M0 ?_
  | with_reducible refine G.st_M1 ?_
  | (with_reducible refine G.upper_one ?_; intro hu0)
  | ((with_reducible refine' G.upper_R ?l ?_); (case l => walk_at "side"))
  | (with_reducible refine G.st_strAnd ?_)
  | (with_reducible refine G.st_sub ?_)
  | ((with_reducible refine' G.set_20 ?hp ?_); (case hp => first | exact L2.upd_same | walk_at "P"))
  | ((with_reducible refine' G.set_21 ?hp ?_); (case hp => first | exact L2.upd_same | walk_at "P"))
  | ((with_reducible refine' G.set_at ?hp ?hi ?_); (case hp => first | exact L2.upd_same | walk_at "P"); (case hi => rfl))
  | with_reducible refine G.st_lst2 ?_
  | with_reducible refine G.st_shut ?_
  | with_reducible refine G.st_forR ?_
  | ((with_reducible refine' G.len_scr ?s ?_); (case s => walk_at "Q"))
  | ((with_reducible refine' G.ix_scr ?s ?h0 ?h1 ?_); (case s => walk_at "Q"); (case h0 => walk_at "side"); (case h1 => walk_at "side"); intro n0)
  | ((with_reducible refine' G.sl_scr ?s ?_); (case s => walk_at "Q"); intro v0 H0 s0 r0)
  | (with_reducible refine' G.st_disp1 ?_; intro v0 H0 s0 r0)
  | walk_at "c"
  | fail "no step")
local macro_rules | `(tactic| walk_at "r") => `(tactic| repeat' (walk_at "s"))

local macro_rules | `(tactic| walk_at "side") => `(tactic| first | exact G.nm_a (by with_reducible assumption) | exact G.fm_a (by with_reducible assumption) | exact G.nm_b (by with_reducible assumption) | exact G.nm_c (by with_reducible assumption) | fail)
local macro_rules | `(tactic| walk_at "c") => `(tactic| ((with_reducible refine' G.use_name ?hp ?_); (case hp => walk_at "P"); intro z0 H0 s0 hz0))
local macro_rules | `(tactic| walk_at "c") => `(tactic| ((with_reducible refine' G.use_form ?hp ?_); (case hp => walk_at "P"); intro z0 H0 s0 hz0))
local macro_rules | `(tactic| walk_at "c") => `(tactic| ((with_reducible refine' G.use_pool ?hp ?_); (case hp => walk_at "P"); intro v0 fs0 gs0 ns0 H0 s0 ok0 r0))
local macro_rules | `(tactic| walk_at "c") => `(tactic| ((with_reducible refine' G.use_leaf ?hp ?r ?ok ?h0 ?h1 ?_); (case hp => walk_at "P"); (case r => walk_at "R"); (case ok => with_reducible assumption); (case h0 => walk_at "side"); (case h1 => walk_at "side"); intro v0 t0 H0 s0 r0 ht0 hd0 hs0))
local macro_rules | `(tactic| walk_at "c") => `(tactic| ((with_reducible refine' G.use_term ?hp ?r ?ok ?h0 ?h1 ?e0 ?e1 ?_); (case hp => walk_at "P"); (case r => walk_at "R"); (case ok => with_reducible assumption); (case h0 => walk_at "side"); (case h1 => walk_at "side"); (case e0 => walk_at "side"); (case e1 => walk_at "side"); intro v0 t0 H0 s0 r0 ht0 hd0 hs0))
local macro_rules | `(tactic| walk_at "c") => `(tactic| ((with_reducible refine' G.use_tall ?hp ?r ?ok ?rt ?ht ?h0 ?h1 ?_); (case hp => walk_at "P"); (case r => walk_at "R"); (case ok => with_reducible assumption); (case rt => walk_at "R"); (case ht => with_reducible assumption); (case h0 => walk_at "side"); (case h1 => walk_at "side"); intro v0 t0 H0 s0 r0 ht0 hd0 hs0))
local macro_rules | `(tactic| walk_at "c") => `(tactic| ((with_reducible refine' G.use_anyT ?hp ?r ?ok ?h0 ?h1 ?_); (case hp => walk_at "P"); (case r => walk_at "R"); (case ok => with_reducible assumption); (case h0 => walk_at "side"); (case h1 => walk_at "side"); intro v0 t0 H0 s0 r0 ht0 hd0 hs0))

local macro_rules | `(tactic| walk_at "w") => `(tactic| first
  | with_reducible refine G.st_BM0 ?_
  | with_reducible refine G.st_BM ?_
  | ((with_reducible refine' G.st_tyl ?hl ?_); (case hl => walk_at "P"))
  | ((with_reducible refine' G.popR ?hl ?ra ?hn ?_); (case hl => walk_at "P"); (case ra => with_reducible assumption); (case hn => with_reducible assumption); intro v0 ws0 H0 x0 hl0 ra0 r0)
  | ((with_reducible refine' G.extR ?hl ?ra ?r ?hz ?hn ?hn' ?_); (case hl => walk_at "P"); (case ra => first | with_reducible assumption | exact G.ra_mono (by with_reducible assumption) (by walk_at "S")); (case r => walk_at "R"); (case hz => walk_at "side"); (case hn => walk_at "nol"); (case hn' => walk_at "nol"); intro ws0 H0 x0 hl0 ra0)
  | ((with_reducible refine' G.gtup2 ?r ?_); (case r => walk_at "R"); intro v1 v2 r1 r2)
  | with_reducible refine G.st_asgT ?_
  | with_reducible refine G.int_bl ?_
  | with_reducible refine G.max_2 ?_
  | ((with_reducible refine' G.st_aug ?hx ?_); (case hx => rfl))
  | with_reducible refine G.ipI_int ?_
  | with_reducible refine G.whB ?_
  | with_reducible refine G.st_lstF ?_
  | ((with_reducible refine' G.st_newLF ?r ?l ?_); (case r => walk_at "A"); (case l => first | exact Nat.le_of_ble_eq_true rfl | walk_at "side"); intro p0 H0 f0 s0 hl0 ra0)
  | fail "no step")
local macro_rules | `(tactic| walk_at "nol") => `(tactic| first | with_reducible assumption | rfl | exact G.Th.noL _ | exact G.Th.noLs _)
local macro_rules | `(tactic| walk_at "c") => `(tactic| walk_at "w")

local macro_rules | `(tactic| walk_at "c") => `(tactic| first
  | with_reducible refine G.neg_i ?_
  | with_reducible refine G.st_BMs ?_
  | with_reducible refine G.st_tys ?_
  | with_reducible refine G.st_gcons ?_
  | with_reducible refine G.st_gnil ?_
  | with_reducible refine G.st_gname ?_
  | with_reducible refine G.st_gsub ?_
  | ((with_reducible refine' G.iC ?hc ?_); (case hc => show (0 : Int) < _; decide +kernel))
  | ((with_reducible refine' G.ix_scrLast ?hs ?h1 ?_); (case hs => walk_at "Q"); (case h1 => walk_at "side"); intro n0)
  | ((with_reducible refine' G.divmodR ?h0 ?h1 ?_); (case h0 => walk_at "side"); (case h1 => walk_at "side"); intro p0 H0 f0 e0)
  | (with_reducible refine G.absR ?_; intro j0)
  | fail "no step")

local macro_rules | `(tactic| walk_at "B") => `(tactic| first | with_reducible assumption | exact G.bk_keep (by with_reducible assumption) (by walk_at "S"))
local macro_rules | `(tactic| walk_at "c") => `(tactic| first
  | ((with_reducible refine' G.use_nextU ?hp ?h0 ?h1 ?_); (case hp => walk_at "P"); (case h0 => walk_at "side"); (case h1 => walk_at "side"); intro r0 H0 s0 hr0 hr1)
  | ((with_reducible refine' G.ix_b1 ?h ?_); (case h => walk_at "B"); intro af0 lb0 lc0 hf0 rb0 rc0)
  | ((with_reducible refine' G.ix_b2 ?h ?_); (case h => walk_at "B"); intro v0 r0)
  | ((with_reducible refine' G.ix_b3 ?h ?_); (case h => walk_at "B"); intro v0 r0)
  | ((with_reducible refine' G.ix_b5 ?h ?_); (case h => walk_at "B"); intro v0 r0)
  | with_reducible refine G.st_dget ?_
  | with_reducible refine G.st_dget2 ?_
  | with_reducible refine G.st_lcLT ?_
  | with_reducible refine G.st_lcET ?_
  | with_reducible refine G.st_lcETT ?_
  | with_reducible refine G.st_forL ?_
  | with_reducible refine G.st_forE ?_
  | with_reducible refine G.st_forT ?_
  | fail "no step")
local macro_rules | `(tactic| walk_at "u") => `(tactic| repeat' ((fail_if_success (with_reducible refine G.st_if ?_)); walk_at "s"))
local macro_rules | `(tactic| walk_at "c") => `(tactic| (with_reducible refine G.minR ?_; intro m0 hm0 hm1 hm2))

namespace G
open PySem PySem.Spec PyProof.Rows L2
section
variable {P : Program} {w : World} {K : PySem.W.Frag} {mg : Str → Option Value} {base : Heap} {k n : Nat}
theorem ok_places_where (T : Tp K mg) (c_args_of : Cal P w K mg base k "args_of" (spArgs K)) : Cal P w K mg base (k + 1) "places_where" (spWhere K) := by
  refine T.d_places_where.cal sc_places_where (fun vs H Q E h => ?_) (fun f cdv A outer s H vs Q E hr h => ?_)
  · obtain ⟨v, vo, t, one, F, b, rfl, _⟩ := h; rfl
  obtain ⟨v, vo, t, one, F, b, rfl, r, ro, ht, ho, hd, hd2, hz, q⟩ := h
  have sc := @sc_places_where
  refine ⟨_, (pss_cons (ps_set (i := 2) sc.nd rfl (Or.inl rfl) (pe_lstF K pa_nil))
      (pss_cons (ps_set (i := 3) sc.nd rfl (Or.inl rfl) (pe_lstF K (pa_cons (pe_tupK K (pa_cons (pe_tupK K pa_nil) (pa_cons (pv 0) pa_nil))) pa_nil)))
      (pss_cons (ps_while PassesOwn.never (pt_cmpR op_gt (pe_callB (len_K K) rfl T.n_len bt_len (pa_cons (pv 3) pa_nil)) pe_int (nomark _)) (pss_cons (ps_asg (bm0K K (pe_bm0 PySem.F.plainAttrs_list PySem.F.slot_list_pop PySem.F.type_list_pop mt_pop (pv 3))) (gtK K (pg_tup (n := 2) rfl (pgs_cons (pg_name (i := 4) sc.nd rfl (Or.inr rfl)) (pgs_cons (pg_name (i := 5) sc.nd rfl (Or.inl rfl)) pgs_nil)))))
      (pss_one (ps_if (pt_cmpR (op_eqK K hr) (pv 5) (pv 1) (nomark _)) (pss_one (ps_expr (bmK K (pe_bm PySem.F.plainAttrs_list PySem.F.slot_list_append PySem.F.type_list_append mt_append (pv 2) (pa_cons (pv 4) pa_nil))))) (pss_cons (ps_set (i := 6) sc.nd rfl (Or.inr rfl) (pe_c c_args_of hr (Nat.le_refl _) rfl (pa_cons (pv 5) pa_nil)))
      (pss_one (ps_expr (bmK K (pe_bm PySem.F.plainAttrs_list PySem.F.slot_list_extend PySem.F.type_list_extend mt_extend (pv 3) (pa_cons (pe_lc (own := [("k", 7)]) (g := gName 7) (tt := tYes) rfl sc.nd (pi_revR rfl T.n_reversed (prg_1 rfl T.n_range (pe_callB (len_K K) rfl T.n_len bt_len (pa_cons (pv 6) pa_nil)))) (blkOk_by (N := n_places_where) (sc := defScope s_places_where) (by decide +kernel)) (fun _ _ _ _ _ => pg_name (i := 7) sc.nd rfl (Or.inl rfl)) (fun _ _ _ _ _ => pts_nil) (fun _ _ _ _ _ => pe_hide (pe_tupK K (pa_cons (pe_op (op_addK K) (pv 4) (pe_tupK K (pa_cons (pv 7) pa_nil))) (pa_cons (pe_ix (ix_K K) (pv 6) (pv 7) (fun _ _ => rfl)) pa_nil))))) pa_nil))))))))))
      (pss_one (ps_ret (pv 2)))))), ?_⟩
  walk_at "r"
  rename_i fo H1 f1 s1 hl1 ra1 v2 H2 s2 r2 v3 H3 s3 r3 l H4 f4 s4 hl4 ra4
  have s13 : Same H1 H3 := s2.trans s3
  have kf : Lk K H4 fo ((([] : List (List Nat))).map pls) := (Lk.of hl1 ra1 (by rfl)).mono (s13.trans s4)
  have kl : Lk K H4 l ([(([] : List Nat), t)].map wD) := Lk.of hl4 ra4 (noLs_wD [([], t)])
  have nfo : H fo = none := f1
  have nl : H l = none := none_of (s1.trans s13) f4
  have nfl : fo ≠ l := fresh_ne f4 ((Lk.of hl1 ra1 (by rfl)).mono s13)
  have s14 : Same H H4 := (s1.trans s13).trans s4
  clear s1 s2 s3 s4 s13 ra1 ra4 hl1 hl4 r2 r3
  have lent := Th.spots_len t one
  refine st_while (fun m σ' H' => ∃ (found : List (List Nat)) (ws : List (List Nat × Th)) (x4 x5 x6 x7 : Option V), m = wsz ws ∧ σ' = [some v, some vo, some (.ref fo), some (.ref l), x4, x5, x6, x7] ∧ Same H H' ∧ Lk K H' fo (found.map pls) ∧ Lk K H' l (ws.map wD) ∧ found ++ stk one ws = t.spots one ∧ (∀ x ∈ ws, x.2.isT F b ∧ x.2.dep ≤ 90 ∧ x.1.length + x.2.dep ≤ 200) ∧ wsz ws ≤ t.sz)
    t.sz ⟨[], [([], t)], none, none, none, none, by simp [wsz, Th.szs], rfl, s14, kf, kl, by simp [stk], by simp [ht, hd]; omega, by simp [wsz, Th.szs]⟩ ?_
  clear kf kl s14
  rintro m σ' H5 ⟨found, ws, x4, x5, x6, x7, rfl, rfl, s5, kf, kl, hst, hws, hsz⟩
  have rl := kl.R
  have hfl : found.length ≤ t.sz := by have := congrArg List.length hst; rw [List.length_append] at this; omega
  rcases List.eq_nil_or_concat ws with rfl | ⟨ws', x, rfl⟩
  · have h0 : ((([] : List (List Nat × Th)).map wD).length : Int) = 0 := rfl
    walk_at "r"
    have e : found = t.spots one := by simpa [stk] using hst
    rw [← e] at q
    exact q _ _ nfo s5 kf
  · rw [List.concat_eq_append] at *
    have hx := hws x (by simp)
    have hpos : (0 : Int) < (((ws' ++ [x]).map wD).length : Int) := by simp
    rw [stk_snoc] at hst
    rw [wsz_snoc] at hsz
    have hxz := x.2.sz_pos
    have hwl := wsz_len ws'
    walk_at "r"
    refine kl.ty ?_
    rw [List.map_append] at kl
    have kl' : Lk K H5 l (ws'.map wD ++ [wD x]) := kl
    refine pop_L kl' fun v6 H6 x6 k6 r6 => ?_
    obtain ⟨xl, ql, _⟩ := kl'.ex
    have s6 : Same H H6 := SameX.same s5 x6 nl
    have kf6 : Lk K H6 fo (found.map pls) := kf.lx x6 kl' nfl
    refine gtup2 (d1 := pls x.1) (d2 := x.2.d) r6 fun u1 u2 q1 q2 => ?_
    have dp1 := Th.depth_le one
    clear rl kl kf kl' r6
    have cont : ∀ (m' : Nat) (σ' : L2.St) (H' : Hp) (found' : List (List Nat)) (ws2 : List (List Nat × Th)) (y4 y5 y6 y7 : Option V), σ' = [some v, some vo, some (.ref fo), some (.ref l), y4, y5, y6, y7] → Same H H' → Lk K H' fo (found'.map pls) → Lk K H' l (ws2.map wD) → found' ++ stk one ws2 = t.spots one → (∀ x ∈ ws2, x.2.isT F b ∧ x.2.dep ≤ 90 ∧ x.1.length + x.2.dep ≤ 200) → wsz ws2 < wsz (ws' ++ [x]) →
        ∃ m', m' < wsz (ws' ++ [x]) ∧ ∃ (found : List (List Nat)) (ws : List (List Nat × Th)) (x4 x5 x6 x7 : Option V), m' = wsz ws ∧ σ' = [some v, some vo, some (.ref fo), some (.ref l), x4, x5, x6, x7] ∧ Same H H' ∧ Lk K H' fo (found.map pls) ∧ Lk K H' l (ws.map wD) ∧ found ++ stk one ws = t.spots one ∧ (∀ x ∈ ws, x.2.isT F b ∧ x.2.dep ≤ 90 ∧ x.1.length + x.2.dep ≤ 200) ∧ wsz ws ≤ t.sz :=
      fun m' σ' H' found' ws2 y4 y5 y6 y7 e1 e2 e3 e4 e5 e6 e7 => ⟨_, e7, found', ws2, y4, y5, y6, y7, rfl, e1, e2, e3, e4, e5, e6, by rw [wsz_snoc] at e7; omega⟩
    walk_at "r"
    refine eq_R q2 (ro.mono s6) (Th.layT x.2 hx.1) (Th.layT one ho) (by omega) ?_
    rw [Th.spots_args x.2 one hx.1] at hst
    cases he : PyData.eqv x.2.d one.d
    · rw [he] at hst
      have hst : found ++ ((Th.spotsL x.2.args 0 one).map (x.1 ++ ·) ++ stk one ws') = t.spots one := hst
      walk_at "r"
      refine use_args q2 hx.1 fun y7 H7 s7 r7 => ?_
      have k7 := k6.mono s7
      walk_at "r"
      refine k7.ty ?_
      walk_at "r"
      refine st_lcRv ?_
      have q1' : R K H6 u1 (.tuple (x.1.map fun i : Nat => PyData.int (i : Nat))) := q1
      have hxl : (x.1.map fun i : Nat => PyData.int (i : Nat)).length + 1 ≤ 1000000 := by rw [List.length_map]; omega
      have hal : (Th.ds x.2.args).length = x.2.args.length := ds_len _
      have hza := Th.sz_args x.2 hx.1
      have hla := len_szs x.2.args
      walk_at "r"
      rw [hal]
      refine lcRv0 (K := K) (n := x.2.args.length) (fun i e => ∃ a, x.2.args[x.2.args.length - 1 - i]? = some a ∧ e = wD (x.1 ++ [x.2.args.length - 1 - i], a)) (by omega) (fun _ => rfl) (fun i H8 hi s8 Qt hQ => ?_) (fun v8 H8 es s8 r8 hl8 hP8 => ?_)
      · have hk : x.2.args.length - 1 - i < x.2.args.length := by omega
        have hg : (Th.ds x.2.args)[(((x.2.args.length - 1 - i : Nat) : Nat) : Int).toNat]? = some (x.2.args[x.2.args.length - 1 - i]).d := by
          rw [Int.toNat_natCast, Th.ds_map, List.getElem?_map, List.getElem?_eq_getElem hk]; rfl
        walk_at "r"
        rename_i v12 H12 s12 r12
        exact hQ _ _ _ (by walk_at "S") r12 ⟨_, List.getElem?_eq_getElem hk, by simp [wD, pls]⟩
      have e8 : es = (pushed x.1 x.2.args).map wD := list_of_at (by rw [hl8]; simp [pushed]) fun i e h => by
        obtain ⟨a, ha, rfl⟩ := hP8 i e h
        have hi : i < x.2.args.length := by have := (List.getElem?_eq_some_iff.mp h).1; omega
        exact ⟨_, by rw [pushed_at hi, ha]; rfl, rfl⟩
      subst e8
      have k8 := k7.mono s8
      have kf8 := (kf6.mono s7).mono s8
      have hpl : (pushed x.1 x.2.args).length = x.2.args.length := by simp [pushed]
      walk_at "r"
      refine ext_L k8 r8 (by rw [List.length_map, List.length_map, hpl]; omega) (noLs_wD _) fun H9 x9 k9 => ?_
      walk_at "r"
      refine cont 0 _ H9 found (ws' ++ pushed x.1 x.2.args) _ _ _ _ rfl (SameX.same ((s6.trans s7).trans s8) x9 nl) (kf8.lx x9 k8 nfl) (by rw [List.map_append]; exact k9) (by rw [stk_push]; exact hst) (fun y hy => ?_) (by rw [wsz_push, wsz_snoc]; omega)
      rcases List.mem_append.mp hy with hy | hy
      · exact hws y (List.mem_append_left _ hy)
      · unfold pushed at hy
        obtain ⟨⟨a, i⟩, ha, rfl⟩ := List.mem_map.mp (List.mem_reverse.mp hy)
        have h1 := List.mem_zipIdx ha
        simp only [Nat.zero_add, Nat.sub_zero] at h1
        have hm : a ∈ x.2.args := by rw [h1.2.2]; exact List.getElem_mem _
        have hdx := x.2.dep_pos
        have h2 := Th.args_ok (n := x.2.dep - 1) x.2 hx.1 (by omega) a hm
        exact ⟨h2.1, by have := h2.2; show a.dep ≤ 90; omega, by have := h2.2; rw [List.length_append, List.length_singleton]; show x.1.length + 1 + a.dep ≤ 200; omega⟩
    · rw [he] at hst
      have hst : found ++ ([[]].map (x.1 ++ ·) ++ stk one ws') = t.spots one := hst
      walk_at "r"
      refine kf6.ty ?_
      walk_at "r"
      refine app_L kf6 q1 (by rw [List.length_map]; omega) (noL_pls _) fun H7 x7 k7 => ?_
      walk_at "r"
      refine cont 0 _ H7 (found ++ [x.1]) ws' _ _ _ _ rfl (SameX.same s6 x7 nfo) (by rw [List.map_append]; exact k7) (k6.lx x7 kf6 (Ne.symm nfl)) (by rw [← hst]; simp) (fun y hy => hws y (List.mem_append_left _ hy)) (by rw [wsz_snoc]; omega)

end
end G

end

section
/-! the words of the walk: S (a heap keeps), R (a value stands for data), A (a row of them), no (a way that cannot be), s (one step), r (all steps) -/
local macro_rules | `(tactic| walk_at "S") => `(tactic| first | exact L2.Same.refl _ | assumption | exact G.sm_tr (by assumption) (by walk_at "S"))
local macro_rules | `(tactic| walk_at "R") => `(tactic| first
  | with_reducible exact G.R.int _ | with_reducible exact G.R.str _ | with_reducible exact G.R.bl _ | with_reducible exact G.R.non
  | with_reducible assumption
  | exact G.r_mono (by with_reducible assumption) (by walk_at "S")
  | ((with_reducible refine' G.R.lst L2.upd_same ?rl); (case rl => walk_at "A")))
local macro_rules | `(tactic| walk_at "A") => `(tactic| first | with_reducible exact G.RA.nil | ((with_reducible refine' G.RA.cons ?ra ?rb); (case ra => walk_at "R"); (case rb => walk_at "A")))
local macro_rules | `(tactic| walk_at "no") => `(tactic| first | contradiction | omega)
local macro_rules | `(tactic| walk_at "side") => `(tactic| first | with_reducible rfl | with_reducible assumption | omega | exact Int.lt_of_lt_of_le (by with_reducible assumption) (by decide +kernel) | ((with_reducible refine G.le_up ?_); decide +kernel) | (simp only [List.length_cons, List.length_nil, List.getElem?_cons_zero, List.getElem?_cons_succ, List.length_map]; done) | (simp only [List.length_cons, List.length_nil, List.length_map, List.length_append] at *; omega))
local macro_rules | `(tactic| walk_at "sideC") => `(tactic| first | with_reducible assumption | (with_reducible refine G.cmul_r ⟨?_, ?_⟩ <;> decide) | (with_reducible refine G.cdiv_r ⟨?_, ?_⟩ <;> decide) | (with_reducible refine G.cmul_l ⟨?_, ?_⟩ <;> decide) | (with_reducible refine G.cpow_c ⟨?_, ?_, ?_⟩ <;> decide) | (with_reducible refine G.cmul_r ⟨?_, ?_⟩ <;> omega) | (with_reducible refine G.cdiv_r ⟨?_, ?_⟩ <;> omega) | omega)
local macro_rules | `(tactic| walk_at "got") => `(tactic| (intro v0 r0; first
  | (have e0 := G.R.inv_str r0; subst e0) | (have e0 := G.R.inv_int r0; subst e0) | (have e0 := G.R.inv_bl r0; subst e0) | (have e0 := G.R.inv_non r0; subst e0) | skip))
local macro_rules | `(tactic| walk_at "P") => `(tactic| first | with_reducible assumption | exact G.keep_at (by with_reducible assumption) (by walk_at "S"))
local macro_rules | `(tactic| walk_at "c") => `(tactic| fail)
local macro_rules | `(tactic| walk_at "Q") => `(tactic| first | with_reducible assumption | exact G.seq_keep (by with_reducible assumption) (by walk_at "S"))
local macro_rules | `(tactic| walk_at "c") => `(tactic| ((with_reducible refine' G.use_state ?hp ?h0 ?h1 ?_); (case hp => walk_at "Q"); (case h0 => walk_at "side"); (case h1 => walk_at "side"); intro p0 H0 s0 hp0))
local macro_rules | `(tactic| walk_at "c") => `(tactic| ((with_reducible refine' G.use_draw ?hp ?h0 ?h1 ?_); (case hp => walk_at "P"); (case h0 => walk_at "side"); (case h1 => walk_at "side"); intro r0 hr0 hr1))
local macro_rules | `(tactic| walk_at "s") => `(tactic| first
  | with_reducible refine G.st_seq ?_
  | ((with_reducible refine' G.st_var ?hv ?_); (case hv => exact rfl))
  | with_reducible refine G.st_c ?_
  | with_reducible refine G.st_op ?_
  | with_reducible refine G.st_bl ?_
  | with_reducible refine L2.iteT ?_
  | with_reducible refine L2.iteF ?_
  | with_reducible refine G.ite_nt ?_
  | with_reducible refine G.ite_nf ?_
  | ((with_reducible refine G.st_ite ?_ ?_) <;> (intro hb; (try simp only [decide_eq_true_eq, decide_eq_false_iff_not, Bool.not_eq_true', Bool.not_eq_false', beq_iff_eq, Bool.and_eq_true, Bool.or_eq_true, Bool.and_eq_false_iff, Bool.or_eq_false_iff, beq_eq_false_iff_ne, ne_eq, Int.not_lt, Int.not_le, Nat.not_lt, Nat.not_le] at hb); first | (exfalso; walk_at "no"; done) | skip))
  | with_reducible refine G.st_if ?_
  | with_reducible refine G.st_ret ?_
  | with_reducible refine G.st_set ?_
  | with_reducible refine G.st_call ?_
  | with_reducible refine G.st_cons ?_
  | with_reducible refine G.st_nil ?_
  | with_reducible refine G.st_CB ?_
  | with_reducible refine G.st_tTest ?_
  | with_reducible refine G.st_tB ?_
  | with_reducible refine G.st_or ?_
  | with_reducible refine G.st_and ?_
  | with_reducible refine G.st_not ?_
  | with_reducible refine G.st_orV ?_
  | with_reducible refine G.st_andV ?_
  | with_reducible refine G.st_notV ?_
  | with_reducible refine G.st_tIf ?_
  | with_reducible refine G.st_chain ?_
  | with_reducible refine G.st_un ?_
  | with_reducible refine G.st_then ?_
  | with_reducible refine G.st_slice ?_
  | with_reducible refine G.st_noPart ?_
  | with_reducible refine G.st_part ?_
  | with_reducible refine G.st_exInt ?_
  | with_reducible refine G.st_drop ?_
  | with_reducible refine G.st_next ?_
  | with_reducible refine G.st_retN ?_
  | with_reducible refine G.add_int ?_
  | with_reducible refine G.i0 ?_
  | ((with_reducible refine G.imod2 (by decide) ?_ ?_) <;> (intro hm; first | (exfalso; walk_at "no"; done) | skip))
  | ((with_reducible refine G.imod3 (by decide) ?_ ?_ ?_) <;> (intro hm; first | (exfalso; walk_at "no"; done) | skip))
  | ((with_reducible refine' G.iC ?hc ?_); (case hc => walk_at "sideC"))
  | ((with_reducible refine' G.eq_str1 ?e ?_); (case e => with_reducible rfl))
  | ((with_reducible refine' G.eq_str0 ?e ?_); (case e => decide +kernel))
  | with_reducible refine G.eq_str ?_
  | with_reducible refine G.eq_int ?_
  | with_reducible refine G.eq_bl ?_
  | with_reducible refine G.ne_str ?_
  | with_reducible refine G.ne_int ?_
  | ((with_reducible refine' G.is_none ?r ?_); (case r => walk_at "R"))
  | ((with_reducible refine' G.isnt_none ?r ?_); (case r => walk_at "R"))
  | with_reducible refine G.is_bl ?_
  | with_reducible refine G.isnt_bl ?_
  | with_reducible refine G.in_sign ?_
  | with_reducible refine G.nin_sign ?_
  | ((with_reducible refine' G.in_strsT1 ?r ?c ?e ?_); (case r => walk_at "R"); (case c => rfl); (case e => decide +kernel))
  | ((with_reducible refine' G.in_strsT0 ?r ?c ?e ?_); (case r => walk_at "R"); (case c => rfl); (case e => decide +kernel))
  | ((with_reducible refine' G.in_strsT ?r ?c ?_); (case r => walk_at "R"); (case c => rfl))
  | ((with_reducible refine' G.nin_strsT ?r ?c ?_); (case r => walk_at "R"); (case c => rfl))
  | ((with_reducible refine' G.in_intsT ?r ?c ?_); (case r => walk_at "R"); (case c => rfl))
  | ((with_reducible refine' G.nin_intsT ?r ?c ?_); (case r => walk_at "R"); (case c => rfl))
  | ((with_reducible refine' G.add_str ?l ?_); (case l => walk_at "side"))
  | ((with_reducible refine' G.add_tup ?r ?s ?l ?_); (case r => walk_at "R"); (case s => walk_at "R"); (case l => walk_at "side"); intro v0 H0 s0 r0)
  | ((with_reducible refine' G.add_lst ?r ?s ?l ?_); (case r => walk_at "R"); (case s => walk_at "R"); (case l => walk_at "side"); intro v0 H0 s0 r0)
  | ((with_reducible refine' G.isi_1 ?r ?e ?t ?_); (case r => walk_at "R"); (case e => rfl); (case t => simp only [List.mem_cons, true_or, or_true]))
  | ((with_reducible refine' G.isi_0 ?r ?e ?t ?_); (case r => walk_at "R"); (case e => rfl); (case t => simp only [List.mem_cons, true_or, or_true]))
  | ((with_reducible refine' G.isi_R ?r ?t ?_); (case r => walk_at "R"); (case t => simp only [List.mem_cons, true_or, or_true]))
  | ((with_reducible refine' G.len_str ?l ?_); (case l => walk_at "side"))
  | ((with_reducible refine' G.len_tup ?r ?_); (case r => walk_at "R"))
  | ((with_reducible refine' G.len_lst ?r ?_); (case r => walk_at "R"))
  | (with_reducible refine G.st_tup ?_)
  | (with_reducible refine G.st_lst ?_)
  | ((with_reducible refine' G.st_newT ?r ?l ?_); (case r => walk_at "A"); (case l => first | exact Nat.le_of_ble_eq_true rfl | walk_at "side"); intro v0 H0 s0 r0)
  | ((with_reducible refine' G.st_newL ?r ?l ?_); (case r => walk_at "A"); (case l => first | exact Nat.le_of_ble_eq_true rfl | walk_at "side"); intro v0 H0 s0 r0)
  | ((with_reducible refine' G.ix_tupR ?r ?h0 ?hd ?_); (case r => walk_at "R"); (case h0 => walk_at "side"); (case hd => first | rfl | assumption); walk_at "got")
  | ((with_reducible refine' G.ix_lstR ?r ?h0 ?hd ?_); (case r => walk_at "R"); (case h0 => walk_at "side"); (case hd => first | rfl | assumption); walk_at "got")
  | ((with_reducible refine' G.ix_strR ?l ?h0 ?hd ?_); (case l => walk_at "side"); (case h0 => walk_at "side"); (case hd => first | rfl | assumption))
  | ((with_reducible refine' G.ix_strM ?l ?h0 ?h1 ?_); (case l => walk_at "side"); (case h0 => walk_at "side"); (case h1 => walk_at "side"); intro c0 hc0)
  | ((with_reducible refine' G.ix_tupN ?r ?h0 ?h1 ?_); (case r => walk_at "R"); (case h0 => walk_at "side"); (case h1 => walk_at "side"); intro v0 d0 hd0 r0)
  | ((with_reducible refine' G.ix_lstS ?r ?h0 ?h1 ?_); (case r => walk_at "R"); (case h0 => walk_at "side"); (case h1 => walk_at "side"); intro z0 hz0)
  | ((with_reducible refine' G.ix_lstN ?r ?h0 ?h1 ?_); (case r => walk_at "R"); (case h0 => walk_at "side"); (case h1 => walk_at "side"); intro v0 d0 hd0 r0)
  | ((with_reducible refine' G.sl_strR ?l ?_); (case l => walk_at "side"))
  | ((with_reducible refine' G.sl_tupR ?r ?_); (case r => walk_at "R"); intro v0 H0 s0 r0)
  | ((with_reducible refine' G.sl_lstR ?r ?_); (case r => walk_at "R"); intro v0 H0 s0 r0)
  | ((with_reducible refine' G.tupOf_L ?r ?_); (case r => walk_at "R"); intro v0 H0 s0 r0)
  | ((with_reducible refine' G.tupOf_T ?r ?_); (case r => walk_at "R"))
  | ((with_reducible refine' G.lstOf_T ?r ?_); (case r => walk_at "R"); intro v0 H0 s0 r0)
  | ((with_reducible refine' G.lstOf_L ?r ?_); (case r => walk_at "R"); intro v0 H0 s0 r0)
  | with_reducible refine G.st_lcL ?_
  | with_reducible refine G.st_lcT ?_
  | with_reducible refine G.st_lcS ?_
  | with_reducible refine G.st_lcR ?_
  | with_reducible refine G.st_M0 ?_
  | with_reducible refine G.st_M1 ?_
  | (with_reducible refine G.upper_one ?_; intro hu0)
  | ((with_reducible refine' G.upper_R ?l ?_); (case l => walk_at "side"))
  | (with_reducible refine G.st_strAnd ?_)
  | (with_reducible refine G.st_sub ?_)
  | ((with_reducible refine' G.set_20 ?hp ?_); (case hp => first | exact L2.upd_same | walk_at "P"))
  | ((with_reducible refine' G.set_21 ?hp ?_); (case hp => first | exact L2.upd_same | walk_at "P"))
  | ((with_reducible refine' G.set_at ?hp ?hi ?_); (case hp => first | exact L2.upd_same | walk_at "P"); (case hi => rfl))
  | with_reducible refine G.st_lst2 ?_
  | with_reducible refine G.st_shut ?_
  | with_reducible refine G.st_forR ?_
  | ((with_reducible refine' G.len_scr ?s ?_); (case s => walk_at "Q"))
  | ((with_reducible refine' G.ix_scr ?s ?h0 ?h1 ?_); (case s => walk_at "Q"); (case h0 => walk_at "side"); (case h1 => walk_at "side"); intro n0)
  | ((with_reducible refine' G.sl_scr ?s ?_); (case s => walk_at "Q"); intro v0 H0 s0 r0)
  | (with_reducible refine' G.st_disp1 ?_; intro v0 H0 s0 r0)
  | walk_at "c"
  | fail "no step")
local macro_rules | `(tactic| walk_at "r") => `(tactic| repeat' (walk_at "s"))

local macro_rules | `(tactic| walk_at "side") => `(tactic| first | exact G.nm_a (by with_reducible assumption) | exact G.fm_a (by with_reducible assumption) | exact G.nm_b (by with_reducible assumption) | exact G.nm_c (by with_reducible assumption) | fail)
local macro_rules | `(tactic| walk_at "c") => `(tactic| ((with_reducible refine' G.use_name ?hp ?_); (case hp => walk_at "P"); intro z0 H0 s0 hz0))
local macro_rules | `(tactic| walk_at "c") => `(tactic| ((with_reducible refine' G.use_form ?hp ?_); (case hp => walk_at "P"); intro z0 H0 s0 hz0))
local macro_rules | `(tactic| walk_at "c") => `(tactic| ((with_reducible refine' G.use_pool ?hp ?_); (case hp => walk_at "P"); intro v0 fs0 gs0 ns0 H0 s0 ok0 r0))
local macro_rules | `(tactic| walk_at "c") => `(tactic| ((with_reducible refine' G.use_leaf ?hp ?r ?ok ?h0 ?h1 ?_); (case hp => walk_at "P"); (case r => walk_at "R"); (case ok => with_reducible assumption); (case h0 => walk_at "side"); (case h1 => walk_at "side"); intro v0 t0 H0 s0 r0 ht0 hd0 hs0))
local macro_rules | `(tactic| walk_at "c") => `(tactic| ((with_reducible refine' G.use_term ?hp ?r ?ok ?h0 ?h1 ?e0 ?e1 ?_); (case hp => walk_at "P"); (case r => walk_at "R"); (case ok => with_reducible assumption); (case h0 => walk_at "side"); (case h1 => walk_at "side"); (case e0 => walk_at "side"); (case e1 => walk_at "side"); intro v0 t0 H0 s0 r0 ht0 hd0 hs0))
local macro_rules | `(tactic| walk_at "c") => `(tactic| ((with_reducible refine' G.use_tall ?hp ?r ?ok ?rt ?ht ?h0 ?h1 ?_); (case hp => walk_at "P"); (case r => walk_at "R"); (case ok => with_reducible assumption); (case rt => walk_at "R"); (case ht => with_reducible assumption); (case h0 => walk_at "side"); (case h1 => walk_at "side"); intro v0 t0 H0 s0 r0 ht0 hd0 hs0))
local macro_rules | `(tactic| walk_at "c") => `(tactic| ((with_reducible refine' G.use_anyT ?hp ?r ?ok ?h0 ?h1 ?_); (case hp => walk_at "P"); (case r => walk_at "R"); (case ok => with_reducible assumption); (case h0 => walk_at "side"); (case h1 => walk_at "side"); intro v0 t0 H0 s0 r0 ht0 hd0 hs0))

local macro_rules | `(tactic| walk_at "w") => `(tactic| first
  | with_reducible refine G.st_BM0 ?_
  | with_reducible refine G.st_BM ?_
  | ((with_reducible refine' G.st_tyl ?hl ?_); (case hl => walk_at "P"))
  | ((with_reducible refine' G.popR ?hl ?ra ?hn ?_); (case hl => walk_at "P"); (case ra => with_reducible assumption); (case hn => with_reducible assumption); intro v0 ws0 H0 x0 hl0 ra0 r0)
  | ((with_reducible refine' G.extR ?hl ?ra ?r ?hz ?hn ?hn' ?_); (case hl => walk_at "P"); (case ra => first | with_reducible assumption | exact G.ra_mono (by with_reducible assumption) (by walk_at "S")); (case r => walk_at "R"); (case hz => walk_at "side"); (case hn => walk_at "nol"); (case hn' => walk_at "nol"); intro ws0 H0 x0 hl0 ra0)
  | ((with_reducible refine' G.gtup2 ?r ?_); (case r => walk_at "R"); intro v1 v2 r1 r2)
  | with_reducible refine G.st_asgT ?_
  | with_reducible refine G.int_bl ?_
  | with_reducible refine G.max_2 ?_
  | ((with_reducible refine' G.st_aug ?hx ?_); (case hx => rfl))
  | with_reducible refine G.ipI_int ?_
  | with_reducible refine G.whB ?_
  | with_reducible refine G.st_lstF ?_
  | ((with_reducible refine' G.st_newLF ?r ?l ?_); (case r => walk_at "A"); (case l => first | exact Nat.le_of_ble_eq_true rfl | walk_at "side"); intro p0 H0 f0 s0 hl0 ra0)
  | fail "no step")
local macro_rules | `(tactic| walk_at "nol") => `(tactic| first | with_reducible assumption | rfl | exact G.Th.noL _ | exact G.Th.noLs _)
local macro_rules | `(tactic| walk_at "c") => `(tactic| walk_at "w")

local macro_rules | `(tactic| walk_at "c") => `(tactic| first
  | with_reducible refine G.neg_i ?_
  | with_reducible refine G.st_BMs ?_
  | with_reducible refine G.st_tys ?_
  | with_reducible refine G.st_gcons ?_
  | with_reducible refine G.st_gnil ?_
  | with_reducible refine G.st_gname ?_
  | with_reducible refine G.st_gsub ?_
  | ((with_reducible refine' G.iC ?hc ?_); (case hc => show (0 : Int) < _; decide +kernel))
  | ((with_reducible refine' G.ix_scrLast ?hs ?h1 ?_); (case hs => walk_at "Q"); (case h1 => walk_at "side"); intro n0)
  | ((with_reducible refine' G.divmodR ?h0 ?h1 ?_); (case h0 => walk_at "side"); (case h1 => walk_at "side"); intro p0 H0 f0 e0)
  | (with_reducible refine G.absR ?_; intro j0)
  | fail "no step")

local macro_rules | `(tactic| walk_at "B") => `(tactic| first | with_reducible assumption | exact G.bk_keep (by with_reducible assumption) (by walk_at "S"))
local macro_rules | `(tactic| walk_at "c") => `(tactic| first
  | ((with_reducible refine' G.use_nextU ?hp ?h0 ?h1 ?_); (case hp => walk_at "P"); (case h0 => walk_at "side"); (case h1 => walk_at "side"); intro r0 H0 s0 hr0 hr1)
  | ((with_reducible refine' G.ix_b1 ?h ?_); (case h => walk_at "B"); intro af0 lb0 lc0 hf0 rb0 rc0)
  | ((with_reducible refine' G.ix_b2 ?h ?_); (case h => walk_at "B"); intro v0 r0)
  | ((with_reducible refine' G.ix_b3 ?h ?_); (case h => walk_at "B"); intro v0 r0)
  | ((with_reducible refine' G.ix_b5 ?h ?_); (case h => walk_at "B"); intro v0 r0)
  | with_reducible refine G.st_dget ?_
  | with_reducible refine G.st_dget2 ?_
  | with_reducible refine G.st_lcLT ?_
  | with_reducible refine G.st_lcET ?_
  | with_reducible refine G.st_lcETT ?_
  | with_reducible refine G.st_forL ?_
  | with_reducible refine G.st_forE ?_
  | with_reducible refine G.st_forT ?_
  | fail "no step")
local macro_rules | `(tactic| walk_at "u") => `(tactic| repeat' ((fail_if_success (with_reducible refine G.st_if ?_)); walk_at "s"))
local macro_rules | `(tactic| walk_at "c") => `(tactic| (with_reducible refine G.minR ?_; intro m0 hm0 hm1 hm2))

namespace G
open PySem PySem.Spec PyProof.Rows L2
section
variable {P : Program} {w : World} {K : PySem.W.Frag} {mg : Str → Option Value} {base : Heap} {k n : Nat}
theorem ok_l_with (T : Tp K mg) (c_l_with : Cal P w K mg base k "_law_with" (spWithL K n)) : Cal P w K mg base (k + 1) "_law_with" (spWithL K (n + 1)) := by
  refine T.d_l_with.cal sc_l_with (fun vs H Q E h => ?_) (fun f cdv A outer s H vs Q E hr h => ?_)
  · obtain ⟨v, l, t, ts, F, b, rfl, _⟩ := h; rfl
  obtain ⟨v, l, t, ts, F, b, rfl, r, kl, ht, hl, hl2, hd, hz, q⟩ := h
  have sc := @sc_l_with
  refine ⟨_, (pss_cons (ps_if (pt_cmpR (op_eqK K hr) (pe_ix (ix_K K) (pv 0) pe_int (fun _ _ => rfl)) pe_str (nomark _)) (pss_one (ps_ret (pv 0))) pss_nil)
      (pss_cons (ps_if (pt_cmpR (op_eqK K hr) (pe_ix (ix_K K) (pv 0) pe_int (fun _ _ => rfl)) pe_str (nomark _)) (pss_cons (ps_set (i := 2) sc.nd rfl (Or.inl rfl) (bmK K (pe_bm PySem.F.plainAttrs_list PySem.F.slot_list_pop PySem.F.type_list_pop mt_popAt (pv 1) (pa_cons pe_int pa_nil))))
      (pss_one (ps_ret (pe_tupK K (pa_cons pe_str (pa_cons (pv 2) (pa_cons (bmK K (pe_bm PySem.F.plainAttrs_list PySem.F.slot_list_pop PySem.F.type_list_pop mt_popAt (pv 1) (pa_cons pe_int pa_nil))) pa_nil))))))) pss_nil)
      (pss_cons (ps_if (pt_cmpR (op_eqK K hr) (pe_ix (ix_K K) (pv 0) pe_int (fun _ _ => rfl)) pe_str (nomark _)) (pss_one (ps_ret (pe_tupK K (pa_cons pe_str (pa_cons (pe_ix (ix_K K) (pv 0) pe_int (fun _ _ => rfl)) (pa_cons (tupleOf_K K rfl T.n_tuple (pe_lc (own := [("_law_part", 3)]) (g := gName 3) (tt := tYes) rfl sc.nd (pi_tupK K (pe_ix (ix_K K) (pv 0) pe_int (fun _ _ => rfl))) (blkOk_by (N := n_l_with) (sc := defScope s_l_with) (by decide +kernel)) (fun _ _ _ _ _ => pg_name (i := 3) sc.nd rfl (Or.inl rfl)) (fun _ _ _ _ _ => pts_nil) (fun _ _ _ _ _ => pe_hide (bmK K (pe_bm PySem.F.plainAttrs_list PySem.F.slot_list_pop PySem.F.type_list_pop mt_popAt (pv 1) (pa_cons pe_int pa_nil)))))) pa_nil)))))) pss_nil)
      (pss_cons (ps_if (PW.pt (pw_or (pt_cmpR (op_eqK K hr) (pe_ix (ix_K K) (pv 0) pe_int (fun _ _ => rfl)) pe_str (nomark _)) (pw_or1 (pt_cmpR (op_eqK K hr) (pe_ix (ix_K K) (pv 0) pe_int (fun _ _ => rfl)) pe_str (nomark _))))) (pss_one (ps_ret (pe_tupK K (pa_cons (pe_ix (ix_K K) (pv 0) pe_int (fun _ _ => rfl)) (pa_cons (pe_ix (ix_K K) (pv 0) pe_int (fun _ _ => rfl)) (pa_cons (pe_c c_l_with hr (Nat.le_refl _) rfl (pa_cons (pe_ix (ix_K K) (pv 0) pe_int (fun _ _ => rfl)) (pa_cons (pv 1) pa_nil))) pa_nil)))))) pss_nil)
      (pss_cons (ps_set (i := 2) sc.nd rfl (Or.inl rfl) (pe_c c_l_with hr (Nat.le_refl _) rfl (pa_cons (pe_ix (ix_K K) (pv 0) pe_int (fun _ _ => rfl)) (pa_cons (pv 1) pa_nil))))
      (pss_one (ps_ret (pe_tupK K (pa_cons (pe_ix (ix_K K) (pv 0) pe_int (fun _ _ => rfl)) (pa_cons (pv 2) (pa_cons (pe_c c_l_with hr (Nat.le_refl _) rfl (pa_cons (pe_ix (ix_K K) (pv 0) pe_int (fun _ _ => rfl)) (pa_cons (pv 1) pa_nil))) pa_nil))))))))))), ?_⟩
  have sx0 : ∀ {H' : Hp}, Same H H' → SameX l H H' := fun s => SameX.of s
  cases t with
  | free x => exact absurd ht (by intro h; exact h)
  | bnd j => exact absurd ht (by intro h; exact h)
  | fls =>
    have r' : R K H v (.tuple [.str "false"]) := r
    walk_at "r"
    exact q _ _ (SameX.refl _) kl r
  | app w c args =>
    cases w with
    | form => exact absurd ht (by intro h; exact h)
    | call => exact absurd ht (by intro h; exact h)
    | atom =>
      have hl' : args.length ≤ ts.length := hl
      have r' : R K H v (.tuple [.str "atom", .str c, .tuple (Th.ds args)]) := r
      walk_at "r"
      rename_i v1 r1
      refine lcT_P (K := K) (Th.ds (ts.take args.length)) (fun k => Th.ds (ts.drop k)) (by rw [ds_len, ds_len, List.length_take]; omega) (Th.noLs _) (by simpa using kl) r1 (Th.noLs _) (by rw [ds_len]; omega) (fun _ => rfl) (fun k v d e H1 hd' he' rv x1 k1 Qt hQ => ?_) (fun v2 H2 x2 k2 r2 => ?_)
      · have hk : k < args.length := by have := (List.getElem?_eq_some_iff.mp hd').1; rw [ds_len] at this; exact this
        have hkt : k < ts.length := by omega
        have e1 : ts.drop k = ts[k] :: ts.drop (k + 1) := List.drop_eq_getElem_cons hkt
        have e2 : e = ts[k].d := by
          rw [Th.ds_map, List.getElem?_map, List.getElem?_take_of_lt hk, List.getElem?_eq_getElem hkt] at he'
          exact (Option.some.inj he').symm
        subst e2
        have k1' : Lk K H1 l (ts[k].d :: Th.ds (ts.drop (k + 1))) := by
          have := k1
          simp only [e1] at this
          exact this
        walk_at "r"
        refine k1'.ty ?_
        walk_at "r"
        exact pop0_L k1' (by rw [ds_len, List.length_drop]; omega) fun v3 H3 x3 k3 r3 => hQ v3 H3 x3 k3 r3
      rw [ds_len] at k2
      walk_at "r"
      rename_i v4 H4 s4 r4 v5 H5 s5 r5
      exact q _ _ (x2.trans (SameX.of (s4.trans s5))) (k2.mono (s4.trans s5)) r5
  | qua w c a =>
    simp only [Th.dep] at hd
    simp only [Th.sz] at hz
    have r' : R K H v (.tuple [.str w.s, .str c, a.d]) := r
    have hta := ht.2
    cases w
    all_goals
      walk_at "r"
      rename_i v3 r3
      refine use_withL r3 kl hta hl hl2 (by omega) (by omega) fun y H1 x1 k1 ry => ?_
      walk_at "r"
      rename_i v9 H9 s9 r9
      exact q _ _ (x1.trans (SameX.of s9)) (k1.mono s9) r9
  | two w a b =>
    simp only [Th.dep] at hd
    simp only [Th.sz] at hz
    have r' : R K H v (.tuple [.str w.s, a.d, b.d]) := r
    cases w with
    | same =>
      obtain ⟨t0, t1, ts, rfl⟩ : ∃ t0 t1 ts', ts = t0 :: t1 :: ts' := by
        match ts, hl with
        | t0 :: t1 :: ts, _ => exact ⟨t0, t1, ts, rfl⟩
      have kl' : Lk K H l (t0.d :: Th.ds (t1 :: ts)) := kl
      have hl3 : ts.length ≤ 400000 := by simp at hl2; omega
      walk_at "r"
      refine kl'.ty ?_
      walk_at "r"
      refine pop0_L kl' (by rw [ds_len]; simp; omega) fun v6 H6 x6 k6 r6 => ?_
      have k6' : Lk K H6 l (t1.d :: Th.ds ts) := k6
      walk_at "r"
      refine k6'.ty ?_
      walk_at "r"
      refine pop0_L k6' (by rw [ds_len]; omega) fun v7 H7 x7 k7 r7 => ?_
      obtain ⟨x6l, h6l, _⟩ := k6'.ex
      have r67 := r6.monoX x7 h6l (Th.noL _)
      walk_at "r"
      rename_i v8 H8 s8 r8
      exact q _ _ ((x6.trans x7).trans (SameX.of s8)) (k7.mono s8) r8
    | _ =>
      have hta := ht.1
      have htb := ht.2
      have hl' : a.termsOf.length + b.termsOf.length ≤ ts.length := by have := hl; simpa [Th.termsOf] using this
      walk_at "r"
      rename_i v3 r3
      refine use_withL r3 kl hta (by omega) hl2 (by omega) (by omega) fun y1 H1 x1 k1 r1 => ?_
      obtain ⟨xl0, hl0, -⟩ := kl.ex
      have r'1 := r'.monoX x1 hl0 (by simp [noL, noLs, Th.noL])
      walk_at "r"
      rename_i v4 r4
      refine use_withL r4 k1 htb (by rw [List.length_drop]; omega) (by rw [List.length_drop]; omega) (by omega) (by omega) fun y2 H2 x2 k2 r2 => ?_
      obtain ⟨xl1, hl1, -⟩ := k1.ex
      have r12 := r1.monoX x2 hl1 (Th.noL _)
      walk_at "r"
      rename_i v9 H9 s9 r9
      have e1 : (ts.take (a.termsOf.length + b.termsOf.length)).take a.termsOf.length = ts.take a.termsOf.length := by rw [List.take_take, Nat.min_eq_left (by omega)]
      have e2 : (ts.take (a.termsOf.length + b.termsOf.length)).drop a.termsOf.length = (ts.drop a.termsOf.length).take b.termsOf.length := by rw [List.drop_take]; congr 1; omega
      refine q _ _ ((x1.trans x2).trans (SameX.of s9)) ?_ ?_
      · have k9 := k2.mono s9
        rw [List.drop_drop] at k9
        simpa [Th.termsOf] using k9
      · simp only [Th.termsOf, List.length_append, Th.withTs, e1, e2]
        exact r9
theorem l_with_n (T : Tp K mg) : ∀ n : Nat, Cal P w K mg base (n + 1) "_law_with" (spWithL K n)
  | 0 => T.d_l_with.none fun vs H Q E h => by obtain ⟨v, l, t, ts, F, b, _, _, _, _, _, _, h0, _⟩ := h; have := t.dep_pos; omega
  | n + 1 => ok_l_with T (l_with_n T n)

end
end G

end

section
/-! the words of the walk: S (a heap keeps), R (a value stands for data), A (a row of them), no (a way that cannot be), s (one step), r (all steps) -/
local macro_rules | `(tactic| walk_at "S") => `(tactic| first | exact L2.Same.refl _ | assumption | exact G.sm_tr (by assumption) (by walk_at "S"))
local macro_rules | `(tactic| walk_at "R") => `(tactic| first
  | with_reducible exact G.R.int _ | with_reducible exact G.R.str _ | with_reducible exact G.R.bl _ | with_reducible exact G.R.non
  | with_reducible assumption
  | exact G.r_mono (by with_reducible assumption) (by walk_at "S")
  | ((with_reducible refine' G.R.lst L2.upd_same ?rl); (case rl => walk_at "A")))
local macro_rules | `(tactic| walk_at "A") => `(tactic| first | with_reducible exact G.RA.nil | ((with_reducible refine' G.RA.cons ?ra ?rb); (case ra => walk_at "R"); (case rb => walk_at "A")))
local macro_rules | `(tactic| walk_at "no") => `(tactic| first | contradiction | omega)
local macro_rules | `(tactic| walk_at "side") => `(tactic| first | with_reducible rfl | with_reducible assumption | omega | exact Int.lt_of_lt_of_le (by with_reducible assumption) (by decide +kernel) | ((with_reducible refine G.le_up ?_); decide +kernel) | (simp only [List.length_cons, List.length_nil, List.getElem?_cons_zero, List.getElem?_cons_succ, List.length_map]; done) | (simp only [List.length_cons, List.length_nil, List.length_map, List.length_append] at *; omega))
local macro_rules | `(tactic| walk_at "sideC") => `(tactic| first | with_reducible assumption | (with_reducible refine G.cmul_r ⟨?_, ?_⟩ <;> decide) | (with_reducible refine G.cdiv_r ⟨?_, ?_⟩ <;> decide) | (with_reducible refine G.cmul_l ⟨?_, ?_⟩ <;> decide) | (with_reducible refine G.cpow_c ⟨?_, ?_, ?_⟩ <;> decide) | (with_reducible refine G.cmul_r ⟨?_, ?_⟩ <;> omega) | (with_reducible refine G.cdiv_r ⟨?_, ?_⟩ <;> omega) | omega)
local macro_rules | `(tactic| walk_at "got") => `(tactic| (intro v0 r0; first
  | (have e0 := G.R.inv_str r0; subst e0) | (have e0 := G.R.inv_int r0; subst e0) | (have e0 := G.R.inv_bl r0; subst e0) | (have e0 := G.R.inv_non r0; subst e0) | skip))
local macro_rules | `(tactic| walk_at "P") => `(tactic| first | with_reducible assumption | exact G.keep_at (by with_reducible assumption) (by walk_at "S"))
local macro_rules | `(tactic| walk_at "c") => `(tactic| fail)
local macro_rules | `(tactic| walk_at "Q") => `(tactic| first | with_reducible assumption | exact G.seq_keep (by with_reducible assumption) (by walk_at "S"))
local macro_rules | `(tactic| walk_at "c") => `(tactic| ((with_reducible refine' G.use_state ?hp ?h0 ?h1 ?_); (case hp => walk_at "Q"); (case h0 => walk_at "side"); (case h1 => walk_at "side"); intro p0 H0 s0 hp0))
local macro_rules | `(tactic| walk_at "c") => `(tactic| ((with_reducible refine' G.use_draw ?hp ?h0 ?h1 ?_); (case hp => walk_at "P"); (case h0 => walk_at "side"); (case h1 => walk_at "side"); intro r0 hr0 hr1))
local macro_rules | `(tactic| walk_at "s") => `(tactic| first
  | with_reducible refine G.st_seq ?_
  | ((with_reducible refine' G.st_var ?hv ?_); (case hv => exact rfl))
  | with_reducible refine G.st_c ?_
  | with_reducible refine G.st_op ?_
  | with_reducible refine G.st_bl ?_
  | with_reducible refine L2.iteT ?_
  | with_reducible refine L2.iteF ?_
  | with_reducible refine G.ite_nt ?_
  | with_reducible refine G.ite_nf ?_
  | ((with_reducible refine G.st_ite ?_ ?_) <;> (intro hb; (try simp only [decide_eq_true_eq, decide_eq_false_iff_not, Bool.not_eq_true', Bool.not_eq_false', beq_iff_eq, Bool.and_eq_true, Bool.or_eq_true, Bool.and_eq_false_iff, Bool.or_eq_false_iff, beq_eq_false_iff_ne, ne_eq, Int.not_lt, Int.not_le, Nat.not_lt, Nat.not_le] at hb); first | (exfalso; walk_at "no"; done) | skip))
  | with_reducible refine G.st_if ?_
  | with_reducible refine G.st_ret ?_
  | with_reducible refine G.st_set ?_
  | with_reducible refine G.st_call ?_
  | with_reducible refine G.st_cons ?_
  | with_reducible refine G.st_nil ?_
  | with_reducible refine G.st_CB ?_
  | with_reducible refine G.st_tTest ?_
  | with_reducible refine G.st_tB ?_
  | with_reducible refine G.st_or ?_
  | with_reducible refine G.st_and ?_
  | with_reducible refine G.st_not ?_
  | with_reducible refine G.st_orV ?_
  | with_reducible refine G.st_andV ?_
  | with_reducible refine G.st_notV ?_
  | with_reducible refine G.st_tIf ?_
  | with_reducible refine G.st_chain ?_
  | with_reducible refine G.st_un ?_
  | with_reducible refine G.st_then ?_
  | with_reducible refine G.st_slice ?_
  | with_reducible refine G.st_noPart ?_
  | with_reducible refine G.st_part ?_
  | with_reducible refine G.st_exInt ?_
  | with_reducible refine G.st_drop ?_
  | with_reducible refine G.st_next ?_
  | with_reducible refine G.st_retN ?_
  | with_reducible refine G.add_int ?_
  | with_reducible refine G.i0 ?_
  | ((with_reducible refine G.imod2 (by decide) ?_ ?_) <;> (intro hm; first | (exfalso; walk_at "no"; done) | skip))
  | ((with_reducible refine G.imod3 (by decide) ?_ ?_ ?_) <;> (intro hm; first | (exfalso; walk_at "no"; done) | skip))
  | ((with_reducible refine' G.iC ?hc ?_); (case hc => walk_at "sideC"))
  | ((with_reducible refine' G.eq_str1 ?e ?_); (case e => with_reducible rfl))
  | ((with_reducible refine' G.eq_str0 ?e ?_); (case e => decide +kernel))
  | with_reducible refine G.eq_str ?_
  | with_reducible refine G.eq_int ?_
  | with_reducible refine G.eq_bl ?_
  | with_reducible refine G.ne_str ?_
  | with_reducible refine G.ne_int ?_
  | ((with_reducible refine' G.is_none ?r ?_); (case r => walk_at "R"))
  | ((with_reducible refine' G.isnt_none ?r ?_); (case r => walk_at "R"))
  | with_reducible refine G.is_bl ?_
  | with_reducible refine G.isnt_bl ?_
  | with_reducible refine G.in_sign ?_
  | with_reducible refine G.nin_sign ?_
  | ((with_reducible refine' G.in_strsT1 ?r ?c ?e ?_); (case r => walk_at "R"); (case c => rfl); (case e => decide +kernel))
  | ((with_reducible refine' G.in_strsT0 ?r ?c ?e ?_); (case r => walk_at "R"); (case c => rfl); (case e => decide +kernel))
  | ((with_reducible refine' G.in_strsT ?r ?c ?_); (case r => walk_at "R"); (case c => rfl))
  | ((with_reducible refine' G.nin_strsT ?r ?c ?_); (case r => walk_at "R"); (case c => rfl))
  | ((with_reducible refine' G.in_intsT ?r ?c ?_); (case r => walk_at "R"); (case c => rfl))
  | ((with_reducible refine' G.nin_intsT ?r ?c ?_); (case r => walk_at "R"); (case c => rfl))
  | ((with_reducible refine' G.add_str ?l ?_); (case l => walk_at "side"))
  | ((with_reducible refine' G.add_tup ?r ?s ?l ?_); (case r => walk_at "R"); (case s => walk_at "R"); (case l => walk_at "side"); intro v0 H0 s0 r0)
  | ((with_reducible refine' G.add_lst ?r ?s ?l ?_); (case r => walk_at "R"); (case s => walk_at "R"); (case l => walk_at "side"); intro v0 H0 s0 r0)
  | ((with_reducible refine' G.isi_1 ?r ?e ?t ?_); (case r => walk_at "R"); (case e => rfl); (case t => simp only [List.mem_cons, true_or, or_true]))
  | ((with_reducible refine' G.isi_0 ?r ?e ?t ?_); (case r => walk_at "R"); (case e => rfl); (case t => simp only [List.mem_cons, true_or, or_true]))
  | ((with_reducible refine' G.isi_R ?r ?t ?_); (case r => walk_at "R"); (case t => simp only [List.mem_cons, true_or, or_true]))
  | ((with_reducible refine' G.len_str ?l ?_); (case l => walk_at "side"))
  | ((with_reducible refine' G.len_tup ?r ?_); (case r => walk_at "R"))
  | ((with_reducible refine' G.len_lst ?r ?_); (case r => walk_at "R"))
  | (with_reducible refine G.st_tup ?_)
  | (with_reducible refine G.st_lst ?_)
  | ((with_reducible refine' G.st_newT ?r ?l ?_); (case r => walk_at "A"); (case l => first | exact Nat.le_of_ble_eq_true rfl | walk_at "side"); intro v0 H0 s0 r0)
  | ((with_reducible refine' G.st_newL ?r ?l ?_); (case r => walk_at "A"); (case l => first | exact Nat.le_of_ble_eq_true rfl | walk_at "side"); intro v0 H0 s0 r0)
  | ((with_reducible refine' G.ix_tupR ?r ?h0 ?hd ?_); (case r => walk_at "R"); (case h0 => walk_at "side"); (case hd => first | rfl | assumption); walk_at "got")
  | ((with_reducible refine' G.ix_lstR ?r ?h0 ?hd ?_); (case r => walk_at "R"); (case h0 => walk_at "side"); (case hd => first | rfl | assumption); walk_at "got")
  | ((with_reducible refine' G.ix_strR ?l ?h0 ?hd ?_); (case l => walk_at "side"); (case h0 => walk_at "side"); (case hd => first | rfl | assumption))
  | ((with_reducible refine' G.ix_strM ?l ?h0 ?h1 ?_); (case l => walk_at "side"); (case h0 => walk_at "side"); (case h1 => walk_at "side"); intro c0 hc0)
  | ((with_reducible refine' G.ix_tupN ?r ?h0 ?h1 ?_); (case r => walk_at "R"); (case h0 => walk_at "side"); (case h1 => walk_at "side"); intro v0 d0 hd0 r0)
  | ((with_reducible refine' G.ix_lstS ?r ?h0 ?h1 ?_); (case r => walk_at "R"); (case h0 => walk_at "side"); (case h1 => walk_at "side"); intro z0 hz0)
  | ((with_reducible refine' G.ix_lstN ?r ?h0 ?h1 ?_); (case r => walk_at "R"); (case h0 => walk_at "side"); (case h1 => walk_at "side"); intro v0 d0 hd0 r0)
  | ((with_reducible refine' G.sl_strR ?l ?_); (case l => walk_at "side"))
  | ((with_reducible refine' G.sl_tupR ?r ?_); (case r => walk_at "R"); intro v0 H0 s0 r0)
  | ((with_reducible refine' G.sl_lstR ?r ?_); (case r => walk_at "R"); intro v0 H0 s0 r0)
  | ((with_reducible refine' G.tupOf_L ?r ?_); (case r => walk_at "R"); intro v0 H0 s0 r0)
  | ((with_reducible refine' G.tupOf_T ?r ?_); (case r => walk_at "R"))
  | ((with_reducible refine' G.lstOf_T ?r ?_); (case r => walk_at "R"); intro v0 H0 s0 r0)
  | ((with_reducible refine' G.lstOf_L ?r ?_); (case r => walk_at "R"); intro v0 H0 s0 r0)
  | with_reducible refine G.st_lcL ?_
  | with_reducible refine G.st_lcT ?_
  | with_reducible refine G.st_lcS ?_
  | with_reducible refine G.st_lcR ?_
  | with_reducible refine G.st_M0 ?_
  | with_reducible refine G.st_M1 ?_
  | (with_reducible refine G.upper_one ?_; intro hu0)
  | ((with_reducible refine' G.upper_R ?l ?_); (case l => walk_at "side"))
  | (with_reducible refine G.st_strAnd ?_)
  | (with_reducible refine G.st_sub ?_)
  | ((with_reducible refine' G.set_20 ?hp ?_); (case hp => first | exact L2.upd_same | walk_at "P"))
  | ((with_reducible refine' G.set_21 ?hp ?_); (case hp => first | exact L2.upd_same | walk_at "P"))
  | ((with_reducible refine' G.set_at ?hp ?hi ?_); (case hp => first | exact L2.upd_same | walk_at "P"); (case hi => rfl))
  | with_reducible refine G.st_lst2 ?_
  | with_reducible refine G.st_shut ?_
  | with_reducible refine G.st_forR ?_
  | ((with_reducible refine' G.len_scr ?s ?_); (case s => walk_at "Q"))
  | ((with_reducible refine' G.ix_scr ?s ?h0 ?h1 ?_); (case s => walk_at "Q"); (case h0 => walk_at "side"); (case h1 => walk_at "side"); intro n0)
  | ((with_reducible refine' G.sl_scr ?s ?_); (case s => walk_at "Q"); intro v0 H0 s0 r0)
  | (with_reducible refine' G.st_disp1 ?_; intro v0 H0 s0 r0)
  | walk_at "c"
  | fail "no step")
local macro_rules | `(tactic| walk_at "r") => `(tactic| repeat' (walk_at "s"))

local macro_rules | `(tactic| walk_at "side") => `(tactic| first | exact G.nm_a (by with_reducible assumption) | exact G.fm_a (by with_reducible assumption) | exact G.nm_b (by with_reducible assumption) | exact G.nm_c (by with_reducible assumption) | fail)
local macro_rules | `(tactic| walk_at "c") => `(tactic| ((with_reducible refine' G.use_name ?hp ?_); (case hp => walk_at "P"); intro z0 H0 s0 hz0))
local macro_rules | `(tactic| walk_at "c") => `(tactic| ((with_reducible refine' G.use_form ?hp ?_); (case hp => walk_at "P"); intro z0 H0 s0 hz0))
local macro_rules | `(tactic| walk_at "c") => `(tactic| ((with_reducible refine' G.use_pool ?hp ?_); (case hp => walk_at "P"); intro v0 fs0 gs0 ns0 H0 s0 ok0 r0))
local macro_rules | `(tactic| walk_at "c") => `(tactic| ((with_reducible refine' G.use_leaf ?hp ?r ?ok ?h0 ?h1 ?_); (case hp => walk_at "P"); (case r => walk_at "R"); (case ok => with_reducible assumption); (case h0 => walk_at "side"); (case h1 => walk_at "side"); intro v0 t0 H0 s0 r0 ht0 hd0 hs0))
local macro_rules | `(tactic| walk_at "c") => `(tactic| ((with_reducible refine' G.use_term ?hp ?r ?ok ?h0 ?h1 ?e0 ?e1 ?_); (case hp => walk_at "P"); (case r => walk_at "R"); (case ok => with_reducible assumption); (case h0 => walk_at "side"); (case h1 => walk_at "side"); (case e0 => walk_at "side"); (case e1 => walk_at "side"); intro v0 t0 H0 s0 r0 ht0 hd0 hs0))
local macro_rules | `(tactic| walk_at "c") => `(tactic| ((with_reducible refine' G.use_tall ?hp ?r ?ok ?rt ?ht ?h0 ?h1 ?_); (case hp => walk_at "P"); (case r => walk_at "R"); (case ok => with_reducible assumption); (case rt => walk_at "R"); (case ht => with_reducible assumption); (case h0 => walk_at "side"); (case h1 => walk_at "side"); intro v0 t0 H0 s0 r0 ht0 hd0 hs0))
local macro_rules | `(tactic| walk_at "c") => `(tactic| ((with_reducible refine' G.use_anyT ?hp ?r ?ok ?h0 ?h1 ?_); (case hp => walk_at "P"); (case r => walk_at "R"); (case ok => with_reducible assumption); (case h0 => walk_at "side"); (case h1 => walk_at "side"); intro v0 t0 H0 s0 r0 ht0 hd0 hs0))

local macro_rules | `(tactic| walk_at "w") => `(tactic| first
  | with_reducible refine G.st_BM0 ?_
  | with_reducible refine G.st_BM ?_
  | ((with_reducible refine' G.st_tyl ?hl ?_); (case hl => walk_at "P"))
  | ((with_reducible refine' G.popR ?hl ?ra ?hn ?_); (case hl => walk_at "P"); (case ra => with_reducible assumption); (case hn => with_reducible assumption); intro v0 ws0 H0 x0 hl0 ra0 r0)
  | ((with_reducible refine' G.extR ?hl ?ra ?r ?hz ?hn ?hn' ?_); (case hl => walk_at "P"); (case ra => first | with_reducible assumption | exact G.ra_mono (by with_reducible assumption) (by walk_at "S")); (case r => walk_at "R"); (case hz => walk_at "side"); (case hn => walk_at "nol"); (case hn' => walk_at "nol"); intro ws0 H0 x0 hl0 ra0)
  | ((with_reducible refine' G.gtup2 ?r ?_); (case r => walk_at "R"); intro v1 v2 r1 r2)
  | with_reducible refine G.st_asgT ?_
  | with_reducible refine G.int_bl ?_
  | with_reducible refine G.max_2 ?_
  | ((with_reducible refine' G.st_aug ?hx ?_); (case hx => rfl))
  | with_reducible refine G.ipI_int ?_
  | with_reducible refine G.whB ?_
  | with_reducible refine G.st_lstF ?_
  | ((with_reducible refine' G.st_newLF ?r ?l ?_); (case r => walk_at "A"); (case l => first | exact Nat.le_of_ble_eq_true rfl | walk_at "side"); intro p0 H0 f0 s0 hl0 ra0)
  | fail "no step")
local macro_rules | `(tactic| walk_at "nol") => `(tactic| first | with_reducible assumption | rfl | exact G.Th.noL _ | exact G.Th.noLs _)
local macro_rules | `(tactic| walk_at "c") => `(tactic| walk_at "w")

local macro_rules | `(tactic| walk_at "c") => `(tactic| first
  | with_reducible refine G.neg_i ?_
  | with_reducible refine G.st_BMs ?_
  | with_reducible refine G.st_tys ?_
  | with_reducible refine G.st_gcons ?_
  | with_reducible refine G.st_gnil ?_
  | with_reducible refine G.st_gname ?_
  | with_reducible refine G.st_gsub ?_
  | ((with_reducible refine' G.iC ?hc ?_); (case hc => show (0 : Int) < _; decide +kernel))
  | ((with_reducible refine' G.ix_scrLast ?hs ?h1 ?_); (case hs => walk_at "Q"); (case h1 => walk_at "side"); intro n0)
  | ((with_reducible refine' G.divmodR ?h0 ?h1 ?_); (case h0 => walk_at "side"); (case h1 => walk_at "side"); intro p0 H0 f0 e0)
  | (with_reducible refine G.absR ?_; intro j0)
  | fail "no step")

local macro_rules | `(tactic| walk_at "B") => `(tactic| first | with_reducible assumption | exact G.bk_keep (by with_reducible assumption) (by walk_at "S"))
local macro_rules | `(tactic| walk_at "c") => `(tactic| first
  | ((with_reducible refine' G.use_nextU ?hp ?h0 ?h1 ?_); (case hp => walk_at "P"); (case h0 => walk_at "side"); (case h1 => walk_at "side"); intro r0 H0 s0 hr0 hr1)
  | ((with_reducible refine' G.ix_b1 ?h ?_); (case h => walk_at "B"); intro af0 lb0 lc0 hf0 rb0 rc0)
  | ((with_reducible refine' G.ix_b2 ?h ?_); (case h => walk_at "B"); intro v0 r0)
  | ((with_reducible refine' G.ix_b3 ?h ?_); (case h => walk_at "B"); intro v0 r0)
  | ((with_reducible refine' G.ix_b5 ?h ?_); (case h => walk_at "B"); intro v0 r0)
  | with_reducible refine G.st_dget ?_
  | with_reducible refine G.st_dget2 ?_
  | with_reducible refine G.st_lcLT ?_
  | with_reducible refine G.st_lcET ?_
  | with_reducible refine G.st_lcETT ?_
  | with_reducible refine G.st_forL ?_
  | with_reducible refine G.st_forE ?_
  | with_reducible refine G.st_forT ?_
  | fail "no step")
local macro_rules | `(tactic| walk_at "u") => `(tactic| repeat' ((fail_if_success (with_reducible refine G.st_if ?_)); walk_at "s"))
local macro_rules | `(tactic| walk_at "c") => `(tactic| (with_reducible refine G.minR ?_; intro m0 hm0 hm1 hm2))

local macro_rules | `(tactic| walk_at "c") => `(tactic| first
  | with_reducible refine G.st_forEL ?_
  | fail "no step")

namespace G
open PySem PySem.Spec PyProof.Rows L2
section
variable {P : Program} {w : World} {K : PySem.W.Frag} {mg : Str → Option Value} {base : Heap} {k n : Nat}
theorem ok_walk (T : Tp K mg) (c_terms_of : Cal P w K mg base k "terms_of" (spTermsOf K 90)) (c_places_where : Cal P w K mg base k "places_where" (spWhere K)) (c_with_place : Cal P w K mg base k "with_place" (spWith K 90)) (c_with_terms : Cal P w K mg base k "with_terms" (spWithTs K 90)) : Cal P w K mg base (k + 1) "walk" (spWalk K) := by
  refine T.d_walk.cal sc_walk (fun vs H Q E h => ?_) (fun f cdv A outer s H vs Q E hr h => ?_)
  · obtain ⟨v, vo, vu, t, one, other, F, b, rfl, _⟩ := h; rfl
  obtain ⟨v, vo, vu, t, one, other, F, b, rfl, r, ro, ru, ht, ho, hu, hd, hd2, hz, q⟩ := h
  have sc := @sc_walk
  refine ⟨_, (pss_cons (ps_set (i := 3) sc.nd rfl (Or.inl rfl) (pe_lstF K (pa_cons (pv 0) pa_nil)))
      (pss_cons (ps_set (i := 4) sc.nd rfl (Or.inl rfl) (pe_c c_terms_of hr (Nat.le_refl _) rfl (pa_cons (pv 0) pa_nil)))
      (pss_cons (ps_for PassesOwn.never rfl (pi_enumLK K rfl T.n_enumerate (pa_cons (pe_c c_terms_of hr (Nat.le_refl _) rfl (pa_cons (pv 0) pa_nil)) pa_nil)) (gtK K (pg_tup (n := 2) rfl (pgs_cons (pg_name (i := 5) sc.nd rfl (Or.inl rfl)) (pgs_cons (pg_name (i := 6) sc.nd rfl (Or.inl rfl)) pgs_nil)))) (pss_one (ps_for PassesOwn.never rfl (pi_listK K (pe_c c_places_where hr (Nat.le_refl _) rfl (pa_cons (pv 6) (pa_cons (pv 1) pa_nil)))) (pg_name (i := 7) sc.nd rfl (Or.inl rfl)) (pss_cons (ps_asg (pe_c c_with_place hr (Nat.le_refl _) rfl (pa_cons (pe_ix (ix_K K) (pv 4) (pv 5) (fun _ _ => rfl)) (pa_cons (pv 7) (pa_cons (pv 2) pa_nil)))) (pg_sub (pv 4) (pv 5) set_list))
      (pss_one (ps_expr (bmK K (pe_bm PySem.F.plainAttrs_list PySem.F.slot_list_append PySem.F.type_list_append mt_append (pv 3) (pa_cons (pe_c c_with_terms hr (Nat.le_refl _) rfl (pa_cons (pv 0) (pa_cons (pv 4) pa_nil))) pa_nil)))))))))
      (pss_one (ps_ret (pv 3)))))), ?_⟩
  have dp := other.dep_pos
  have hB := Th.isT_mono (Nat.le_add_right b t.dep) ho
  have hU := Th.isT_mono (Nat.le_add_right b t.dep) hu
  have htl := Th.termsOf_len t ht
  walk_at "r"
  rename_i fo H1 f1 s1 hl1 ra1
  have kf : Lk K H1 fo (Th.ds [t]) := Lk.of hl1 ra1 (Th.noLs [t])
  refine use_termsOfF (r.mono s1) ht (by omega) hz fun lt H2 f2 s2 kt => ?_
  walk_at "r"
  refine use_termsOfF (r.mono (s1.trans s2)) ht (by omega) hz fun l3 H3 f3 s3 k3 => ?_
  obtain ⟨xs, k3x⟩ := k3.xs_ex
  have nfo : H fo = none := f1
  have nlt : H lt = none := none_of s1 f2
  have e1 : fo ≠ lt := fresh_ne f2 kf
  have e2 : fo ≠ l3 := fresh_ne f3 (kf.mono s2)
  have e3 : lt ≠ l3 := fresh_ne f3 kt
  have s03 : Same H H3 := (s1.trans s2).trans s3
  have kf3 := kf.mono (s2.trans s3)
  have kt3 := kt.mono s3
  clear kf kt k3 s1 s2 s3 hl1 ra1
  walk_at "r"
  refine for_EL (K := K) (xs := xs) (ds := Th.ds t.termsOf) (fun k σ' H' => ∃ x5 x6 x7 : Option V, σ' = [some v, some vo, some vu, some (.ref fo), some (.ref lt), x5, x6, x7] ∧ Same H H' ∧ Lk K H' fo (Th.ds (accO t one other k).2) ∧ Lk K H' lt (Th.ds (accO t one other k).1) ∧ Lx K H' l3 xs (Th.ds t.termsOf) ∧ WO t one F (b + t.dep) (t.dep + other.dep) k (accO t one other k))
    ⟨_, _, _, rfl, s03, kf3, kt3, k3x, WO.start ht (Nat.le_refl _) (Nat.le_refl _)⟩ (fun k σ' H' h => by obtain ⟨_, _, _, _, _, _, _, h, _⟩ := h; exact h) (fun k σ' H' H'' h s => by obtain ⟨x5, x6, x7, g1, g2, g3, g4, g5, g6⟩ := h; exact ⟨x5, x6, x7, g1, g2.trans s, g3.mono s, g4.mono s, g5.mono s, g6⟩) ?_ ?_
  · clear kf3 kt3 k3x s03
    rintro k d vd σ' H4 hd' rd ⟨x5, x6, x7, rfl, s4, kf4, kt4, kx4, wo⟩
    rw [Th.ds_map, List.getElem?_map] at hd'
    obtain ⟨p, hp, rfl⟩ := Option.map_eq_some_iff.mp hd'
    have hpm := List.mem_of_getElem? hp
    have hkl : k < t.termsOf.length := (List.getElem?_eq_some_iff.mp hp).1
    have hpg : t.termsOf.getD k .fls = p := by rw [List.getD_eq_getElem?_getD, hp]; rfl
    have hpo := Th.termsOf_ok t ht p hpm
    have wi := wo.turn ht hkl
    have eacc := accO_succ (one := one) (other := other) hkl
    rw [hpg] at wi eacc
    have hlen := Th.spots_len p one
    generalize accO t one other k = a0 at *
    walk_at "r"
    refine use_where rd (ro.mono s4) hpo.1 hB (by omega) hd2 (by omega) fun l5 H5 f5 s5 k5 => ?_
    obtain ⟨ys, k5x⟩ := k5.xs_ex
    have e4 : fo ≠ l5 := fresh_ne f5 kf4
    have e5 : lt ≠ l5 := fresh_ne f5 kt4
    have s45 : Same H H5 := s4.trans s5
    have kf5 := kf4.mono s5
    have kt5 := kt4.mono s5
    have kx5 := kx4.mono s5
    clear kf4 kt4 kx4 s4 s5 k5 rd wo
    walk_at "r"
    refine for_Lx (K := K) (xs := ys) (ds := (p.spots one).map pls) (fun j σ' H' => ∃ x7 : Option V, σ' = [some v, some vo, some vu, some (.ref fo), some (.ref lt), some (.int (k : Int)), some vd, x7] ∧ Same H H' ∧ Lk K H' fo (Th.ds (((p.spots one).take j).foldl (stepP t other k) a0).2) ∧ Lk K H' lt (Th.ds (((p.spots one).take j).foldl (stepP t other k) a0).1) ∧ Lx K H' l3 xs (Th.ds t.termsOf) ∧ Lx K H' l5 ys ((p.spots one).map pls) ∧ WI t one F (b + t.dep) (t.dep + other.dep) k ((p.spots one).drop j) (((p.spots one).take j).foldl (stepP t other k) a0))
      ⟨_, rfl, s45, kf5, kt5, kx5, k5x, wi⟩ (fun j σ' H' h => by obtain ⟨_, _, _, _, _, _, h, _⟩ := h; exact h) ?_ ?_
    · clear kf5 kt5 kx5 k5x s45 wi
      rintro j d2 vp σ' H6 hdj rp ⟨x7', rfl, s6, kf6, kt6, kx6, ky6, wi⟩
      rw [List.getElem?_map] at hdj
      obtain ⟨pl, hpl, rfl⟩ := Option.map_eq_some_iff.mp hdj
      have hjl : j < (p.spots one).length := (List.getElem?_eq_some_iff.mp hpl).1
      have ed : (p.spots one).drop j = pl :: (p.spots one).drop (j + 1) := by
        rw [List.drop_eq_getElem_cons hjl]; congr 1; exact (List.getElem?_eq_some_iff.mp hpl).2
      have et : ((p.spots one).take (j + 1)).foldl (stepP t other k) a0 = stepP t other k (((p.spots one).take j).foldl (stepP t other k) a0) pl := by
        rw [List.take_add_one, hpl, List.foldl_append]; rfl
      rw [ed] at wi
      rw [et]
      generalize ((p.spots one).take j).foldl (stepP t other k) a0 = acc at *
      have wn := wi.step ht hU (Nat.le_refl _)
      obtain ⟨w1, w2⟩ := wi.ok pl (List.mem_cons_self ..)
      have hka : k < acc.1.length := by rw [wi.len]; exact hkl
      have hma : acc.1.getD k .fls ∈ acc.1 := by rw [List.getD_eq_getElem?_getD, List.getElem?_eq_getElem hka]; exact List.getElem_mem hka
      have w3 := (wi.is _ hma).1
      have hlf := wi.size
      have hll := wi.len
      have rt6 := kt6.R
      have hga : (Th.ds acc.1)[((k : Nat) : Int).toNat]? = some (acc.1.getD k .fls).d := by
        rw [Int.toNat_natCast, Th.ds_map, List.getElem?_map, List.getD_eq_getElem?_getD, List.getElem?_eq_getElem hka]; rfl
      walk_at "r"
      rename_i v0 r0
      refine use_with r0 rp (ru.mono s6) w1 (by omega) (by omega) w3 fun x8 H7 s7 r7 => ?_
      have kf7 := kf6.mono s7
      have kt7 := kt6.mono s7
      have kx7 := kx6.mono s7
      have ky7 := ky6.mono s7
      have s67 : Same H H7 := s6.trans s7
      clear kf6 kt6 kx6 ky6 rt6 r0 rp s6 s7
      have hkd : k < (Th.ds acc.1).length := by rw [ds_len]; exact hka
      have eset : (Th.ds acc.1).set k ((acc.1.getD k .fls).withP pl other).d = Th.ds (stepP t other k acc pl).1 := by
        show _ = Th.ds (acc.1.set k _)
        rw [Th.ds_map, Th.ds_map, List.map_set]
      have efnd : Th.ds acc.2 ++ [(t.withTs (stepP t other k acc pl).1).d] = Th.ds (stepP t other k acc pl).2 := by
        show _ = Th.ds (acc.2 ++ [t.withTs (stepP t other k acc pl).1])
        rw [ds_app]; rfl
      have hl8 := wn.len
      generalize stepP t other k acc pl = acc' at *
      walk_at "r"
      refine set_L kt7 r7 hkd (by rw [ds_len]; omega) (Th.noL _) fun H8 x8' k8 => ?_
      rw [eset] at k8
      have s8 : Same H H8 := SameX.same s67 x8' nlt
      have kf8 := kf7.lx x8' kt7 e1
      have kx8 := kx7.lx x8' kt7 (Ne.symm e3)
      have ky8 := ky7.lx x8' kt7 (Ne.symm e5)
      have rl8 := k8.R
      clear kf7 kx7 ky7 kt7 s67 r7
      walk_at "r"
      refine kf8.ty ?_
      walk_at "r"
      refine use_withTs (r.mono s8) rl8 ht (by rw [hl8]) (by omega) hz fun y9 H9 s9 r9 => ?_
      walk_at "r"
      have kf9 := kf8.mono s9
      refine app_L kf9 r9 (by rw [ds_len]; omega) (Th.noL _) fun H10 x10 k10 => ?_
      rw [efnd] at k10
      walk_at "r"
      exact ⟨_, rfl, SameX.same (s8.trans s9) x10 nfo, k10, (k8.mono s9).lx x10 kf9 (Ne.symm e1), (kx8.mono s9).lx x10 kf9 (Ne.symm e2), (ky8.mono s9).lx x10 kf9 (Ne.symm e4), wn⟩
    · rintro σ' H6 ⟨x7', rfl, s6, kf6, kt6, kx6, ky6, wi⟩
      rw [List.length_map, List.drop_length] at wi
      rw [List.length_map] at kf6 kt6
      rw [List.take_length, ← eacc] at wi kf6 kt6
      walk_at "r"
      exact ⟨_, _, _, rfl, s6, kf6, kt6, kx6, wi.next⟩
  · rintro σ' H4 ⟨x5, x6, x7, rfl, s4, kf4, kt4, kx4, wo⟩
    rw [ds_len, accO_all] at kf4
    walk_at "r"
    exact q _ _ nfo s4 kf4

end
end G

end

section
/-! the words of the walk: S (a heap keeps), R (a value stands for data), A (a row of them), no (a way that cannot be), s (one step), r (all steps) -/
local macro_rules | `(tactic| walk_at "S") => `(tactic| first | exact L2.Same.refl _ | assumption | exact G.sm_tr (by assumption) (by walk_at "S"))
local macro_rules | `(tactic| walk_at "R") => `(tactic| first
  | with_reducible exact G.R.int _ | with_reducible exact G.R.str _ | with_reducible exact G.R.bl _ | with_reducible exact G.R.non
  | with_reducible assumption
  | exact G.r_mono (by with_reducible assumption) (by walk_at "S")
  | ((with_reducible refine' G.R.lst L2.upd_same ?rl); (case rl => walk_at "A")))
local macro_rules | `(tactic| walk_at "A") => `(tactic| first | with_reducible exact G.RA.nil | ((with_reducible refine' G.RA.cons ?ra ?rb); (case ra => walk_at "R"); (case rb => walk_at "A")))
local macro_rules | `(tactic| walk_at "no") => `(tactic| first | contradiction | omega)
local macro_rules | `(tactic| walk_at "side") => `(tactic| first | with_reducible rfl | with_reducible assumption | omega | exact Int.lt_of_lt_of_le (by with_reducible assumption) (by decide +kernel) | ((with_reducible refine G.le_up ?_); decide +kernel) | (simp only [List.length_cons, List.length_nil, List.getElem?_cons_zero, List.getElem?_cons_succ, List.length_map]; done) | (simp only [List.length_cons, List.length_nil, List.length_map, List.length_append] at *; omega))
local macro_rules | `(tactic| walk_at "sideC") => `(tactic| first | with_reducible assumption | (with_reducible refine G.cmul_r ⟨?_, ?_⟩ <;> decide) | (with_reducible refine G.cdiv_r ⟨?_, ?_⟩ <;> decide) | (with_reducible refine G.cmul_l ⟨?_, ?_⟩ <;> decide) | (with_reducible refine G.cpow_c ⟨?_, ?_, ?_⟩ <;> decide) | (with_reducible refine G.cmul_r ⟨?_, ?_⟩ <;> omega) | (with_reducible refine G.cdiv_r ⟨?_, ?_⟩ <;> omega) | omega)
local macro_rules | `(tactic| walk_at "got") => `(tactic| (intro v0 r0; first
  | (have e0 := G.R.inv_str r0; subst e0) | (have e0 := G.R.inv_int r0; subst e0) | (have e0 := G.R.inv_bl r0; subst e0) | (have e0 := G.R.inv_non r0; subst e0) | skip))
local macro_rules | `(tactic| walk_at "P") => `(tactic| first | with_reducible assumption | exact G.keep_at (by with_reducible assumption) (by walk_at "S"))
local macro_rules | `(tactic| walk_at "c") => `(tactic| fail)
local macro_rules | `(tactic| walk_at "Q") => `(tactic| first | with_reducible assumption | exact G.seq_keep (by with_reducible assumption) (by walk_at "S"))
local macro_rules | `(tactic| walk_at "c") => `(tactic| ((with_reducible refine' G.use_state ?hp ?h0 ?h1 ?_); (case hp => walk_at "Q"); (case h0 => walk_at "side"); (case h1 => walk_at "side"); intro p0 H0 s0 hp0))
local macro_rules | `(tactic| walk_at "c") => `(tactic| ((with_reducible refine' G.use_draw ?hp ?h0 ?h1 ?_); (case hp => walk_at "P"); (case h0 => walk_at "side"); (case h1 => walk_at "side"); intro r0 hr0 hr1))
local macro_rules | `(tactic| walk_at "s") => `(tactic| first
  | with_reducible refine G.st_seq ?_
  | ((with_reducible refine' G.st_var ?hv ?_); (case hv => exact rfl))
  | with_reducible refine G.st_c ?_
  | with_reducible refine G.st_op ?_
  | with_reducible refine G.st_bl ?_
  | with_reducible refine L2.iteT ?_
  | with_reducible refine L2.iteF ?_
  | with_reducible refine G.ite_nt ?_
  | with_reducible refine G.ite_nf ?_
  | ((with_reducible refine G.st_ite ?_ ?_) <;> (intro hb; (try simp only [decide_eq_true_eq, decide_eq_false_iff_not, Bool.not_eq_true', Bool.not_eq_false', beq_iff_eq, Bool.and_eq_true, Bool.or_eq_true, Bool.and_eq_false_iff, Bool.or_eq_false_iff, beq_eq_false_iff_ne, ne_eq, Int.not_lt, Int.not_le, Nat.not_lt, Nat.not_le] at hb); first | (exfalso; walk_at "no"; done) | skip))
  | with_reducible refine G.st_if ?_
  | with_reducible refine G.st_ret ?_
  | with_reducible refine G.st_set ?_
  | with_reducible refine G.st_call ?_
  | with_reducible refine G.st_cons ?_
  | with_reducible refine G.st_nil ?_
  | with_reducible refine G.st_CB ?_
  | with_reducible refine G.st_tTest ?_
  | with_reducible refine G.st_tB ?_
  | with_reducible refine G.st_or ?_
  | with_reducible refine G.st_and ?_
  | with_reducible refine G.st_not ?_
  | with_reducible refine G.st_orV ?_
  | with_reducible refine G.st_andV ?_
  | with_reducible refine G.st_notV ?_
  | with_reducible refine G.st_tIf ?_
  | with_reducible refine G.st_chain ?_
  | with_reducible refine G.st_un ?_
  | with_reducible refine G.st_then ?_
  | with_reducible refine G.st_slice ?_
  | with_reducible refine G.st_noPart ?_
  | with_reducible refine G.st_part ?_
  | with_reducible refine G.st_exInt ?_
  | with_reducible refine G.st_drop ?_
  | with_reducible refine G.st_next ?_
  | with_reducible refine G.st_retN ?_
  | with_reducible refine G.add_int ?_
  | with_reducible refine G.i0 ?_
  | ((with_reducible refine G.imod2 (by decide) ?_ ?_) <;> (intro hm; first | (exfalso; walk_at "no"; done) | skip))
  | ((with_reducible refine G.imod3 (by decide) ?_ ?_ ?_) <;> (intro hm; first | (exfalso; walk_at "no"; done) | skip))
  | ((with_reducible refine' G.iC ?hc ?_); (case hc => walk_at "sideC"))
  | ((with_reducible refine' G.eq_str1 ?e ?_); (case e => with_reducible rfl))
  | ((with_reducible refine' G.eq_str0 ?e ?_); (case e => decide +kernel))
  | with_reducible refine G.eq_str ?_
  | with_reducible refine G.eq_int ?_
  | with_reducible refine G.eq_bl ?_
  | with_reducible refine G.ne_str ?_
  | with_reducible refine G.ne_int ?_
  | ((with_reducible refine' G.is_none ?r ?_); (case r => walk_at "R"))
  | ((with_reducible refine' G.isnt_none ?r ?_); (case r => walk_at "R"))
  | with_reducible refine G.is_bl ?_
  | with_reducible refine G.isnt_bl ?_
  | with_reducible refine G.in_sign ?_
  | with_reducible refine G.nin_sign ?_
  | ((with_reducible refine' G.in_strsT1 ?r ?c ?e ?_); (case r => walk_at "R"); (case c => rfl); (case e => decide +kernel))
  | ((with_reducible refine' G.in_strsT0 ?r ?c ?e ?_); (case r => walk_at "R"); (case c => rfl); (case e => decide +kernel))
  | ((with_reducible refine' G.in_strsT ?r ?c ?_); (case r => walk_at "R"); (case c => rfl))
  | ((with_reducible refine' G.nin_strsT ?r ?c ?_); (case r => walk_at "R"); (case c => rfl))
  | ((with_reducible refine' G.in_intsT ?r ?c ?_); (case r => walk_at "R"); (case c => rfl))
  | ((with_reducible refine' G.nin_intsT ?r ?c ?_); (case r => walk_at "R"); (case c => rfl))
  | ((with_reducible refine' G.add_str ?l ?_); (case l => walk_at "side"))
  | ((with_reducible refine' G.add_tup ?r ?s ?l ?_); (case r => walk_at "R"); (case s => walk_at "R"); (case l => walk_at "side"); intro v0 H0 s0 r0)
  | ((with_reducible refine' G.add_lst ?r ?s ?l ?_); (case r => walk_at "R"); (case s => walk_at "R"); (case l => walk_at "side"); intro v0 H0 s0 r0)
  | ((with_reducible refine' G.isi_1 ?r ?e ?t ?_); (case r => walk_at "R"); (case e => rfl); (case t => simp only [List.mem_cons, true_or, or_true]))
  | ((with_reducible refine' G.isi_0 ?r ?e ?t ?_); (case r => walk_at "R"); (case e => rfl); (case t => simp only [List.mem_cons, true_or, or_true]))
  | ((with_reducible refine' G.isi_R ?r ?t ?_); (case r => walk_at "R"); (case t => simp only [List.mem_cons, true_or, or_true]))
  | ((with_reducible refine' G.len_str ?l ?_); (case l => walk_at "side"))
  | ((with_reducible refine' G.len_tup ?r ?_); (case r => walk_at "R"))
  | ((with_reducible refine' G.len_lst ?r ?_); (case r => walk_at "R"))
  | (with_reducible refine G.st_tup ?_)
  | (with_reducible refine G.st_lst ?_)
  | ((with_reducible refine' G.st_newT ?r ?l ?_); (case r => walk_at "A"); (case l => first | exact Nat.le_of_ble_eq_true rfl | walk_at "side"); intro v0 H0 s0 r0)
  | ((with_reducible refine' G.st_newL ?r ?l ?_); (case r => walk_at "A"); (case l => first | exact Nat.le_of_ble_eq_true rfl | walk_at "side"); intro v0 H0 s0 r0)
  | ((with_reducible refine' G.ix_tupR ?r ?h0 ?hd ?_); (case r => walk_at "R"); (case h0 => walk_at "side"); (case hd => first | rfl | assumption); walk_at "got")
  | ((with_reducible refine' G.ix_lstR ?r ?h0 ?hd ?_); (case r => walk_at "R"); (case h0 => walk_at "side"); (case hd => first | rfl | assumption); walk_at "got")
  | ((with_reducible refine' G.ix_strR ?l ?h0 ?hd ?_); (case l => walk_at "side"); (case h0 => walk_at "side"); (case hd => first | rfl | assumption))
  | ((with_reducible refine' G.ix_strM ?l ?h0 ?h1 ?_); (case l => walk_at "side"); (case h0 => walk_at "side"); (case h1 => walk_at "side"); intro c0 hc0)
  | ((with_reducible refine' G.ix_tupN ?r ?h0 ?h1 ?_); (case r => walk_at "R"); (case h0 => walk_at "side"); (case h1 => walk_at "side"); intro v0 d0 hd0 r0)
  | ((with_reducible refine' G.ix_lstS ?r ?h0 ?h1 ?_); (case r => walk_at "R"); (case h0 => walk_at "side"); (case h1 => walk_at "side"); intro z0 hz0)
  | ((with_reducible refine' G.ix_lstN ?r ?h0 ?h1 ?_); (case r => walk_at "R"); (case h0 => walk_at "side"); (case h1 => walk_at "side"); intro v0 d0 hd0 r0)
  | ((with_reducible refine' G.sl_strR ?l ?_); (case l => walk_at "side"))
  | ((with_reducible refine' G.sl_tupR ?r ?_); (case r => walk_at "R"); intro v0 H0 s0 r0)
  | ((with_reducible refine' G.sl_lstR ?r ?_); (case r => walk_at "R"); intro v0 H0 s0 r0)
  | ((with_reducible refine' G.tupOf_L ?r ?_); (case r => walk_at "R"); intro v0 H0 s0 r0)
  | ((with_reducible refine' G.tupOf_T ?r ?_); (case r => walk_at "R"))
  | ((with_reducible refine' G.lstOf_T ?r ?_); (case r => walk_at "R"); intro v0 H0 s0 r0)
  | ((with_reducible refine' G.lstOf_L ?r ?_); (case r => walk_at "R"); intro v0 H0 s0 r0)
  | with_reducible refine G.st_lcL ?_
  | with_reducible refine G.st_lcT ?_
  | with_reducible refine G.st_lcS ?_
  | with_reducible refine G.st_lcR ?_
  | with_reducible refine G.st_M0 ?_
  | with_reducible refine G.st_M1 ?_
  | (with_reducible refine G.upper_one ?_; intro hu0)
  | ((with_reducible refine' G.upper_R ?l ?_); (case l => walk_at "side"))
  | (with_reducible refine G.st_strAnd ?_)
  | (with_reducible refine G.st_sub ?_)
  | ((with_reducible refine' G.set_20 ?hp ?_); (case hp => first | exact L2.upd_same | walk_at "P"))
  | ((with_reducible refine' G.set_21 ?hp ?_); (case hp => first | exact L2.upd_same | walk_at "P"))
  | ((with_reducible refine' G.set_at ?hp ?hi ?_); (case hp => first | exact L2.upd_same | walk_at "P"); (case hi => rfl))
  | with_reducible refine G.st_lst2 ?_
  | with_reducible refine G.st_shut ?_
  | with_reducible refine G.st_forR ?_
  | ((with_reducible refine' G.len_scr ?s ?_); (case s => walk_at "Q"))
  | ((with_reducible refine' G.ix_scr ?s ?h0 ?h1 ?_); (case s => walk_at "Q"); (case h0 => walk_at "side"); (case h1 => walk_at "side"); intro n0)
  | ((with_reducible refine' G.sl_scr ?s ?_); (case s => walk_at "Q"); intro v0 H0 s0 r0)
  | (with_reducible refine' G.st_disp1 ?_; intro v0 H0 s0 r0)
  | walk_at "c"
  | fail "no step")
local macro_rules | `(tactic| walk_at "r") => `(tactic| repeat' (walk_at "s"))

local macro_rules | `(tactic| walk_at "side") => `(tactic| first | exact G.nm_a (by with_reducible assumption) | exact G.fm_a (by with_reducible assumption) | exact G.nm_b (by with_reducible assumption) | exact G.nm_c (by with_reducible assumption) | fail)
local macro_rules | `(tactic| walk_at "c") => `(tactic| ((with_reducible refine' G.use_name ?hp ?_); (case hp => walk_at "P"); intro z0 H0 s0 hz0))
local macro_rules | `(tactic| walk_at "c") => `(tactic| ((with_reducible refine' G.use_form ?hp ?_); (case hp => walk_at "P"); intro z0 H0 s0 hz0))
local macro_rules | `(tactic| walk_at "c") => `(tactic| ((with_reducible refine' G.use_pool ?hp ?_); (case hp => walk_at "P"); intro v0 fs0 gs0 ns0 H0 s0 ok0 r0))
local macro_rules | `(tactic| walk_at "c") => `(tactic| ((with_reducible refine' G.use_leaf ?hp ?r ?ok ?h0 ?h1 ?_); (case hp => walk_at "P"); (case r => walk_at "R"); (case ok => with_reducible assumption); (case h0 => walk_at "side"); (case h1 => walk_at "side"); intro v0 t0 H0 s0 r0 ht0 hd0 hs0))
local macro_rules | `(tactic| walk_at "c") => `(tactic| ((with_reducible refine' G.use_term ?hp ?r ?ok ?h0 ?h1 ?e0 ?e1 ?_); (case hp => walk_at "P"); (case r => walk_at "R"); (case ok => with_reducible assumption); (case h0 => walk_at "side"); (case h1 => walk_at "side"); (case e0 => walk_at "side"); (case e1 => walk_at "side"); intro v0 t0 H0 s0 r0 ht0 hd0 hs0))
local macro_rules | `(tactic| walk_at "c") => `(tactic| ((with_reducible refine' G.use_tall ?hp ?r ?ok ?rt ?ht ?h0 ?h1 ?_); (case hp => walk_at "P"); (case r => walk_at "R"); (case ok => with_reducible assumption); (case rt => walk_at "R"); (case ht => with_reducible assumption); (case h0 => walk_at "side"); (case h1 => walk_at "side"); intro v0 t0 H0 s0 r0 ht0 hd0 hs0))
local macro_rules | `(tactic| walk_at "c") => `(tactic| ((with_reducible refine' G.use_anyT ?hp ?r ?ok ?h0 ?h1 ?_); (case hp => walk_at "P"); (case r => walk_at "R"); (case ok => with_reducible assumption); (case h0 => walk_at "side"); (case h1 => walk_at "side"); intro v0 t0 H0 s0 r0 ht0 hd0 hs0))

local macro_rules | `(tactic| walk_at "w") => `(tactic| first
  | with_reducible refine G.st_BM0 ?_
  | with_reducible refine G.st_BM ?_
  | ((with_reducible refine' G.st_tyl ?hl ?_); (case hl => walk_at "P"))
  | ((with_reducible refine' G.popR ?hl ?ra ?hn ?_); (case hl => walk_at "P"); (case ra => with_reducible assumption); (case hn => with_reducible assumption); intro v0 ws0 H0 x0 hl0 ra0 r0)
  | ((with_reducible refine' G.extR ?hl ?ra ?r ?hz ?hn ?hn' ?_); (case hl => walk_at "P"); (case ra => first | with_reducible assumption | exact G.ra_mono (by with_reducible assumption) (by walk_at "S")); (case r => walk_at "R"); (case hz => walk_at "side"); (case hn => walk_at "nol"); (case hn' => walk_at "nol"); intro ws0 H0 x0 hl0 ra0)
  | ((with_reducible refine' G.gtup2 ?r ?_); (case r => walk_at "R"); intro v1 v2 r1 r2)
  | with_reducible refine G.st_asgT ?_
  | with_reducible refine G.int_bl ?_
  | with_reducible refine G.max_2 ?_
  | ((with_reducible refine' G.st_aug ?hx ?_); (case hx => rfl))
  | with_reducible refine G.ipI_int ?_
  | with_reducible refine G.whB ?_
  | with_reducible refine G.st_lstF ?_
  | ((with_reducible refine' G.st_newLF ?r ?l ?_); (case r => walk_at "A"); (case l => first | exact Nat.le_of_ble_eq_true rfl | walk_at "side"); intro p0 H0 f0 s0 hl0 ra0)
  | fail "no step")
local macro_rules | `(tactic| walk_at "nol") => `(tactic| first | with_reducible assumption | rfl | exact G.Th.noL _ | exact G.Th.noLs _)
local macro_rules | `(tactic| walk_at "c") => `(tactic| walk_at "w")

local macro_rules | `(tactic| walk_at "c") => `(tactic| first
  | with_reducible refine G.neg_i ?_
  | with_reducible refine G.st_BMs ?_
  | with_reducible refine G.st_tys ?_
  | with_reducible refine G.st_gcons ?_
  | with_reducible refine G.st_gnil ?_
  | with_reducible refine G.st_gname ?_
  | with_reducible refine G.st_gsub ?_
  | ((with_reducible refine' G.iC ?hc ?_); (case hc => show (0 : Int) < _; decide +kernel))
  | ((with_reducible refine' G.ix_scrLast ?hs ?h1 ?_); (case hs => walk_at "Q"); (case h1 => walk_at "side"); intro n0)
  | ((with_reducible refine' G.divmodR ?h0 ?h1 ?_); (case h0 => walk_at "side"); (case h1 => walk_at "side"); intro p0 H0 f0 e0)
  | (with_reducible refine G.absR ?_; intro j0)
  | fail "no step")

local macro_rules | `(tactic| walk_at "B") => `(tactic| first | with_reducible assumption | exact G.bk_keep (by with_reducible assumption) (by walk_at "S"))
local macro_rules | `(tactic| walk_at "c") => `(tactic| first
  | ((with_reducible refine' G.use_nextU ?hp ?h0 ?h1 ?_); (case hp => walk_at "P"); (case h0 => walk_at "side"); (case h1 => walk_at "side"); intro r0 H0 s0 hr0 hr1)
  | ((with_reducible refine' G.ix_b1 ?h ?_); (case h => walk_at "B"); intro af0 lb0 lc0 hf0 rb0 rc0)
  | ((with_reducible refine' G.ix_b2 ?h ?_); (case h => walk_at "B"); intro v0 r0)
  | ((with_reducible refine' G.ix_b3 ?h ?_); (case h => walk_at "B"); intro v0 r0)
  | ((with_reducible refine' G.ix_b5 ?h ?_); (case h => walk_at "B"); intro v0 r0)
  | with_reducible refine G.st_dget ?_
  | with_reducible refine G.st_dget2 ?_
  | with_reducible refine G.st_lcLT ?_
  | with_reducible refine G.st_lcET ?_
  | with_reducible refine G.st_lcETT ?_
  | with_reducible refine G.st_forL ?_
  | with_reducible refine G.st_forE ?_
  | with_reducible refine G.st_forT ?_
  | fail "no step")
local macro_rules | `(tactic| walk_at "u") => `(tactic| repeat' ((fail_if_success (with_reducible refine G.st_if ?_)); walk_at "s"))
local macro_rules | `(tactic| walk_at "c") => `(tactic| (with_reducible refine G.minR ?_; intro m0 hm0 hm1 hm2))

local macro_rules | `(tactic| walk_at "c") => `(tactic| first
  | with_reducible refine G.st_forEL ?_
  | fail "no step")

namespace G
open PySem PySem.Spec PyProof.Rows L2
section
variable {P : Program} {w : World} {K : PySem.W.Frag} {mg : Str → Option Value} {base : Heap} {k n : Nat}
theorem ok_l_walk (T : Tp K mg) (c_l_terms : Cal P w K mg base k "_law_terms" (spTermsOf K 90)) (c_l_spots : Cal P w K mg base k "_law_spots" (spSpots K 90)) (c_l_set : Cal P w K mg base k "_law_set" (spWith K 90)) (c_l_with : Cal P w K mg base k "_law_with" (spWithL K 90)) : Cal P w K mg base (k + 1) "_law_walk" (spWalk K) := by
  refine T.d_l_walk.cal sc_l_walk (fun vs H Q E h => ?_) (fun f cdv A outer s H vs Q E hr h => ?_)
  · obtain ⟨v, vo, vu, t, one, other, F, b, rfl, _⟩ := h; rfl
  obtain ⟨v, vo, vu, t, one, other, F, b, rfl, r, ro, ru, ht, ho, hu, hd, hd2, hz, q⟩ := h
  have sc := @sc_l_walk
  refine ⟨_, (pss_cons (ps_set (i := 3) sc.nd rfl (Or.inl rfl) (pe_lstF K (pa_cons (pv 0) pa_nil)))
      (pss_cons (ps_set (i := 4) sc.nd rfl (Or.inl rfl) (pe_c c_l_terms hr (Nat.le_refl _) rfl (pa_cons (pv 0) pa_nil)))
      (pss_cons (ps_for PassesOwn.never rfl (pi_range1 rfl T.n_range (pa_cons (pe_callB (len_K K) rfl T.n_len bt_len (pa_cons (pv 4) pa_nil)) pa_nil)) (pg_name (i := 5) sc.nd rfl (Or.inl rfl)) (pss_one (ps_for PassesOwn.never rfl (pi_listK K (pe_c c_l_spots hr (Nat.le_refl _) rfl (pa_cons (pe_ix (ix_K K) (pv 4) (pv 5) (fun _ _ => rfl)) (pa_cons (pv 1) (pa_cons (pe_tupK K pa_nil) pa_nil))))) (pg_name (i := 6) sc.nd rfl (Or.inl rfl)) (pss_cons (ps_asg (pe_c c_l_set hr (Nat.le_refl _) rfl (pa_cons (pe_ix (ix_K K) (pv 4) (pv 5) (fun _ _ => rfl)) (pa_cons (pv 6) (pa_cons (pv 2) pa_nil)))) (pg_sub (pv 4) (pv 5) set_list))
      (pss_one (ps_expr (bmK K (pe_bm PySem.F.plainAttrs_list PySem.F.slot_list_append PySem.F.type_list_append mt_append (pv 3) (pa_cons (pe_c c_l_with hr (Nat.le_refl _) rfl (pa_cons (pv 0) (pa_cons (pe_callTy (list_KF K) rfl T.n_list bt_list (pa_cons (pv 4) pa_nil)) pa_nil))) pa_nil)))))))))
      (pss_one (ps_ret (pv 3)))))), ?_⟩
  have dp := other.dep_pos
  have hB := Th.isT_mono (Nat.le_add_right b t.dep) ho
  have hU := Th.isT_mono (Nat.le_add_right b t.dep) hu
  have htl := Th.termsOf_len t ht
  walk_at "r"
  rename_i fo H1 f1 s1 hl1 ra1
  have kf : Lk K H1 fo (Th.ds [t]) := Lk.of hl1 ra1 (Th.noLs [t])
  refine use_termsOfF (r.mono s1) ht (by omega) hz fun lt H2 f2 s2 kt => ?_
  have nfo : H fo = none := f1
  have nlt : H lt = none := none_of s1 f2
  have e1 : fo ≠ lt := fresh_ne f2 kf
  have s03 : Same H H2 := s1.trans s2
  have kf3 := kf.mono s2
  have rt3 := kt.R
  have htl' : (Th.ds t.termsOf).length ≤ 1000000 := by rw [ds_len]; omega
  clear kf s1 s2 hl1 ra1
  walk_at "r"
  refine for_R (fun k σ' H' => ∃ x5 x6 : Option V, σ' = [some v, some vo, some vu, some (.ref fo), some (.ref lt), x5, x6] ∧ Same H H' ∧ Lk K H' fo (Th.ds (accO t one other k).2) ∧ Lk K H' lt (Th.ds (accO t one other k).1) ∧ WO t one F (b + t.dep) (t.dep + other.dep) k (accO t one other k))
    (by omega) (by omega) ⟨_, _, rfl, s03, kf3, kt, WO.start ht (Nat.le_refl _) (Nat.le_refl _)⟩ ?_ ?_
  · clear kf3 kt s03 rt3
    rintro k σ' H4 hk' ⟨x5, x6, rfl, s4, kf4, kt4, wo⟩
    have hkl : k < t.termsOf.length := by rw [ds_len] at hk'; omega
    have hpg : t.termsOf.getD k .fls = t.termsOf[k] := by rw [List.getD_eq_getElem?_getD, List.getElem?_eq_getElem hkl]; rfl
    have hpm : t.termsOf[k] ∈ t.termsOf := List.getElem_mem hkl
    generalize t.termsOf[k] = p at *
    have hpo := Th.termsOf_ok t ht p hpm
    have wi := wo.turn ht hkl
    have eacc := accO_succ (one := one) (other := other) hkl
    rw [hpg] at wi eacc
    have hlen := Th.spots_len p one
    have hga : (Th.ds (accO t one other k).1)[((k : Nat) : Int).toNat]? = some p.d := by
      rw [Int.toNat_natCast, Th.ds_map, List.getElem?_map, wo.rest k (Nat.le_refl _), ← hpg, List.getD_eq_getElem?_getD, List.getElem?_eq_getElem hkl]; rfl
    have hll := wo.len
    generalize accO t one other k = a0 at *
    have rt4 := kt4.R
    walk_at "r"
    rename_i v0 r0 v1 H5a s5a r1
    refine use_spotsF (pre := []) (r0.mono s5a) (ro.mono (s4.trans s5a)) r1 hpo.1 hB (by omega) hd2 (by omega) (by simp) (by decide) fun l5 H5 f5 s5b k5 => ?_
    have epl : plD [] (p.spots one) = (p.spots one).map pls := by simp [plD]
    rw [epl] at k5
    have s5 : Same H4 H5 := s5a.trans s5b
    obtain ⟨ys, k5x⟩ := k5.xs_ex
    have e4 : fo ≠ l5 := fresh_ne f5 (kf4.mono s5a)
    have e5 : lt ≠ l5 := fresh_ne f5 (kt4.mono s5a)
    have s45 : Same H H5 := s4.trans s5
    have kf5 := kf4.mono s5
    have kt5 := kt4.mono s5
    clear kf4 kt4 s4 s5 s5a s5b k5 r0 r1 rt4 wo
    walk_at "r"
    refine for_Lx (K := K) (xs := ys) (ds := (p.spots one).map pls) (fun j σ' H' => ∃ x7 : Option V, σ' = [some v, some vo, some vu, some (.ref fo), some (.ref lt), some (.int (k : Int)), x7] ∧ Same H H' ∧ Lk K H' fo (Th.ds (((p.spots one).take j).foldl (stepP t other k) a0).2) ∧ Lk K H' lt (Th.ds (((p.spots one).take j).foldl (stepP t other k) a0).1) ∧ Lx K H' l5 ys ((p.spots one).map pls) ∧ WI t one F (b + t.dep) (t.dep + other.dep) k ((p.spots one).drop j) (((p.spots one).take j).foldl (stepP t other k) a0))
      ⟨_, rfl, s45, kf5, kt5, k5x, wi⟩ (fun j σ' H' h => by obtain ⟨_, _, _, _, _, h, _⟩ := h; exact h) ?_ ?_
    · clear kf5 kt5 k5x s45 wi hga
      rintro j d2 vp σ' H6 hdj rp ⟨x7', rfl, s6, kf6, kt6, ky6, wi⟩
      rw [List.getElem?_map] at hdj
      obtain ⟨pl, hpl, rfl⟩ := Option.map_eq_some_iff.mp hdj
      have hjl : j < (p.spots one).length := (List.getElem?_eq_some_iff.mp hpl).1
      have ed : (p.spots one).drop j = pl :: (p.spots one).drop (j + 1) := by
        rw [List.drop_eq_getElem_cons hjl]; congr 1; exact (List.getElem?_eq_some_iff.mp hpl).2
      have et : ((p.spots one).take (j + 1)).foldl (stepP t other k) a0 = stepP t other k (((p.spots one).take j).foldl (stepP t other k) a0) pl := by
        rw [List.take_add_one, hpl, List.foldl_append]; rfl
      rw [ed] at wi
      rw [et]
      generalize ((p.spots one).take j).foldl (stepP t other k) a0 = acc at *
      have wn := wi.step ht hU (Nat.le_refl _)
      obtain ⟨w1, w2⟩ := wi.ok pl (List.mem_cons_self ..)
      have hka : k < acc.1.length := by rw [wi.len]; exact hkl
      have hma : acc.1.getD k .fls ∈ acc.1 := by rw [List.getD_eq_getElem?_getD, List.getElem?_eq_getElem hka]; exact List.getElem_mem hka
      have w3 := (wi.is _ hma).1
      have hlf := wi.size
      have hll' := wi.len
      have rt6 := kt6.R
      have hga : (Th.ds acc.1)[((k : Nat) : Int).toNat]? = some (acc.1.getD k .fls).d := by
        rw [Int.toNat_natCast, Th.ds_map, List.getElem?_map, List.getD_eq_getElem?_getD, List.getElem?_eq_getElem hka]; rfl
      walk_at "r"
      rename_i v0 r0
      refine use_with r0 rp (ru.mono s6) w1 (by omega) (by omega) w3 fun x8 H7 s7 r7 => ?_
      have kf7 := kf6.mono s7
      have kt7 := kt6.mono s7
      have ky7 := ky6.mono s7
      have s67 : Same H H7 := s6.trans s7
      clear kf6 kt6 ky6 rt6 r0 rp s6 s7
      have hkd : k < (Th.ds acc.1).length := by rw [ds_len]; exact hka
      have eset : (Th.ds acc.1).set k ((acc.1.getD k .fls).withP pl other).d = Th.ds (stepP t other k acc pl).1 := by
        show _ = Th.ds (acc.1.set k _)
        rw [Th.ds_map, Th.ds_map, List.map_set]
      have efnd : Th.ds acc.2 ++ [(t.withTs (stepP t other k acc pl).1).d] = Th.ds (stepP t other k acc pl).2 := by
        show _ = Th.ds (acc.2 ++ [t.withTs (stepP t other k acc pl).1])
        rw [ds_app]; rfl
      have hl8 := wn.len
      generalize stepP t other k acc pl = acc' at *
      walk_at "r"
      refine set_L kt7 r7 hkd (by rw [ds_len]; omega) (Th.noL _) fun H8 x8' k8 => ?_
      rw [eset] at k8
      have s8 : Same H H8 := SameX.same s67 x8' nlt
      have kf8 := kf7.lx x8' kt7 e1
      have ky8 := ky7.lx x8' kt7 (Ne.symm e5)
      clear kf7 ky7 kt7 s67 r7
      walk_at "r"
      refine kf8.ty ?_
      walk_at "r"
      refine listFL k8 fun l9 H9 f9 s9 k9 => ?_
      walk_at "r"
      have e9 : acc'.1.take t.termsOf.length = acc'.1 := List.take_of_length_le (by omega)
      refine use_withL (r.mono (s8.trans s9)) k9 ht (by omega) (by omega) (by omega) hz fun y10 H10 x10 k10 r10 => ?_
      rw [e9] at r10
      have s10 : Same H8 H10 := SameX.same s9 x10 f9
      have kf10 := kf8.mono s10
      walk_at "r"
      refine app_L kf10 r10 (by rw [ds_len]; omega) (Th.noL _) fun H11 x11 k11 => ?_
      rw [efnd] at k11
      walk_at "r"
      exact ⟨_, rfl, SameX.same (s8.trans s10) x11 nfo, k11, (k8.mono s10).lx x11 kf10 (Ne.symm e1), (ky8.mono s10).lx x11 kf10 (Ne.symm e4), wn⟩
    · rintro σ' H6 ⟨x7', rfl, s6, kf6, kt6, ky6, wi⟩
      rw [List.length_map, List.drop_length] at wi
      rw [List.length_map] at kf6 kt6
      rw [List.take_length, ← eacc] at wi kf6 kt6
      walk_at "r"
      exact ⟨_, _, rfl, s6, kf6, kt6, wi.next⟩
  · rintro σ' H4 ⟨x5, x6, rfl, s4, kf4, kt4, wo⟩
    rw [ds_len, Int.toNat_natCast, accO_all] at kf4
    walk_at "r"
    exact q _ _ nfo s4 kf4

end
end G

end

section
/-! the words of the walk: S (a heap keeps), R (a value stands for data), A (a row of them), no (a way that cannot be), s (one step), r (all steps) -/
local macro_rules | `(tactic| walk_at "S") => `(tactic| first | exact L2.Same.refl _ | assumption | exact G.sm_tr (by assumption) (by walk_at "S"))
local macro_rules | `(tactic| walk_at "R") => `(tactic| first
  | with_reducible exact G.R.int _ | with_reducible exact G.R.str _ | with_reducible exact G.R.bl _ | with_reducible exact G.R.non
  | with_reducible assumption
  | exact G.r_mono (by with_reducible assumption) (by walk_at "S")
  | ((with_reducible refine' G.R.lst L2.upd_same ?rl); (case rl => walk_at "A")))
local macro_rules | `(tactic| walk_at "A") => `(tactic| first | with_reducible exact G.RA.nil | ((with_reducible refine' G.RA.cons ?ra ?rb); (case ra => walk_at "R"); (case rb => walk_at "A")))
local macro_rules | `(tactic| walk_at "no") => `(tactic| first | contradiction | omega)
local macro_rules | `(tactic| walk_at "side") => `(tactic| first | with_reducible rfl | with_reducible assumption | omega | exact Int.lt_of_lt_of_le (by with_reducible assumption) (by decide +kernel) | ((with_reducible refine G.le_up ?_); decide +kernel) | (simp only [List.length_cons, List.length_nil, List.getElem?_cons_zero, List.getElem?_cons_succ, List.length_map]; done) | (simp only [List.length_cons, List.length_nil, List.length_map, List.length_append] at *; omega))
local macro_rules | `(tactic| walk_at "sideC") => `(tactic| first | with_reducible assumption | (with_reducible refine G.cmul_r ⟨?_, ?_⟩ <;> decide) | (with_reducible refine G.cdiv_r ⟨?_, ?_⟩ <;> decide) | (with_reducible refine G.cmul_l ⟨?_, ?_⟩ <;> decide) | (with_reducible refine G.cpow_c ⟨?_, ?_, ?_⟩ <;> decide) | (with_reducible refine G.cmul_r ⟨?_, ?_⟩ <;> omega) | (with_reducible refine G.cdiv_r ⟨?_, ?_⟩ <;> omega) | omega)
local macro_rules | `(tactic| walk_at "got") => `(tactic| (intro v0 r0; first
  | (have e0 := G.R.inv_str r0; subst e0) | (have e0 := G.R.inv_int r0; subst e0) | (have e0 := G.R.inv_bl r0; subst e0) | (have e0 := G.R.inv_non r0; subst e0) | skip))
local macro_rules | `(tactic| walk_at "P") => `(tactic| first | with_reducible assumption | exact G.keep_at (by with_reducible assumption) (by walk_at "S"))
local macro_rules | `(tactic| walk_at "c") => `(tactic| fail)
local macro_rules | `(tactic| walk_at "Q") => `(tactic| first | with_reducible assumption | exact G.seq_keep (by with_reducible assumption) (by walk_at "S"))
local macro_rules | `(tactic| walk_at "c") => `(tactic| ((with_reducible refine' G.use_state ?hp ?h0 ?h1 ?_); (case hp => walk_at "Q"); (case h0 => walk_at "side"); (case h1 => walk_at "side"); intro p0 H0 s0 hp0))
local macro_rules | `(tactic| walk_at "c") => `(tactic| ((with_reducible refine' G.use_draw ?hp ?h0 ?h1 ?_); (case hp => walk_at "P"); (case h0 => walk_at "side"); (case h1 => walk_at "side"); intro r0 hr0 hr1))
local macro_rules | `(tactic| walk_at "s") => `(tactic| first
  | with_reducible refine G.st_seq ?_
  | ((with_reducible refine' G.st_var ?hv ?_); (case hv => exact rfl))
  | with_reducible refine G.st_c ?_
  | with_reducible refine G.st_op ?_
  | with_reducible refine G.st_bl ?_
  | with_reducible refine L2.iteT ?_
  | with_reducible refine L2.iteF ?_
  | with_reducible refine G.ite_nt ?_
  | with_reducible refine G.ite_nf ?_
  | ((with_reducible refine G.st_ite ?_ ?_) <;> (intro hb; (try simp only [decide_eq_true_eq, decide_eq_false_iff_not, Bool.not_eq_true', Bool.not_eq_false', beq_iff_eq, Bool.and_eq_true, Bool.or_eq_true, Bool.and_eq_false_iff, Bool.or_eq_false_iff, beq_eq_false_iff_ne, ne_eq, Int.not_lt, Int.not_le, Nat.not_lt, Nat.not_le] at hb); first | (exfalso; walk_at "no"; done) | skip))
  | with_reducible refine G.st_if ?_
  | with_reducible refine G.st_ret ?_
  | with_reducible refine G.st_set ?_
  | with_reducible refine G.st_call ?_
  | with_reducible refine G.st_cons ?_
  | with_reducible refine G.st_nil ?_
  | with_reducible refine G.st_CB ?_
  | with_reducible refine G.st_tTest ?_
  | with_reducible refine G.st_tB ?_
  | with_reducible refine G.st_or ?_
  | with_reducible refine G.st_and ?_
  | with_reducible refine G.st_not ?_
  | with_reducible refine G.st_orV ?_
  | with_reducible refine G.st_andV ?_
  | with_reducible refine G.st_notV ?_
  | with_reducible refine G.st_tIf ?_
  | with_reducible refine G.st_chain ?_
  | with_reducible refine G.st_un ?_
  | with_reducible refine G.st_then ?_
  | with_reducible refine G.st_slice ?_
  | with_reducible refine G.st_noPart ?_
  | with_reducible refine G.st_part ?_
  | with_reducible refine G.st_exInt ?_
  | with_reducible refine G.st_drop ?_
  | with_reducible refine G.st_next ?_
  | with_reducible refine G.st_retN ?_
  | with_reducible refine G.add_int ?_
  | with_reducible refine G.i0 ?_
  | ((with_reducible refine G.imod2 (by decide) ?_ ?_) <;> (intro hm; first | (exfalso; walk_at "no"; done) | skip))
  | ((with_reducible refine G.imod3 (by decide) ?_ ?_ ?_) <;> (intro hm; first | (exfalso; walk_at "no"; done) | skip))
  | ((with_reducible refine' G.iC ?hc ?_); (case hc => walk_at "sideC"))
  | ((with_reducible refine' G.eq_str1 ?e ?_); (case e => with_reducible rfl))
  | ((with_reducible refine' G.eq_str0 ?e ?_); (case e => decide +kernel))
  | with_reducible refine G.eq_str ?_
  | with_reducible refine G.eq_int ?_
  | with_reducible refine G.eq_bl ?_
  | with_reducible refine G.ne_str ?_
  | with_reducible refine G.ne_int ?_
  | ((with_reducible refine' G.is_none ?r ?_); (case r => walk_at "R"))
  | ((with_reducible refine' G.isnt_none ?r ?_); (case r => walk_at "R"))
  | with_reducible refine G.is_bl ?_
  | with_reducible refine G.isnt_bl ?_
  | with_reducible refine G.in_sign ?_
  | with_reducible refine G.nin_sign ?_
  | ((with_reducible refine' G.in_strsT1 ?r ?c ?e ?_); (case r => walk_at "R"); (case c => rfl); (case e => decide +kernel))
  | ((with_reducible refine' G.in_strsT0 ?r ?c ?e ?_); (case r => walk_at "R"); (case c => rfl); (case e => decide +kernel))
  | ((with_reducible refine' G.in_strsT ?r ?c ?_); (case r => walk_at "R"); (case c => rfl))
  | ((with_reducible refine' G.nin_strsT ?r ?c ?_); (case r => walk_at "R"); (case c => rfl))
  | ((with_reducible refine' G.in_intsT ?r ?c ?_); (case r => walk_at "R"); (case c => rfl))
  | ((with_reducible refine' G.nin_intsT ?r ?c ?_); (case r => walk_at "R"); (case c => rfl))
  | ((with_reducible refine' G.add_str ?l ?_); (case l => walk_at "side"))
  | ((with_reducible refine' G.add_tup ?r ?s ?l ?_); (case r => walk_at "R"); (case s => walk_at "R"); (case l => walk_at "side"); intro v0 H0 s0 r0)
  | ((with_reducible refine' G.add_lst ?r ?s ?l ?_); (case r => walk_at "R"); (case s => walk_at "R"); (case l => walk_at "side"); intro v0 H0 s0 r0)
  | ((with_reducible refine' G.isi_1 ?r ?e ?t ?_); (case r => walk_at "R"); (case e => rfl); (case t => simp only [List.mem_cons, true_or, or_true]))
  | ((with_reducible refine' G.isi_0 ?r ?e ?t ?_); (case r => walk_at "R"); (case e => rfl); (case t => simp only [List.mem_cons, true_or, or_true]))
  | ((with_reducible refine' G.isi_R ?r ?t ?_); (case r => walk_at "R"); (case t => simp only [List.mem_cons, true_or, or_true]))
  | ((with_reducible refine' G.len_str ?l ?_); (case l => walk_at "side"))
  | ((with_reducible refine' G.len_tup ?r ?_); (case r => walk_at "R"))
  | ((with_reducible refine' G.len_lst ?r ?_); (case r => walk_at "R"))
  | (with_reducible refine G.st_tup ?_)
  | (with_reducible refine G.st_lst ?_)
  | ((with_reducible refine' G.st_newT ?r ?l ?_); (case r => walk_at "A"); (case l => first | exact Nat.le_of_ble_eq_true rfl | walk_at "side"); intro v0 H0 s0 r0)
  | ((with_reducible refine' G.st_newL ?r ?l ?_); (case r => walk_at "A"); (case l => first | exact Nat.le_of_ble_eq_true rfl | walk_at "side"); intro v0 H0 s0 r0)
  | ((with_reducible refine' G.ix_tupR ?r ?h0 ?hd ?_); (case r => walk_at "R"); (case h0 => walk_at "side"); (case hd => first | rfl | assumption); walk_at "got")
  | ((with_reducible refine' G.ix_lstR ?r ?h0 ?hd ?_); (case r => walk_at "R"); (case h0 => walk_at "side"); (case hd => first | rfl | assumption); walk_at "got")
  | ((with_reducible refine' G.ix_strR ?l ?h0 ?hd ?_); (case l => walk_at "side"); (case h0 => walk_at "side"); (case hd => first | rfl | assumption))
  | ((with_reducible refine' G.ix_strM ?l ?h0 ?h1 ?_); (case l => walk_at "side"); (case h0 => walk_at "side"); (case h1 => walk_at "side"); intro c0 hc0)
  | ((with_reducible refine' G.ix_tupN ?r ?h0 ?h1 ?_); (case r => walk_at "R"); (case h0 => walk_at "side"); (case h1 => walk_at "side"); intro v0 d0 hd0 r0)
  | ((with_reducible refine' G.ix_lstS ?r ?h0 ?h1 ?_); (case r => walk_at "R"); (case h0 => walk_at "side"); (case h1 => walk_at "side"); intro z0 hz0)
  | ((with_reducible refine' G.ix_lstN ?r ?h0 ?h1 ?_); (case r => walk_at "R"); (case h0 => walk_at "side"); (case h1 => walk_at "side"); intro v0 d0 hd0 r0)
  | ((with_reducible refine' G.sl_strR ?l ?_); (case l => walk_at "side"))
  | ((with_reducible refine' G.sl_tupR ?r ?_); (case r => walk_at "R"); intro v0 H0 s0 r0)
  | ((with_reducible refine' G.sl_lstR ?r ?_); (case r => walk_at "R"); intro v0 H0 s0 r0)
  | ((with_reducible refine' G.tupOf_L ?r ?_); (case r => walk_at "R"); intro v0 H0 s0 r0)
  | ((with_reducible refine' G.tupOf_T ?r ?_); (case r => walk_at "R"))
  | ((with_reducible refine' G.lstOf_T ?r ?_); (case r => walk_at "R"); intro v0 H0 s0 r0)
  | ((with_reducible refine' G.lstOf_L ?r ?_); (case r => walk_at "R"); intro v0 H0 s0 r0)
  | with_reducible refine G.st_lcL ?_
  | with_reducible refine G.st_lcT ?_
  | with_reducible refine G.st_lcS ?_
  | with_reducible refine G.st_lcR ?_
  | with_reducible refine G.st_M0 ?_
  | with_reducible refine G.st_M1 ?_
  | (with_reducible refine G.upper_one ?_; intro hu0)
  | ((with_reducible refine' G.upper_R ?l ?_); (case l => walk_at "side"))
  | (with_reducible refine G.st_strAnd ?_)
  | (with_reducible refine G.st_sub ?_)
  | ((with_reducible refine' G.set_20 ?hp ?_); (case hp => first | exact L2.upd_same | walk_at "P"))
  | ((with_reducible refine' G.set_21 ?hp ?_); (case hp => first | exact L2.upd_same | walk_at "P"))
  | ((with_reducible refine' G.set_at ?hp ?hi ?_); (case hp => first | exact L2.upd_same | walk_at "P"); (case hi => rfl))
  | with_reducible refine G.st_lst2 ?_
  | with_reducible refine G.st_shut ?_
  | with_reducible refine G.st_forR ?_
  | ((with_reducible refine' G.len_scr ?s ?_); (case s => walk_at "Q"))
  | ((with_reducible refine' G.ix_scr ?s ?h0 ?h1 ?_); (case s => walk_at "Q"); (case h0 => walk_at "side"); (case h1 => walk_at "side"); intro n0)
  | ((with_reducible refine' G.sl_scr ?s ?_); (case s => walk_at "Q"); intro v0 H0 s0 r0)
  | (with_reducible refine' G.st_disp1 ?_; intro v0 H0 s0 r0)
  | walk_at "c"
  | fail "no step")
local macro_rules | `(tactic| walk_at "r") => `(tactic| repeat' (walk_at "s"))

local macro_rules | `(tactic| walk_at "side") => `(tactic| first | exact G.nm_a (by with_reducible assumption) | exact G.fm_a (by with_reducible assumption) | exact G.nm_b (by with_reducible assumption) | exact G.nm_c (by with_reducible assumption) | fail)
local macro_rules | `(tactic| walk_at "c") => `(tactic| ((with_reducible refine' G.use_name ?hp ?_); (case hp => walk_at "P"); intro z0 H0 s0 hz0))
local macro_rules | `(tactic| walk_at "c") => `(tactic| ((with_reducible refine' G.use_form ?hp ?_); (case hp => walk_at "P"); intro z0 H0 s0 hz0))
local macro_rules | `(tactic| walk_at "c") => `(tactic| ((with_reducible refine' G.use_pool ?hp ?_); (case hp => walk_at "P"); intro v0 fs0 gs0 ns0 H0 s0 ok0 r0))
local macro_rules | `(tactic| walk_at "c") => `(tactic| ((with_reducible refine' G.use_leaf ?hp ?r ?ok ?h0 ?h1 ?_); (case hp => walk_at "P"); (case r => walk_at "R"); (case ok => with_reducible assumption); (case h0 => walk_at "side"); (case h1 => walk_at "side"); intro v0 t0 H0 s0 r0 ht0 hd0 hs0))
local macro_rules | `(tactic| walk_at "c") => `(tactic| ((with_reducible refine' G.use_term ?hp ?r ?ok ?h0 ?h1 ?e0 ?e1 ?_); (case hp => walk_at "P"); (case r => walk_at "R"); (case ok => with_reducible assumption); (case h0 => walk_at "side"); (case h1 => walk_at "side"); (case e0 => walk_at "side"); (case e1 => walk_at "side"); intro v0 t0 H0 s0 r0 ht0 hd0 hs0))
local macro_rules | `(tactic| walk_at "c") => `(tactic| ((with_reducible refine' G.use_tall ?hp ?r ?ok ?rt ?ht ?h0 ?h1 ?_); (case hp => walk_at "P"); (case r => walk_at "R"); (case ok => with_reducible assumption); (case rt => walk_at "R"); (case ht => with_reducible assumption); (case h0 => walk_at "side"); (case h1 => walk_at "side"); intro v0 t0 H0 s0 r0 ht0 hd0 hs0))
local macro_rules | `(tactic| walk_at "c") => `(tactic| ((with_reducible refine' G.use_anyT ?hp ?r ?ok ?h0 ?h1 ?_); (case hp => walk_at "P"); (case r => walk_at "R"); (case ok => with_reducible assumption); (case h0 => walk_at "side"); (case h1 => walk_at "side"); intro v0 t0 H0 s0 r0 ht0 hd0 hs0))

local macro_rules | `(tactic| walk_at "w") => `(tactic| first
  | with_reducible refine G.st_BM0 ?_
  | with_reducible refine G.st_BM ?_
  | ((with_reducible refine' G.st_tyl ?hl ?_); (case hl => walk_at "P"))
  | ((with_reducible refine' G.popR ?hl ?ra ?hn ?_); (case hl => walk_at "P"); (case ra => with_reducible assumption); (case hn => with_reducible assumption); intro v0 ws0 H0 x0 hl0 ra0 r0)
  | ((with_reducible refine' G.extR ?hl ?ra ?r ?hz ?hn ?hn' ?_); (case hl => walk_at "P"); (case ra => first | with_reducible assumption | exact G.ra_mono (by with_reducible assumption) (by walk_at "S")); (case r => walk_at "R"); (case hz => walk_at "side"); (case hn => walk_at "nol"); (case hn' => walk_at "nol"); intro ws0 H0 x0 hl0 ra0)
  | ((with_reducible refine' G.gtup2 ?r ?_); (case r => walk_at "R"); intro v1 v2 r1 r2)
  | with_reducible refine G.st_asgT ?_
  | with_reducible refine G.int_bl ?_
  | with_reducible refine G.max_2 ?_
  | ((with_reducible refine' G.st_aug ?hx ?_); (case hx => rfl))
  | with_reducible refine G.ipI_int ?_
  | with_reducible refine G.whB ?_
  | with_reducible refine G.st_lstF ?_
  | ((with_reducible refine' G.st_newLF ?r ?l ?_); (case r => walk_at "A"); (case l => first | exact Nat.le_of_ble_eq_true rfl | walk_at "side"); intro p0 H0 f0 s0 hl0 ra0)
  | fail "no step")
local macro_rules | `(tactic| walk_at "nol") => `(tactic| first | with_reducible assumption | rfl | exact G.Th.noL _ | exact G.Th.noLs _)
local macro_rules | `(tactic| walk_at "c") => `(tactic| walk_at "w")

local macro_rules | `(tactic| walk_at "c") => `(tactic| first
  | with_reducible refine G.neg_i ?_
  | with_reducible refine G.st_BMs ?_
  | with_reducible refine G.st_tys ?_
  | with_reducible refine G.st_gcons ?_
  | with_reducible refine G.st_gnil ?_
  | with_reducible refine G.st_gname ?_
  | with_reducible refine G.st_gsub ?_
  | ((with_reducible refine' G.iC ?hc ?_); (case hc => show (0 : Int) < _; decide +kernel))
  | ((with_reducible refine' G.ix_scrLast ?hs ?h1 ?_); (case hs => walk_at "Q"); (case h1 => walk_at "side"); intro n0)
  | ((with_reducible refine' G.divmodR ?h0 ?h1 ?_); (case h0 => walk_at "side"); (case h1 => walk_at "side"); intro p0 H0 f0 e0)
  | (with_reducible refine G.absR ?_; intro j0)
  | fail "no step")

local macro_rules | `(tactic| walk_at "B") => `(tactic| first | with_reducible assumption | exact G.bk_keep (by with_reducible assumption) (by walk_at "S"))
local macro_rules | `(tactic| walk_at "c") => `(tactic| first
  | ((with_reducible refine' G.use_nextU ?hp ?h0 ?h1 ?_); (case hp => walk_at "P"); (case h0 => walk_at "side"); (case h1 => walk_at "side"); intro r0 H0 s0 hr0 hr1)
  | ((with_reducible refine' G.ix_b1 ?h ?_); (case h => walk_at "B"); intro af0 lb0 lc0 hf0 rb0 rc0)
  | ((with_reducible refine' G.ix_b2 ?h ?_); (case h => walk_at "B"); intro v0 r0)
  | ((with_reducible refine' G.ix_b3 ?h ?_); (case h => walk_at "B"); intro v0 r0)
  | ((with_reducible refine' G.ix_b5 ?h ?_); (case h => walk_at "B"); intro v0 r0)
  | with_reducible refine G.st_dget ?_
  | with_reducible refine G.st_dget2 ?_
  | with_reducible refine G.st_lcLT ?_
  | with_reducible refine G.st_lcET ?_
  | with_reducible refine G.st_lcETT ?_
  | with_reducible refine G.st_forL ?_
  | with_reducible refine G.st_forE ?_
  | with_reducible refine G.st_forT ?_
  | fail "no step")
local macro_rules | `(tactic| walk_at "u") => `(tactic| repeat' ((fail_if_success (with_reducible refine G.st_if ?_)); walk_at "s"))
local macro_rules | `(tactic| walk_at "c") => `(tactic| (with_reducible refine G.minR ?_; intro m0 hm0 hm1 hm2))

local macro_rules | `(tactic| walk_at "c") => `(tactic| first
  | with_reducible refine G.st_forEL ?_
  | fail "no step")

namespace G
open PySem PySem.Spec PyProof.Rows L2
section
variable {P : Program} {w : World} {K : PySem.W.Frag} {mg : Str → Option Value} {base : Heap} {k n : Nat}
theorem ok_l_asked (T : Tp K mg) (c_l_walk : Cal P w K mg base k "_law_walk" (spWalk K)) (c_walk : Cal P w K mg base k "walk" (spWalk K)) : Cal P w K mg base (k + 1) "_law_asked" (spAsked K) := by
  refine T.d_l_asked.cal sc_l_asked (fun vs H Q E h => ?_) (fun f cdv A outer s H vs Q E hr h => ?_)
  · obtain ⟨v, vt, vu, told, t, u, F, b, rfl, _⟩ := h; rfl
  obtain ⟨v, vt, vu, told, t, u, F, b, rfl, r, rt, ru, hs, ht, hu, h1, h2, h3, h4, q⟩ := h
  have sc := @sc_l_asked
  refine ⟨_, (pss_cons (ps_if (pt_cmpR (op_eqK K hr) (pv 1) (pv 2) (nomark _)) (pss_one (ps_ret pe_bl)) pss_nil)
      (pss_cons (ps_set (i := 3) sc.nd rfl (Or.inl rfl) (pe_c c_l_walk hr (Nat.le_refl _) rfl (pa_cons (pv 0) (pa_cons (pv 1) (pa_cons (pv 2) pa_nil)))))
      (pss_cons (ps_set (i := 4) sc.nd rfl (Or.inl rfl) (pe_c c_walk hr (Nat.le_refl _) rfl (pa_cons (pv 0) (pa_cons (pv 1) (pa_cons (pv 2) pa_nil)))))
      (pss_cons (ps_if (PW.pt (pw_or (pt_not (pt_val (pe_callB (isi_K K) rfl T.n_isinstance bt_isinstance (pa_cons (pv 4) (pa_cons (pe_bltn (v := .ty "list") rfl T.n_list bt_list rfl) pa_nil))))) (pw_or1 (pt_cmpR (op_neK K hr) (pv 4) (pv 3) (nomark _))))) (pss_one (ps_ret pe_bl)) pss_nil)
      (pss_cons (ps_expr (bm0K K (pe_bm0 PySem.F.plainAttrs_list PySem.F.slot_list_reverse PySem.F.type_list_reverse mt_reverse (pv 4))))
      (pss_cons (ps_expr (bmK K (pe_bm PySem.F.plainAttrs_list PySem.F.slot_list_append PySem.F.type_list_append mt_append (pv 4) (pa_cons (pv 0) pa_nil))))
      (pss_one (ps_ret (pe_cmpR (op_eqK K hr) (pe_c c_walk hr (Nat.le_refl _) rfl (pa_cons (pv 0) (pa_cons (pv 1) (pa_cons (pv 2) pa_nil)))) (pv 3) (nomark _)))))))))), ?_⟩
  have dp1 := Th.depth_le t
  obtain ⟨lay, dep⟩ := walkT_lay (one := t) hs hu
  obtain ⟨_, hlen⟩ := walkT_ok (one := t) hs hu
  walk_at "r"
  refine eq_R rt ru (Th.layT t ht) (Th.layT u hu) (by omega) ?_
  cases he : PyData.eqv t.d u.d
  · walk_at "r"
    refine use_walk r rt ru hs ht hu (by omega) (by omega) (by omega) fun p1 H1 f1 s1 k1 => ?_
    walk_at "r"
    refine use_walk (r.mono s1) (rt.mono s1) (ru.mono s1) hs ht hu (by omega) (by omega) (by omega) fun p2 H2 f2 s2 k2 => ?_
    have e12 : p1 ≠ p2 := fresh_ne f2 k1
    have n2 : H1 p2 = none := f2
    have r1 := (k1.mono s2).R
    have r2 := k2.R
    walk_at "r"
    refine ne_R r2 r1 lay lay (by omega) ?_
    rw [SeqAt.eqv_refl _ lay]
    walk_at "r"
    refine k2.ty ?_
    refine rev_L k2 fun H3 x3 k3 => ?_
    have s13 : Same H1 H3 := SameX.same s2 x3 n2
    clear r1 r2 k2 s2
    walk_at "r"
    refine k3.ty ?_
    walk_at "r"
    have n1 := hlen
    refine app_L k3 (r.mono (s1.trans s13)) (by rw [List.length_reverse, ds_len]; omega) (Th.noL _) fun H4 x4 k4 => ?_
    have s14 : Same H1 H4 := SameX.same s13 x4 n2
    have s04 : Same H H4 := s1.trans s14
    have k1' := k1.mono s14
    clear s13 k3 k1 s1 s14 x3 x4
    walk_at "r"
    refine use_walk (r.mono s04) (rt.mono s04) (ru.mono s04) hs ht hu (by omega) (by omega) (by omega) fun p5 H5 f5 s5 k5 => ?_
    have r5 := k5.R
    have r1 := (k1'.mono s5).R
    have s05 := s04.trans s5
    clear s04 s5 k5 k1'
    walk_at "r"
    refine eq_R r5 r1 lay lay (by omega) ?_
    rw [SeqAt.eqv_refl _ lay]
    exact q _ s05
  · walk_at "r"
    exact q _ (by walk_at "S")

end
end G

end

section
/-! the words of the walk: S (a heap keeps), R (a value stands for data), A (a row of them), no (a way that cannot be), s (one step), r (all steps) -/
local macro_rules | `(tactic| walk_at "S") => `(tactic| first | exact L2.Same.refl _ | assumption | exact G.sm_tr (by assumption) (by walk_at "S"))
local macro_rules | `(tactic| walk_at "R") => `(tactic| first
  | with_reducible exact G.R.int _ | with_reducible exact G.R.str _ | with_reducible exact G.R.bl _ | with_reducible exact G.R.non
  | with_reducible assumption
  | exact G.r_mono (by with_reducible assumption) (by walk_at "S")
  | ((with_reducible refine' G.R.lst L2.upd_same ?rl); (case rl => walk_at "A")))
local macro_rules | `(tactic| walk_at "A") => `(tactic| first | with_reducible exact G.RA.nil | ((with_reducible refine' G.RA.cons ?ra ?rb); (case ra => walk_at "R"); (case rb => walk_at "A")))
local macro_rules | `(tactic| walk_at "no") => `(tactic| first | contradiction | omega)
local macro_rules | `(tactic| walk_at "side") => `(tactic| first | with_reducible rfl | with_reducible assumption | omega | exact Int.lt_of_lt_of_le (by with_reducible assumption) (by decide +kernel) | ((with_reducible refine G.le_up ?_); decide +kernel) | (simp only [List.length_cons, List.length_nil, List.getElem?_cons_zero, List.getElem?_cons_succ, List.length_map]; done) | (simp only [List.length_cons, List.length_nil, List.length_map, List.length_append] at *; omega))
local macro_rules | `(tactic| walk_at "sideC") => `(tactic| first | with_reducible assumption | (with_reducible refine G.cmul_r ⟨?_, ?_⟩ <;> decide) | (with_reducible refine G.cdiv_r ⟨?_, ?_⟩ <;> decide) | (with_reducible refine G.cmul_l ⟨?_, ?_⟩ <;> decide) | (with_reducible refine G.cpow_c ⟨?_, ?_, ?_⟩ <;> decide) | (with_reducible refine G.cmul_r ⟨?_, ?_⟩ <;> omega) | (with_reducible refine G.cdiv_r ⟨?_, ?_⟩ <;> omega) | omega)
local macro_rules | `(tactic| walk_at "got") => `(tactic| (intro v0 r0; first
  | (have e0 := G.R.inv_str r0; subst e0) | (have e0 := G.R.inv_int r0; subst e0) | (have e0 := G.R.inv_bl r0; subst e0) | (have e0 := G.R.inv_non r0; subst e0) | skip))
local macro_rules | `(tactic| walk_at "P") => `(tactic| first | with_reducible assumption | exact G.keep_at (by with_reducible assumption) (by walk_at "S"))
local macro_rules | `(tactic| walk_at "c") => `(tactic| fail)
local macro_rules | `(tactic| walk_at "Q") => `(tactic| first | with_reducible assumption | exact G.seq_keep (by with_reducible assumption) (by walk_at "S"))
local macro_rules | `(tactic| walk_at "c") => `(tactic| ((with_reducible refine' G.use_state ?hp ?h0 ?h1 ?_); (case hp => walk_at "Q"); (case h0 => walk_at "side"); (case h1 => walk_at "side"); intro p0 H0 s0 hp0))
local macro_rules | `(tactic| walk_at "c") => `(tactic| ((with_reducible refine' G.use_draw ?hp ?h0 ?h1 ?_); (case hp => walk_at "P"); (case h0 => walk_at "side"); (case h1 => walk_at "side"); intro r0 hr0 hr1))
local macro_rules | `(tactic| walk_at "s") => `(tactic| first
  | with_reducible refine G.st_seq ?_
  | ((with_reducible refine' G.st_var ?hv ?_); (case hv => exact rfl))
  | with_reducible refine G.st_c ?_
  | with_reducible refine G.st_op ?_
  | with_reducible refine G.st_bl ?_
  | with_reducible refine L2.iteT ?_
  | with_reducible refine L2.iteF ?_
  | with_reducible refine G.ite_nt ?_
  | with_reducible refine G.ite_nf ?_
  | ((with_reducible refine G.st_ite ?_ ?_) <;> (intro hb; (try simp only [decide_eq_true_eq, decide_eq_false_iff_not, Bool.not_eq_true', Bool.not_eq_false', beq_iff_eq, Bool.and_eq_true, Bool.or_eq_true, Bool.and_eq_false_iff, Bool.or_eq_false_iff, beq_eq_false_iff_ne, ne_eq, Int.not_lt, Int.not_le, Nat.not_lt, Nat.not_le] at hb); first | (exfalso; walk_at "no"; done) | skip))
  | with_reducible refine G.st_if ?_
  | with_reducible refine G.st_ret ?_
  | with_reducible refine G.st_set ?_
  | with_reducible refine G.st_call ?_
  | with_reducible refine G.st_cons ?_
  | with_reducible refine G.st_nil ?_
  | with_reducible refine G.st_CB ?_
  | with_reducible refine G.st_tTest ?_
  | with_reducible refine G.st_tB ?_
  | with_reducible refine G.st_or ?_
  | with_reducible refine G.st_and ?_
  | with_reducible refine G.st_not ?_
  | with_reducible refine G.st_orV ?_
  | with_reducible refine G.st_andV ?_
  | with_reducible refine G.st_notV ?_
  | with_reducible refine G.st_tIf ?_
  | with_reducible refine G.st_chain ?_
  | with_reducible refine G.st_un ?_
  | with_reducible refine G.st_then ?_
  | with_reducible refine G.st_slice ?_
  | with_reducible refine G.st_noPart ?_
  | with_reducible refine G.st_part ?_
  | with_reducible refine G.st_exInt ?_
  | with_reducible refine G.st_drop ?_
  | with_reducible refine G.st_next ?_
  | with_reducible refine G.st_retN ?_
  | with_reducible refine G.add_int ?_
  | with_reducible refine G.i0 ?_
  | ((with_reducible refine G.imod2 (by decide) ?_ ?_) <;> (intro hm; first | (exfalso; walk_at "no"; done) | skip))
  | ((with_reducible refine G.imod3 (by decide) ?_ ?_ ?_) <;> (intro hm; first | (exfalso; walk_at "no"; done) | skip))
  | ((with_reducible refine' G.iC ?hc ?_); (case hc => walk_at "sideC"))
  | ((with_reducible refine' G.eq_str1 ?e ?_); (case e => with_reducible rfl))
  | ((with_reducible refine' G.eq_str0 ?e ?_); (case e => decide +kernel))
  | with_reducible refine G.eq_str ?_
  | with_reducible refine G.eq_int ?_
  | with_reducible refine G.eq_bl ?_
  | with_reducible refine G.ne_str ?_
  | with_reducible refine G.ne_int ?_
  | ((with_reducible refine' G.is_none ?r ?_); (case r => walk_at "R"))
  | ((with_reducible refine' G.isnt_none ?r ?_); (case r => walk_at "R"))
  | with_reducible refine G.is_bl ?_
  | with_reducible refine G.isnt_bl ?_
  | with_reducible refine G.in_sign ?_
  | with_reducible refine G.nin_sign ?_
  | ((with_reducible refine' G.in_strsT1 ?r ?c ?e ?_); (case r => walk_at "R"); (case c => rfl); (case e => decide +kernel))
  | ((with_reducible refine' G.in_strsT0 ?r ?c ?e ?_); (case r => walk_at "R"); (case c => rfl); (case e => decide +kernel))
  | ((with_reducible refine' G.in_strsT ?r ?c ?_); (case r => walk_at "R"); (case c => rfl))
  | ((with_reducible refine' G.nin_strsT ?r ?c ?_); (case r => walk_at "R"); (case c => rfl))
  | ((with_reducible refine' G.in_intsT ?r ?c ?_); (case r => walk_at "R"); (case c => rfl))
  | ((with_reducible refine' G.nin_intsT ?r ?c ?_); (case r => walk_at "R"); (case c => rfl))
  | ((with_reducible refine' G.add_str ?l ?_); (case l => walk_at "side"))
  | ((with_reducible refine' G.add_tup ?r ?s ?l ?_); (case r => walk_at "R"); (case s => walk_at "R"); (case l => walk_at "side"); intro v0 H0 s0 r0)
  | ((with_reducible refine' G.add_lst ?r ?s ?l ?_); (case r => walk_at "R"); (case s => walk_at "R"); (case l => walk_at "side"); intro v0 H0 s0 r0)
  | ((with_reducible refine' G.isi_1 ?r ?e ?t ?_); (case r => walk_at "R"); (case e => rfl); (case t => simp only [List.mem_cons, true_or, or_true]))
  | ((with_reducible refine' G.isi_0 ?r ?e ?t ?_); (case r => walk_at "R"); (case e => rfl); (case t => simp only [List.mem_cons, true_or, or_true]))
  | ((with_reducible refine' G.isi_R ?r ?t ?_); (case r => walk_at "R"); (case t => simp only [List.mem_cons, true_or, or_true]))
  | ((with_reducible refine' G.len_str ?l ?_); (case l => walk_at "side"))
  | ((with_reducible refine' G.len_tup ?r ?_); (case r => walk_at "R"))
  | ((with_reducible refine' G.len_lst ?r ?_); (case r => walk_at "R"))
  | (with_reducible refine G.st_tup ?_)
  | (with_reducible refine G.st_lst ?_)
  | ((with_reducible refine' G.st_newT ?r ?l ?_); (case r => walk_at "A"); (case l => first | exact Nat.le_of_ble_eq_true rfl | walk_at "side"); intro v0 H0 s0 r0)
  | ((with_reducible refine' G.st_newL ?r ?l ?_); (case r => walk_at "A"); (case l => first | exact Nat.le_of_ble_eq_true rfl | walk_at "side"); intro v0 H0 s0 r0)
  | ((with_reducible refine' G.ix_tupR ?r ?h0 ?hd ?_); (case r => walk_at "R"); (case h0 => walk_at "side"); (case hd => first | rfl | assumption); walk_at "got")
  | ((with_reducible refine' G.ix_lstR ?r ?h0 ?hd ?_); (case r => walk_at "R"); (case h0 => walk_at "side"); (case hd => first | rfl | assumption); walk_at "got")
  | ((with_reducible refine' G.ix_strR ?l ?h0 ?hd ?_); (case l => walk_at "side"); (case h0 => walk_at "side"); (case hd => first | rfl | assumption))
  | ((with_reducible refine' G.ix_strM ?l ?h0 ?h1 ?_); (case l => walk_at "side"); (case h0 => walk_at "side"); (case h1 => walk_at "side"); intro c0 hc0)
  | ((with_reducible refine' G.ix_tupN ?r ?h0 ?h1 ?_); (case r => walk_at "R"); (case h0 => walk_at "side"); (case h1 => walk_at "side"); intro v0 d0 hd0 r0)
  | ((with_reducible refine' G.ix_lstS ?r ?h0 ?h1 ?_); (case r => walk_at "R"); (case h0 => walk_at "side"); (case h1 => walk_at "side"); intro z0 hz0)
  | ((with_reducible refine' G.ix_lstN ?r ?h0 ?h1 ?_); (case r => walk_at "R"); (case h0 => walk_at "side"); (case h1 => walk_at "side"); intro v0 d0 hd0 r0)
  | ((with_reducible refine' G.sl_strR ?l ?_); (case l => walk_at "side"))
  | ((with_reducible refine' G.sl_tupR ?r ?_); (case r => walk_at "R"); intro v0 H0 s0 r0)
  | ((with_reducible refine' G.sl_lstR ?r ?_); (case r => walk_at "R"); intro v0 H0 s0 r0)
  | ((with_reducible refine' G.tupOf_L ?r ?_); (case r => walk_at "R"); intro v0 H0 s0 r0)
  | ((with_reducible refine' G.tupOf_T ?r ?_); (case r => walk_at "R"))
  | ((with_reducible refine' G.lstOf_T ?r ?_); (case r => walk_at "R"); intro v0 H0 s0 r0)
  | ((with_reducible refine' G.lstOf_L ?r ?_); (case r => walk_at "R"); intro v0 H0 s0 r0)
  | with_reducible refine G.st_lcL ?_
  | with_reducible refine G.st_lcT ?_
  | with_reducible refine G.st_lcS ?_
  | with_reducible refine G.st_lcR ?_
  | with_reducible refine G.st_M0 ?_
  | with_reducible refine G.st_M1 ?_
  | (with_reducible refine G.upper_one ?_; intro hu0)
  | ((with_reducible refine' G.upper_R ?l ?_); (case l => walk_at "side"))
  | (with_reducible refine G.st_strAnd ?_)
  | (with_reducible refine G.st_sub ?_)
  | ((with_reducible refine' G.set_20 ?hp ?_); (case hp => first | exact L2.upd_same | walk_at "P"))
  | ((with_reducible refine' G.set_21 ?hp ?_); (case hp => first | exact L2.upd_same | walk_at "P"))
  | ((with_reducible refine' G.set_at ?hp ?hi ?_); (case hp => first | exact L2.upd_same | walk_at "P"); (case hi => rfl))
  | with_reducible refine G.st_lst2 ?_
  | with_reducible refine G.st_shut ?_
  | with_reducible refine G.st_forR ?_
  | ((with_reducible refine' G.len_scr ?s ?_); (case s => walk_at "Q"))
  | ((with_reducible refine' G.ix_scr ?s ?h0 ?h1 ?_); (case s => walk_at "Q"); (case h0 => walk_at "side"); (case h1 => walk_at "side"); intro n0)
  | ((with_reducible refine' G.sl_scr ?s ?_); (case s => walk_at "Q"); intro v0 H0 s0 r0)
  | (with_reducible refine' G.st_disp1 ?_; intro v0 H0 s0 r0)
  | walk_at "c"
  | fail "no step")
local macro_rules | `(tactic| walk_at "r") => `(tactic| repeat' (walk_at "s"))

local macro_rules | `(tactic| walk_at "side") => `(tactic| first | exact G.nm_a (by with_reducible assumption) | exact G.fm_a (by with_reducible assumption) | exact G.nm_b (by with_reducible assumption) | exact G.nm_c (by with_reducible assumption) | fail)
local macro_rules | `(tactic| walk_at "c") => `(tactic| ((with_reducible refine' G.use_name ?hp ?_); (case hp => walk_at "P"); intro z0 H0 s0 hz0))
local macro_rules | `(tactic| walk_at "c") => `(tactic| ((with_reducible refine' G.use_form ?hp ?_); (case hp => walk_at "P"); intro z0 H0 s0 hz0))
local macro_rules | `(tactic| walk_at "c") => `(tactic| ((with_reducible refine' G.use_pool ?hp ?_); (case hp => walk_at "P"); intro v0 fs0 gs0 ns0 H0 s0 ok0 r0))
local macro_rules | `(tactic| walk_at "c") => `(tactic| ((with_reducible refine' G.use_leaf ?hp ?r ?ok ?h0 ?h1 ?_); (case hp => walk_at "P"); (case r => walk_at "R"); (case ok => with_reducible assumption); (case h0 => walk_at "side"); (case h1 => walk_at "side"); intro v0 t0 H0 s0 r0 ht0 hd0 hs0))
local macro_rules | `(tactic| walk_at "c") => `(tactic| ((with_reducible refine' G.use_term ?hp ?r ?ok ?h0 ?h1 ?e0 ?e1 ?_); (case hp => walk_at "P"); (case r => walk_at "R"); (case ok => with_reducible assumption); (case h0 => walk_at "side"); (case h1 => walk_at "side"); (case e0 => walk_at "side"); (case e1 => walk_at "side"); intro v0 t0 H0 s0 r0 ht0 hd0 hs0))
local macro_rules | `(tactic| walk_at "c") => `(tactic| ((with_reducible refine' G.use_tall ?hp ?r ?ok ?rt ?ht ?h0 ?h1 ?_); (case hp => walk_at "P"); (case r => walk_at "R"); (case ok => with_reducible assumption); (case rt => walk_at "R"); (case ht => with_reducible assumption); (case h0 => walk_at "side"); (case h1 => walk_at "side"); intro v0 t0 H0 s0 r0 ht0 hd0 hs0))
local macro_rules | `(tactic| walk_at "c") => `(tactic| ((with_reducible refine' G.use_anyT ?hp ?r ?ok ?h0 ?h1 ?_); (case hp => walk_at "P"); (case r => walk_at "R"); (case ok => with_reducible assumption); (case h0 => walk_at "side"); (case h1 => walk_at "side"); intro v0 t0 H0 s0 r0 ht0 hd0 hs0))

local macro_rules | `(tactic| walk_at "w") => `(tactic| first
  | with_reducible refine G.st_BM0 ?_
  | with_reducible refine G.st_BM ?_
  | ((with_reducible refine' G.st_tyl ?hl ?_); (case hl => walk_at "P"))
  | ((with_reducible refine' G.popR ?hl ?ra ?hn ?_); (case hl => walk_at "P"); (case ra => with_reducible assumption); (case hn => with_reducible assumption); intro v0 ws0 H0 x0 hl0 ra0 r0)
  | ((with_reducible refine' G.extR ?hl ?ra ?r ?hz ?hn ?hn' ?_); (case hl => walk_at "P"); (case ra => first | with_reducible assumption | exact G.ra_mono (by with_reducible assumption) (by walk_at "S")); (case r => walk_at "R"); (case hz => walk_at "side"); (case hn => walk_at "nol"); (case hn' => walk_at "nol"); intro ws0 H0 x0 hl0 ra0)
  | ((with_reducible refine' G.gtup2 ?r ?_); (case r => walk_at "R"); intro v1 v2 r1 r2)
  | with_reducible refine G.st_asgT ?_
  | with_reducible refine G.int_bl ?_
  | with_reducible refine G.max_2 ?_
  | ((with_reducible refine' G.st_aug ?hx ?_); (case hx => rfl))
  | with_reducible refine G.ipI_int ?_
  | with_reducible refine G.whB ?_
  | with_reducible refine G.st_lstF ?_
  | ((with_reducible refine' G.st_newLF ?r ?l ?_); (case r => walk_at "A"); (case l => first | exact Nat.le_of_ble_eq_true rfl | walk_at "side"); intro p0 H0 f0 s0 hl0 ra0)
  | fail "no step")
local macro_rules | `(tactic| walk_at "nol") => `(tactic| first | with_reducible assumption | rfl | exact G.Th.noL _ | exact G.Th.noLs _)
local macro_rules | `(tactic| walk_at "c") => `(tactic| walk_at "w")

local macro_rules | `(tactic| walk_at "c") => `(tactic| first
  | with_reducible refine G.neg_i ?_
  | with_reducible refine G.st_BMs ?_
  | with_reducible refine G.st_tys ?_
  | with_reducible refine G.st_gcons ?_
  | with_reducible refine G.st_gnil ?_
  | with_reducible refine G.st_gname ?_
  | with_reducible refine G.st_gsub ?_
  | ((with_reducible refine' G.iC ?hc ?_); (case hc => show (0 : Int) < _; decide +kernel))
  | ((with_reducible refine' G.ix_scrLast ?hs ?h1 ?_); (case hs => walk_at "Q"); (case h1 => walk_at "side"); intro n0)
  | ((with_reducible refine' G.divmodR ?h0 ?h1 ?_); (case h0 => walk_at "side"); (case h1 => walk_at "side"); intro p0 H0 f0 e0)
  | (with_reducible refine G.absR ?_; intro j0)
  | fail "no step")

local macro_rules | `(tactic| walk_at "B") => `(tactic| first | with_reducible assumption | exact G.bk_keep (by with_reducible assumption) (by walk_at "S"))
local macro_rules | `(tactic| walk_at "c") => `(tactic| first
  | ((with_reducible refine' G.use_nextU ?hp ?h0 ?h1 ?_); (case hp => walk_at "P"); (case h0 => walk_at "side"); (case h1 => walk_at "side"); intro r0 H0 s0 hr0 hr1)
  | ((with_reducible refine' G.ix_b1 ?h ?_); (case h => walk_at "B"); intro af0 lb0 lc0 hf0 rb0 rc0)
  | ((with_reducible refine' G.ix_b2 ?h ?_); (case h => walk_at "B"); intro v0 r0)
  | ((with_reducible refine' G.ix_b3 ?h ?_); (case h => walk_at "B"); intro v0 r0)
  | ((with_reducible refine' G.ix_b5 ?h ?_); (case h => walk_at "B"); intro v0 r0)
  | with_reducible refine G.st_dget ?_
  | with_reducible refine G.st_dget2 ?_
  | with_reducible refine G.st_lcLT ?_
  | with_reducible refine G.st_lcET ?_
  | with_reducible refine G.st_lcETT ?_
  | with_reducible refine G.st_forL ?_
  | with_reducible refine G.st_forE ?_
  | with_reducible refine G.st_forT ?_
  | fail "no step")
local macro_rules | `(tactic| walk_at "u") => `(tactic| repeat' ((fail_if_success (with_reducible refine G.st_if ?_)); walk_at "s"))
local macro_rules | `(tactic| walk_at "c") => `(tactic| (with_reducible refine G.minR ?_; intro m0 hm0 hm1 hm2))

local macro_rules | `(tactic| walk_at "c") => `(tactic| first
  | with_reducible refine G.st_forEL ?_
  | fail "no step")

namespace G
open PySem PySem.Spec PyProof.Rows L2
section
variable {P : Program} {w : World} {K : PySem.W.Frag} {mg : Str → Option Value} {base : Heap} {k n : Nat}
theorem use_placesT {H : Hp} {Q : VK} {E : XK} {v vo : V} {t one : Th} {F : List Str} (r : R K H v t.d) (ro : R K H vo one.d) (ht : t.isS F 0) (ho : one.isT F 0) (hd : t.dep ≤ 50) (hd2 : one.dep ≤ 90) (hz : t.sz ≤ 400000)
    (h : ∀ H', Same H H' → Q (.int ((t.termsOf.map fun p => (p.spots one).length).sum : Nat)) H') : spPlacesT K [v, vo] H Q E :=
  ⟨v, vo, t, one, F, 0, rfl, r, ro, ht, fun p hp => ⟨Th.isT_mono (by omega) (Th.termsOf_ok t ht p hp).1, by have := (Th.termsOf_ok t ht p hp).2.1; omega⟩, Th.isT_mono (Nat.zero_le _) ho, by omega, hd2, hz, h⟩
theorem ok_l_drawn (T : Tp K mg) (c_l_said : Cal P w K mg base k "_law_said" (spSaid K 4)) (c_l_planted : Cal P w K mg base k "_law_planted" (spPlant K 20)) (c_l_terms : Cal P w K mg base k "_law_terms" (spTermsOf K 90)) (c_l_nodes : Cal P w K mg base k "_law_nodes" (spNodesT K 90)) (c_l_places : Cal P w K mg base k "_law_places" (spPlacesT K)) : Cal P w K mg base (k + 1) "_law_drawn" (spDrawn K) := by
  refine T.d_l_drawn.cal sc_l_drawn (fun vs H Q E h => ?_) (fun f cdv A outer s H vs Q E hr h => ?_)
  · obtain ⟨p, v, vth, vt, vu, g, xs, x, k, t, u, rfl, _⟩ := h; rfl
  obtain ⟨p, v, vth, vt, vu, g, xs, x, kk, t, u, rfl, hp, hb, ok, hw, rth, hl, hn, hx, rt, ru, ht, hu, h1, h2, h3, h4, q⟩ := h
  have sc := @sc_l_drawn
  refine ⟨_, (pss_cons (ps_for PassesOwn.never rfl (pi_tupK K (pe_tupK K (pa_cons pe_int (pa_cons pe_int (pa_cons pe_int pa_nil))))) (pg_name (i := 7) sc.nd rfl (Or.inl rfl)) (pss_cons (ps_set (i := 8) sc.nd rfl (Or.inl rfl) (pe_c c_l_planted hr (Nat.le_refl _) rfl (pa_cons (pe_c c_l_said hr (Nat.le_refl _) rfl (pa_cons (pv 0) (pa_cons (pv 1) (pa_cons (pe_op (op_addK K) (pv 2) (pe_op op_rep (pe_lstK K (pa_cons (pe_tupK K (pa_cons (pv 3) (pa_cons (pv 4) pa_nil))) pa_nil)) pe_int)) (pa_cons (pe_lstK K pa_nil) (pa_cons (pv 7) pa_nil)))))) (pa_cons (pv 3) (pa_cons (pv 5) pa_nil)))))
      (pss_cons (ps_set (i := 9) sc.nd rfl (Or.inl rfl) (pe_callB (sum_K K rfl) rfl T.n_sum bt_sum (pa_cons (pe_lc (own := [("_law_one", 11)]) (g := gName 11) (tt := tYes) rfl sc.nd (pi_listK K (pe_c c_l_terms hr (Nat.le_refl _) rfl (pa_cons (pv 8) pa_nil))) (blkOk_by (N := n_l_drawn) (sc := defScope s_l_drawn) (by decide +kernel)) (fun _ _ _ _ _ => pg_name (i := 11) sc.nd rfl (Or.inl rfl)) (fun _ _ _ _ _ => pts_nil) (fun _ _ _ _ _ => pe_hide (pe_c c_l_nodes hr (Nat.le_refl _) rfl (pa_cons (pv 11) pa_nil)))) pa_nil)))
      (pss_cons (ps_set (i := 10) sc.nd rfl (Or.inl rfl) (pe_op (op_addK K) (pe_op op_mul (pe_c c_l_places hr (Nat.le_refl _) rfl (pa_cons (pv 8) (pa_cons (pv 5) pa_nil))) (pe_op (op_addK K) pe_int (pe_c c_l_nodes hr (Nat.le_refl _) rfl (pa_cons (pv 6) pa_nil)))) (pe_op op_mul (pe_c c_l_places hr (Nat.le_refl _) rfl (pa_cons (pv 8) (pa_cons (pv 6) pa_nil))) (pe_op (op_addK K) pe_int (pe_c c_l_nodes hr (Nat.le_refl _) rfl (pa_cons (pv 5) pa_nil))))))
      (pss_one (ps_if (PW.pt (pw_and (pt_cmpR op_le (pv 9) pe_int (nomark _)) (pw_and1 (pt_cmpR op_le (pv 10) pe_int (nomark _))))) (pss_one (ps_ret (pv 8))) pss_nil))))))
      (pss_one (ps_ret (pe_tupK K (pa_cons pe_str (pa_cons (pv 5) (pa_cons (pv 5) pa_nil))))))), ?_⟩
  walk_at "r"
  rename_i vr H1 s1 r1
  replace hp := s1 _ _ hp
  replace hb := bk_keep hb s1
  replace rth := rth.mono s1
  replace rt := rt.mono s1
  replace ru := ru.mono s1
  replace q := fun y told H' s => q y told H' (s1.trans s)
  clear s1
  refine for_T (fun _ σ' H' => Same H1 H' ∧ ∃ x1 x2 x3 x4 x5 : Option V, σ' = [some (.ref p), some v, some vth, some (.str x), some (.str kk), some vt, some vu, x1, x2, x3, x4, x5]) r1 ⟨Same.refl _, _, _, _, _, _, rfl⟩ (fun k σ' H' h => ?_) ?_ ?_
  · exact h.1
  · rintro i d vd σ' H2 hd' rd ⟨s2, x1, x2, x3, x4, x5, rfl⟩
    have hroom : ∃ e : Nat, e ≤ 3 ∧ d = .int (e : Nat) := by
      match i, hd' with
      | 0, h => exact ⟨3, by decide, (Option.some.inj h).symm⟩
      | 1, h => exact ⟨2, by decide, (Option.some.inj h).symm⟩
      | 2, h => exact ⟨1, by decide, (Option.some.inj h).symm⟩
      | n + 3, h => simp at h
    obtain ⟨e, he, rfl⟩ := hroom
    obtain rfl := rd.inv_int
    clear r1
    walk_at "r"
    rename_i v3 H3 s3 r3 v4 H4 s4 r4
    refine repR r4 (by decide) (by simp) (by decide) fun v5 H5 s5 r5 => ?_
    have r5' : R K H5 v5 (.list [thingD (x, kk), thingD (x, kk)]) := r5
    have s25 : Same H1 H5 := s2.trans ((s3.trans s4).trans s5)
    have hxl : (xs.map thingD).length + [thingD (x, kk), thingD (x, kk)].length ≤ 1000000 := by rw [List.length_map]; simp; omega
    have rth5 := rth.mono s25
    clear s2 s3 s4 s5 r3 r4 r5
    walk_at "r"
    rename_i v6 H6 s6 r6 v7 H7 s7 r7
    have s27 : Same H1 H7 := s25.trans (s6.trans s7)
    have r6' : R K H7 v6 (.list ((xs ++ [(x, kk), (x, kk)]).map thingD)) := by rw [List.map_append]; exact r6.mono s7
    have hn' : ∀ y ∈ xs ++ [(x, kk), (x, kk)], isNameS y.1 = true := fun y hy => by
      rcases List.mem_append.mp hy with hy | hy
      · exact hn y hy
      · simp only [List.mem_cons, List.not_mem_nil, or_false, or_self] at hy; rw [hy]; exact hx
    refine use_said (is := []) (s27 _ _ hp) (bk_keep hb s27) ok hw r6' r7 (by rw [List.length_append]; simp; omega) (by simp; omega) hn' (by omega) (by omega) fun u8 td H8 s8 r8 hk8 hd8 hz8 => ?_
    have hS : td.isS (x :: xs.map (·.1)) 0 := Th.isS_sub (fun z hz => by
      rw [List.map_append] at hz
      rcases List.mem_append.mp hz with hz | hz
      · exact List.mem_cons_of_mem _ hz
      · simp only [List.map_cons, List.map_nil, List.mem_cons, List.not_mem_nil, or_false, or_self] at hz; rw [hz]; exact List.mem_cons_self ..) td (Th.kS_isS ok hn' td hk8)
    have hze : szD ((e : Int).toNat) ≤ 1711 := by
      rw [Int.toNat_natCast]
      match e, he with
      | 0, _ => decide
      | 1, _ => decide
      | 2, _ => decide
      | 3, _ => decide
    have s28 : Same H1 H8 := s27.trans s8
    clear s25 s6 s7 r6 r7 r6' s27 s8 r5' rth5
    walk_at "r"
    refine use_plant r8 (rt.mono s28) hx (Th.layS td hS) (by omega) (by omega) fun v9 H9 s9 r9 => ?_
    have hT := Th.plant_isS ht td hS
    have hTd := Th.plant_dep x t td
    have hTz := Th.plant_sz x t td
    have hTz2 : td.sz * t.sz ≤ 1711 * 53 := Nat.mul_le_mul (by omega) h2
    have s29 : Same H1 H9 := s28.trans s9
    generalize td.plant x t = tp at *
    clear r8 s28 s9
    have htl := Th.termsOf_len tp hT
    walk_at "r"
    have eσ : (([some (V.ref p), some v, some vth, some (V.str x), some (V.str kk), some vt, some vu, x1, x2, x3, x4, x5] : L2.St).set 7 (some (V.int ↑e))).set 8 (some v9) = [some (V.ref p), some v, some vth, some (V.str x), some (V.str kk), some vt, some vu, some (V.int ↑e), some v9, x3, x4, x5] := rfl
    rw [eσ]
    refine use_termsOf r9 hT (by omega) (by omega) fun y10 H10 s10 r10 => ?_
    refine lc_L (K := K) (fun i e' => ∃ p : Th, tp.termsOf[i]? = some p ∧ e' = .int (p.sz : Nat)) r10 (by rw [ds_len]; omega) (fun _ => rfl) (fun i v d H13 hd' rv s13 Qt hQ => ?_) (fun v13 H13 es s13 r13 hl13 hP13 => ?_)
    · rw [Th.ds_map, List.getElem?_map] at hd'
      obtain ⟨p', hp', rfl⟩ := Option.map_eq_some_iff.mp hd'
      have hpo := Th.termsOf_ok tp hT p' (List.mem_of_getElem? hp')
      clear r10 s10 s29 r9
      walk_at "r"
      refine use_nodesT rv hpo.1 (by omega) (by omega) fun H14 s14 => ?_
      exact hQ _ _ _ s14 (R.int _) ⟨p', hp', rfl⟩
    have e13 : es = (tp.termsOf.map fun p => ((p.sz : Nat) : Int)).map PyData.int := by
      rw [List.map_map]
      exact list_of_at (by rw [hl13, ds_len]) fun i e h => hP13 i e h
    subst e13
    have s213 : Same H1 H13 := (s29.trans s10).trans s13
    have r9' := r9.mono (s10.trans s13)
    clear s29 s10 s13 r9 r10
    walk_at "r"
    refine sum_R r13 ?_
    rw [sum_sz']
    walk_at "r"
    refine use_placesT r9' (rt.mono s213) hT ht (by omega) (by omega) (by omega) fun H14 s14 => ?_
    have s214 := s213.trans s14
    have r14 := r9'.mono s14
    clear s213 s14 r9' r13
    walk_at "r"
    refine use_nodesT (ru.mono s214) hu (by omega) (by omega) fun H15 s15 => ?_
    have s215 := s214.trans s15
    have r15 := r14.mono s15
    clear s214 s15 r14
    walk_at "r"
    refine use_placesT r15 (ru.mono s215) hT hu (by omega) (by omega) (by omega) fun H16 s16 => ?_
    have s216 := s215.trans s16
    have r16 := r15.mono s16
    clear s215 s16 r15
    walk_at "r"
    refine use_nodesT (rt.mono s216) ht (by omega) (by omega) fun H17 s17 => ?_
    have s217 := s216.trans s17
    have r17 := r16.mono s17
    clear s216 s17 r16
    walk_at "r"
    · exact q _ _ _ s217 r17 hT (by omega) (by omega)
    · exact ⟨s217, _, _, _, _, _, rfl⟩
    · exact ⟨s217, _, _, _, _, _, rfl⟩
  · rintro σ' H2 ⟨s2, x1, x2, x3, x4, x5, rfl⟩
    clear r1
    walk_at "r"
    rename_i v0 H3 s3 r3
    exact q _ (.two .same t t) _ (s2.trans s3) r3 ⟨ht, ht⟩ (by simp only [Th.dep]; omega) (by simp only [Th.sz]; omega)

end
end G

end

/-! the words of the walk: S (a heap keeps), R (a value stands for data), A (a row of them), no (a way that cannot be), s (one step), r (all steps) -/
local macro_rules | `(tactic| walk_at "S") => `(tactic| first | exact L2.Same.refl _ | assumption | exact G.sm_tr (by assumption) (by walk_at "S"))
local macro_rules | `(tactic| walk_at "R") => `(tactic| first
  | with_reducible exact G.R.int _ | with_reducible exact G.R.str _ | with_reducible exact G.R.bl _ | with_reducible exact G.R.non
  | with_reducible assumption
  | exact G.r_mono (by with_reducible assumption) (by walk_at "S")
  | ((with_reducible refine' G.R.lst L2.upd_same ?rl); (case rl => walk_at "A")))
local macro_rules | `(tactic| walk_at "A") => `(tactic| first | with_reducible exact G.RA.nil | ((with_reducible refine' G.RA.cons ?ra ?rb); (case ra => walk_at "R"); (case rb => walk_at "A")))
local macro_rules | `(tactic| walk_at "no") => `(tactic| first | contradiction | omega)
local macro_rules | `(tactic| walk_at "side") => `(tactic| first | with_reducible rfl | with_reducible assumption | omega | exact Int.lt_of_lt_of_le (by with_reducible assumption) (by decide +kernel) | ((with_reducible refine G.le_up ?_); decide +kernel) | (simp only [List.length_cons, List.length_nil, List.getElem?_cons_zero, List.getElem?_cons_succ, List.length_map]; done) | (simp only [List.length_cons, List.length_nil, List.length_map, List.length_append] at *; omega))
local macro_rules | `(tactic| walk_at "sideC") => `(tactic| first | with_reducible assumption | (with_reducible refine G.cmul_r ⟨?_, ?_⟩ <;> decide) | (with_reducible refine G.cdiv_r ⟨?_, ?_⟩ <;> decide) | (with_reducible refine G.cmul_l ⟨?_, ?_⟩ <;> decide) | (with_reducible refine G.cpow_c ⟨?_, ?_, ?_⟩ <;> decide) | (with_reducible refine G.cmul_r ⟨?_, ?_⟩ <;> omega) | (with_reducible refine G.cdiv_r ⟨?_, ?_⟩ <;> omega) | omega)
local macro_rules | `(tactic| walk_at "got") => `(tactic| (intro v0 r0; first
  | (have e0 := G.R.inv_str r0; subst e0) | (have e0 := G.R.inv_int r0; subst e0) | (have e0 := G.R.inv_bl r0; subst e0) | (have e0 := G.R.inv_non r0; subst e0) | skip))
local macro_rules | `(tactic| walk_at "P") => `(tactic| first | with_reducible assumption | exact G.keep_at (by with_reducible assumption) (by walk_at "S"))
local macro_rules | `(tactic| walk_at "c") => `(tactic| fail)
local macro_rules | `(tactic| walk_at "Q") => `(tactic| first | with_reducible assumption | exact G.seq_keep (by with_reducible assumption) (by walk_at "S"))
local macro_rules | `(tactic| walk_at "c") => `(tactic| ((with_reducible refine' G.use_state ?hp ?h0 ?h1 ?_); (case hp => walk_at "Q"); (case h0 => walk_at "side"); (case h1 => walk_at "side"); intro p0 H0 s0 hp0))
local macro_rules | `(tactic| walk_at "c") => `(tactic| ((with_reducible refine' G.use_draw ?hp ?h0 ?h1 ?_); (case hp => walk_at "P"); (case h0 => walk_at "side"); (case h1 => walk_at "side"); intro r0 hr0 hr1))
local macro_rules | `(tactic| walk_at "s") => `(tactic| first
  | with_reducible refine G.st_seq ?_
  | ((with_reducible refine' G.st_var ?hv ?_); (case hv => exact rfl))
  | with_reducible refine G.st_c ?_
  | with_reducible refine G.st_op ?_
  | with_reducible refine G.st_bl ?_
  | with_reducible refine L2.iteT ?_
  | with_reducible refine L2.iteF ?_
  | with_reducible refine G.ite_nt ?_
  | with_reducible refine G.ite_nf ?_
  | ((with_reducible refine G.st_ite ?_ ?_) <;> (intro hb; (try simp only [decide_eq_true_eq, decide_eq_false_iff_not, Bool.not_eq_true', Bool.not_eq_false', beq_iff_eq, Bool.and_eq_true, Bool.or_eq_true, Bool.and_eq_false_iff, Bool.or_eq_false_iff, beq_eq_false_iff_ne, ne_eq, Int.not_lt, Int.not_le, Nat.not_lt, Nat.not_le] at hb); first | (exfalso; walk_at "no"; done) | skip))
  | with_reducible refine G.st_if ?_
  | with_reducible refine G.st_ret ?_
  | with_reducible refine G.st_set ?_
  | with_reducible refine G.st_call ?_
  | with_reducible refine G.st_cons ?_
  | with_reducible refine G.st_nil ?_
  | with_reducible refine G.st_CB ?_
  | with_reducible refine G.st_tTest ?_
  | with_reducible refine G.st_tB ?_
  | with_reducible refine G.st_or ?_
  | with_reducible refine G.st_and ?_
  | with_reducible refine G.st_not ?_
  | with_reducible refine G.st_orV ?_
  | with_reducible refine G.st_andV ?_
  | with_reducible refine G.st_notV ?_
  | with_reducible refine G.st_tIf ?_
  | with_reducible refine G.st_chain ?_
  | with_reducible refine G.st_un ?_
  | with_reducible refine G.st_then ?_
  | with_reducible refine G.st_slice ?_
  | with_reducible refine G.st_noPart ?_
  | with_reducible refine G.st_part ?_
  | with_reducible refine G.st_exInt ?_
  | with_reducible refine G.st_drop ?_
  | with_reducible refine G.st_next ?_
  | with_reducible refine G.st_retN ?_
  | with_reducible refine G.add_int ?_
  | with_reducible refine G.i0 ?_
  | ((with_reducible refine G.imod2 (by decide) ?_ ?_) <;> (intro hm; first | (exfalso; walk_at "no"; done) | skip))
  | ((with_reducible refine G.imod3 (by decide) ?_ ?_ ?_) <;> (intro hm; first | (exfalso; walk_at "no"; done) | skip))
  | ((with_reducible refine' G.iC ?hc ?_); (case hc => walk_at "sideC"))
  | ((with_reducible refine' G.eq_str1 ?e ?_); (case e => with_reducible rfl))
  | ((with_reducible refine' G.eq_str0 ?e ?_); (case e => decide +kernel))
  | with_reducible refine G.eq_str ?_
  | with_reducible refine G.eq_int ?_
  | with_reducible refine G.eq_bl ?_
  | with_reducible refine G.ne_str ?_
  | with_reducible refine G.ne_int ?_
  | ((with_reducible refine' G.is_none ?r ?_); (case r => walk_at "R"))
  | ((with_reducible refine' G.isnt_none ?r ?_); (case r => walk_at "R"))
  | with_reducible refine G.is_bl ?_
  | with_reducible refine G.isnt_bl ?_
  | with_reducible refine G.in_sign ?_
  | with_reducible refine G.nin_sign ?_
  | ((with_reducible refine' G.in_strsT1 ?r ?c ?e ?_); (case r => walk_at "R"); (case c => rfl); (case e => decide +kernel))
  | ((with_reducible refine' G.in_strsT0 ?r ?c ?e ?_); (case r => walk_at "R"); (case c => rfl); (case e => decide +kernel))
  | ((with_reducible refine' G.in_strsT ?r ?c ?_); (case r => walk_at "R"); (case c => rfl))
  | ((with_reducible refine' G.nin_strsT ?r ?c ?_); (case r => walk_at "R"); (case c => rfl))
  | ((with_reducible refine' G.in_intsT ?r ?c ?_); (case r => walk_at "R"); (case c => rfl))
  | ((with_reducible refine' G.nin_intsT ?r ?c ?_); (case r => walk_at "R"); (case c => rfl))
  | ((with_reducible refine' G.add_str ?l ?_); (case l => walk_at "side"))
  | ((with_reducible refine' G.add_tup ?r ?s ?l ?_); (case r => walk_at "R"); (case s => walk_at "R"); (case l => walk_at "side"); intro v0 H0 s0 r0)
  | ((with_reducible refine' G.add_lst ?r ?s ?l ?_); (case r => walk_at "R"); (case s => walk_at "R"); (case l => walk_at "side"); intro v0 H0 s0 r0)
  | ((with_reducible refine' G.isi_1 ?r ?e ?t ?_); (case r => walk_at "R"); (case e => rfl); (case t => simp only [List.mem_cons, true_or, or_true]))
  | ((with_reducible refine' G.isi_0 ?r ?e ?t ?_); (case r => walk_at "R"); (case e => rfl); (case t => simp only [List.mem_cons, true_or, or_true]))
  | ((with_reducible refine' G.isi_R ?r ?t ?_); (case r => walk_at "R"); (case t => simp only [List.mem_cons, true_or, or_true]))
  | ((with_reducible refine' G.len_str ?l ?_); (case l => walk_at "side"))
  | ((with_reducible refine' G.len_tup ?r ?_); (case r => walk_at "R"))
  | ((with_reducible refine' G.len_lst ?r ?_); (case r => walk_at "R"))
  | (with_reducible refine G.st_tup ?_)
  | (with_reducible refine G.st_lst ?_)
  | ((with_reducible refine' G.st_newT ?r ?l ?_); (case r => walk_at "A"); (case l => first | exact Nat.le_of_ble_eq_true rfl | walk_at "side"); intro v0 H0 s0 r0)
  | ((with_reducible refine' G.st_newL ?r ?l ?_); (case r => walk_at "A"); (case l => first | exact Nat.le_of_ble_eq_true rfl | walk_at "side"); intro v0 H0 s0 r0)
  | ((with_reducible refine' G.ix_tupR ?r ?h0 ?hd ?_); (case r => walk_at "R"); (case h0 => walk_at "side"); (case hd => first | rfl | assumption); walk_at "got")
  | ((with_reducible refine' G.ix_lstR ?r ?h0 ?hd ?_); (case r => walk_at "R"); (case h0 => walk_at "side"); (case hd => first | rfl | assumption); walk_at "got")
  | ((with_reducible refine' G.ix_strR ?l ?h0 ?hd ?_); (case l => walk_at "side"); (case h0 => walk_at "side"); (case hd => first | rfl | assumption))
  | ((with_reducible refine' G.ix_strM ?l ?h0 ?h1 ?_); (case l => walk_at "side"); (case h0 => walk_at "side"); (case h1 => walk_at "side"); intro c0 hc0)
  | ((with_reducible refine' G.ix_tupN ?r ?h0 ?h1 ?_); (case r => walk_at "R"); (case h0 => walk_at "side"); (case h1 => walk_at "side"); intro v0 d0 hd0 r0)
  | ((with_reducible refine' G.ix_lstS ?r ?h0 ?h1 ?_); (case r => walk_at "R"); (case h0 => walk_at "side"); (case h1 => walk_at "side"); intro z0 hz0)
  | ((with_reducible refine' G.ix_lstN ?r ?h0 ?h1 ?_); (case r => walk_at "R"); (case h0 => walk_at "side"); (case h1 => walk_at "side"); intro v0 d0 hd0 r0)
  | ((with_reducible refine' G.sl_strR ?l ?_); (case l => walk_at "side"))
  | ((with_reducible refine' G.sl_tupR ?r ?_); (case r => walk_at "R"); intro v0 H0 s0 r0)
  | ((with_reducible refine' G.sl_lstR ?r ?_); (case r => walk_at "R"); intro v0 H0 s0 r0)
  | ((with_reducible refine' G.tupOf_L ?r ?_); (case r => walk_at "R"); intro v0 H0 s0 r0)
  | ((with_reducible refine' G.tupOf_T ?r ?_); (case r => walk_at "R"))
  | ((with_reducible refine' G.lstOf_T ?r ?_); (case r => walk_at "R"); intro v0 H0 s0 r0)
  | ((with_reducible refine' G.lstOf_L ?r ?_); (case r => walk_at "R"); intro v0 H0 s0 r0)
  | with_reducible refine G.st_lcL ?_
  | with_reducible refine G.st_lcT ?_
  | with_reducible refine G.st_lcS ?_
  | with_reducible refine G.st_lcR ?_
  | with_reducible refine G.st_M0 ?_
  | with_reducible refine G.st_M1 ?_
  | (with_reducible refine G.upper_one ?_; intro hu0)
  | ((with_reducible refine' G.upper_R ?l ?_); (case l => walk_at "side"))
  | (with_reducible refine G.st_strAnd ?_)
  | (with_reducible refine G.st_sub ?_)
  | ((with_reducible refine' G.set_20 ?hp ?_); (case hp => first | exact L2.upd_same | walk_at "P"))
  | ((with_reducible refine' G.set_21 ?hp ?_); (case hp => first | exact L2.upd_same | walk_at "P"))
  | ((with_reducible refine' G.set_at ?hp ?hi ?_); (case hp => first | exact L2.upd_same | walk_at "P"); (case hi => rfl))
  | with_reducible refine G.st_lst2 ?_
  | with_reducible refine G.st_shut ?_
  | with_reducible refine G.st_forR ?_
  | ((with_reducible refine' G.len_scr ?s ?_); (case s => walk_at "Q"))
  | ((with_reducible refine' G.ix_scr ?s ?h0 ?h1 ?_); (case s => walk_at "Q"); (case h0 => walk_at "side"); (case h1 => walk_at "side"); intro n0)
  | ((with_reducible refine' G.sl_scr ?s ?_); (case s => walk_at "Q"); intro v0 H0 s0 r0)
  | (with_reducible refine' G.st_disp1 ?_; intro v0 H0 s0 r0)
  | walk_at "c"
  | fail "no step")
local macro_rules | `(tactic| walk_at "r") => `(tactic| repeat' (walk_at "s"))

local macro_rules | `(tactic| walk_at "side") => `(tactic| first | exact G.nm_a (by with_reducible assumption) | exact G.fm_a (by with_reducible assumption) | exact G.nm_b (by with_reducible assumption) | exact G.nm_c (by with_reducible assumption) | fail)
local macro_rules | `(tactic| walk_at "c") => `(tactic| ((with_reducible refine' G.use_name ?hp ?_); (case hp => walk_at "P"); intro z0 H0 s0 hz0))
local macro_rules | `(tactic| walk_at "c") => `(tactic| ((with_reducible refine' G.use_form ?hp ?_); (case hp => walk_at "P"); intro z0 H0 s0 hz0))
local macro_rules | `(tactic| walk_at "c") => `(tactic| ((with_reducible refine' G.use_pool ?hp ?_); (case hp => walk_at "P"); intro v0 fs0 gs0 ns0 H0 s0 ok0 r0))
local macro_rules | `(tactic| walk_at "c") => `(tactic| ((with_reducible refine' G.use_leaf ?hp ?r ?ok ?h0 ?h1 ?_); (case hp => walk_at "P"); (case r => walk_at "R"); (case ok => with_reducible assumption); (case h0 => walk_at "side"); (case h1 => walk_at "side"); intro v0 t0 H0 s0 r0 ht0 hd0 hs0))
local macro_rules | `(tactic| walk_at "c") => `(tactic| ((with_reducible refine' G.use_term ?hp ?r ?ok ?h0 ?h1 ?e0 ?e1 ?_); (case hp => walk_at "P"); (case r => walk_at "R"); (case ok => with_reducible assumption); (case h0 => walk_at "side"); (case h1 => walk_at "side"); (case e0 => walk_at "side"); (case e1 => walk_at "side"); intro v0 t0 H0 s0 r0 ht0 hd0 hs0))
local macro_rules | `(tactic| walk_at "c") => `(tactic| ((with_reducible refine' G.use_tall ?hp ?r ?ok ?rt ?ht ?h0 ?h1 ?_); (case hp => walk_at "P"); (case r => walk_at "R"); (case ok => with_reducible assumption); (case rt => walk_at "R"); (case ht => with_reducible assumption); (case h0 => walk_at "side"); (case h1 => walk_at "side"); intro v0 t0 H0 s0 r0 ht0 hd0 hs0))
local macro_rules | `(tactic| walk_at "c") => `(tactic| ((with_reducible refine' G.use_anyT ?hp ?r ?ok ?h0 ?h1 ?_); (case hp => walk_at "P"); (case r => walk_at "R"); (case ok => with_reducible assumption); (case h0 => walk_at "side"); (case h1 => walk_at "side"); intro v0 t0 H0 s0 r0 ht0 hd0 hs0))

local macro_rules | `(tactic| walk_at "w") => `(tactic| first
  | with_reducible refine G.st_BM0 ?_
  | with_reducible refine G.st_BM ?_
  | ((with_reducible refine' G.st_tyl ?hl ?_); (case hl => walk_at "P"))
  | ((with_reducible refine' G.popR ?hl ?ra ?hn ?_); (case hl => walk_at "P"); (case ra => with_reducible assumption); (case hn => with_reducible assumption); intro v0 ws0 H0 x0 hl0 ra0 r0)
  | ((with_reducible refine' G.extR ?hl ?ra ?r ?hz ?hn ?hn' ?_); (case hl => walk_at "P"); (case ra => first | with_reducible assumption | exact G.ra_mono (by with_reducible assumption) (by walk_at "S")); (case r => walk_at "R"); (case hz => walk_at "side"); (case hn => walk_at "nol"); (case hn' => walk_at "nol"); intro ws0 H0 x0 hl0 ra0)
  | ((with_reducible refine' G.gtup2 ?r ?_); (case r => walk_at "R"); intro v1 v2 r1 r2)
  | with_reducible refine G.st_asgT ?_
  | with_reducible refine G.int_bl ?_
  | with_reducible refine G.max_2 ?_
  | ((with_reducible refine' G.st_aug ?hx ?_); (case hx => rfl))
  | with_reducible refine G.ipI_int ?_
  | with_reducible refine G.whB ?_
  | with_reducible refine G.st_lstF ?_
  | ((with_reducible refine' G.st_newLF ?r ?l ?_); (case r => walk_at "A"); (case l => first | exact Nat.le_of_ble_eq_true rfl | walk_at "side"); intro p0 H0 f0 s0 hl0 ra0)
  | fail "no step")
local macro_rules | `(tactic| walk_at "nol") => `(tactic| first | with_reducible assumption | rfl | exact G.Th.noL _ | exact G.Th.noLs _)
local macro_rules | `(tactic| walk_at "c") => `(tactic| walk_at "w")

local macro_rules | `(tactic| walk_at "c") => `(tactic| first
  | with_reducible refine G.neg_i ?_
  | with_reducible refine G.st_BMs ?_
  | with_reducible refine G.st_tys ?_
  | with_reducible refine G.st_gcons ?_
  | with_reducible refine G.st_gnil ?_
  | with_reducible refine G.st_gname ?_
  | with_reducible refine G.st_gsub ?_
  | ((with_reducible refine' G.iC ?hc ?_); (case hc => show (0 : Int) < _; decide +kernel))
  | ((with_reducible refine' G.ix_scrLast ?hs ?h1 ?_); (case hs => walk_at "Q"); (case h1 => walk_at "side"); intro n0)
  | ((with_reducible refine' G.divmodR ?h0 ?h1 ?_); (case h0 => walk_at "side"); (case h1 => walk_at "side"); intro p0 H0 f0 e0)
  | (with_reducible refine G.absR ?_; intro j0)
  | fail "no step")

local macro_rules | `(tactic| walk_at "B") => `(tactic| first | with_reducible assumption | exact G.bk_keep (by with_reducible assumption) (by walk_at "S"))
local macro_rules | `(tactic| walk_at "c") => `(tactic| first
  | ((with_reducible refine' G.use_nextU ?hp ?h0 ?h1 ?_); (case hp => walk_at "P"); (case h0 => walk_at "side"); (case h1 => walk_at "side"); intro r0 H0 s0 hr0 hr1)
  | ((with_reducible refine' G.ix_b1 ?h ?_); (case h => walk_at "B"); intro af0 lb0 lc0 hf0 rb0 rc0)
  | ((with_reducible refine' G.ix_b2 ?h ?_); (case h => walk_at "B"); intro v0 r0)
  | ((with_reducible refine' G.ix_b3 ?h ?_); (case h => walk_at "B"); intro v0 r0)
  | ((with_reducible refine' G.ix_b5 ?h ?_); (case h => walk_at "B"); intro v0 r0)
  | with_reducible refine G.st_dget ?_
  | with_reducible refine G.st_dget2 ?_
  | with_reducible refine G.st_lcLT ?_
  | with_reducible refine G.st_lcET ?_
  | with_reducible refine G.st_lcETT ?_
  | with_reducible refine G.st_forL ?_
  | with_reducible refine G.st_forE ?_
  | with_reducible refine G.st_forT ?_
  | fail "no step")
local macro_rules | `(tactic| walk_at "u") => `(tactic| repeat' ((fail_if_success (with_reducible refine G.st_if ?_)); walk_at "s"))
local macro_rules | `(tactic| walk_at "c") => `(tactic| (with_reducible refine G.minR ?_; intro m0 hm0 hm1 hm2))

local macro_rules | `(tactic| walk_at "c") => `(tactic| first
  | with_reducible refine G.st_forEL ?_
  | fail "no step")

namespace G
open PySem PySem.Spec PyProof.Rows L2
section
variable {P : Program} {w : World} {K : PySem.W.Frag} {mg : Str → Option Value} {base : Heap} {k n : Nat}
theorem kind_at {g : Bk} {i : Nat} {d : PyData} (h : (g.kinds.map PyData.str)[i]? = some d) : ∃ k, k ∈ g.kinds ∧ d = .str k := by
  rw [List.getElem?_map] at h
  obtain ⟨k, hk, rfl⟩ := Option.map_eq_some_iff.mp h
  exact ⟨k, List.mem_of_getElem? hk, rfl⟩
theorem ok_law {f : Addr} {fd : FuncData} (F : Fun K "law" "law" s_law f fd) (T : Tp K mg) : FnOk P w K mg base CX0 200 f fd p_law (spLaw K) := by
  have c_l_begin : Cal P w K mg base 199 "_law_begin" (spBegin K) := (ok_l_begin (k := 0) T).lift (by decide)
  have c_l_next : Cal P w K mg base 199 "_law_next" spNext := (ok_l_next (k := 0) T).lift (by decide)
  have c_l_names : Cal P w K mg base 199 "_law_names" (spNames K) := (ok_l_names (k := 1) T (ok_l_next (k := 0) T)).lift (by decide)
  have c_l_function : Cal P w K mg base 9 "_law_function" (spFun K) := ok_l_function (k := 8) T ((ok_l_next (k := 0) T).lift (by decide)) (termK_n T 4)
  have c_l_book : Cal P w K mg base 199 "_law_book" (spBook K) := (ok_l_book (k := 9) T ((ok_l_next (k := 0) T).lift (by decide)) ((ok_l_great (k := 0) T).lift (by decide)) c_l_function).lift (by decide)
  have c_l_term : Cal P w K mg base 199 "_law_term" (spTermK K 3) := (termK_n T 3).lift (by decide)
  have c_l_planted : Cal P w K mg base 199 "_law_planted" (spPlant K 20) := (planted_n T 20).lift (by decide)
  have c_l_drawn : Cal P w K mg base 199 "_law_drawn" (spDrawn K) := (ok_l_drawn (k := 150) T ((said_n T 4).lift (by decide)) ((planted_n T 20).lift (by decide)) ((l_terms_n T 90).lift (by decide)) ((l_nodes_n T 90).lift (by decide)) ((ok_l_places (k := 100) T ((l_terms_n T 90).lift (by decide)) ((l_spots_n T 90).lift (by decide))).lift (by decide))).lift (by decide)
  have c_l_asked : Cal P w K mg base 199 "_law_asked" (spAsked K) := (ok_l_asked (k := 196) T ((ok_l_walk (k := 190) T ((l_terms_n T 90).lift (by decide)) ((l_spots_n T 90).lift (by decide)) ((l_set_n T 90).lift (by decide)) ((l_with_n T 90).lift (by decide))).lift (by decide))
    ((ok_walk (k := 190) T ((terms_of_n T 90).lift (by decide)) ((ok_places_where (k := 1) T (ok_args_of (k := 0) T)).lift (by decide)) ((with_place_n T 90).lift (by decide)) ((with_terms_n T (m := 90) (fun _ _ => terms_of_n T 90) 90 (by decide)).lift (by decide))).lift (by decide))).lift (by decide)
  refine F.ok sc_law (fun vs H Q E h => ?_) (fun cdv A outer s H vs Q E hr h => ?_)
  · obtain ⟨a, ns, rfl, _⟩ := h; rfl
  obtain ⟨a, ns, rfl, hS, hlen, q⟩ := h
  have sc := @sc_law
  refine ⟨_, (pss_cons (ps_set (i := 1) sc.nd rfl (Or.inl rfl) (pe_c c_l_begin hr (Nat.le_refl _) rfl (pa_cons (pv 0) pa_nil)))
      (pss_cons (ps_set (i := 2) sc.nd rfl (Or.inl rfl) (pe_c c_l_names hr (Nat.le_refl _) rfl (pa_cons (pv 1) pa_nil)))
      (pss_cons (ps_set (i := 3) sc.nd rfl (Or.inl rfl) (pe_c c_l_book hr (Nat.le_refl _) rfl (pa_cons (pv 1) (pa_cons (pv 2) pa_nil))))
      (pss_cons (ps_set (i := 4) sc.nd rfl (Or.inl rfl) (pe_ix (ix_K K) (pe_ix (ix_K K) (pv 3) pe_int (fun _ _ => rfl)) (pe_c c_l_next hr (Nat.le_refl _) rfl (pa_cons (pv 1) (pa_cons pe_int pa_nil))) (fun _ _ => rfl)))
      (pss_cons (ps_set (i := 5) sc.nd rfl (Or.inl rfl) (pe_lstK K (pa_cons (pe_tupK K (pa_cons (pe_ix (ix_K K) (pv 2) pe_int (fun _ _ => rfl)) (pa_cons (pv 4) pa_nil))) (pa_cons (pe_tupK K (pa_cons (pe_ix (ix_K K) (pv 2) pe_int (fun _ _ => rfl)) (pa_cons (pe_ix (ix_K K) (pe_ix (ix_K K) (pv 3) pe_int (fun _ _ => rfl)) (pe_c c_l_next hr (Nat.le_refl _) rfl (pa_cons (pv 1) (pa_cons pe_int pa_nil))) (fun _ _ => rfl)) pa_nil))) pa_nil))))
      (pss_cons (ps_set (i := 6) sc.nd rfl (Or.inl rfl) (pe_c c_l_term hr (Nat.le_refl _) rfl (pa_cons (pv 1) (pa_cons (pv 3) (pa_cons (pv 4) (pa_cons (pv 5) (pa_cons (pe_lstK K pa_nil) (pa_cons (pe_op (op_addK K) pe_int (pe_c c_l_next hr (Nat.le_refl _) rfl (pa_cons (pv 1) (pa_cons pe_int pa_nil)))) (pa_cons pe_non pa_nil)))))))))
      (pss_cons (ps_set (i := 7) sc.nd rfl (Or.inl rfl) (pe_c c_l_term hr (Nat.le_refl _) rfl (pa_cons (pv 1) (pa_cons (pv 3) (pa_cons (pv 4) (pa_cons (pv 5) (pa_cons (pe_lstK K pa_nil) (pa_cons pe_int (pa_cons pe_non pa_nil)))))))))
      (pss_cons (ps_if (pt_cmpR (op_eqK K hr) (pe_c c_l_next hr (Nat.le_refl _) rfl (pa_cons (pv 1) (pa_cons pe_int pa_nil))) pe_int (nomark _)) (pss_one (ps_set (i := 7) sc.nd rfl (Or.inl rfl) (pe_c c_l_planted hr (Nat.le_refl _) rfl (pa_cons (pv 7) (pa_cons (pe_ix (ix_K K) (pv 2) pe_int (fun _ _ => rfl)) (pa_cons (pv 6) pa_nil)))))) pss_nil)
      (pss_cons (ps_set (i := 8) sc.nd rfl (Or.inl rfl) (pe_c c_l_drawn hr (Nat.le_refl _) rfl (pa_cons (pv 1) (pa_cons (pv 3) (pa_cons (pv 5) (pa_cons (pe_ix (ix_K K) (pv 2) pe_int (fun _ _ => rfl)) (pa_cons (pv 4) (pa_cons (pv 6) (pa_cons (pv 7) pa_nil)))))))))
      (pss_one (ps_ret (pe_and (pe_c c_l_asked hr (Nat.le_refl _) rfl (pa_cons (pv 8) (pa_cons (pv 6) (pa_cons (pv 7) pa_nil)))) (pe_and (pe_c c_l_asked hr (Nat.le_refl _) rfl (pa_cons (pv 8) (pa_cons (pv 7) (pa_cons (pv 6) pa_nil)))) (pe_one (pe_c c_l_asked hr (Nat.le_refl _) rfl (pa_cons (pv 8) (pa_cons (pe_tupK K (pa_cons pe_str (pa_cons (pe_ix (ix_K K) (pv 2) pe_int (fun _ _ => rfl)) pa_nil))) (pa_cons (pv 7) pa_nil)))))))))))))))))), ?_⟩
  walk_at "r"
  refine ⟨a, ns, rfl, hS, by omega, fun p H1 s1 hp => ?_⟩
  clear hS
  walk_at "r"
  refine ⟨p, rfl, hp, fun v zs H2 s2 n42 rz => ?_⟩
  replace hp := s2 _ _ hp
  clear s1 s2
  walk_at "r"
  refine ⟨p, v, zs, rfl, hp, rz, n42, fun vb g H3 s3 hb ok ha hb' hc hw => ?_⟩
  replace hp := s3 _ _ hp
  replace rz := rz.mono s3
  clear s3
  have hz : ∀ i : Nat, i < 42 → (zs.map PyData.str)[i]? = some (.str (zs.getD i "")) := fun i hi => by rw [List.getElem?_map, n42_at n42 hi]; rfl
  have zl : (zs.map PyData.str).length = 42 := by rw [List.length_map, n42.len]
  have kl : (g.kinds.map PyData.str).length = 3 := rfl
  have na := (n42_nm n42 (i := 0) (by decide)).ok
  have nb := (n42_nm n42 (i := 7) (by decide)).ok
  have nc := (n42_nm n42 (i := 11) (by decide)).ok
  have nd := (n42_nm n42 (i := 20) (by decide)).ok
  have z0 := hz 0 (by decide)
  have z7 := hz 7 (by decide)
  have z11 := hz 11 (by decide)
  have z20 := hz 20 (by decide)
  clear hz n42 ha hb' hc
  generalize zs.getD 0 "" = x0 at *
  generalize zs.getD 7 "" = x7 at *
  generalize zs.getD 11 "" = x11 at *
  generalize zs.getD 20 "" = x20 at *
  have ix0 : (zs.map PyData.str)[(0 : Int).toNat]? = some (.str x0) := z0
  have ix7 : (zs.map PyData.str)[(7 : Int).toNat]? = some (.str x7) := z7
  have ix11 : (zs.map PyData.str)[(11 : Int).toNat]? = some (.str x11) := z11
  have ix20 : (zs.map PyData.str)[(20 : Int).toNat]? = some (.str x20) := z20
  clear z0 z7 z11 z20
  walk_at "r"
  rename_i v0a r10 r9 Ha sa hr2a hr2b z0 hz0 r8 v4 Hb sb r7 r6 v3b r5 r4 Hc sc4 hr1a hr1b z1 hz1 v2 Hd sd r3 vth He se rth vi Hf sf ri e0 Hg sg he0 he1
  have s3g : Same H3 Hg := (((((sa.trans sb).trans sc4).trans sd).trans se).trans sf).trans sg
  have rth' : R K Hg vth (.list ([(x0, z0), (x7, z1)].map thingD)) := rth.mono (sf.trans sg)
  have hn : ∀ y ∈ [(x0, z0), (x7, z1)], isNameS y.1 = true := fun y hy => by
    simp only [List.mem_cons, List.not_mem_nil, or_false] at hy
    rcases hy with rfl | rfl
    · exact na
    · exact nb
  have oo : OwnOk g [] none := ⟨fun _ _ _ _ h => by cases h⟩
  replace hp := s3g _ _ hp
  replace hb := bk_keep hb s3g
  replace rz := rz.mono s3g
  have ri' := ri.mono sg
  clear r10 r8 r7 r6 r5 r3 rth ri sa sb sc4 sd se sf sg s3g
  refine use_termK (xs := [(x0, z0), (x7, z1)]) (is := []) (o := none) hp hb ok hz0 rth' ri' .non oo (by simp) (by simp) hn (by omega) (by omega) fun vt t H4 s4 rt kt dt zt => ?_
  have ht : t.isT [x0, x7] 0 := Th.kd_isT ok (calls_ok ok) hn t kt
  have zt' : t.sz ≤ 53 := Nat.le_trans zt (szK_mono (n := 2) (by omega))
  replace hp := s4 _ _ hp
  replace hb := bk_keep hb s4
  replace rz := rz.mono s4
  replace rth' := rth'.mono s4
  clear s4 ri' kt zt
  walk_at "r"
  rename_i v5 H5 s5 r5
  replace hp := s5 _ _ hp
  replace hb := bk_keep hb s5
  replace rz := rz.mono s5
  replace rth' := rth'.mono s5
  replace rt := rt.mono s5
  clear s5
  refine use_termK (xs := [(x0, z0), (x7, z1)]) (is := []) (o := none) hp hb ok hz0 rth' r5 .non oo (by simp) (by simp) hn (by omega) (by omega) fun vu u H6 s6 ru ku du zu => ?_
  have hu : u.isT [x0, x7] 0 := Th.kd_isT ok (calls_ok ok) hn u ku
  have zu' : u.sz ≤ 53 := Nat.le_trans zu (szK_mono (n := 2) (by decide))
  replace hp := s6 _ _ hp
  replace hb := bk_keep hb s6
  replace rz := rz.mono s6
  replace rth' := rth'.mono s6
  replace rt := rt.mono s6
  clear s6 r5 ku zu
  walk_at "u"
  refine if_joinS (fun σ' H' => Same H6 H' ∧ ∃ (vu' : V) (u' : Th), σ' = [some (.ref a), some (.ref p), some v, some vb, some (.str z0), some vth, some vt, some vu', none] ∧ R K H' vu' u'.d ∧ u'.isT [x0, x7] 0 ∧ u'.dep ≤ 8 ∧ u'.sz ≤ 3000) (fun P' hP => ?_) ?_
  · walk_at "r"
    · refine use_plant (ru.mono (by walk_at "S")) (rt.mono (by walk_at "S")) na (Th.layT u hu) (by omega) (by omega) fun y H9 s9 r9 => ?_
      have hdp := Th.plant_dep x0 t u
      have hsp := Th.plant_sz x0 t u
      have hsp2 : u.sz * t.sz ≤ 53 * 53 := Nat.mul_le_mul zu' zt'
      exact hP _ _ ⟨by walk_at "S", y, _, rfl, r9, Th.plant_isT ht u (Th.isT_sub (fun z hz => List.mem_cons_of_mem _ hz) u hu), by omega, by omega⟩
    · exact hP _ _ ⟨by walk_at "S", vu, u, rfl, ru.mono (by walk_at "S"), hu, by omega, by omega⟩
  · rintro σ' H7 ⟨s7, vu', u', rfl, ru', hu', du', zu'⟩
    replace hp := s7 _ _ hp
    replace hb := bk_keep hb s7
    replace rz := rz.mono s7
    replace rth' := rth'.mono s7
    replace rt := rt.mono s7
    clear s7 ru
    walk_at "r"
    refine use_drawn (xs := [(x0, z0), (x7, z1)]) hp hb ok hw rth' (by simp) hn nc rt ru' ht hu' (by omega) zt' du' zu' fun y told H8 s8 r8 hs8 hd8 hz8 => ?_
    have hs8' : told.isS [x20, x0, x7] 0 := Th.isS_sub (fun z hz => List.mem_cons_of_mem _ hz) told hs8
    have ht8 : t.isT [x20, x0, x7] 0 := Th.isT_sub (fun z hz => List.mem_cons_of_mem _ hz) t ht
    have hu8 : u'.isT [x20, x0, x7] 0 := Th.isT_sub (fun z hz => List.mem_cons_of_mem _ hz) u' hu'
    replace rz := rz.mono s8
    replace rt := rt.mono s8
    replace ru' := ru'.mono s8
    clear s8 rth' hb hp
    walk_at "r"
    refine use_asked r8 rt ru' hs8' ht8 hu8 hd8 (by omega) (by omega) hz8 fun H9 s9 => ?_
    replace rz := rz.mono s9
    replace rt := rt.mono s9
    replace ru' := ru'.mono s9
    replace r8 := r8.mono s9
    clear s9
    walk_at "r"
    refine use_asked r8 ru' rt hs8' hu8 ht8 hd8 (by omega) (by omega) hz8 fun H10 s10 => ?_
    replace rz := rz.mono s10
    replace ru' := ru'.mono s10
    replace r8 := r8.mono s10
    clear s10 rt
    walk_at "r"
    rename_i v11 H11 s11 r11
    refine use_asked (t := .free x20) (r8.mono s11) r11 (ru'.mono s11) hs8' ⟨nd, List.mem_cons_self ..⟩ hu8 hd8 (by simp [Th.dep]) (by omega) hz8 fun H12 s12 => ?_
    exact q _

end
theorem all_mk {l : PySem.W.OpenLaw} {w : World} {K : PySem.W.Frag} {h : Heap} {mg : Str → Option Value} {fa : Addr} (X : K.In h) (G : h.Ns mainGlobals mg) (hfa : mg "law" = some (.ref fa))
    {f0 : Addr} {od0 an0 : Option Addr} {sl0 : Array (Option Value)} {oc0 kV0 dc0 pm0 cd0 ct0 : Value}
    (a0 : PySem.W.nsIn K mainGlobals "with_place" = some (some (.ref f0))) (l0 : K.lookup f0 = some ⟨oc0, od0, .func (PySem.W.fnOf "with_place" "with_place" (defArgs s_with_place) (defBody s_with_place) (defScope s_with_place) .none kV0 dc0 pm0 an0 cd0 ct0), sl0⟩) (c0 : PySem.W.codeIn K cd0 "with_place" = true) (k0 : PySem.W.keepIn K (.ref f0) = true)
    {f1 : Addr} {od1 an1 : Option Addr} {sl1 : Array (Option Value)} {oc1 kV1 dc1 pm1 cd1 ct1 : Value}
    (a1 : PySem.W.nsIn K mainGlobals "args_of" = some (some (.ref f1))) (l1 : K.lookup f1 = some ⟨oc1, od1, .func (PySem.W.fnOf "args_of" "args_of" (defArgs s_args_of) (defBody s_args_of) (defScope s_args_of) .none kV1 dc1 pm1 an1 cd1 ct1), sl1⟩) (c1 : PySem.W.codeIn K cd1 "args_of" = true) (k1 : PySem.W.keepIn K (.ref f1) = true)
    {f2 : Addr} {od2 an2 : Option Addr} {sl2 : Array (Option Value)} {oc2 kV2 dc2 pm2 cd2 ct2 : Value}
    (a2 : PySem.W.nsIn K mainGlobals "terms_of" = some (some (.ref f2))) (l2 : K.lookup f2 = some ⟨oc2, od2, .func (PySem.W.fnOf "terms_of" "terms_of" (defArgs s_terms_of) (defBody s_terms_of) (defScope s_terms_of) .none kV2 dc2 pm2 an2 cd2 ct2), sl2⟩) (c2 : PySem.W.codeIn K cd2 "terms_of" = true) (k2 : PySem.W.keepIn K (.ref f2) = true)
    {f3 : Addr} {od3 an3 : Option Addr} {sl3 : Array (Option Value)} {oc3 kV3 dc3 pm3 cd3 ct3 : Value}
    (a3 : PySem.W.nsIn K mainGlobals "with_terms" = some (some (.ref f3))) (l3 : K.lookup f3 = some ⟨oc3, od3, .func (PySem.W.fnOf "with_terms" "with_terms" (defArgs s_with_terms) (defBody s_with_terms) (defScope s_with_terms) .none kV3 dc3 pm3 an3 cd3 ct3), sl3⟩) (c3 : PySem.W.codeIn K cd3 "with_terms" = true) (k3 : PySem.W.keepIn K (.ref f3) = true)
    {f4 : Addr} {od4 an4 : Option Addr} {sl4 : Array (Option Value)} {oc4 kV4 dc4 pm4 cd4 ct4 : Value}
    (a4 : PySem.W.nsIn K mainGlobals "places_where" = some (some (.ref f4))) (l4 : K.lookup f4 = some ⟨oc4, od4, .func (PySem.W.fnOf "places_where" "places_where" (defArgs s_places_where) (defBody s_places_where) (defScope s_places_where) .none kV4 dc4 pm4 an4 cd4 ct4), sl4⟩) (c4 : PySem.W.codeIn K cd4 "places_where" = true) (k4 : PySem.W.keepIn K (.ref f4) = true)
    {f5 : Addr} {od5 an5 : Option Addr} {sl5 : Array (Option Value)} {oc5 kV5 dc5 pm5 cd5 ct5 : Value}
    (a5 : PySem.W.nsIn K mainGlobals "walk" = some (some (.ref f5))) (l5 : K.lookup f5 = some ⟨oc5, od5, .func (PySem.W.fnOf "walk" "walk" (defArgs s_walk) (defBody s_walk) (defScope s_walk) .none kV5 dc5 pm5 an5 cd5 ct5), sl5⟩) (c5 : PySem.W.codeIn K cd5 "walk" = true) (k5 : PySem.W.keepIn K (.ref f5) = true)
    {f6 : Addr} {od6 an6 : Option Addr} {sl6 : Array (Option Value)} {oc6 kV6 dc6 pm6 cd6 ct6 : Value}
    (a6 : PySem.W.nsIn K mainGlobals "_law_begin" = some (some (.ref f6))) (l6 : K.lookup f6 = some ⟨oc6, od6, .func (PySem.W.fnOf "_law_begin" "_law_begin" (defArgs s_l_begin) (defBody s_l_begin) (defScope s_l_begin) .none kV6 dc6 pm6 an6 cd6 ct6), sl6⟩) (c6 : PySem.W.codeIn K cd6 "_law_begin" = true) (k6 : PySem.W.keepIn K (.ref f6) = true)
    {f7 : Addr} {od7 an7 : Option Addr} {sl7 : Array (Option Value)} {oc7 kV7 dc7 pm7 cd7 ct7 : Value}
    (a7 : PySem.W.nsIn K mainGlobals "_law_next" = some (some (.ref f7))) (l7 : K.lookup f7 = some ⟨oc7, od7, .func (PySem.W.fnOf "_law_next" "_law_next" (defArgs s_l_next) (defBody s_l_next) (defScope s_l_next) .none kV7 dc7 pm7 an7 cd7 ct7), sl7⟩) (c7 : PySem.W.codeIn K cd7 "_law_next" = true) (k7 : PySem.W.keepIn K (.ref f7) = true)
    {f8 : Addr} {od8 an8 : Option Addr} {sl8 : Array (Option Value)} {oc8 kV8 dc8 pm8 cd8 ct8 : Value}
    (a8 : PySem.W.nsIn K mainGlobals "_law_names" = some (some (.ref f8))) (l8 : K.lookup f8 = some ⟨oc8, od8, .func (PySem.W.fnOf "_law_names" "_law_names" (defArgs s_l_names) (defBody s_l_names) (defScope s_l_names) .none kV8 dc8 pm8 an8 cd8 ct8), sl8⟩) (c8 : PySem.W.codeIn K cd8 "_law_names" = true) (k8 : PySem.W.keepIn K (.ref f8) = true)
    {f9 : Addr} {od9 an9 : Option Addr} {sl9 : Array (Option Value)} {oc9 kV9 dc9 pm9 cd9 ct9 : Value}
    (a9 : PySem.W.nsIn K mainGlobals "_law_great" = some (some (.ref f9))) (l9 : K.lookup f9 = some ⟨oc9, od9, .func (PySem.W.fnOf "_law_great" "_law_great" (defArgs s_l_great) (defBody s_l_great) (defScope s_l_great) .none kV9 dc9 pm9 an9 cd9 ct9), sl9⟩) (c9 : PySem.W.codeIn K cd9 "_law_great" = true) (k9 : PySem.W.keepIn K (.ref f9) = true)
    {f10 : Addr} {od10 an10 : Option Addr} {sl10 : Array (Option Value)} {oc10 kV10 dc10 pm10 cd10 ct10 : Value}
    (a10 : PySem.W.nsIn K mainGlobals "_law_least" = some (some (.ref f10))) (l10 : K.lookup f10 = some ⟨oc10, od10, .func (PySem.W.fnOf "_law_least" "_law_least" (defArgs s_l_least) (defBody s_l_least) (defScope s_l_least) .none kV10 dc10 pm10 an10 cd10 ct10), sl10⟩) (c10 : PySem.W.codeIn K cd10 "_law_least" = true) (k10 : PySem.W.keepIn K (.ref f10) = true)
    {f11 : Addr} {od11 an11 : Option Addr} {sl11 : Array (Option Value)} {oc11 kV11 dc11 pm11 cd11 ct11 : Value}
    (a11 : PySem.W.nsIn K mainGlobals "_law_term" = some (some (.ref f11))) (l11 : K.lookup f11 = some ⟨oc11, od11, .func (PySem.W.fnOf "_law_term" "_law_term" (defArgs s_l_term) (defBody s_l_term) (defScope s_l_term) .none kV11 dc11 pm11 an11 cd11 ct11), sl11⟩) (c11 : PySem.W.codeIn K cd11 "_law_term" = true) (k11 : PySem.W.keepIn K (.ref f11) = true)
    {f12 : Addr} {od12 an12 : Option Addr} {sl12 : Array (Option Value)} {oc12 kV12 dc12 pm12 cd12 ct12 : Value}
    (a12 : PySem.W.nsIn K mainGlobals "_law_function" = some (some (.ref f12))) (l12 : K.lookup f12 = some ⟨oc12, od12, .func (PySem.W.fnOf "_law_function" "_law_function" (defArgs s_l_function) (defBody s_l_function) (defScope s_l_function) .none kV12 dc12 pm12 an12 cd12 ct12), sl12⟩) (c12 : PySem.W.codeIn K cd12 "_law_function" = true) (k12 : PySem.W.keepIn K (.ref f12) = true)
    {f13 : Addr} {od13 an13 : Option Addr} {sl13 : Array (Option Value)} {oc13 kV13 dc13 pm13 cd13 ct13 : Value}
    (a13 : PySem.W.nsIn K mainGlobals "_law_book" = some (some (.ref f13))) (l13 : K.lookup f13 = some ⟨oc13, od13, .func (PySem.W.fnOf "_law_book" "_law_book" (defArgs s_l_book) (defBody s_l_book) (defScope s_l_book) .none kV13 dc13 pm13 an13 cd13 ct13), sl13⟩) (c13 : PySem.W.codeIn K cd13 "_law_book" = true) (k13 : PySem.W.keepIn K (.ref f13) = true)
    {f14 : Addr} {od14 an14 : Option Addr} {sl14 : Array (Option Value)} {oc14 kV14 dc14 pm14 cd14 ct14 : Value}
    (a14 : PySem.W.nsIn K mainGlobals "_law_said" = some (some (.ref f14))) (l14 : K.lookup f14 = some ⟨oc14, od14, .func (PySem.W.fnOf "_law_said" "_law_said" (defArgs s_l_said) (defBody s_l_said) (defScope s_l_said) .none kV14 dc14 pm14 an14 cd14 ct14), sl14⟩) (c14 : PySem.W.codeIn K cd14 "_law_said" = true) (k14 : PySem.W.keepIn K (.ref f14) = true)
    {f15 : Addr} {od15 an15 : Option Addr} {sl15 : Array (Option Value)} {oc15 kV15 dc15 pm15 cd15 ct15 : Value}
    (a15 : PySem.W.nsIn K mainGlobals "_law_planted" = some (some (.ref f15))) (l15 : K.lookup f15 = some ⟨oc15, od15, .func (PySem.W.fnOf "_law_planted" "_law_planted" (defArgs s_l_planted) (defBody s_l_planted) (defScope s_l_planted) .none kV15 dc15 pm15 an15 cd15 ct15), sl15⟩) (c15 : PySem.W.codeIn K cd15 "_law_planted" = true) (k15 : PySem.W.keepIn K (.ref f15) = true)
    {f16 : Addr} {od16 an16 : Option Addr} {sl16 : Array (Option Value)} {oc16 kV16 dc16 pm16 cd16 ct16 : Value}
    (a16 : PySem.W.nsIn K mainGlobals "_law_args" = some (some (.ref f16))) (l16 : K.lookup f16 = some ⟨oc16, od16, .func (PySem.W.fnOf "_law_args" "_law_args" (defArgs s_l_args) (defBody s_l_args) (defScope s_l_args) .none kV16 dc16 pm16 an16 cd16 ct16), sl16⟩) (c16 : PySem.W.codeIn K cd16 "_law_args" = true) (k16 : PySem.W.keepIn K (.ref f16) = true)
    {f17 : Addr} {od17 an17 : Option Addr} {sl17 : Array (Option Value)} {oc17 kV17 dc17 pm17 cd17 ct17 : Value}
    (a17 : PySem.W.nsIn K mainGlobals "_law_terms" = some (some (.ref f17))) (l17 : K.lookup f17 = some ⟨oc17, od17, .func (PySem.W.fnOf "_law_terms" "_law_terms" (defArgs s_l_terms) (defBody s_l_terms) (defScope s_l_terms) .none kV17 dc17 pm17 an17 cd17 ct17), sl17⟩) (c17 : PySem.W.codeIn K cd17 "_law_terms" = true) (k17 : PySem.W.keepIn K (.ref f17) = true)
    {f18 : Addr} {od18 an18 : Option Addr} {sl18 : Array (Option Value)} {oc18 kV18 dc18 pm18 cd18 ct18 : Value}
    (a18 : PySem.W.nsIn K mainGlobals "_law_with" = some (some (.ref f18))) (l18 : K.lookup f18 = some ⟨oc18, od18, .func (PySem.W.fnOf "_law_with" "_law_with" (defArgs s_l_with) (defBody s_l_with) (defScope s_l_with) .none kV18 dc18 pm18 an18 cd18 ct18), sl18⟩) (c18 : PySem.W.codeIn K cd18 "_law_with" = true) (k18 : PySem.W.keepIn K (.ref f18) = true)
    {f19 : Addr} {od19 an19 : Option Addr} {sl19 : Array (Option Value)} {oc19 kV19 dc19 pm19 cd19 ct19 : Value}
    (a19 : PySem.W.nsIn K mainGlobals "_law_spots" = some (some (.ref f19))) (l19 : K.lookup f19 = some ⟨oc19, od19, .func (PySem.W.fnOf "_law_spots" "_law_spots" (defArgs s_l_spots) (defBody s_l_spots) (defScope s_l_spots) .none kV19 dc19 pm19 an19 cd19 ct19), sl19⟩) (c19 : PySem.W.codeIn K cd19 "_law_spots" = true) (k19 : PySem.W.keepIn K (.ref f19) = true)
    {f20 : Addr} {od20 an20 : Option Addr} {sl20 : Array (Option Value)} {oc20 kV20 dc20 pm20 cd20 ct20 : Value}
    (a20 : PySem.W.nsIn K mainGlobals "_law_set" = some (some (.ref f20))) (l20 : K.lookup f20 = some ⟨oc20, od20, .func (PySem.W.fnOf "_law_set" "_law_set" (defArgs s_l_set) (defBody s_l_set) (defScope s_l_set) .none kV20 dc20 pm20 an20 cd20 ct20), sl20⟩) (c20 : PySem.W.codeIn K cd20 "_law_set" = true) (k20 : PySem.W.keepIn K (.ref f20) = true)
    {f21 : Addr} {od21 an21 : Option Addr} {sl21 : Array (Option Value)} {oc21 kV21 dc21 pm21 cd21 ct21 : Value}
    (a21 : PySem.W.nsIn K mainGlobals "_law_walk" = some (some (.ref f21))) (l21 : K.lookup f21 = some ⟨oc21, od21, .func (PySem.W.fnOf "_law_walk" "_law_walk" (defArgs s_l_walk) (defBody s_l_walk) (defScope s_l_walk) .none kV21 dc21 pm21 an21 cd21 ct21), sl21⟩) (c21 : PySem.W.codeIn K cd21 "_law_walk" = true) (k21 : PySem.W.keepIn K (.ref f21) = true)
    {f22 : Addr} {od22 an22 : Option Addr} {sl22 : Array (Option Value)} {oc22 kV22 dc22 pm22 cd22 ct22 : Value}
    (a22 : PySem.W.nsIn K mainGlobals "_law_nodes" = some (some (.ref f22))) (l22 : K.lookup f22 = some ⟨oc22, od22, .func (PySem.W.fnOf "_law_nodes" "_law_nodes" (defArgs s_l_nodes) (defBody s_l_nodes) (defScope s_l_nodes) .none kV22 dc22 pm22 an22 cd22 ct22), sl22⟩) (c22 : PySem.W.codeIn K cd22 "_law_nodes" = true) (k22 : PySem.W.keepIn K (.ref f22) = true)
    {f23 : Addr} {od23 an23 : Option Addr} {sl23 : Array (Option Value)} {oc23 kV23 dc23 pm23 cd23 ct23 : Value}
    (a23 : PySem.W.nsIn K mainGlobals "_law_places" = some (some (.ref f23))) (l23 : K.lookup f23 = some ⟨oc23, od23, .func (PySem.W.fnOf "_law_places" "_law_places" (defArgs s_l_places) (defBody s_l_places) (defScope s_l_places) .none kV23 dc23 pm23 an23 cd23 ct23), sl23⟩) (c23 : PySem.W.codeIn K cd23 "_law_places" = true) (k23 : PySem.W.keepIn K (.ref f23) = true)
    {f24 : Addr} {od24 an24 : Option Addr} {sl24 : Array (Option Value)} {oc24 kV24 dc24 pm24 cd24 ct24 : Value}
    (a24 : PySem.W.nsIn K mainGlobals "_law_drawn" = some (some (.ref f24))) (l24 : K.lookup f24 = some ⟨oc24, od24, .func (PySem.W.fnOf "_law_drawn" "_law_drawn" (defArgs s_l_drawn) (defBody s_l_drawn) (defScope s_l_drawn) .none kV24 dc24 pm24 an24 cd24 ct24), sl24⟩) (c24 : PySem.W.codeIn K cd24 "_law_drawn" = true) (k24 : PySem.W.keepIn K (.ref f24) = true)
    {f25 : Addr} {od25 an25 : Option Addr} {sl25 : Array (Option Value)} {oc25 kV25 dc25 pm25 cd25 ct25 : Value}
    (a25 : PySem.W.nsIn K mainGlobals "_law_asked" = some (some (.ref f25))) (l25 : K.lookup f25 = some ⟨oc25, od25, .func (PySem.W.fnOf "_law_asked" "_law_asked" (defArgs s_l_asked) (defBody s_l_asked) (defScope s_l_asked) .none kV25 dc25 pm25 an25 cd25 ct25), sl25⟩) (c25 : PySem.W.codeIn K cd25 "_law_asked" = true) (k25 : PySem.W.keepIn K (.ref f25) = true)
    {f26 : Addr} {od26 an26 : Option Addr} {sl26 : Array (Option Value)} {oc26 kV26 dc26 pm26 cd26 ct26 : Value}
    (a26 : PySem.W.nsIn K mainGlobals "law" = some (some (.ref f26))) (l26 : K.lookup f26 = some ⟨oc26, od26, .func (PySem.W.fnOf "law" "law" (defArgs s_law) (defBody s_law) (defScope s_law) .none kV26 dc26 pm26 an26 cd26 ct26), sl26⟩) (c26 : PySem.W.codeIn K cd26 "law" = true) (k26 : PySem.W.keepIn K (.ref f26) = true)
    (z_abs : PySem.W.nsIn K mainGlobals "abs" = some none)
    (z_divmod : PySem.W.nsIn K mainGlobals "divmod" = some none)
    (z_enumerate : PySem.W.nsIn K mainGlobals "enumerate" = some none)
    (z_int : PySem.W.nsIn K mainGlobals "int" = some none)
    (z_isinstance : PySem.W.nsIn K mainGlobals "isinstance" = some none)
    (z_len : PySem.W.nsIn K mainGlobals "len" = some none)
    (z_list : PySem.W.nsIn K mainGlobals "list" = some none)
    (z_min : PySem.W.nsIn K mainGlobals "min" = some none)
    (z_range : PySem.W.nsIn K mainGlobals "range" = some none)
    (z_reversed : PySem.W.nsIn K mainGlobals "reversed" = some none)
    (z_sum : PySem.W.nsIn K mainGlobals "sum" = some none)
    (z_tuple : PySem.W.nsIn K mainGlobals "tuple" = some none)
    : ∃ fd : FuncData, (∀ (s : Shared) (v : Value), BindsTo s fd ⟨[v], []⟩ [("_law_script", v)]) ∧ ∀ base : Heap, K.In base → base.Ns mainGlobals mg → FnOk l.prog w K mg base CX0 200 fa fd ["_law_script"] (spLaw K) := by
  have e := hfa.symm.trans (PySem.W.mg_of X G a26)
  cases e
  have F0 := fun_mk (st := s_with_place) l0 c0 k0
  have D0 : Df K mg "with_place" s_with_place p_with_place := ⟨_, _, F0, PySem.W.mg_of X G a0, F0.binds (ps := p_with_place) fun _ _ _ _ _ _ us hl => match us, hl with | [_, _, _], _ => rfl⟩
  have F1 := fun_mk (st := s_args_of) l1 c1 k1
  have D1 : Df K mg "args_of" s_args_of p_args_of := ⟨_, _, F1, PySem.W.mg_of X G a1, F1.binds (ps := p_args_of) fun _ _ _ _ _ _ us hl => match us, hl with | [_], _ => rfl⟩
  have F2 := fun_mk (st := s_terms_of) l2 c2 k2
  have D2 : Df K mg "terms_of" s_terms_of p_terms_of := ⟨_, _, F2, PySem.W.mg_of X G a2, F2.binds (ps := p_terms_of) fun _ _ _ _ _ _ us hl => match us, hl with | [_], _ => rfl⟩
  have F3 := fun_mk (st := s_with_terms) l3 c3 k3
  have D3 : Df K mg "with_terms" s_with_terms p_with_terms := ⟨_, _, F3, PySem.W.mg_of X G a3, F3.binds (ps := p_with_terms) fun _ _ _ _ _ _ us hl => match us, hl with | [_, _], _ => rfl⟩
  have F4 := fun_mk (st := s_places_where) l4 c4 k4
  have D4 : Df K mg "places_where" s_places_where p_places_where := ⟨_, _, F4, PySem.W.mg_of X G a4, F4.binds (ps := p_places_where) fun _ _ _ _ _ _ us hl => match us, hl with | [_, _], _ => rfl⟩
  have F5 := fun_mk (st := s_walk) l5 c5 k5
  have D5 : Df K mg "walk" s_walk p_walk := ⟨_, _, F5, PySem.W.mg_of X G a5, F5.binds (ps := p_walk) fun _ _ _ _ _ _ us hl => match us, hl with | [_, _, _], _ => rfl⟩
  have F6 := fun_mk (st := s_l_begin) l6 c6 k6
  have D6 : Df K mg "_law_begin" s_l_begin p_l_begin := ⟨_, _, F6, PySem.W.mg_of X G a6, F6.binds (ps := p_l_begin) fun _ _ _ _ _ _ us hl => match us, hl with | [_], _ => rfl⟩
  have F7 := fun_mk (st := s_l_next) l7 c7 k7
  have D7 : Df K mg "_law_next" s_l_next p_l_next := ⟨_, _, F7, PySem.W.mg_of X G a7, F7.binds (ps := p_l_next) fun _ _ _ _ _ _ us hl => match us, hl with | [_, _], _ => rfl⟩
  have F8 := fun_mk (st := s_l_names) l8 c8 k8
  have D8 : Df K mg "_law_names" s_l_names p_l_names := ⟨_, _, F8, PySem.W.mg_of X G a8, F8.binds (ps := p_l_names) fun _ _ _ _ _ _ us hl => match us, hl with | [_], _ => rfl⟩
  have F9 := fun_mk (st := s_l_great) l9 c9 k9
  have D9 : Df K mg "_law_great" s_l_great p_l_great := ⟨_, _, F9, PySem.W.mg_of X G a9, F9.binds (ps := p_l_great) fun _ _ _ _ _ _ us hl => match us, hl with | [_], _ => rfl⟩
  have F10 := fun_mk (st := s_l_least) l10 c10 k10
  have D10 : Df K mg "_law_least" s_l_least p_l_least := ⟨_, _, F10, PySem.W.mg_of X G a10, F10.binds (ps := p_l_least) fun _ _ _ _ _ _ us hl => match us, hl with | [_, _], _ => rfl⟩
  have F11 := fun_mk (st := s_l_term) l11 c11 k11
  have D11 : Df K mg "_law_term" s_l_term p_l_term := ⟨_, _, F11, PySem.W.mg_of X G a11, F11.binds (ps := p_l_term) fun _ _ _ _ _ _ us hl => match us, hl with | [_, _, _, _, _, _, _], _ => rfl⟩
  have F12 := fun_mk (st := s_l_function) l12 c12 k12
  have D12 : Df K mg "_law_function" s_l_function p_l_function := ⟨_, _, F12, PySem.W.mg_of X G a12, F12.binds (ps := p_l_function) fun _ _ _ _ _ _ us hl => match us, hl with | [_, _, _], _ => rfl⟩
  have F13 := fun_mk (st := s_l_book) l13 c13 k13
  have D13 : Df K mg "_law_book" s_l_book p_l_book := ⟨_, _, F13, PySem.W.mg_of X G a13, F13.binds (ps := p_l_book) fun _ _ _ _ _ _ us hl => match us, hl with | [_, _], _ => rfl⟩
  have F14 := fun_mk (st := s_l_said) l14 c14 k14
  have D14 : Df K mg "_law_said" s_l_said p_l_said := ⟨_, _, F14, PySem.W.mg_of X G a14, F14.binds (ps := p_l_said) fun _ _ _ _ _ _ us hl => match us, hl with | [_, _, _, _, _], _ => rfl⟩
  have F15 := fun_mk (st := s_l_planted) l15 c15 k15
  have D15 : Df K mg "_law_planted" s_l_planted p_l_planted := ⟨_, _, F15, PySem.W.mg_of X G a15, F15.binds (ps := p_l_planted) fun _ _ _ _ _ _ us hl => match us, hl with | [_, _, _], _ => rfl⟩
  have F16 := fun_mk (st := s_l_args) l16 c16 k16
  have D16 : Df K mg "_law_args" s_l_args p_l_args := ⟨_, _, F16, PySem.W.mg_of X G a16, F16.binds (ps := p_l_args) fun _ _ _ _ _ _ us hl => match us, hl with | [_], _ => rfl⟩
  have F17 := fun_mk (st := s_l_terms) l17 c17 k17
  have D17 : Df K mg "_law_terms" s_l_terms p_l_terms := ⟨_, _, F17, PySem.W.mg_of X G a17, F17.binds (ps := p_l_terms) fun _ _ _ _ _ _ us hl => match us, hl with | [_], _ => rfl⟩
  have F18 := fun_mk (st := s_l_with) l18 c18 k18
  have D18 : Df K mg "_law_with" s_l_with p_l_with := ⟨_, _, F18, PySem.W.mg_of X G a18, F18.binds (ps := p_l_with) fun _ _ _ _ _ _ us hl => match us, hl with | [_, _], _ => rfl⟩
  have F19 := fun_mk (st := s_l_spots) l19 c19 k19
  have D19 : Df K mg "_law_spots" s_l_spots p_l_spots := ⟨_, _, F19, PySem.W.mg_of X G a19, F19.binds (ps := p_l_spots) fun _ _ _ _ _ _ us hl => match us, hl with | [_, _, _], _ => rfl⟩
  have F20 := fun_mk (st := s_l_set) l20 c20 k20
  have D20 : Df K mg "_law_set" s_l_set p_l_set := ⟨_, _, F20, PySem.W.mg_of X G a20, F20.binds (ps := p_l_set) fun _ _ _ _ _ _ us hl => match us, hl with | [_, _, _], _ => rfl⟩
  have F21 := fun_mk (st := s_l_walk) l21 c21 k21
  have D21 : Df K mg "_law_walk" s_l_walk p_l_walk := ⟨_, _, F21, PySem.W.mg_of X G a21, F21.binds (ps := p_l_walk) fun _ _ _ _ _ _ us hl => match us, hl with | [_, _, _], _ => rfl⟩
  have F22 := fun_mk (st := s_l_nodes) l22 c22 k22
  have D22 : Df K mg "_law_nodes" s_l_nodes p_l_nodes := ⟨_, _, F22, PySem.W.mg_of X G a22, F22.binds (ps := p_l_nodes) fun _ _ _ _ _ _ us hl => match us, hl with | [_], _ => rfl⟩
  have F23 := fun_mk (st := s_l_places) l23 c23 k23
  have D23 : Df K mg "_law_places" s_l_places p_l_places := ⟨_, _, F23, PySem.W.mg_of X G a23, F23.binds (ps := p_l_places) fun _ _ _ _ _ _ us hl => match us, hl with | [_, _], _ => rfl⟩
  have F24 := fun_mk (st := s_l_drawn) l24 c24 k24
  have D24 : Df K mg "_law_drawn" s_l_drawn p_l_drawn := ⟨_, _, F24, PySem.W.mg_of X G a24, F24.binds (ps := p_l_drawn) fun _ _ _ _ _ _ us hl => match us, hl with | [_, _, _, _, _, _, _], _ => rfl⟩
  have F25 := fun_mk (st := s_l_asked) l25 c25 k25
  have D25 : Df K mg "_law_asked" s_l_asked p_l_asked := ⟨_, _, F25, PySem.W.mg_of X G a25, F25.binds (ps := p_l_asked) fun _ _ _ _ _ _ us hl => match us, hl with | [_, _, _], _ => rfl⟩
  have F26 := fun_mk (st := s_law) l26 c26 k26
  have D26 : Df K mg "law" s_law p_law := ⟨_, _, F26, PySem.W.mg_of X G a26, F26.binds (ps := p_law) fun _ _ _ _ _ _ us hl => match us, hl with | [_], _ => rfl⟩
  have T : Tp K mg := { d_with_place := D0, d_args_of := D1, d_terms_of := D2, d_with_terms := D3, d_places_where := D4, d_walk := D5, d_l_begin := D6, d_l_next := D7, d_l_names := D8, d_l_great := D9, d_l_least := D10, d_l_term := D11, d_l_function := D12, d_l_book := D13, d_l_said := D14, d_l_planted := D15, d_l_args := D16, d_l_terms := D17, d_l_with := D18, d_l_spots := D19, d_l_set := D20, d_l_walk := D21, d_l_nodes := D22, d_l_places := D23, d_l_drawn := D24, d_l_asked := D25, n_abs := PySem.W.mg_none_of X G z_abs, n_divmod := PySem.W.mg_none_of X G z_divmod, n_enumerate := PySem.W.mg_none_of X G z_enumerate, n_int := PySem.W.mg_none_of X G z_int, n_isinstance := PySem.W.mg_none_of X G z_isinstance, n_len := PySem.W.mg_none_of X G z_len, n_list := PySem.W.mg_none_of X G z_list, n_min := PySem.W.mg_none_of X G z_min, n_range := PySem.W.mg_none_of X G z_range, n_reversed := PySem.W.mg_none_of X G z_reversed, n_sum := PySem.W.mg_none_of X G z_sum, n_tuple := PySem.W.mg_none_of X G z_tuple }
  exact ⟨PySem.W.fnOf "law" "law" (defArgs s_law) (defBody s_law) (defScope s_law) .none kV26 dc26 pm26 an26 cd26 ct26, fun s v => .of_eq rfl, fun base _ _ => ok_law F26 T⟩

theorem walk {l : PySem.W.OpenLaw} {q : Program} {loose : List Str} {XP : (Str → Option Value) → Heap → Prop} {YP : World → Heap → Prop} {d : DefRec} {K : Params → PySem.W.Frag} (hn : l.most = some 63) (hdf : d.params.defaults = [])
    (hY : ∀ (w : World) (h : Heap), YP w h → (K w.params).In h)
    (F : ∀ (w : World) (mg : Str → Option Value) (fa : Addr) (h : Heap), (K w.params).In h → h.Ns mainGlobals mg → mg d.name = some (.ref fa) →
      ∃ fd : FuncData, (∀ (s : Shared) (u : Value), BindsTo s fd ⟨[u], []⟩ [("_law_script", u)]) ∧ ∀ base : Heap, (K w.params).In base → base.Ns mainGlobals mg → FnOk l.prog w (K w.params) mg base CX0 200 fa fd ["_law_script"] (spLaw (K w.params))) :
    PySem.W.WalkO q loose XP YP l.row.toRowW d [] (fun f vs => PySem.call f vs) :=
  L2.walk_of (n := 63) (k := 200) (x := "_law_script") (CX := fun _ => CX0) (sp := fun w => spLaw (K w.params)) hn (by decide) hdf ⟨rfl, by decide, by decide⟩ hY F (fun _ _ a ns hl _ hS => ⟨a, ns, rfl, hS, hl, fun _ => rfl⟩) fun _ _ _ _ _ z => z
end G
open PySem PySem.W PyProof.Rows
set_option maxRecDepth 100000 in
set_option maxHeartbeats 0 in
theorem PySem.Challenge.cw_tacticwright_k61_walks_told_holds : PySem.Challenge.rw_tacticwright_k61_walks_told.Holds := by
  w_on; o_law; k_head; (case hw => w_witness2)
  k_fill
  refine G.walk (l := PySem.Challenge.rw_tacticwright_k61_walks_told) rfl rfl (fun w h Y => PySem.W.kIn_of Y) ?F
  case F =>
    intro w mg fa h KX HG hmg
    refine' G.all_mk KX HG hmg ?a0 ?l0 ?c0 ?k0 ?a1 ?l1 ?c1 ?k1 ?a2 ?l2 ?c2 ?k2 ?a3 ?l3 ?c3 ?k3 ?a4 ?l4 ?c4 ?k4 ?a5 ?l5 ?c5 ?k5 ?a6 ?l6 ?c6 ?k6 ?a7 ?l7 ?c7 ?k7 ?a8 ?l8 ?c8 ?k8 ?a9 ?l9 ?c9 ?k9 ?a10 ?l10 ?c10 ?k10 ?a11 ?l11 ?c11 ?k11 ?a12 ?l12 ?c12 ?k12 ?a13 ?l13 ?c13 ?k13 ?a14 ?l14 ?c14 ?k14 ?a15 ?l15 ?c15 ?k15 ?a16 ?l16 ?c16 ?k16 ?a17 ?l17 ?c17 ?k17 ?a18 ?l18 ?c18 ?k18 ?a19 ?l19 ?c19 ?k19 ?a20 ?l20 ?c20 ?k20 ?a21 ?l21 ?c21 ?k21 ?a22 ?l22 ?c22 ?k22 ?a23 ?l23 ?c23 ?k23 ?a24 ?l24 ?c24 ?k24 ?a25 ?l25 ?c25 ?k25 ?a26 ?l26 ?c26 ?k26 ?z_abs ?z_divmod ?z_enumerate ?z_int ?z_isinstance ?z_len ?z_list ?z_min ?z_range ?z_reversed ?z_sum ?z_tuple
    (case a0 => k_is)
    (case l0 => k_is)
    (case c0 => k_is)
    (case k0 => k_is)
    (case a1 => k_is)
    (case l1 => k_is)
    (case c1 => k_is)
    (case k1 => k_is)
    (case a2 => k_is)
    (case l2 => k_is)
    (case c2 => k_is)
    (case k2 => k_is)
    (case a3 => k_is)
    (case l3 => k_is)
    (case c3 => k_is)
    (case k3 => k_is)
    (case a4 => k_is)
    (case l4 => k_is)
    (case c4 => k_is)
    (case k4 => k_is)
    (case a5 => k_is)
    (case l5 => k_is)
    (case c5 => k_is)
    (case k5 => k_is)
    (case a6 => k_is)
    (case l6 => k_is)
    (case c6 => k_is)
    (case k6 => k_is)
    (case a7 => k_is)
    (case l7 => k_is)
    (case c7 => k_is)
    (case k7 => k_is)
    (case a8 => k_is)
    (case l8 => k_is)
    (case c8 => k_is)
    (case k8 => k_is)
    (case a9 => k_is)
    (case l9 => k_is)
    (case c9 => k_is)
    (case k9 => k_is)
    (case a10 => k_is)
    (case l10 => k_is)
    (case c10 => k_is)
    (case k10 => k_is)
    (case a11 => k_is)
    (case l11 => k_is)
    (case c11 => k_is)
    (case k11 => k_is)
    (case a12 => k_is)
    (case l12 => k_is)
    (case c12 => k_is)
    (case k12 => k_is)
    (case a13 => k_is)
    (case l13 => k_is)
    (case c13 => k_is)
    (case k13 => k_is)
    (case a14 => k_is)
    (case l14 => k_is)
    (case c14 => k_is)
    (case k14 => k_is)
    (case a15 => k_is)
    (case l15 => k_is)
    (case c15 => k_is)
    (case k15 => k_is)
    (case a16 => k_is)
    (case l16 => k_is)
    (case c16 => k_is)
    (case k16 => k_is)
    (case a17 => k_is)
    (case l17 => k_is)
    (case c17 => k_is)
    (case k17 => k_is)
    (case a18 => k_is)
    (case l18 => k_is)
    (case c18 => k_is)
    (case k18 => k_is)
    (case a19 => k_is)
    (case l19 => k_is)
    (case c19 => k_is)
    (case k19 => k_is)
    (case a20 => k_is)
    (case l20 => k_is)
    (case c20 => k_is)
    (case k20 => k_is)
    (case a21 => k_is)
    (case l21 => k_is)
    (case c21 => k_is)
    (case k21 => k_is)
    (case a22 => k_is)
    (case l22 => k_is)
    (case c22 => k_is)
    (case k22 => k_is)
    (case a23 => k_is)
    (case l23 => k_is)
    (case c23 => k_is)
    (case k23 => k_is)
    (case a24 => k_is)
    (case l24 => k_is)
    (case c24 => k_is)
    (case k24 => k_is)
    (case a25 => k_is)
    (case l25 => k_is)
    (case c25 => k_is)
    (case k25 => k_is)
    (case a26 => k_is)
    (case l26 => k_is)
    (case c26 => k_is)
    (case k26 => k_is)
    (case z_abs => k_is)
    (case z_divmod => k_is)
    (case z_enumerate => k_is)
    (case z_int => k_is)
    (case z_isinstance => k_is)
    (case z_len => k_is)
    (case z_list => k_is)
    (case z_min => k_is)
    (case z_range => k_is)
    (case z_reversed => k_is)
    (case z_sum => k_is)
    (case z_tuple => k_is)

