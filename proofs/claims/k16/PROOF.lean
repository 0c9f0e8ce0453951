import PyProof.Rows.All
import Wide.All
import OpenK.AllK
import Wide.FinOn
import KE.KStateDown
import HandS.ForMost
import HandS.More
import HandS.Conv
import HandS.Exc
import HandS.TupMul
import HandS.TupAny
import HandS.Flow
import HandS.Style
import HandS.Small
import HandS.ExcOwn
import HandS.ExcInit
import HandS.ExcField
import HandS.ExcIs
import HandS.TryOnly
import HandS.WordsExc
import HandS.CallRecv
import HandS.CallSlots
import HandS.Defaults
import HandS.IsInst
import HandS.NoneIn
import HandS.Rev
import HandS.Zip
import HandS.Strs
import HandS.SetKeys
import HandS.Evl
import PySem.Challenge.RW_fourbind_k16_whole_what_is_in_sight
import HandS.RevTup
import HandS.Zip0
import KE.KDictZip
import KE.KItemsList
import HandS.ExcValue
import KE.KUnpackStar
import KE.GoesRaise
import KE.KExcIs
import KE.DataEq
import HandS.Set
import PyProof.Rows.SortShellAny
import Lean
import HandS.Head0
import HandS.Head1
import HandS.Head2
import HandS.HeadEnd
import HandS.HeadHook1
import HandS.HeadHook2
import HandS.HeadHook3
import HandS.HeadHook4
set_option Elab.async false
set_option linter.all false
set_option maxRecDepth 100000
set_option maxHeartbeats 4000000
namespace Fb
open PySem PySem.Spec PyProof.Rows L2
/-! ### the text by places -/
def topS (i : Nat) : Stmt := PySem.Challenge.pw_fourbind_k16_whole_what_is_in_sight.main.body.getD i (.Pass ⟨0, 0, 0, 0⟩)
/-- a def of the module as it stands behind the top -/
def Fd (K : PySem.W.Frag) (mg : Str → Option Value) (x : Str) (st : Stmt) : Prop := ∃ f fd, FunD K x x (defArgs st) (defBody st) (defScope st) [] [] f fd ∧ mg x = some (.ref f)
/-- it keeps its promise -/
def Ok (P : Program) (w : World) (K : PySem.W.Frag) (mg : Str → Option Value) (base : Heap) (CX : CXT) (k : Nat) (x : Str) (ps : List Str) (sp : Sp) : Prop :=
  ∃ f fd, mg x = some (.ref f) ∧ PySem.W.keepIn K (.ref f) = true ∧ Binds K fd ps [] ∧ FnOk P w K mg base CX k f fd ps sp
section
variable {P : Program} {w : World} {K : PySem.W.Frag} {mg : Str → Option Value} {base : Heap} {CX : CXT}
theorem ok_of {x : Str} {st : Stmt} {N ps : List Str} {k : Nat} {sp : Sp} (F : Fd K mg x st) (S : FnScope N ps (defScope st))
    (hb : ∀ (kV doc pm : Value) (an : Option Addr) (cdv ct : Value) (us : List Value), us.length = ps.length → bindArgs (PySem.W.fnOf x x (defArgs st) (defBody st) (defScope st) .none kV doc pm an cdv ct) ⟨us, []⟩ = pure (ps.zip us))
    (len : ∀ vs H Q E, sp vs H Q E → vs.length = ps.length)
    (hbody : ∀ (f : Addr) (cdv : Value) (A : Around) (outer : List Env) (s : Shared) (H : Hp) (vs : List V) (Q : VK) (E : XK), Room k (A.deeper (envOfC x (defScope st) s.heap.objs.size f cdv)) → sp vs H Q E →
      ∃ t, PSs (cxOf CX P w K mg base N x (defScope st) f cdv A outer s H E) (defBody st) t ∧ t { nx := fun _ H' => Q .non H', rt := Q } (start N vs) H) : Ok P w K mg base CX (k + 1) x ps sp := by
  obtain ⟨f, fd, F, m⟩ := F
  exact ⟨f, fd, m, F.kp, F.bindsN hb, F.ok S len fun cdv A outer s H vs Q E hr h => hbody f cdv A outer s H vs Q E hr h⟩
theorem ok_of0 {x : Str} {st : Stmt} {N ps : List Str} {k : Nat} {sp : Sp} (F : Fd K mg x st) (S : FnScope N ps (defScope st))
    (hb : ∀ (kV doc pm : Value) (an : Option Addr) (cdv ct : Value) (us : List Value), us.length = ps.length → bindArgs (PySem.W.fnOf x x (defArgs st) (defBody st) (defScope st) .none kV doc pm an cdv ct) ⟨us, []⟩ = pure (ps.zip us))
    (len : ∀ vs H Q E, sp vs H Q E → vs.length = ps.length)
    (hbody : ∀ (f : Addr) (cdv : Value) (A : Around) (outer : List Env) (s : Shared) (H : Hp) (vs : List V) (Q : VK) (E : XK), Room k (A.deeper (envOfC x (defScope st) s.heap.objs.size f cdv)) → sp vs H Q E →
      ∃ t, PSs (cxOf CX0 P w K mg base N x (defScope st) f cdv A outer s H E).nox (defBody st) t ∧ t { nx := fun _ H' => Q .non H', rt := Q } (start N vs) H) : Ok P w K mg base CX0 (k + 1) x ps sp :=
  ok_of F S hb len fun f cdv A outer s H vs Q E hr h => by
    obtain ⟨t, p, q⟩ := hbody f cdv A outer s H vs Q E hr h
    exact ⟨t, p.nox, q⟩
/-- a def that nobody calls so -/
theorem ok_false {x : Str} {st : Stmt} {ps : List Str} {k : Nat} (F : Fd K mg x st)
    (hb : ∀ (kV doc pm : Value) (an : Option Addr) (cdv ct : Value) (us : List Value), us.length = ps.length → bindArgs (PySem.W.fnOf x x (defArgs st) (defBody st) (defScope st) .none kV doc pm an cdv ct) ⟨us, []⟩ = pure (ps.zip us)) :
    Ok P w K mg base CX k x ps (fun _ _ _ _ => False) := by
  obtain ⟨f, fd, F, m⟩ := F
  exact ⟨f, fd, m, F.kp, F.bindsN hb, ⟨fun _ _ _ _ h => h.elim, fun _ _ _ _ _ _ _ _ _ _ _ _ _ h => h.elim⟩⟩
end
section
variable {X : Cx} {CX : CXT} {k : Nat} {x : Str} {ps : List Str} {sp : Sp} {E : XK} {p pos : Pos} {e : Expr} {es : List Expr} {t : TA}
/-- a call of a def that lets nothing out -/
theorem pe_ok (O : Ok X.prog X.w X.K X.mg X.base CX0 k x ps sp) (hr : Room k X.A) (ha : PA X (e :: es) t) (hg : Gl X x := by rfl) (hdb : (x == ("__debug__" : Str)) = false := by decide)
    (he : starEach (e :: es) X.env = (false, eval e X.env) :: starEach es X.env := by rfl) (hpl : (backTo pos (starEach es X.env)).any (·.1) = false := by rfl) :
    PE X (.Call (.Name x p) (e :: es) [] pos) (tCall sp [] E0 t) := by
  obtain ⟨f, fd, m, kp, b, F⟩ := O
  exact pe_call F hr hg m kp b .nil pass0 ha hdb he hpl
end
/-! ### frames: what a piece of code leaves alone -/
def Fr (W : List Addr) (H H' : Hp) : Prop := (∀ b xs, H b = some (.tup xs) → H' b = some (.tup xs)) ∧ ∀ b o, H b = some o → b ∉ W → H' b = some o
section
variable {W W' : List Addr} {H H1 H2 : Hp} {a b p : Addr} {o o' : HO} {xs : List V}
theorem Fr.refl (W : List Addr) (H : Hp) : Fr W H H := ⟨fun _ _ h => h, fun _ _ h _ => h⟩
theorem Fr.trans (f : Fr W H H1) (g : Fr W H1 H2) : Fr W H H2 := ⟨fun b xs h => g.1 b xs (f.1 b xs h), fun b o h n => g.2 b o (f.2 b o h n) n⟩
theorem Fr.mono (f : Fr W H H1) (h : ∀ a ∈ W, a ∈ W') : Fr W' H H1 := ⟨f.1, fun b o e n => f.2 b o e fun z => n (h b z)⟩
theorem Fr.nil (f : Fr [] H H1) : Fr W H H1 := f.mono fun a h => by cases h
theorem Fr.tup (f : Fr W H H1) (h : H b = some (.tup xs)) : H1 b = some (.tup xs) := f.1 b xs h
theorem Fr.get (f : Fr W H H1) (h : H b = some o) (n : b ∉ W) : H1 b = some o := f.2 b o h n
theorem Fr.get0 (f : Fr [] H H1) (h : H b = some o) : H1 b = some o := f.2 b o h (by simp)
theorem Fr.none (f : Fr [] H H1) (h : H1 b = Option.none) : H b = Option.none := by
  cases q : H b with
  | none => rfl
  | some o => rw [f.get0 q] at h; cases h
theorem keep (hn : H p = Option.none) (h : H b = some o) : upd H p o' b = some o := (upd_ne (ne_of_none h hn)).trans h
theorem keep_ne (hn : b ≠ p) (h : H b = some o) : upd H p o' b = some o := (upd_ne hn).trans h
theorem Fr.new (hn : H p = Option.none) : Fr W H (upd H p o) := ⟨fun b xs h => keep hn h, fun b u h _ => keep hn h⟩
/-- an object that is not a tuple is changed -/
theorem Fr.put (hp : H p = some o) (ht : ∀ xs, o ≠ .tup xs) (hw : p ∈ W) : Fr W H (upd H p o') :=
  ⟨fun b xs h => keep_ne (fun e => by subst e; rw [hp] at h; exact ht xs (Option.some.inj h)) h, fun b u h n => keep_ne (fun e => n (e ▸ hw)) h⟩
/-- an object that stands in H is not one that was free when H stood -/
theorem ne_free (h : H b = some o) (hn : H p = Option.none) : b ≠ p := ne_of_none h hn
/-- a change of what was new -/
theorem Fr.mut (f : Fr W H H1) (hn : H p = Option.none) : Fr W H (upd H1 p o) := ⟨fun b xs h => keep_ne (ne_of_none h hn) (f.1 b xs h), fun b u h n => keep_ne (ne_of_none h hn) (f.2 b u h n)⟩
end
/-! ### readings, one step -/
section
variable {σ : L2.St} {H : Hp} {Q : VK} {x y v : V} {ta tb te : TE} {r : R2} {D : Ends} {t u : TS} {g : TG} {i j : Int} {K : PySem.W.Frag} {p : Addr} {xs : List V}
theorem ty_l (h : H p = some (.lst xs)) : tyV K "list" (.ref p) H := .inl ⟨rfl, _, .of h⟩
theorem g_var {n : Nat} (h : σ[n]? = some (some v)) (q : Q v H) : tVar n σ H Q := ⟨v, h, q⟩
theorem g_c (q : Q v H) : tC v σ H Q := q
theorem g_op (q : ta σ H fun x H1 => tb σ H1 fun y H2 => r x y H2 Q) : tOp r ta tb σ H Q := q
theorem g_un {r : V → Hp → VK → Prop} (q : ta σ H fun x H1 => r x H1 Q) : tUn r ta σ H Q := q
theorem g_I0 {f : Int → Int → V} (q : Q (f i j) H) : rI0 f (.int i) (.int j) H Q := ⟨i, j, rfl, rfl, q⟩
theorem g_I {C : Int → Int → Prop} {f : Int → Int → V} (c : C i j) (q : Q (f i j) H) : rI C f (.int i) (.int j) H Q := ⟨i, j, rfl, rfl, c, q⟩
theorem g_eq (h : scal x y = true) (q : Q (.bl (decide (x = y))) H) : rEq x y H Q := ⟨h, q⟩
theorem g_ne (h : scal x y = true) (q : Q (.bl (!decide (x = y))) H) : rNe x y H Q := ⟨h, q⟩
theorem g_test {Q : Bool → Hp → Prop} (q : te σ H fun x H' => ∃ k, x = .bl k ∧ Q k H') : tTest te σ H Q := q
theorem g_tb {Q : Bool → Hp → Prop} (q : te σ H fun x H' => ∃ k, x = .bl k ∧ Q k H') : tB te σ H Q := q
theorem g_bl {F : Bool → Prop} {k : Bool} (q : F k) : ∃ k', V.bl k = .bl k' ∧ F k' := ⟨k, rfl, q⟩
theorem i_dec {c A B : Prop} [Decidable c] (h1 : c → A) (h2 : ¬ c → B) : if decide c = true then A else B := by
  by_cases h : c
  · rw [if_pos (decide_eq_true h)]; exact h1 h
  · rw [if_neg (by simp [h])]; exact h2 h
theorem i_bool {b : Bool} {A B : Prop} (h1 : b = true → A) (h2 : b = false → B) : if b = true then A else B := by
  cases b with
  | true => exact h1 rfl
  | false => exact h2 rfl
theorem i_t {b : Bool} {A B : Prop} (e : b = true) (h : A) : if b = true then A else B := by rw [if_pos e]; exact h
theorem i_f {b : Bool} {A B : Prop} (e : b = false) (h : B) : if b = true then A else B := by rw [if_neg (by rw [e]; exact Bool.false_ne_true)]; exact h
theorem vint {a b : Int} : (V.int a = V.int b) ↔ a = b := ⟨V.int.inj, congrArg V.int⟩
theorem vstr {a b : Str} : (V.str a = V.str b) ↔ a = b := ⟨V.str.inj, congrArg V.str⟩
theorem g_pop (h : H p = some (.lst xs)) (e : xs[xs.length - 1]? = some v) (q : Q v (upd H p (.lst xs.dropLast))) : tyV K "list" (.ref p) H ∧ rPop (.ref p) [] H Q := ⟨ty_l h, p, xs, v, rfl, rfl, h, e, q⟩
theorem g_seq (q : t { D with nx := u D } σ H) : tSeq t u D σ H := q
theorem g_asg (q : te σ H fun x H1 => g x σ H1 D.nx) : tAsg te g D σ H := q
theorem g_name {n : Nat} {Q : L2.St → Hp → Prop} (q : Q (σ.set n (some v)) H) : gName n v σ H Q := q
theorem g_drop (q : te σ H fun _ H1 => D.nx σ H1) : tDrop te D σ H := q
theorem g_ret (q : te σ H D.rt) : tRet te D σ H := q
theorem g_if {c : TT} (q : c σ H fun b H1 => if b = true then t D σ H1 else u D σ H1) : tIfS c t u D σ H := q
theorem g_ife {c : TT} (q : c σ H fun b H1 => if b = true then ta σ H1 Q else tb σ H1 Q) : tIf c ta tb σ H Q := q
theorem g_and {c d : TT} {Q : Bool → Hp → Prop} (q : c σ H fun b H1 => if b = true then d σ H1 Q else Q false H1) : tAnd c d σ H Q := q
theorem g_or {c d : TT} {Q : Bool → Hp → Prop} (q : c σ H fun b H1 => if b = true then Q true H1 else d σ H1 Q) : tOr c d σ H Q := q
theorem g_not {c : TT} {Q : Bool → Hp → Prop} (q : c σ H fun b H1 => Q (!b) H1) : tNot c σ H Q := q
theorem g_next (q : D.nx σ H) : tNext D σ H := q
theorem g_nil {Q : List V → Hp → Prop} (q : Q [] H) : tNil σ H Q := q
theorem g_cons {tr : TA} {Q : List V → Hp → Prop} (q : ta σ H fun x H1 => tr σ H1 fun xs H2 => Q (x :: xs) H2) : tCons ta tr σ H Q := q
theorem g_cb {r : List V → Hp → VK → Prop} {tr : TA} (q : tr σ H fun vs H1 => r vs H1 Q) : tCB r tr σ H Q := q
theorem g_call {sp : Sp} {dvs : List V} {E : XK} {tr : TA} (q : tr σ H fun vs H1 => sp (vs ++ dvs) H1 Q E) : tCall sp dvs E tr σ H Q := q
theorem g_tup {tr : TA} (q : tr σ H fun xs H1 => xs.length ≤ sizeLine ∧ ∀ p, H1 p = none → Q (.ref p) (upd H1 p (.tup xs))) : tTup tr σ H Q := q
theorem g_lst {tr : TA} (q : tr σ H fun xs H1 => xs.length ≤ sizeLine ∧ ∀ p, H1 p = none → Q (.ref p) (upd H1 p (.lst xs))) : tLst tr σ H Q := q
theorem g_ixT (h : H p = some (.tup xs)) (ha : atI xs i = some v) (q : Q v H) : rIxT K (.ref p) (.int i) H Q := ⟨p, xs, i, v, rfl, rfl, .of h, ha, q⟩
theorem g_ixL (h : H p = some (.lst xs)) (ha : atI xs i = some v) (q : Q v H) : rIxL K (.ref p) (.int i) H Q := ⟨p, xs, i, v, rfl, rfl, .of h, ha, q⟩
theorem small_of {n : Nat} (h : n ≤ 100000) : n ≤ sizeLine := Nat.le_trans h (by decide)
theorem small_lt {n : Nat} (h : n < 100000) : n < sizeLine := Nat.lt_of_lt_of_le h (by decide)
end
/-- dicts with text keys -/
theorem kvl {kvs : List (Key × V)} {k : Str} {v : V} {H : Hp} {d : Addr} (h : H d = some (.dK kvs)) (e : valV kvs (Sum.inr k) = some v) : DGet H d (.str k) (some v) := .inl ⟨kvs, Sum.inr k, .inl h, rfl, e.symm⟩
theorem kvp {kvs : List (Key × V)} {k : Str} {v : V} {H : Hp} {d : Addr} (h : H d = some (.dK kvs)) (z : kvs.length < sizeLine) : DPut H d (.str k) v (upd H d (.dK (putK kvs (Sum.inr k) v))) := .inl ⟨kvs, Sum.inr k, h, rfl, z, rfl⟩

section
variable {σ : L2.St} {H : Hp} {Q : VK} {x y v : V} {ta tb te td ty tv : TE} {D : Ends} {K : PySem.W.Frag} {p : Addr} {xs : List V} {kvs : List (Key × V)} {k : Str}
theorem g_dget (q : td σ H fun x H1 => ty σ H1 fun y H2 => ∃ a v, x = .ref a ∧ DGet H2 a y (some v) ∧ Q v H2) : tDGet td ty σ H Q := q
theorem g_dget1 (h : H p = some (.dK kvs)) (e : valV kvs (Sum.inr k) = some v) {F : V → Prop} (q : F v) : ∃ a v, V.ref p = .ref a ∧ DGet H a (V.str k) (some v) ∧ F v := ⟨p, v, rfl, kvl h e, q⟩
theorem g_dput (q : tv σ H fun v H1 => td σ H1 fun x H2 => ty σ H2 fun y H3 => ∃ a H4, x = .ref a ∧ DPut H3 a y v H4 ∧ D.nx σ H4) : sDPut td ty tv D σ H := q
theorem g_dput1 {kvs' : List (Key × V)} (h : H p = some (.dK kvs)) (z : kvs.length < sizeLine) (e : putK kvs (Sum.inr k) v = kvs') {F : Hp → Prop} (q : F (upd H p (.dK kvs'))) : ∃ a H4, V.ref p = .ref a ∧ DPut H a (V.str k) v H4 ∧ F H4 := ⟨p, _, rfl, kvp h z, by rw [e]; exact q⟩
theorem g_bm {T : String} {r : V → List V → Hp → VK → Prop} {tr : TA} (q : te σ H fun x H1 => tyV K T x H1 ∧ tr σ H1 fun xs H2 => r x xs H2 Q) : tBM K T r te tr σ H Q := q
theorem g_bm0 {T : String} {r : V → List V → Hp → VK → Prop} (q : te σ H fun x H1 => tyV K T x H1 ∧ r x [] H1 Q) : tBM0 K T r te σ H Q := q
theorem ty_lst (h : H p = some (.lst xs)) : tyV K "list" (.ref p) H := .inl ⟨rfl, _, .of h⟩
end
end Fb
set_option Elab.async false
set_option linter.all false
set_option maxRecDepth 100000
set_option maxHeartbeats 4000000
/-! Loops and comprehensions, by an invariant. -/
namespace Fb
open PySem PySem.Spec PyProof.Rows L2
section
variable {K : PySem.W.Frag} {σ : L2.St} {H : Hp} {Q : VK} {D : Ends} {g : TG} {tt : TT} {te : TE} {tb : TS} {vs : List Nat} {J : It} {n : Nat} {a : Addr} {xs : List V} {F : Addr → Hp → Prop} {nx : L2.St → Hp → Prop} {rt : VK}
theorem for_it (P : Nat → L2.St → Hp → Prop) (h0 : P 0 σ H) (stop : ∀ σ H, P n σ H → J.stop n H ∧ nx σ H)
    (turn : ∀ i σ H, i < n → P i σ H → J.go i H ∧ ∀ x H2, J.yld i H x H2 → g x σ H2 fun σ2 H3 => tb ⟨P (i + 1), rt, nx, P (i + 1)⟩ σ2 H3) :
    ∃ W : Nat → Nat → L2.St → Hp → Prop, (∃ m, W 0 m σ H) ∧ ∀ i m σ H, W i m σ H →
      (J.stop i H ∧ nx σ H) ∨ (J.go i H ∧ ∃ N : L2.St → Hp → Prop, (∀ σ' H', N σ' H' → ∃ m', m' < m ∧ W (i + 1) m' σ' H') ∧ ∀ x H', J.yld i H x H' → g x σ H' fun σ2 H2 => tb ⟨N, rt, nx, N⟩ σ2 H2) := by
  refine ⟨fun i m σ H => i + m = n ∧ P i σ H, ⟨n, by omega, h0⟩, ?_⟩
  rintro i m σ H ⟨e, p⟩
  by_cases h : i < n
  · obtain ⟨h1, h2⟩ := turn i σ H h p
    exact .inr ⟨h1, P (i + 1), fun σ' H' q => ⟨m - 1, by omega, by omega, q⟩, h2⟩
  · have : i = n := by omega
    subst this
    exact .inl (stop σ H p)
theorem for_list (P : Nat → L2.St → Hp → Prop) (h0 : P 0 σ H) (ha : ∀ i σ H, P i σ H → H a = some (.lst xs)) (done : ∀ σ H, P xs.length σ H → nx σ H)
    (turn : ∀ i x σ H, xs[i]? = some x → P i σ H → g x σ H fun σ2 H3 => tb ⟨P (i + 1), rt, nx, P (i + 1)⟩ σ2 H3) :
    ∃ b, V.ref a = .ref b ∧ (∃ xs, SqL K H b xs) ∧ ∃ W : Nat → Nat → L2.St → Hp → Prop, (∃ m, W 0 m σ H) ∧ ∀ i m σ H, W i m σ H →
      ((Itl K b).stop i H ∧ nx σ H) ∨ ((Itl K b).go i H ∧ ∃ N : L2.St → Hp → Prop, (∀ σ' H', N σ' H' → ∃ m', m' < m ∧ W (i + 1) m' σ' H') ∧ ∀ x H', (Itl K b).yld i H x H' → g x σ H' fun σ2 H2 => tb ⟨N, rt, nx, N⟩ σ2 H2) := by
  refine ⟨a, rfl, ⟨xs, .inl (.of (ha _ _ _ h0))⟩, for_it (n := xs.length) P h0 (fun σ H p => ⟨⟨xs, .inl (.of (ha _ _ _ p)), Nat.le_refl _⟩, done σ H p⟩) fun i σ H hi p => ?_⟩
  refine ⟨⟨xs, xs[i], .inl (.of (ha _ _ _ p)), by simp [hi]⟩, fun x H2 ⟨e, y⟩ => ?_⟩
  subst e
  exact turn i x σ H2 (y xs (.inl (.of (ha _ _ _ p)))) p
theorem for_tup (P : Nat → L2.St → Hp → Prop) (h0 : P 0 σ H) (ha : ∀ i σ H, P i σ H → H a = some (.tup xs)) (done : ∀ σ H, P xs.length σ H → nx σ H)
    (turn : ∀ i x σ H, xs[i]? = some x → P i σ H → g x σ H fun σ2 H3 => tb ⟨P (i + 1), rt, nx, P (i + 1)⟩ σ2 H3) :
    ∃ b, V.ref a = .ref b ∧ (∃ xs, SqT K H b xs) ∧ ∃ W : Nat → Nat → L2.St → Hp → Prop, (∃ m, W 0 m σ H) ∧ ∀ i m σ H, W i m σ H →
      ((Itt K b).stop i H ∧ nx σ H) ∨ ((Itt K b).go i H ∧ ∃ N : L2.St → Hp → Prop, (∀ σ' H', N σ' H' → ∃ m', m' < m ∧ W (i + 1) m' σ' H') ∧ ∀ x H', (Itt K b).yld i H x H' → g x σ H' fun σ2 H2 => tb ⟨N, rt, nx, N⟩ σ2 H2) := by
  refine ⟨a, rfl, ⟨xs, .inl (.of (ha _ _ _ h0))⟩, for_it (n := xs.length) P h0 (fun σ H p => ⟨⟨xs, .inl (.of (ha _ _ _ p)), Nat.le_refl _⟩, done σ H p⟩) fun i σ H hi p => ?_⟩
  refine ⟨⟨xs, xs[i], .inl (.of (ha _ _ _ p)), by simp [hi]⟩, fun x H2 ⟨e, y⟩ => ?_⟩
  subst e
  exact turn i x σ H2 (y xs (.inl (.of (ha _ _ _ p)))) p
theorem for_rng {lo : Int} (P : Nat → L2.St → Hp → Prop) (h0 : P 0 σ H) (done : ∀ σ H, P n σ H → nx σ H)
    (turn : ∀ i σ H, i < n → P i σ H → g (.int (lo + i)) σ H fun σ2 H3 => tb ⟨P (i + 1), rt, nx, P (i + 1)⟩ σ2 H3) :
    ∃ W : Nat → Nat → L2.St → Hp → Prop, (∃ m, W 0 m σ H) ∧ ∀ i m σ H, W i m σ H →
      ((Itr lo n).stop i H ∧ nx σ H) ∨ ((Itr lo n).go i H ∧ ∃ N : L2.St → Hp → Prop, (∀ σ' H', N σ' H' → ∃ m', m' < m ∧ W (i + 1) m' σ' H') ∧ ∀ x H', (Itr lo n).yld i H x H' → g x σ H' fun σ2 H2 => tb ⟨N, rt, nx, N⟩ σ2 H2) := by
  refine for_it (n := n) P h0 (fun σ H p => ⟨Nat.le_refl _, done σ H p⟩) fun i σ H hi p => ?_
  refine ⟨hi, fun x H2 ⟨e, y⟩ => ?_⟩
  subst e; subst y
  exact turn i σ H2 hi p
theorem lc_it (P : Addr → Nat → Hp → Prop) (h0 : ∀ D, H D = none → P D 0 (upd H D (.lst []))) (stop : ∀ D H', H D = none → P D n H' → J.stop n H' ∧ F D H')
    (turn : ∀ D i H', H D = none → i < n → P D i H' → J.go i H' ∧ ∀ x H2, J.yld i H' x H2 → g x (wipe σ vs) H2 fun σ2 H3 => wipe σ2 vs = wipe σ vs ∧ tt σ2 H3 fun b H4 => if b = true then te σ2 H4 fun y H5 => ∃ acc, H5 D = some (.lst acc) ∧ acc.length < sizeLine ∧ P D (i + 1) (upd H5 D (.lst (acc ++ [y]))) else P D (i + 1) H4) :
    ∀ D, H D = none → ∃ W : Nat → Nat → Hp → Prop, (∃ m, W 0 m (upd H D (.lst []))) ∧ ∀ i m H, W i m H →
  (J.stop i H ∧ F D H) ∨ (J.go i H ∧ ∃ Nx : Hp → Prop, (∀ H', Nx H' → ∃ m', m' < m ∧ W (i + 1) m' H') ∧ ∀ x H', J.yld i H x H' → g x (wipe σ vs) H' fun σ2 H2 => wipe σ2 vs = wipe σ vs ∧ tt σ2 H2 fun b H3 =>
    if b = true then te σ2 H3 fun y H4 => ∃ acc, H4 D = some (.lst acc) ∧ acc.length < sizeLine ∧ Nx (upd H4 D (.lst (acc ++ [y]))) else Nx H3) := by
  intro d hd
  refine ⟨fun i m H => i + m = n ∧ P d i H, ⟨n, by omega, h0 d hd⟩, ?_⟩
  rintro i m H' ⟨e, p⟩
  by_cases h : i < n
  · obtain ⟨h1, h2⟩ := turn d i H' hd h p
    exact .inr ⟨h1, P d (i + 1), fun H' q => ⟨m - 1, by omega, by omega, q⟩, h2⟩
  · have : i = n := by omega
    subst this
    exact .inl (stop d H' hd p)
theorem lc_list (P : Addr → Nat → Hp → Prop) (hl : H a = some (.lst xs)) (h0 : ∀ D, H D = none → P D 0 (upd H D (.lst []))) (ha : ∀ D i H', H D = none → P D i H' → H' a = some (.lst xs)) (stop : ∀ D H', H D = none → P D xs.length H' → F D H')
    (turn : ∀ D i x H', H D = none → xs[i]? = some x → P D i H' → g x (wipe σ vs) H' fun σ2 H3 => wipe σ2 vs = wipe σ vs ∧ tt σ2 H3 fun b H4 => if b = true then te σ2 H4 fun y H5 => ∃ acc, H5 D = some (.lst acc) ∧ acc.length < sizeLine ∧ P D (i + 1) (upd H5 D (.lst (acc ++ [y]))) else P D (i + 1) H4) :
    ∃ b, V.ref a = .ref b ∧ (∃ xs, SqL K H b xs) ∧ ∀ D, H D = none → ∃ W : Nat → Nat → Hp → Prop, (∃ m, W 0 m (upd H D (.lst []))) ∧ ∀ i m H, W i m H →
  ((Itl K b).stop i H ∧ F D H) ∨ ((Itl K b).go i H ∧ ∃ Nx : Hp → Prop, (∀ H', Nx H' → ∃ m', m' < m ∧ W (i + 1) m' H') ∧ ∀ x H', (Itl K b).yld i H x H' → g x (wipe σ vs) H' fun σ2 H2 => wipe σ2 vs = wipe σ vs ∧ tt σ2 H2 fun b H3 =>
    if b = true then te σ2 H3 fun y H4 => ∃ acc, H4 D = some (.lst acc) ∧ acc.length < sizeLine ∧ Nx (upd H4 D (.lst (acc ++ [y]))) else Nx H3) := by
  refine ⟨a, rfl, ⟨xs, .inl (.of hl)⟩, lc_it (n := xs.length) P h0 (fun d H' hd p => ⟨⟨xs, .inl (.of (ha _ _ _ hd p)), Nat.le_refl _⟩, stop d H' hd p⟩) fun d i H' hd hi p => ?_⟩
  refine ⟨⟨xs, xs[i], .inl (.of (ha _ _ _ hd p)), by simp [hi]⟩, fun x H2 ⟨e, y⟩ => ?_⟩
  subst e
  exact turn d i x H2 hd (y xs (.inl (.of (ha _ _ _ hd p)))) p
theorem lc_tup (P : Addr → Nat → Hp → Prop) (hl : H a = some (.tup xs)) (h0 : ∀ D, H D = none → P D 0 (upd H D (.lst []))) (ha : ∀ D i H', H D = none → P D i H' → H' a = some (.tup xs)) (stop : ∀ D H', H D = none → P D xs.length H' → F D H')
    (turn : ∀ D i x H', H D = none → xs[i]? = some x → P D i H' → g x (wipe σ vs) H' fun σ2 H3 => wipe σ2 vs = wipe σ vs ∧ tt σ2 H3 fun b H4 => if b = true then te σ2 H4 fun y H5 => ∃ acc, H5 D = some (.lst acc) ∧ acc.length < sizeLine ∧ P D (i + 1) (upd H5 D (.lst (acc ++ [y]))) else P D (i + 1) H4) :
    ∃ b, V.ref a = .ref b ∧ (∃ xs, SqT K H b xs) ∧ ∀ D, H D = none → ∃ W : Nat → Nat → Hp → Prop, (∃ m, W 0 m (upd H D (.lst []))) ∧ ∀ i m H, W i m H →
  ((Itt K b).stop i H ∧ F D H) ∨ ((Itt K b).go i H ∧ ∃ Nx : Hp → Prop, (∀ H', Nx H' → ∃ m', m' < m ∧ W (i + 1) m' H') ∧ ∀ x H', (Itt K b).yld i H x H' → g x (wipe σ vs) H' fun σ2 H2 => wipe σ2 vs = wipe σ vs ∧ tt σ2 H2 fun b H3 =>
    if b = true then te σ2 H3 fun y H4 => ∃ acc, H4 D = some (.lst acc) ∧ acc.length < sizeLine ∧ Nx (upd H4 D (.lst (acc ++ [y]))) else Nx H3) := by
  refine ⟨a, rfl, ⟨xs, .inl (.of hl)⟩, lc_it (n := xs.length) P h0 (fun d H' hd p => ⟨⟨xs, .inl (.of (ha _ _ _ hd p)), Nat.le_refl _⟩, stop d H' hd p⟩) fun d i H' hd hi p => ?_⟩
  refine ⟨⟨xs, xs[i], .inl (.of (ha _ _ _ hd p)), by simp [hi]⟩, fun x H2 ⟨e, y⟩ => ?_⟩
  subst e
  exact turn d i x H2 hd (y xs (.inl (.of (ha _ _ _ hd p)))) p
theorem lc_rng {lo : Int} (P : Addr → Nat → Hp → Prop) (h0 : ∀ D, H D = none → P D 0 (upd H D (.lst []))) (stop : ∀ D H', H D = none → P D n H' → F D H')
    (turn : ∀ D i H', H D = none → i < n → P D i H' → g (.int (lo + i)) (wipe σ vs) H' fun σ2 H3 => wipe σ2 vs = wipe σ vs ∧ tt σ2 H3 fun b H4 => if b = true then te σ2 H4 fun y H5 => ∃ acc, H5 D = some (.lst acc) ∧ acc.length < sizeLine ∧ P D (i + 1) (upd H5 D (.lst (acc ++ [y]))) else P D (i + 1) H4) :
    ∀ D, H D = none → ∃ W : Nat → Nat → Hp → Prop, (∃ m, W 0 m (upd H D (.lst []))) ∧ ∀ i m H, W i m H →
  ((Itr lo n).stop i H ∧ F D H) ∨ ((Itr lo n).go i H ∧ ∃ Nx : Hp → Prop, (∀ H', Nx H' → ∃ m', m' < m ∧ W (i + 1) m' H') ∧ ∀ x H', (Itr lo n).yld i H x H' → g x (wipe σ vs) H' fun σ2 H2 => wipe σ2 vs = wipe σ vs ∧ tt σ2 H2 fun b H3 =>
    if b = true then te σ2 H3 fun y H4 => ∃ acc, H4 D = some (.lst acc) ∧ acc.length < sizeLine ∧ Nx (upd H4 D (.lst (acc ++ [y]))) else Nx H3) := by
  refine lc_it (n := n) P h0 (fun d H' hd p => ⟨Nat.le_refl _, stop d H' hd p⟩) fun d i H' hd hi p => ?_
  refine ⟨hi, fun x H2 ⟨e, y⟩ => ?_⟩
  subst e; subst y
  exact turn d i H2 hd hi p
/-! nothing but the new list changes -/
def PureP (H : Hp) (f : V → Option V) (xs : List V) (d : Addr) (i : Nat) (H' : Hp) : Prop := H' = upd H d (.lst ((xs.take i).filterMap f))
theorem upd_upd {H : Hp} {d : Addr} {o o' : HO} : upd (upd H d o) d o' = upd H d o' := by
  funext b
  unfold upd
  split <;> rfl
theorem take_fm {f : V → Option V} {x : V} {i : Nat} (hx : xs[i]? = some x) : (xs.take (i + 1)).filterMap f = (xs.take i).filterMap f ++ (f x).toList := by
  rw [List.take_add_one, List.filterMap_append, hx]
  show _ ++ List.filterMap f [x] = _
  cases e : f x <;> simp [e]
theorem pu_yes {f : V → Option V} {x y : V} {i : Nat} {d : Addr} (hz : xs.length < sizeLine) (hx : xs[i]? = some x) (e : f x = some y) : ∃ acc, (upd H d (.lst ((xs.take i).filterMap f))) d = some (.lst acc) ∧ acc.length < sizeLine ∧ PureP H f xs d (i + 1) (upd (upd H d (.lst ((xs.take i).filterMap f))) d (.lst (acc ++ [y]))) := by
  refine ⟨_, upd_same, ?_, ?_⟩
  · exact Nat.lt_of_le_of_lt (List.length_filterMap_le _ _) (Nat.lt_of_le_of_lt (by rw [List.length_take]; exact Nat.min_le_right _ _) hz)
  · unfold PureP
    rw [take_fm hx, e, upd_upd]; rfl
theorem pu_no {f : V → Option V} {x : V} {i : Nat} {d : Addr} (hx : xs[i]? = some x) (e : f x = none) : PureP H f xs d (i + 1) (upd H d (.lst ((xs.take i).filterMap f))) := by
  unfold PureP
  rw [take_fm hx, e]; simp
theorem lc_listP (f : V → Option V) (hl : H a = some (.lst xs)) (q : ∀ D, H D = none → F D (upd H D (.lst (xs.filterMap f))))
    (turn : ∀ D i x, H D = none → xs[i]? = some x → g x (wipe σ vs) (upd H D (.lst ((xs.take i).filterMap f))) fun σ2 H3 => wipe σ2 vs = wipe σ vs ∧ tt σ2 H3 fun b H4 => if b = true then te σ2 H4 fun y H5 => ∃ acc, H5 D = some (.lst acc) ∧ acc.length < sizeLine ∧ PureP H f xs D (i + 1) (upd H5 D (.lst (acc ++ [y]))) else PureP H f xs D (i + 1) H4) :
    ∃ b, V.ref a = .ref b ∧ (∃ xs, SqL K H b xs) ∧ ∀ D, H D = none → ∃ W : Nat → Nat → Hp → Prop, (∃ m, W 0 m (upd H D (.lst []))) ∧ ∀ i m H, W i m H →
  ((Itl K b).stop i H ∧ F D H) ∨ ((Itl K b).go i H ∧ ∃ Nx : Hp → Prop, (∀ H', Nx H' → ∃ m', m' < m ∧ W (i + 1) m' H') ∧ ∀ x H', (Itl K b).yld i H x H' → g x (wipe σ vs) H' fun σ2 H2 => wipe σ2 vs = wipe σ vs ∧ tt σ2 H2 fun b H3 =>
    if b = true then te σ2 H3 fun y H4 => ∃ acc, H4 D = some (.lst acc) ∧ acc.length < sizeLine ∧ Nx (upd H4 D (.lst (acc ++ [y]))) else Nx H3) := by
  refine lc_list (PureP H f xs) hl (fun d hd => by simp [PureP]) (fun d i H' hd p => ?_) (fun d H' hd p => ?_) fun d i x H' hd hx p => ?_
  · rw [p]; exact keep hd hl
  · rw [p, List.take_length]; exact q d hd
  · rw [p]; exact turn d i x hd hx
theorem lc_tupP (f : V → Option V) (hl : H a = some (.tup xs)) (q : ∀ D, H D = none → F D (upd H D (.lst (xs.filterMap f))))
    (turn : ∀ D i x, H D = none → xs[i]? = some x → g x (wipe σ vs) (upd H D (.lst ((xs.take i).filterMap f))) fun σ2 H3 => wipe σ2 vs = wipe σ vs ∧ tt σ2 H3 fun b H4 => if b = true then te σ2 H4 fun y H5 => ∃ acc, H5 D = some (.lst acc) ∧ acc.length < sizeLine ∧ PureP H f xs D (i + 1) (upd H5 D (.lst (acc ++ [y]))) else PureP H f xs D (i + 1) H4) :
    ∃ b, V.ref a = .ref b ∧ (∃ xs, SqT K H b xs) ∧ ∀ D, H D = none → ∃ W : Nat → Nat → Hp → Prop, (∃ m, W 0 m (upd H D (.lst []))) ∧ ∀ i m H, W i m H →
  ((Itt K b).stop i H ∧ F D H) ∨ ((Itt K b).go i H ∧ ∃ Nx : Hp → Prop, (∀ H', Nx H' → ∃ m', m' < m ∧ W (i + 1) m' H') ∧ ∀ x H', (Itt K b).yld i H x H' → g x (wipe σ vs) H' fun σ2 H2 => wipe σ2 vs = wipe σ vs ∧ tt σ2 H2 fun b H3 =>
    if b = true then te σ2 H3 fun y H4 => ∃ acc, H4 D = some (.lst acc) ∧ acc.length < sizeLine ∧ Nx (upd H4 D (.lst (acc ++ [y]))) else Nx H3) := by
  refine lc_tup (PureP H f xs) hl (fun d hd => by simp [PureP]) (fun d i H' hd p => ?_) (fun d H' hd p => ?_) fun d i x H' hd hx p => ?_
  · rw [p]; exact keep hd hl
  · rw [p, List.take_length]; exact q d hd
  · rw [p]; exact turn d i x hd hx
def rngV (n : Nat) : List V := (List.range n).map fun i : Nat => V.int (i : Int)
theorem rng_len (n : Nat) : (rngV n).length = n := by simp [rngV]
theorem rng_at {n i : Nat} (h : i < n) : (rngV n)[i]? = some (.int (i : Int)) := by simp [rngV, h]
theorem lc_rngP (f : V → Option V) (q : ∀ D, H D = none → F D (upd H D (.lst ((rngV n).filterMap f))))
    (turn : ∀ D i, H D = none → i < n → g (.int (0 + i)) (wipe σ vs) (upd H D (.lst (((rngV n).take i).filterMap f))) fun σ2 H3 => wipe σ2 vs = wipe σ vs ∧ tt σ2 H3 fun b H4 => if b = true then te σ2 H4 fun y H5 => ∃ acc, H5 D = some (.lst acc) ∧ acc.length < sizeLine ∧ PureP H f (rngV n) D (i + 1) (upd H5 D (.lst (acc ++ [y]))) else PureP H f (rngV n) D (i + 1) H4) :
    ∀ D, H D = none → ∃ W : Nat → Nat → Hp → Prop, (∃ m, W 0 m (upd H D (.lst []))) ∧ ∀ i m H, W i m H →
  ((Itr 0 n).stop i H ∧ F D H) ∨ ((Itr 0 n).go i H ∧ ∃ Nx : Hp → Prop, (∀ H', Nx H' → ∃ m', m' < m ∧ W (i + 1) m' H') ∧ ∀ x H', (Itr 0 n).yld i H x H' → g x (wipe σ vs) H' fun σ2 H2 => wipe σ2 vs = wipe σ vs ∧ tt σ2 H2 fun b H3 =>
    if b = true then te σ2 H3 fun y H4 => ∃ acc, H4 D = some (.lst acc) ∧ acc.length < sizeLine ∧ Nx (upd H4 D (.lst (acc ++ [y]))) else Nx H3) := by
  refine lc_rng (PureP H f (rngV n)) (fun d hd => by simp [PureP]) (fun d H' hd p => ?_) fun d i H' hd hx p => ?_
  · have e : (rngV n).take n = rngV n := List.take_of_length_le (by rw [rng_len]; exact Nat.le_refl _)
    unfold PureP at p
    rw [e] at p
    rw [p]; exact q d hd
  · rw [p]; exact turn d i hd hx
/-! targets -/
theorem g_gname {i : Nat} {v : V} {F : L2.St → Hp → Prop} (q : F (σ.set i (some v)) H) : gName i v σ H F := q
theorem g_gtup {p : Addr} {t : TGs} {F : L2.St → Hp → Prop} (h : H p = some (.tup xs)) (hn : xs.length = n) (q : t xs σ H F) : gTup K n t (.ref p) σ H F := ⟨p, xs, rfl, .inl (.of h), hn, q⟩
theorem g_gcons {v : V} {r : List V} {t : TG} {u : TGs} {F : L2.St → Hp → Prop} (q : t v σ H fun σ' H' => u r σ' H' F) : gCons t u (v :: r) σ H F := ⟨v, r, rfl, q⟩
theorem g_gnil {F : L2.St → Hp → Prop} (q : F σ H) : gNil [] σ H F := ⟨rfl, q⟩
theorem upd_back {H : Hp} {d D : Addr} {u o x : HO} (h : H d = some u) (n : D ≠ d) : upd (upd (upd H d o) D x) d u = upd H D x := by
  funext b
  unfold upd
  by_cases h1 : b = d
  · subst h1; rw [if_pos rfl, if_neg (Ne.symm n), h]
  · rw [if_neg h1]
    by_cases h2 : b = D
    · rw [if_pos h2, if_pos h2]
    · rw [if_neg h2, if_neg h2, if_neg h1]
theorem lc_keysP {m : Nat} {d : Addr} {kvs : List (Key × V)} (f : V → Option V) (hs : σ[m]? = some (some (.ref d))) (hd : H d = some (.dK kvs)) (q : ∀ D, H D = none → Q (.ref D) (upd H D (.lst ((kvs.map fun kv => kV kv.1).filterMap f))))
    (turn : ∀ D o i k v, H D = none → D ≠ d → kvs[i]? = some (k, v) → g (kV k) (wipe σ vs) (upd (upd H d (.frz o (.dK kvs))) D (.lst (((kvs.map fun kv => kV kv.1).take i).filterMap f))) fun σ2 H3 => wipe σ2 vs = wipe σ vs ∧ tt σ2 H3 fun b H4 => if b = true then te σ2 H4 fun y H5 => ∃ acc, H5 D = some (.lst acc) ∧ acc.length < sizeLine ∧ PureP (upd H d (.frz o (.dK kvs))) f (kvs.map fun kv => kV kv.1) D (i + 1) (upd H5 D (.lst (acc ++ [y]))) else PureP (upd H d (.frz o (.dK kvs))) f (kvs.map fun kv => kV kv.1) D (i + 1) H4) :
    tLockE (tLc (iKeys (tVar m)) g tt te vs) σ H Q := by
  refine ⟨d, .dK kvs, hd, ?_, fun o => ?_⟩
  · trivial
  refine ⟨.ref d, hs, d, o, rfl, .inl ⟨kvs, upd_same, ?_⟩⟩
  have nd : ∀ D, upd H d (.frz o (.dK kvs)) D = none → H D = none ∧ D ≠ d := fun D h => by
    by_cases e : D = d
    · rw [e, upd_same] at h; cases h
    · rw [upd_ne e] at h; exact ⟨h, e⟩
  have hfz : ∀ D i, D ≠ d → (upd (upd H d (.frz o (.dK kvs))) D (.lst (((kvs.map fun kv => kV kv.1).take i).filterMap f))) d = some (.frz o (.dK kvs)) := fun D i n => by
    rw [upd_ne (Ne.symm n)]; exact upd_same
  refine lc_it (H := upd H d (.frz o (.dK kvs))) (F := fun D H' => H' d = some (.frz o (.dK kvs)) ∧ Q (.ref D) (upd H' d (.dK kvs))) (J := Itk d o kvs) (n := kvs.length) (PureP (upd H d (.frz o (.dK kvs))) f (kvs.map fun kv => kV kv.1)) (fun D hD => by simp [PureP]) (fun D H' hD p => ?_) fun D i H' hD hi p => ?_
  · obtain ⟨h1, h2⟩ := nd D hD
    rw [p]
    refine ⟨⟨hfz D _ h2, Nat.le_refl _⟩, hfz D _ h2, ?_⟩
    have e : kvs.length = (kvs.map fun kv => kV kv.1).length := by simp
    rw [e, List.take_length, upd_back hd h2]
    exact q D h1
  · obtain ⟨h1, h2⟩ := nd D hD
    rw [p]
    refine ⟨⟨hfz D _ h2, hi⟩, fun x H2 ⟨e, k, v, hk, ex⟩ => ?_⟩
    subst e; subst ex
    exact turn D o i k v h1 h2 hk
theorem g_yes {R : Bool → Hp → Prop} (q : R true H) : tYes σ H R := q
theorem g_lc {wi : TI} (q : wi σ H fun J H1 => ∀ D, H1 D = none → ∃ W : Nat → Nat → Hp → Prop, (∃ m, W 0 m (upd H1 D (.lst []))) ∧ ∀ i m H, W i m H →
  (J.stop i H ∧ Q (.ref D) H) ∨ (J.go i H ∧ ∃ Nx : Hp → Prop, (∀ H', Nx H' → ∃ m', m' < m ∧ W (i + 1) m' H') ∧ ∀ x H', J.yld i H x H' → g x (wipe σ vs) H' fun σ2 H2 => wipe σ2 vs = wipe σ vs ∧ tt σ2 H2 fun b H3 =>
    if b = true then te σ2 H3 fun y H4 => ∃ acc, H4 D = some (.lst acc) ∧ acc.length < sizeLine ∧ Nx (upd H4 D (.lst (acc ++ [y]))) else Nx H3)) : tLc wi g tt te vs σ H Q := q
theorem g_for {wi : TI} (q : wi σ H fun J H1 => ∃ W : Nat → Nat → L2.St → Hp → Prop, (∃ m, W 0 m σ H1) ∧ ∀ i m σ H, W i m σ H →
  (J.stop i H ∧ D.nx σ H) ∨ (J.go i H ∧ ∃ N : L2.St → Hp → Prop, (∀ σ' H', N σ' H' → ∃ m', m' < m ∧ W (i + 1) m' σ' H') ∧ ∀ x H', J.yld i H x H' → g x σ H' fun σ2 H2 => tb { D with nx := N, ct := N, bk := D.nx } σ2 H2)) : tFor wi g tb D σ H := q
theorem g_il {tl : TE} {R : It → Hp → Prop} (q : tl σ H fun x H1 => ∃ a, x = .ref a ∧ (∃ xs, SqL K H1 a xs) ∧ R (Itl K a) H1) : iList K tl σ H R := q
theorem g_rng1 {ta : TA} {R : It → Hp → Prop} (q : ta σ H fun vs H1 => ∃ j : Int, vs = [.int j] ∧ -(2 ^ 62) ≤ j ∧ j < 2 ^ 62 ∧ R (Itr 0 j.toNat) H1) : iRng1 ta σ H R := q
theorem g_andV {ta tb : TE} (q : ta σ H fun x H1 => ∃ c, x = .bl c ∧ if c = true then tb σ H1 Q else Q (.bl false) H1) : tAndV ta tb σ H Q := q
theorem g_orV {ta tb : TE} (q : ta σ H fun x H1 => ∃ c, x = .bl c ∧ if c = true then Q (.bl true) H1 else tb σ H1 Q) : tOrV ta tb σ H Q := q
theorem g_notV {ta : TE} (q : ta σ H fun x H1 => ∃ c, x = .bl c ∧ Q (.bl (!c)) H1) : tNotV ta σ H Q := q
theorem g_sl {r : V → Option Int → Option Int → Hp → VK → Prop} {te : TE} {tl th : TO} (q : te σ H fun x H1 => tl σ H1 fun l H2 => th σ H2 fun u H3 => r x l u H3 Q) : tSl r te tl th σ H Q := q
theorem g_part {t : TE} {R : Option Int → Hp → Prop} (q : t σ H fun x H1 => ∃ i, x = .int i ∧ R (some i) H1) : tPart t σ H R := q
theorem g_nopart {R : Option Int → Hp → Prop} (q : R none H) : tNoPart σ H R := q
theorem g_part1 {j : Int} {F : Int → Prop} (q : F j) : ∃ i, V.int j = .int i ∧ F i := ⟨j, rfl, q⟩
theorem g_disp {trs : List (TE × TE)} (q : ∀ p, H p = none → tPairs trs σ (upd H p (.dK [])) fun ps H2 => H2 p = some (.dK []) ∧ ∃ kvs : List (Key × V), ps = kvs.map (fun kv => (kV kv.1, kv.2)) ∧ kvs.length ≤ 15 ∧ Q (.ref p) (upd H2 p (.dK (mergeK [] kvs)))) : tDisp trs σ H Q := q
theorem g_pairs {tk tv : TE} {r : List (TE × TE)} {R : List (V × V) → Hp → Prop} (q : tk σ H fun x H1 => tv σ H1 fun y H2 => tPairs r σ H2 fun ps H3 => R ((x, y) :: ps) H3) : tPairs ((tk, tv) :: r) σ H R := q
theorem g_pairs0 {R : List (V × V) → Hp → Prop} (q : R [] H) : tPairs [] σ H R := q
theorem g_itp {tl : TE} {R : It → Hp → Prop} (q : tl σ H fun x H1 => ∃ a, x = .ref a ∧ (∃ xs, SqT K H1 a xs) ∧ R (Itt K a) H1) : iTup K tl σ H R := q
theorem g_par {i j : Nat} {ta : TA} (q : ta σ H fun vs H1 => ∃ v w, vs = [v, w] ∧ D.nx ((σ.set i (some v)).set j (some w)) H1) : tPar i j ta D σ H := q
theorem g_par1 {u v : V} {F : V → V → Prop} (q : F u v) : ∃ a b, [u, v] = [a, b] ∧ F a b := ⟨u, v, rfl, q⟩
theorem g_par3 {i j l : Nat} {ta : TA} (q : ta σ H fun vs H1 => ∃ u v w, vs = [u, v, w] ∧ D.nx (((σ.set i (some u)).set j (some v)).set l (some w)) H1) : tPar3 i j l ta D σ H := q
theorem g_par31 {u v w : V} {F : V → V → V → Prop} (q : F u v w) : ∃ a b c, [u, v, w] = [a, b, c] ∧ F a b c := ⟨u, v, w, rfl, q⟩
end
section
variable {X : Cx} {K : PySem.W.Frag}
theorem op_catAK (h : X.K = K := by rfl) : OpR X (binaryOp .Add) (rCatA K) := h ▸ op_catA
theorem op_inK (h : X.K = K := by rfl) : OpR X (compareOp .In) (rIn K false) := h ▸ op_in_seq
theorem op_notInK (h : X.K = K := by rfl) : OpR X (compareOp .NotIn) (rIn K true) := h ▸ op_notIn_seq
theorem ix_listK (h : X.K = K := by rfl) : IxR X (rIxL K) := h ▸ ix_list
theorem ix_tupK (h : X.K = K := by rfl) : IxR X (rIxT K) := h ▸ ix_tup
theorem pg_nameL {i : Nat} {x : Str} {pos : Pos} (hN : X.N.Nodup) (hi : X.N[i]? = some x) (hx : X.env.scope.names.lookup x = some .local) : PG X (.Name x pos) (gName i) := pg_name hN hi (.inl hx) (.inr hx)
theorem pg_tupK {es : List Expr} {k : Nat} {t : TGs} {n : Nat} {pos : Pos} (hc : X.calm = true) (h : PGs X es t) (hK : X.K = K := by rfl)
    (hn : (assignEach es X.env).length = n := by rfl) (hst : (assignEach es X.env).findIdx? (·.1) = none := by rfl) : PG X (.Tuple es k pos) (gTup K n t) := hK ▸ pg_tup hc h hn hst
end
end Fb
set_option Elab.async false
set_option linter.all false
set_option maxRecDepth 100000
set_option maxHeartbeats 4000000
/-! Programs as data, what is in sight: plain Lean. -/
namespace Fb
open PySem L2
inductive Atm where
  | nm (x : Str) | num (n : Int)
deriving DecidableEq
def Atm.nms : Atm → List Str
  | .nm x => [x]
  | .num _ => []
def Atm.v : Atm → V
  | .nm x => .str x
  | .num n => .int n
inductive Stm where
  | let_ (x : Str) (a : Atm)
  | sum (x s : Str) (a b : Atm)
  | fn (x : Str) (ps : List Str) (b : List Stm)
  | call (x f : Str) (as : List Atm)
  | set (x : Str) (a : Atm)
  | tell (a : Atm)
  | give (a : Atm)
  | ite (a : Atm) (b c : List Stm)
  | while (a : Atm) (b : List Stm)
  | times (own : Bool) (x : Str) (a : Atm) (b : List Stm)
inductive Op where
  | S (us : List Str) | M (x : Str) | O | C
def Stm.uses : Stm → List Str
  | .let_ _ a => a.nms
  | .sum _ _ a b => a.nms ++ b.nms
  | .fn _ _ _ => []
  | .call _ f as => f :: as.flatMap Atm.nms
  | .set x a => x :: a.nms
  | .tell a => a.nms
  | .give a => a.nms
  | .ite a _ _ => a.nms
  | .while a _ => a.nms
  | .times _ _ a _ => a.nms
mutual
def opsS : Stm → List Op
  | .let_ x a => [.S a.nms, .M x]
  | .sum x _ a b => [.S (a.nms ++ b.nms), .M x]
  | .fn x ps b => .S [] :: .M x :: .O :: (ps.map Op.M ++ (ops b ++ [.C]))
  | .call x f as => [.S (f :: as.flatMap Atm.nms), .M x]
  | .set x a => [.S (x :: a.nms)]
  | .tell a => [.S a.nms]
  | .give a => [.S a.nms]
  | .ite a b c => .S a.nms :: .O :: (ops b ++ (.C :: .O :: (ops c ++ [.C])))
  | .while a b => .S a.nms :: .O :: (ops b ++ [.C])
  | .times true x a b => .S a.nms :: .O :: .M x :: (ops b ++ [.C])
  | .times false x a b => .S a.nms :: .O :: .M x :: .O :: (ops b ++ [.C, .C])
def ops : List Stm → List Op
  | [] => []
  | s :: b => opsS s ++ ops b
end
theorem ops_nil : ops [] = [] := by simp only [ops]
theorem ops_cons (s : Stm) (b : List Stm) : ops (s :: b) = opsS s ++ ops b := by simp only [ops]
theorem ops_append : ∀ b c : List Stm, ops (b ++ c) = ops b ++ ops c
  | [], c => by rw [ops_nil]; rfl
  | s :: b, c => by rw [List.cons_append, ops_cons, ops_cons, ops_append b c, List.append_assoc]
theorem ops_one (s : Stm) : ops [s] = opsS s := by rw [ops_cons, ops_nil, List.append_nil]
/-! ### scopes -/
abbrev Scp := List (Str × Nat)
def dom (c : Scp) : List Str := c.map (·.1)
def putS (c : Scp) (x : Str) (i : Nat) : Scp := if (c.any fun kv => decide (kv.1 = x)) = true then c.map (fun kv => if kv.1 = x then (kv.1, i) else kv) else c ++ [(x, i)]
def getS (c : Scp) (x : Str) : Option Nat := (c.find? fun kv => decide (kv.1 = x)).map (·.2)
def lookS : List Scp → Str → Option Nat
  | [], _ => none
  | c :: r, x => (getS c x).or (lookS r x)
structure Sn where
  sc : List Scp
  mks : List Str
  at_ : Nat
  means : List (List (Option Nat))
  am : List (Str × Nat × Str)
def run1 : Op → Sn → Sn
  | .S us, s => { s with at_ := s.at_ + 1, means := s.means ++ [us.map (lookS s.sc)], am := s.am ++ (us.filter fun u => (lookS s.sc u).isNone).map fun u => (("unknown" : Str), s.at_, u) }
  | .M x, s => match s.sc with
    | [] => s
    | c :: r => { s with sc := putS c x s.mks.length :: r, mks := s.mks ++ [x], am := s.am ++ if (getS c x).isSome then [(("twice" : Str), s.at_ - 1, x)] else [] }
  | .O, s => { s with sc := [] :: s.sc }
  | .C, s => { s with sc := s.sc.tail }
def run : List Op → Sn → Sn
  | [], s => s
  | o :: r, s => run r (run1 o s)
theorem run_append : ∀ (a b : List Op) (s : Sn), run (a ++ b) s = run b (run a s)
  | [], _, _ => rfl
  | o :: a, b, s => run_append a b (run1 o s)
theorem getS_isSome {c : Scp} {x : Str} : (getS c x).isSome = true ↔ x ∈ dom c := by
  unfold getS dom
  rw [Option.isSome_map, List.find?_isSome, List.mem_map]
  constructor
  · rintro ⟨p, hp, e⟩; exact ⟨p, hp, of_decide_eq_true e⟩
  · rintro ⟨p, hp, e⟩; exact ⟨p, hp, decide_eq_true e⟩
theorem getS_none {c : Scp} {x : Str} : getS c x = none ↔ x ∉ dom c := by
  rw [← getS_isSome]
  cases getS c x <;> simp
theorem dom_putS {c : Scp} {x y : Str} {i : Nat} : y ∈ dom (putS c x i) ↔ y ∈ dom c ∨ y = x := by
  unfold putS dom
  split
  · rename_i h
    obtain ⟨p, hp, e⟩ := List.any_eq_true.mp h
    have e := of_decide_eq_true e
    have : (c.map (fun kv => if kv.1 = x then (kv.1, i) else kv)).map (·.1) = c.map (·.1) := by
      rw [List.map_map]
      apply List.map_congr_left
      intro a _
      simp only [Function.comp]
      split <;> rfl
    rw [this]
    constructor
    · exact Or.inl
    · rintro (h | rfl)
      · exact h
      · exact List.mem_map.mpr ⟨p, hp, e⟩
  · rw [List.map_append, List.mem_append]
    simp
theorem lookS_cons {c : Scp} {r : List Scp} {x : Str} : (lookS (c :: r) x).isSome = true ↔ x ∈ dom c ∨ (lookS r x).isSome = true := by
  rw [← getS_isSome]
  show ((getS c x).or (lookS r x)).isSome = true ↔ _
  cases getS c x <;> simp
/-! ### what a block does to the scopes: its own one alone changes -/
theorem run_M_cons {c : Scp} {r : List Scp} {s : Sn} {x : Str} (h : s.sc = c :: r) : run1 (.M x) s = { s with sc := putS c x s.mks.length :: r, mks := s.mks ++ [x], am := s.am ++ if (getS c x).isSome then [(("twice" : Str), s.at_ - 1, x)] else [] } := by
  obtain ⟨sc, a, b, d, e⟩ := s
  have h : sc = c :: r := h
  subst h
  rfl
theorem run_Ms {r : List Scp} : ∀ (ps : List Str) (c : Scp) (s : Sn), s.sc = c :: r → ∃ c', (run (ps.map Op.M) s).sc = c' :: r
  | [], c, s, h => ⟨c, h⟩
  | p :: ps, c, s, h => by
    show ∃ c', (run (ps.map Op.M) (run1 (.M p) s)).sc = c' :: r
    rw [run_M_cons h]
    exact run_Ms ps _ _ rfl
mutual
theorem run_opsS : ∀ (st : Stm) (s : Sn) (c : Scp) (r : List Scp), s.sc = c :: r → ∃ c', (run (opsS st) s).sc = c' :: r
  | .let_ x a, s, c, r, h => by
    simp only [opsS, run]
    rw [run_M_cons (c := c) (r := r) (by exact h)]
    exact ⟨_, rfl⟩
  | .sum x _ a b, s, c, r, h => by
    simp only [opsS, run]
    rw [run_M_cons (c := c) (r := r) (by exact h)]
    exact ⟨_, rfl⟩
  | .fn x ps b, s, c, r, h => by
    simp only [opsS, run]
    rw [run_M_cons (c := c) (r := r) (by exact h), run_append, run_append]
    obtain ⟨c1, h1⟩ := run_Ms ps [] (run1 .O { run1 (.S []) s with sc := putS c x (run1 (.S []) s).mks.length :: r, mks := (run1 (.S []) s).mks ++ [x], am := (run1 (.S []) s).am ++ if (getS c x).isSome then [(("twice" : Str), (run1 (.S []) s).at_ - 1, x)] else [] }) (r := putS c x (run1 (.S []) s).mks.length :: r) rfl
    obtain ⟨c2, h2⟩ := run_ops b _ _ _ h1
    simp only [run, run1] at h2 ⊢
    rw [h2]
    exact ⟨_, rfl⟩
  | .call x f as, s, c, r, h => by
    simp only [opsS, run]
    rw [run_M_cons (c := c) (r := r) (by exact h)]
    exact ⟨_, rfl⟩
  | .set x a, s, c, r, h => ⟨c, by simp only [opsS, run, run1]; exact h⟩
  | .tell a, s, c, r, h => ⟨c, by simp only [opsS, run, run1]; exact h⟩
  | .give a, s, c, r, h => ⟨c, by simp only [opsS, run, run1]; exact h⟩
  | .ite a b d, s, c, r, h => by
    simp only [opsS, run]
    rw [run_append]
    obtain ⟨c1, h1⟩ := run_ops b (run1 .O (run1 (.S a.nms) s)) [] (c :: r) (by simp only [run1]; rw [h])
    simp only [run]
    rw [run_append]
    obtain ⟨c2, h2⟩ := run_ops d (run1 .O (run1 .C (run (ops b) (run1 .O (run1 (.S a.nms) s))))) [] (c :: r) (by
      show [] :: (run (ops b) (run1 .O (run1 (.S a.nms) s))).sc.tail = _
      rw [h1]; rfl)
    refine ⟨c, ?_⟩
    show (run (ops d) _).sc.tail = _
    rw [h2]; rfl
  | .while a b, s, c, r, h => by
    simp only [opsS, run]
    rw [run_append]
    obtain ⟨c1, h1⟩ := run_ops b (run1 .O (run1 (.S a.nms) s)) [] (c :: r) (by simp only [run1]; rw [h])
    refine ⟨c, ?_⟩
    show (run (ops b) _).sc.tail = _
    rw [h1]; rfl
  | .times true x a b, s, c, r, h => by
    simp only [opsS, run]
    rw [run_M_cons (c := []) (r := c :: r) (by simp only [run1]; rw [h]), run_append]
    obtain ⟨c1, h1⟩ := run_ops b { run1 .O (run1 (.S a.nms) s) with sc := putS [] x (run1 .O (run1 (.S a.nms) s)).mks.length :: c :: r, mks := (run1 .O (run1 (.S a.nms) s)).mks ++ [x], am := (run1 .O (run1 (.S a.nms) s)).am ++ if (getS [] x).isSome then [(("twice" : Str), (run1 .O (run1 (.S a.nms) s)).at_ - 1, x)] else [] } _ _ rfl
    refine ⟨c, ?_⟩
    show (run (ops b) _).sc.tail = _
    rw [h1]; rfl
  | .times false x a b, s, c, r, h => by
    simp only [opsS, run]
    rw [run_M_cons (c := []) (r := c :: r) (by simp only [run1]; rw [h]), run_append]
    obtain ⟨c1, h1⟩ := run_ops b (run1 .O { run1 .O (run1 (.S a.nms) s) with sc := putS [] x (run1 .O (run1 (.S a.nms) s)).mks.length :: c :: r, mks := (run1 .O (run1 (.S a.nms) s)).mks ++ [x], am := (run1 .O (run1 (.S a.nms) s)).am ++ if (getS [] x).isSome then [(("twice" : Str), (run1 .O (run1 (.S a.nms) s)).at_ - 1, x)] else [] }) _ _ rfl
    refine ⟨c, ?_⟩
    show (run (ops b) _).sc.tail.tail = _
    rw [h1]; rfl
theorem run_ops : ∀ (b : List Stm) (s : Sn) (c : Scp) (r : List Scp), s.sc = c :: r → ∃ c', (run (ops b) s).sc = c' :: r
  | [], s, c, r, h => ⟨c, by rw [ops_nil]; exact h⟩
  | st :: b, s, c, r, h => by
    rw [ops_cons, run_append]
    obtain ⟨c1, h1⟩ := run_opsS st s c r h
    exact run_ops b _ _ _ h1
end

/-! ### a program that is let by -/
/-- from wherever the names vs are in sight and the names nw are new, b goes through and makes nw -/
def Goo (vs : List Str) (b : List Stm) (nw : List Str) : Prop := ∀ (s : Sn) (c : Scp) (r : List Scp), s.sc = c :: r → s.am = [] → (∀ x ∈ vs, (lookS (c :: r) x).isSome = true) → (∀ x ∈ nw, x ∉ dom c) →
  ∃ c', (run (ops b) s).sc = c' :: r ∧ (run (ops b) s).am = [] ∧ ∀ x, x ∈ dom c' ↔ x ∈ dom c ∨ x ∈ nw
theorem Goo.mono {vs vs' : List Str} {b : List Stm} {nw : List Str} (g : Goo vs b nw) (h : ∀ x ∈ vs, x ∈ vs') : Goo vs' b nw := fun s c r e a v n => g s c r e a (fun x hx => v x (h x hx)) n
theorem Goo.nil {vs : List Str} : Goo vs [] [] := fun s c r e a v n => ⟨c, by rw [ops_nil]; exact e, by rw [ops_nil]; exact a, fun x => by simp⟩
theorem Goo.append {vs n1 n2 : List Str} {b1 b2 : List Stm} (g1 : Goo vs b1 n1) (g2 : Goo (vs ++ n1) b2 n2) (d : ∀ x ∈ n2, x ∉ n1) : Goo vs (b1 ++ b2) (n1 ++ n2) := fun s c r e a v n => by
  rw [ops_append, run_append]
  obtain ⟨c1, e1, a1, m1⟩ := g1 s c r e a v fun x hx => n x (List.mem_append_left _ hx)
  obtain ⟨c2, e2, a2, m2⟩ := g2 _ c1 r e1 a1 (fun x hx => by
    rw [lookS_cons]
    rcases List.mem_append.mp hx with h | h
    · rcases lookS_cons.mp (v x h) with q | q
      · exact .inl ((m1 x).mpr (.inl q))
      · exact .inr q
    · exact .inl ((m1 x).mpr (.inr h))) fun x hx q => by
      rcases (m1 x).mp q with q | q
      · exact n x (List.mem_append_right _ hx) q
      · exact d x hx q
  refine ⟨c2, e2, a2, fun x => ?_⟩
  rw [m2, m1, List.mem_append]
  constructor
  · rintro ((h | h) | h)
    · exact .inl h
    · exact .inr (.inl h)
    · exact .inr (.inr h)
  · rintro (h | h | h)
    · exact .inl (.inl h)
    · exact .inl (.inr h)
    · exact .inr h
/-- a use of names in sight notes nothing -/
theorem run_S {s : Sn} {us : List Str} (h : ∀ x ∈ us, (lookS s.sc x).isSome = true) (a : s.am = []) : (run1 (.S us) s).sc = s.sc ∧ (run1 (.S us) s).am = [] := by
  refine ⟨rfl, ?_⟩
  show s.am ++ _ = []
  rw [a, List.nil_append, List.filter_eq_nil_iff.mpr, List.map_nil]
  intro x hx q
  have := h x hx
  cases e : lookS s.sc x <;> simp_all
theorem run_M {s : Sn} {c : Scp} {r : List Scp} {x : Str} (h : s.sc = c :: r) (a : s.am = []) (n : x ∉ dom c) : ∃ c', (run1 (.M x) s).sc = c' :: r ∧ (run1 (.M x) s).am = [] ∧ ∀ y, y ∈ dom c' ↔ y ∈ dom c ∨ y = x := by
  rw [run_M_cons h]
  refine ⟨_, rfl, ?_, fun y => dom_putS⟩
  show s.am ++ _ = []
  rw [a, getS_none.mpr n]
  rfl
theorem Goo.use {vs : List Str} {st : Stm} {us : List Str} (o : opsS st = [.S us]) (h : ∀ x ∈ us, x ∈ vs) : Goo vs [st] [] := fun s c r e a v n => by
  rw [ops_one, o]
  obtain ⟨h1, h2⟩ := run_S (s := s) (us := us) (fun x hx => by rw [e]; exact v x (h x hx)) a
  exact ⟨c, h1.trans e, h2, fun x => by simp⟩
theorem Goo.make {vs : List Str} {st : Stm} {us : List Str} {x : Str} (o : opsS st = [.S us, .M x]) (h : ∀ x ∈ us, x ∈ vs) : Goo vs [st] [x] := fun s c r e a v n => by
  rw [ops_one, o]
  obtain ⟨h1, h2⟩ := run_S (s := s) (us := us) (fun x hx => by rw [e]; exact v x (h x hx)) a
  obtain ⟨c', h3, h4, h5⟩ := run_M (x := x) (h1.trans e) h2 (n x (by simp))
  exact ⟨c', h3, h4, fun y => by rw [h5]; simp⟩
theorem run_Ms_good {r : List Scp} : ∀ (ps : List Str) (c : Scp) (s : Sn), s.sc = c :: r → s.am = [] → (∀ x ∈ ps, x ∉ dom c) → ps.Nodup →
    ∃ c', (run (ps.map Op.M) s).sc = c' :: r ∧ (run (ps.map Op.M) s).am = [] ∧ ∀ y, y ∈ dom c' ↔ y ∈ dom c ∨ y ∈ ps
  | [], c, s, h, a, _, _ => ⟨c, h, a, fun y => by simp⟩
  | p :: ps, c, s, h, a, n, nd => by
    obtain ⟨c1, h1, a1, m1⟩ := run_M (x := p) h a (n p (by simp))
    obtain ⟨nd1, nd2⟩ := List.nodup_cons.mp nd
    obtain ⟨c2, h2, a2, m2⟩ := run_Ms_good ps c1 _ h1 a1 (fun x hx q => by
      rcases (m1 x).mp q with q | q
      · exact n x (by simp [hx]) q
      · subst q; exact nd1 hx) nd2
    refine ⟨c2, h2, a2, fun y => ?_⟩
    rw [m2, m1]
    simp [or_assoc]
theorem run_O (s : Sn) : (run1 .O s).sc = [] :: s.sc ∧ (run1 .O s).am = s.am := ⟨rfl, rfl⟩
theorem run_C (s : Sn) : (run1 .C s).sc = s.sc.tail ∧ (run1 .C s).am = s.am := ⟨rfl, rfl⟩
/-- a block within, its ground begun by ps -/
theorem inner {vs ps nb : List Str} {b : List Stm} (g : Goo (vs ++ ps) b nb) (nd : ps.Nodup) (d : ∀ x ∈ nb, x ∉ ps) (s : Sn) (c : Scp) (r : List Scp) (e : s.sc = c :: r) (a : s.am = []) (v : ∀ x ∈ vs, (lookS (c :: r) x).isSome = true) :
    (run (.O :: (ps.map Op.M ++ (ops b ++ [.C]))) s).sc = c :: r ∧ (run (.O :: (ps.map Op.M ++ (ops b ++ [.C]))) s).am = [] := by
  show (run (ps.map Op.M ++ (ops b ++ [.C])) (run1 .O s)).sc = _ ∧ (run (ps.map Op.M ++ (ops b ++ [.C])) (run1 .O s)).am = _
  rw [run_append, run_append]
  obtain ⟨c1, h1, a1, m1⟩ := run_Ms_good (r := c :: r) ps [] (run1 .O s) (by rw [(run_O s).1, e]) (by rw [(run_O s).2, a]) (fun x _ q => by cases q) nd
  obtain ⟨c2, h2, a2, m2⟩ := g _ c1 (c :: r) h1 a1 (fun x hx => by
    rw [lookS_cons]
    rcases List.mem_append.mp hx with q | q
    · exact .inr (v x q)
    · exact .inl ((m1 x).mpr (.inr q))) fun x hx q => by
      rcases (m1 x).mp q with q | q
      · cases q
      · exact d x hx q
  exact ⟨by show (run (ops b) _).sc.tail = _; rw [h2]; rfl, a2⟩
theorem Goo.fn {vs ps nb : List Str} {x : Str} {b : List Stm} (g : Goo (vs ++ [x] ++ ps) b nb) (nd : ps.Nodup) (d : ∀ y ∈ nb, y ∉ ps) : Goo vs [.fn x ps b] [x] := fun s c r e a v n => by
  rw [ops_one]
  simp only [opsS]
  show ∃ c', (run (.O :: (ps.map Op.M ++ (ops b ++ [.C]))) (run1 (.M x) (run1 (.S []) s))).sc = _ ∧ (run (.O :: (ps.map Op.M ++ (ops b ++ [.C]))) (run1 (.M x) (run1 (.S []) s))).am = _ ∧ _
  obtain ⟨h1, h2⟩ := run_S (s := s) (us := []) (fun x hx => by cases hx) a
  obtain ⟨c', h3, h4, h5⟩ := run_M (x := x) (h1.trans e) h2 (n x (by simp))
  obtain ⟨h6, h7⟩ := inner g nd d _ c' r h3 h4 fun y hy => by
    rw [lookS_cons]
    rcases List.mem_append.mp hy with q | q
    · rcases lookS_cons.mp (v y q) with z | z
      · exact .inl ((h5 y).mpr (.inl z))
      · exact .inr z
    · exact .inl ((h5 y).mpr (.inr (by simpa using q)))
  exact ⟨c', h6, h7, fun y => by rw [h5]; simp⟩
theorem run_S' {s : Sn} {c : Scp} {r : List Scp} {vs : List Str} {a : Atm} (e : s.sc = c :: r) (am : s.am = []) (v : ∀ x ∈ vs, (lookS (c :: r) x).isSome = true) (ha : ∀ x ∈ a.nms, x ∈ vs) : (run1 (.S a.nms) s).sc = c :: r ∧ (run1 (.S a.nms) s).am = [] := by
  obtain ⟨h1, h2⟩ := run_S (s := s) (us := a.nms) (fun x hx => by rw [e]; exact v x (ha x hx)) am
  exact ⟨h1.trans e, h2⟩
theorem Goo.ite {vs n1 n2 : List Str} {a : Atm} {b c : List Stm} (ha : ∀ x ∈ a.nms, x ∈ vs) (g1 : Goo vs b n1) (g2 : Goo vs c n2) : Goo vs [.ite a b c] [] := fun s d r e am v n => by
  rw [ops_one]
  simp only [opsS]
  have eq : (Op.S a.nms :: .O :: (ops b ++ (.C :: .O :: (ops c ++ [.C])))) = .S a.nms :: ((.O :: (([] : List Str).map Op.M ++ (ops b ++ [.C]))) ++ (.O :: (([] : List Str).map Op.M ++ (ops c ++ [.C])))) := by simp
  rw [eq]
  show ∃ c', (run (_ ++ _) (run1 (.S a.nms) s)).sc = _ ∧ (run (_ ++ _) (run1 (.S a.nms) s)).am = _ ∧ _
  rw [run_append]
  obtain ⟨h1, h2⟩ := run_S' e am v ha
  obtain ⟨h3, h4⟩ := inner (ps := []) (g1.mono fun x hx => by simp [hx]) .nil (fun x _ q => by cases q) _ d r h1 h2 v
  obtain ⟨h5, h6⟩ := inner (ps := []) (g2.mono fun x hx => by simp [hx]) .nil (fun x _ q => by cases q) _ d r h3 h4 v
  exact ⟨d, h5, h6, fun y => by simp⟩
theorem Goo.while {vs nb : List Str} {a : Atm} {b : List Stm} (ha : ∀ x ∈ a.nms, x ∈ vs) (g : Goo vs b nb) : Goo vs [.while a b] [] := fun s d r e am v n => by
  rw [ops_one]
  simp only [opsS]
  obtain ⟨h1, h2⟩ := run_S' e am v ha
  obtain ⟨h3, h4⟩ := inner (ps := []) (g.mono fun x hx => by simp [hx]) .nil (fun x _ q => by cases q) _ d r h1 h2 v
  exact ⟨d, h3, h4, fun y => by simp⟩
theorem Goo.times {vs nb : List Str} {own : Bool} {x : Str} {a : Atm} {b : List Stm} (ha : ∀ x ∈ a.nms, x ∈ vs) (g : Goo (vs ++ [x]) b nb) (d : own = true → x ∉ nb) : Goo vs [.times own x a b] [] := fun s c r e am v n => by
  rw [ops_one]
  obtain ⟨h1, h2⟩ := run_S' e am v ha
  cases own with
  | true =>
    simp only [opsS]
    obtain ⟨h3, h4⟩ := inner (ps := [x]) g (List.nodup_cons.mpr ⟨by simp, .nil⟩) (fun y hy q => d rfl (by rw [List.mem_singleton.mp q] at hy; exact hy)) _ c r h1 h2 v
    exact ⟨c, h3, h4, fun y => by simp⟩
  | false =>
    simp only [opsS]
    show ∃ c', (run (.O :: (ops b ++ [.C, .C])) (run1 (.M x) (run1 .O (run1 (.S a.nms) s)))).sc = _ ∧ (run (.O :: (ops b ++ [.C, .C])) (run1 (.M x) (run1 .O (run1 (.S a.nms) s)))).am = _ ∧ _
    obtain ⟨c1, h3, h4, h5⟩ := run_M (x := x) (s := run1 .O (run1 (.S a.nms) s)) (c := []) (r := c :: r) (by rw [(run_O _).1, h1]) (by rw [(run_O _).2, h2]) (by simp [dom])
    have eq : (Op.O :: (ops b ++ [.C, .C])) = (.O :: (([] : List Str).map Op.M ++ (ops b ++ [.C]))) ++ [.C] := by simp
    rw [eq, run_append]
    obtain ⟨h6, h7⟩ := inner (vs := vs ++ [x]) (ps := []) (g.mono fun y hy => by simp at hy ⊢; exact hy) .nil (fun x _ q => by cases q) _ c1 (c :: r) h3 h4 fun y hy => by
      rw [lookS_cons]
      rcases List.mem_append.mp hy with q | q
      · exact .inr (v y q)
      · exact .inl ((h5 y).mpr (.inr (by simpa using q)))
    refine ⟨c, ?_, h7, fun y => by simp⟩
    show (run _ _).sc.tail = _
    rw [h6]; rfl
/-! ### the whole -/
def sn0 : Sn := ⟨[[]], [], 0, [], []⟩
def look0 (b : List Stm) : Sn := run (ops b) sn0
theorem Goo.whole {b : List Stm} {nw : List Str} (g : Goo [] b nw) : (look0 b).am = [] := by
  obtain ⟨c, _, a, _⟩ := g sn0 [] [] rfl rfl (fun x h => by cases h) fun x _ q => by cases q
  exact a
/-- .. and makes names of ns alone -/
def Good (ns vs : List Str) (b : List Stm) (nw : List Str) : Prop := Goo vs b nw ∧ ∀ x, Op.M x ∈ ops b → x ∈ ns
section
variable {ns vs vs' nw nb n1 n2 us ps : List Str} {b c b1 b2 : List Stm} {x : Str} {a : Atm} {st : Stm} {own : Bool}
theorem Good.mono (g : Good ns vs b nw) (h : ∀ x ∈ vs, x ∈ vs') : Good ns vs' b nw := ⟨g.1.mono h, g.2⟩
theorem Good.nil : Good ns vs [] [] := ⟨Goo.nil, fun x h => by rw [ops_nil] at h; cases h⟩
theorem Good.append (g1 : Good ns vs b1 n1) (g2 : Good ns (vs ++ n1) b2 n2) (d : ∀ x ∈ n2, x ∉ n1) : Good ns vs (b1 ++ b2) (n1 ++ n2) := ⟨g1.1.append g2.1 d, fun x h => by
  rw [ops_append] at h
  exact (List.mem_append.mp h).elim (g1.2 x) (g2.2 x)⟩
theorem Good.use (o : opsS st = [.S us]) (h : ∀ x ∈ us, x ∈ vs) : Good ns vs [st] [] := ⟨Goo.use o h, fun x h => by rw [ops_one, o] at h; simp at h⟩
theorem Good.make (o : opsS st = [.S us, .M x]) (h : ∀ x ∈ us, x ∈ vs) (hx : x ∈ ns) : Good ns vs [st] [x] := ⟨Goo.make o h, fun y h => by rw [ops_one, o] at h; simp at h; rw [h]; exact hx⟩
theorem Good.fn (g : Good ns (vs ++ [x] ++ ps) b nb) (nd : ps.Nodup) (d : ∀ y ∈ nb, y ∉ ps) (hx : x ∈ ns) (hp : ∀ y ∈ ps, y ∈ ns) : Good ns vs [.fn x ps b] [x] := ⟨Goo.fn g.1 nd d, fun y h => by
  rw [ops_one] at h
  simp only [opsS, List.mem_cons, List.mem_append, List.mem_map, List.not_mem_nil, or_false] at h
  rcases h with h | h | h | ⟨z, hz, h⟩ | h | h
  · cases h
  · cases h; exact hx
  · cases h
  · cases h; exact hp _ hz
  · exact g.2 y h
  · cases h⟩
theorem Good.ite (ha : ∀ x ∈ a.nms, x ∈ vs) (g1 : Good ns vs b n1) (g2 : Good ns vs c n2) : Good ns vs [.ite a b c] [] := ⟨Goo.ite ha g1.1 g2.1, fun y h => by
  rw [ops_one] at h
  simp only [opsS, List.mem_cons, List.mem_append, List.not_mem_nil, or_false] at h
  rcases h with h | h | h | h | h | h | h
  · cases h
  · cases h
  · exact g1.2 y h
  · cases h
  · cases h
  · exact g2.2 y h
  · cases h⟩
theorem Good.while (ha : ∀ x ∈ a.nms, x ∈ vs) (g : Good ns vs b nb) : Good ns vs [.while a b] [] := ⟨Goo.while ha g.1, fun y h => by
  rw [ops_one] at h
  simp only [opsS, List.mem_cons, List.mem_append, List.not_mem_nil, or_false] at h
  rcases h with h | h | h | h
  · cases h
  · cases h
  · exact g.2 y h
  · cases h⟩
theorem Good.times (ha : ∀ x ∈ a.nms, x ∈ vs) (g : Good ns (vs ++ [x]) b nb) (d : own = true → x ∉ nb) (hx : x ∈ ns) : Good ns vs [.times own x a b] [] := ⟨Goo.times ha g.1 d, fun y h => by
  rw [ops_one] at h
  cases own with
  | true =>
    simp only [opsS, List.mem_cons, List.mem_append, List.not_mem_nil, or_false] at h
    rcases h with h | h | h | h | h
    · cases h
    · cases h
    · cases h; exact hx
    · exact g.2 y h
    · cases h
  | false =>
    simp only [opsS, List.mem_cons, List.mem_append, List.not_mem_nil, or_false] at h
    rcases h with h | h | h | h | h | h | h
    · cases h
    · cases h
    · cases h; exact hx
    · cases h
    · exact g.2 y h
    · cases h
    · cases h⟩
end
end Fb
set_option Elab.async false
set_option linter.all false
set_option maxRecDepth 100000
set_option maxHeartbeats 4000000
/-! A statement put in. -/
namespace Fb
open PySem L2
mutual
def putS1 (g : Int) (m : Stm) : Stm → Nat → Stm × Nat
  | .fn x ps b, c => (.fn x ps (putB g m b c).1, (putB g m b c).2)
  | .ite a b d, c => (.ite a (putB g m b c).1 (putB g m d (putB g m b c).2).1, (putB g m d (putB g m b c).2).2)
  | .while a b, c => (.while a (putB g m b c).1, (putB g m b c).2)
  | .times o x a b, c => (.times o x a (putB g m b c).1, (putB g m b c).2)
  | .let_ x a, c => (.let_ x a, c)
  | .sum x s a b, c => (.sum x s a b, c)
  | .call x f as, c => (.call x f as, c)
  | .set x a, c => (.set x a, c)
  | .tell a, c => (.tell a, c)
  | .give a, c => (.give a, c)
def putB (g : Int) (m : Stm) : List Stm → Nat → List Stm × Nat
  | [], c => (if (c : Int) = g then [m] else [], c + 1)
  | s :: b, c => ((if (c : Int) = g then [m] else []) ++ (putS1 g m s (c + 1)).1 :: (putB g m b (putS1 g m s (c + 1)).2).1, (putB g m b (putS1 g m s (c + 1)).2).2)
end
theorem putB_nil (g : Int) (m : Stm) (c : Nat) : putB g m [] c = (if (c : Int) = g then [m] else [], c + 1) := by simp only [putB]
theorem putB_cons (g : Int) (m s : Stm) (b : List Stm) (c : Nat) : putB g m (s :: b) c = ((if (c : Int) = g then [m] else []) ++ (putS1 g m s (c + 1)).1 :: (putB g m b (putS1 g m s (c + 1)).2).1, (putB g m b (putS1 g m s (c + 1)).2).2) := by simp only [putB]
mutual
/-- how many places a statement's blocks have -/
def plS : Stm → Nat
  | .fn _ _ b => pl b
  | .ite _ b d => pl b + pl d
  | .while _ b => pl b
  | .times _ _ _ b => pl b
  | _ => 0
def pl : List Stm → Nat
  | [] => 1
  | s :: b => 1 + plS s + pl b
end
mutual
theorem putS1_count (g : Int) (m : Stm) : ∀ (s : Stm) (c : Nat), (putS1 g m s c).2 = c + plS s
  | .fn x ps b, c => by simp only [putS1, plS]; exact putB_count g m b c
  | .ite a b d, c => by simp only [putS1, plS]; rw [putB_count, putB_count]; omega
  | .while a b, c => by simp only [putS1, plS]; exact putB_count g m b c
  | .times o x a b, c => by simp only [putS1, plS]; exact putB_count g m b c
  | .let_ x a, c => by simp only [putS1, plS]; omega
  | .sum x s a b, c => by simp only [putS1, plS]; omega
  | .call x f as, c => by simp only [putS1, plS]; omega
  | .set x a, c => by simp only [putS1, plS]; omega
  | .tell a, c => by simp only [putS1, plS]; omega
  | .give a, c => by simp only [putS1, plS]; omega
theorem putB_count (g : Int) (m : Stm) : ∀ (b : List Stm) (c : Nat), (putB g m b c).2 = c + pl b
  | [], c => by rw [putB_nil]; simp only [pl]
  | s :: b, c => by rw [putB_cons]; simp only [pl]; rw [putB_count, putS1_count]; omega
end
/-- ops2 is ops1 with o put in somewhere -/
def PutIn (o p q : List Op) : Prop := ∃ u v, p = u ++ v ∧ q = u ++ (o ++ v)
theorem PutIn.left {o p q : List Op} (h : PutIn o p q) (x : List Op) : PutIn o (x ++ p) (x ++ q) := by
  obtain ⟨u, v, rfl, rfl⟩ := h
  exact ⟨x ++ u, v, by simp, by simp⟩
theorem PutIn.right {o p q : List Op} (h : PutIn o p q) (x : List Op) : PutIn o (p ++ x) (q ++ x) := by
  obtain ⟨u, v, rfl, rfl⟩ := h
  exact ⟨u, v ++ x, by simp, by simp⟩
theorem PutIn.cons {o p q : List Op} (h : PutIn o p q) (x : Op) : PutIn o (x :: p) (x :: q) := h.left [x]
mutual
theorem putS1_out (g : Int) (m : Stm) : ∀ (s : Stm) (c : Nat), ((g < c) ∨ ((c + plS s : Nat) : Int) ≤ g) → opsS (putS1 g m s c).1 = opsS s
  | .fn x ps b, c, h => by simp only [putS1, plS, opsS] at h ⊢; rw [putB_out g m b c h]
  | .ite a b d, c, h => by
    simp only [putS1, plS, opsS] at h ⊢
    rw [putB_out g m b c (by omega), putB_out g m d _ (by rw [putB_count]; omega)]
  | .while a b, c, h => by simp only [putS1, plS, opsS] at h ⊢; rw [putB_out g m b c h]
  | .times o x a b, c, h => by cases o <;> (simp only [putS1, plS, opsS] at h ⊢; rw [putB_out g m b c h])
  | .let_ x a, c, h => by simp only [putS1]
  | .sum x s a b, c, h => by simp only [putS1]
  | .call x f as, c, h => by simp only [putS1]
  | .set x a, c, h => by simp only [putS1]
  | .tell a, c, h => by simp only [putS1]
  | .give a, c, h => by simp only [putS1]
theorem putB_out (g : Int) (m : Stm) : ∀ (b : List Stm) (c : Nat), ((g < c) ∨ ((c + pl b : Nat) : Int) ≤ g) → ops (putB g m b c).1 = ops b
  | [], c, h => by
    rw [putB_nil]
    simp only [pl] at h
    show ops (if (c : Int) = g then [m] else []) = _
    rw [if_neg (by omega)]
  | s :: b, c, h => by
    rw [putB_cons]
    simp only [pl] at h
    show ops ((if (c : Int) = g then [m] else []) ++ _) = _
    rw [if_neg (by omega), List.nil_append, ops_cons, ops_cons, putS1_out g m s _ (by omega), putB_out g m b _ (by rw [putS1_count]; omega)]
end
mutual
theorem putS1_in (g : Int) (m : Stm) : ∀ (s : Stm) (c : Nat), (c : Int) ≤ g → g < ((c + plS s : Nat) : Int) → PutIn (opsS m) (opsS s) (opsS (putS1 g m s c).1)
  | .fn x ps b, c, h1, h2 => by
    simp only [putS1, plS, opsS] at h1 h2 ⊢
    exact ((((((putB_in g m b c h1 h2).right _).left _).cons _).cons _).cons _)
  | .ite a b d, c, h1, h2 => by
    simp only [putS1, plS, opsS] at h1 h2 ⊢
    by_cases hb : g < ((c + pl b : Nat) : Int)
    · rw [putB_out g m d _ (by rw [putB_count]; omega)]
      exact (((putB_in g m b c h1 hb).right _).cons _).cons _
    · rw [putB_out g m b c (by omega)]
      exact ((((((putB_in g m d _ (by rw [putB_count]; omega) (by rw [putB_count]; omega)).right _).cons _).cons _).left _).cons _).cons _
  | .while a b, c, h1, h2 => by
    simp only [putS1, plS, opsS] at h1 h2 ⊢
    exact ((((putB_in g m b c h1 h2).right _).cons _).cons _)
  | .times true x a b, c, h1, h2 => by
    simp only [putS1, plS, opsS] at h1 h2 ⊢
    exact (((((putB_in g m b c h1 h2).right _).cons _).cons _).cons _)
  | .times false x a b, c, h1, h2 => by
    simp only [putS1, plS, opsS] at h1 h2 ⊢
    exact ((((((putB_in g m b c h1 h2).right _).cons _).cons _).cons _).cons _)
  | .let_ x a, c, h1, h2 => by simp only [plS] at h2; omega
  | .sum x s a b, c, h1, h2 => by simp only [plS] at h2; omega
  | .call x f as, c, h1, h2 => by simp only [plS] at h2; omega
  | .set x a, c, h1, h2 => by simp only [plS] at h2; omega
  | .tell a, c, h1, h2 => by simp only [plS] at h2; omega
  | .give a, c, h1, h2 => by simp only [plS] at h2; omega
theorem putB_in (g : Int) (m : Stm) : ∀ (b : List Stm) (c : Nat), (c : Int) ≤ g → g < ((c + pl b : Nat) : Int) → PutIn (opsS m) (ops b) (ops (putB g m b c).1)
  | [], c, h1, h2 => by
    rw [putB_nil]
    simp only [pl] at h2
    show PutIn _ _ (ops (if (c : Int) = g then [m] else []))
    rw [if_pos (by omega), ops_one, ops_nil]
    exact ⟨[], [], rfl, by simp⟩
  | s :: b, c, h1, h2 => by
    rw [putB_cons]
    simp only [pl] at h2
    show PutIn _ _ (ops ((if (c : Int) = g then [m] else []) ++ _))
    rw [ops_append, ops_cons, ops_cons]
    by_cases e : (c : Int) = g
    · rw [if_pos e, ops_one, putS1_out g m s _ (by omega), putB_out g m b _ (by rw [putS1_count]; omega)]
      exact ⟨[], _, rfl, rfl⟩
    · rw [if_neg e, ops_nil, List.nil_append]
      by_cases hs : g < ((c + 1 + plS s : Nat) : Int)
      · rw [putB_out g m b _ (by rw [putS1_count]; omega)]
        exact (putS1_in g m s _ (by omega) hs).right _
      · rw [putS1_out g m s _ (by omega)]
        exact (putB_in g m b _ (by rw [putS1_count]; omega) (by rw [putS1_count]; omega)).left _
end
/-! ### one more use -/
theorem run1_par (o : Op) (s s' : Sn) (h1 : s.sc = s'.sc) (h2 : s.mks = s'.mks) : ∃ D A A', (run1 o s).means = s.means ++ D ∧ (run1 o s').means = s'.means ++ D ∧ (run1 o s).am = s.am ++ A ∧ (run1 o s').am = s'.am ++ A' ∧ (A = [] ↔ A' = []) ∧ (run1 o s).sc = (run1 o s').sc ∧ (run1 o s).mks = (run1 o s').mks := by
  obtain ⟨sc, mks, at_, ms, am⟩ := s
  obtain ⟨sc', mks', at', ms', am'⟩ := s'
  have h1 : sc = sc' := h1
  have h2 : mks = mks' := h2
  subst h1 h2
  cases o with
  | S us =>
    refine ⟨[us.map (lookS sc)], _, _, rfl, rfl, rfl, rfl, ?_, rfl, rfl⟩
    simp only [List.map_eq_nil_iff]
  | M x =>
    cases sc with
    | nil => exact ⟨[], [], [], by simp [run1], by simp [run1], by simp [run1], by simp [run1], by simp, rfl, rfl⟩
    | cons c r =>
      refine ⟨[], _, _, (List.append_nil _).symm, (List.append_nil _).symm, rfl, rfl, ?_, rfl, rfl⟩
      cases getS c x <;> simp
  | O => exact ⟨[], [], [], by simp [run1], by simp [run1], by simp [run1], by simp [run1], by simp, rfl, rfl⟩
  | C => exact ⟨[], [], [], by simp [run1], by simp [run1], by simp [run1], by simp [run1], by simp, rfl, rfl⟩
theorem run_par : ∀ (v : List Op) (s s' : Sn), s.sc = s'.sc → s.mks = s'.mks → ∃ D A A', (run v s).means = s.means ++ D ∧ (run v s').means = s'.means ++ D ∧ (run v s).am = s.am ++ A ∧ (run v s').am = s'.am ++ A' ∧ (A = [] ↔ A' = [])
  | [], s, s', _, _ => ⟨[], [], [], by simp [run], by simp [run], by simp [run], by simp [run], by simp⟩
  | o :: v, s, s', h1, h2 => by
    obtain ⟨D1, A1, B1, e1, e2, e3, e4, e5, e6, e7⟩ := run1_par o s s' h1 h2
    obtain ⟨D2, A2, B2, f1, f2, f3, f4, f5⟩ := run_par v _ _ e6 e7
    refine ⟨D1 ++ D2, A1 ++ A2, B1 ++ B2, ?_, ?_, ?_, ?_, ?_⟩
    · show (run v (run1 o s)).means = _; rw [f1, e1, List.append_assoc]
    · show (run v (run1 o s')).means = _; rw [f2, e2, List.append_assoc]
    · show (run v (run1 o s)).am = _; rw [f3, e3, List.append_assoc]
    · show (run v (run1 o s')).am = _; rw [f4, e4, List.append_assoc]
    · rw [List.append_eq_nil_iff, List.append_eq_nil_iff, e5, f5]
theorem am_nil {u v : List Op} {s : Sn} (h : (run (u ++ v) s).am = []) : (run u s).am = [] := by
  rw [run_append] at h
  obtain ⟨D, A, A', _, _, e, _⟩ := run_par v (run u s) (run u s) rfl rfl
  rw [e] at h
  exact (List.append_eq_nil_iff.mp h).1
theorem tell_in {b : List Stm} {x : Str} {g : Int} (a : (look0 b).am = []) (h1 : 0 ≤ g) (h2 : g < (pl b : Int)) :
    ((look0 (putB g (.tell (.nm x)) b 0).1).am = [] ∧ ∃ k, k < (look0 (putB g (.tell (.nm x)) b 0).1).means.length ∧ (look0 (putB g (.tell (.nm x)) b 0).1).means.take k ++ (look0 (putB g (.tell (.nm x)) b 0).1).means.drop (k + 1) = (look0 b).means) ∨
      ∃ k, (look0 (putB g (.tell (.nm x)) b 0).1).am = [(("unknown" : Str), k, x)] := by
  obtain ⟨u, v, e1, e2⟩ := putB_in g (.tell (.nm x)) b 0 (by omega) (by omega)
  have o : opsS (.tell (.nm x)) = [.S [x]] := by simp only [opsS, Atm.nms]
  unfold look0 at a ⊢
  rw [e2, o, run_append, run_append]
  rw [e1] at a ⊢
  have a0 := am_nil a
  rw [run_append] at a ⊢
  generalize run u sn0 = s at *
  obtain ⟨D, A, A', f1, f2, f3, f4, f5⟩ := run_par v s (run [.S [x]] s) rfl rfl
  have hA : A = [] := by rw [f3] at a; exact (List.append_eq_nil_iff.mp a).2
  rw [f5.mp hA, List.append_nil] at f4
  rw [f4, f2, f1]
  show ((s.am ++ _) = [] ∧ _) ∨ ∃ k, s.am ++ _ = _
  rw [a0, List.nil_append]
  cases q : lookS s.sc x with
  | some i =>
    refine .inl ⟨by simp [q], s.means.length, ?_, ?_⟩
    · show _ < (s.means ++ _ ++ D).length
      simp only [List.length_append, List.length_singleton]; omega
    · show (s.means ++ [_] ++ D).take _ ++ (s.means ++ [_] ++ D).drop _ = _
      rw [List.append_assoc, List.take_left, List.drop_append]
      simp
  | none => exact .inr ⟨s.at_, by simp [q]⟩
/-! ### one more making -/
def SubSc : List Scp → List Scp → Prop
  | [], [] => True
  | c :: r, c' :: r' => (∀ x ∈ dom c, x ∈ dom c') ∧ SubSc r r'
  | _, _ => False
theorem SubSc.refl : ∀ r, SubSc r r
  | [] => trivial
  | _ :: r => ⟨fun _ h => h, SubSc.refl r⟩
theorem SubSc.look : ∀ {r r' : List Scp} {x : Str}, SubSc r r' → (lookS r x).isSome = true → (lookS r' x).isSome = true
  | [], [], _, _, h => h
  | c :: r, c' :: r', x, h, q => by
    rw [lookS_cons] at q ⊢
    exact q.elim (fun z => .inl (h.1 x z)) fun z => .inr (SubSc.look h.2 z)
  | [], _ :: _, _, h, _ => h.elim
  | _ :: _, [], _, h, _ => h.elim
def Tw (s : Sn) : Prop := ∀ e ∈ s.am, e.1 = ("twice" : Str)
theorem run1_sup (o : Op) (s s' : Sn) (h : SubSc s.sc s'.sc) (a : (run1 o s).am = []) (t : Tw s') : SubSc (run1 o s).sc (run1 o s').sc ∧ Tw (run1 o s') := by
  obtain ⟨sc, mks, at_, ms, am⟩ := s
  obtain ⟨sc', mks', at', ms', am'⟩ := s'
  have h : SubSc sc sc' := h
  cases o with
  | S us =>
    refine ⟨h, fun e he => ?_⟩
    rcases List.mem_append.mp (show e ∈ am' ++ _ from he) with q | q
    · exact t e q
    · obtain ⟨u, hu, _⟩ := List.mem_map.mp q
      obtain ⟨hu1, hu2⟩ := List.mem_filter.mp hu
      have a2 : (us.filter fun u => (lookS sc u).isNone) = [] := by
        have a3 : am ++ (us.filter fun u => (lookS sc u).isNone).map (fun u => (("unknown" : Str), at_, u)) = [] := a
        exact List.map_eq_nil_iff.mp (List.append_eq_nil_iff.mp a3).2
      have z : (lookS sc u).isSome = true := by
        have := List.filter_eq_nil_iff.mp a2 u hu1
        cases e : lookS sc u <;> simp_all
      have := SubSc.look h z
      cases e : lookS sc' u <;> simp_all
  | M x =>
    cases sc with
    | nil =>
      cases sc' with
      | nil => exact ⟨h, t⟩
      | cons _ _ => exact h.elim
    | cons c r =>
      cases sc' with
      | nil => exact h.elim
      | cons c' r' =>
        refine ⟨⟨fun y hy => ?_, h.2⟩, fun e he => ?_⟩
        · rcases dom_putS.mp hy with q | q
          · exact dom_putS.mpr (.inl (h.1 y q))
          · exact dom_putS.mpr (.inr q)
        · rcases List.mem_append.mp (show e ∈ am' ++ _ from he) with q | q
          · exact t e q
          · split at q
            · rw [List.mem_singleton.mp q]
            · cases q
  | O => exact ⟨⟨fun y hy => hy, h⟩, t⟩
  | C =>
    refine ⟨?_, t⟩
    cases sc with
    | nil =>
      cases sc' with
      | nil => exact h
      | cons _ _ => exact h.elim
    | cons c r =>
      cases sc' with
      | nil => exact h.elim
      | cons c' r' => exact h.2
theorem run_sup : ∀ (v : List Op) (s s' : Sn), SubSc s.sc s'.sc → (run v s).am = [] → Tw s' → Tw (run v s')
  | [], _, _, _, _, t => t
  | o :: v, s, s', h, a, t => by
    obtain ⟨h1, t1⟩ := run1_sup o s s' h (am_nil (u := [o]) (v := v) a) t
    exact run_sup v _ _ h1 a t1
theorem let_in {b : List Stm} {x : Str} {g : Int} (a : (look0 b).am = []) (h1 : 0 ≤ g) (h2 : g < (pl b : Int)) : Tw (look0 (putB g (.let_ x (.num 7)) b 0).1) := by
  obtain ⟨u, v, e1, e2⟩ := putB_in g (.let_ x (.num 7)) b 0 (by omega) (by omega)
  have o : opsS (.let_ x (.num 7)) = [.S [], .M x] := by simp only [opsS, Atm.nms]
  unfold look0 at a ⊢
  rw [e2, o, run_append, run_append]
  rw [e1] at a
  have a0 := am_nil a
  rw [run_append] at a
  generalize run u sn0 = s at *
  refine run_sup v s _ ?_ a ?_
  · show SubSc s.sc (run1 (.M x) (run1 (.S []) s)).sc
    cases e : s.sc with
    | nil =>
      have : (run1 (.M x) (run1 (.S []) s)).sc = s.sc := by
        obtain ⟨sc, _, _, _, _⟩ := s
        have e : sc = [] := e
        subst e
        rfl
      rw [this, e]
      exact SubSc.refl _
    | cons c r =>
      rw [run_M_cons (c := c) (r := r) (by exact e)]
      exact ⟨fun y hy => dom_putS.mpr (.inl hy), SubSc.refl r⟩
  · show Tw (run1 (.M x) (run1 (.S []) s))
    have z : (run1 (.S []) s).am = [] := by show s.am ++ _ = []; rw [a0]; rfl
    cases e : s.sc with
    | nil =>
      have : (run1 (.M x) (run1 (.S []) s)).am = (run1 (.S []) s).am := by
        obtain ⟨sc, _, _, _, _⟩ := s
        have e : sc = [] := e
        subst e
        rfl
      intro e he
      rw [this, z] at he
      cases he
    | cons c r =>
      rw [run_M_cons (c := c) (r := r) (by exact e)]
      intro e he
      rcases List.mem_append.mp (show e ∈ (run1 (.S []) s).am ++ _ from he) with q | q
      · rw [z] at q; cases q
      · split at q
        · rw [List.mem_singleton.mp q]
        · cases q
end Fb
set_option Elab.async false
set_option linter.all false
set_option maxRecDepth 100000
set_option maxHeartbeats 4000000
/-! What stands in the heap. -/
namespace Fb
open PySem PySem.Spec PyProof.Rows L2
/-! ### the module's names -/
structure All (K : PySem.W.Frag) (mg : Str → Option Value) : Prop where
  len : mg "len" = none
  range : mg "range" = none
  max : mg "max" = none
  int : mg "int" = none
  tuple : mg "tuple" = none
  sorted : mg "sorted" = none
  list : mg "list" = none
  reversed : mg "reversed" = none
  zip : mg "zip" = none
  set : mg "set" = none
  dict : mg "dict" = none
  isinstance : mg "isinstance" = none
  str : mg "str" = none
  bool : mg "bool" = none
  deal : Fd K mg "_law_deal" (topS 12)
  draw : Fd K mg "_law_draw" (topS 13)
  words : Fd K mg "_law_words" (topS 14)
  atom : Fd K mg "_law_atom" (topS 15)
  named : Fd K mg "_law_named" (topS 16)
  takes : Fd K mg "_law_takes" (topS 17)
  simple : Fd K mg "_law_simple" (topS 18)
  fn : Fd K mg "_law_fn" (topS 19)
  loop : Fd K mg "_law_loop" (topS 20)
  piece : Fd K mg "_law_piece" (topS 21)
  block : Fd K mg "_law_block" (topS 22)
  planted : Fd K mg "_law_planted" (topS 23)
  program : Fd K mg "_law_program" (topS 24)
  alike : Fd K mg "_law_alike" (topS 25)
  used : Fd K mg "_law_used" (topS 26)
  make : Fd K mg "_law_make" (topS 27)
  ground : Fd K mg "_law_ground" (topS 28)
  lay_blocks : Fd K mg "_law_lay_blocks" (topS 29)
  lay : Fd K mg "_law_lay" (topS 30)
  laid : Fd K mg "_law_laid" (topS 31)
  few : Fd K mg "_law_few" (topS 32)
  let_by : Fd K mg "_law_let_by" (topS 33)
  put_in : Fd K mg "_law_put_in" (topS 34)
  told : Fd K mg "_law_told" (topS 35)
  tell_right : Fd K mg "_law_tell_right" (topS 36)
  let_right : Fd K mg "_law_let_right" (topS 37)
  law : Fd K mg "law" (topS 38)
  atoms_of : Fd K mg "atoms_of" (topS 4)
  uses_of : Fd K mg "uses_of" (topS 5)
  meant_by : Fd K mg "meant_by" (topS 7)
  look : Fd K mg "look" (topS 9)
  meant : Fd K mg "meant" (topS 10)
/-! ### the deal -/
def dkv (s n : Int) (l : Addr) : List (Key × V) := [(Sum.inr "seed", .int s), (Sum.inr "number", .int n), (Sum.inr "left", .ref l)]
theorem dkv_seed (s n : Int) (l : Addr) : valV (dkv s n l) (Sum.inr "seed") = some (.int s) := by kernel_rfl
theorem dkv_number (s n : Int) (l : Addr) : valV (dkv s n l) (Sum.inr "number") = some (.int n) := by kernel_rfl
theorem dkv_left (s n : Int) (l : Addr) : valV (dkv s n l) (Sum.inr "left") = some (.ref l) := by kernel_rfl
theorem dkv_pseed (s n s' : Int) (l : Addr) : putK (dkv s n l) (Sum.inr "seed") (.int s') = dkv s' n l := by kernel_rfl
theorem dkv_pnumber (s n n' : Int) (l : Addr) : putK (dkv s n l) (Sum.inr "number") (.int n') = dkv s n' l := by kernel_rfl
def DealAt (H : Hp) (d l : Addr) : Prop := ∃ (s n : Int) (xs : List Int), H d = some (.dK (dkv s n l)) ∧ H l = some (.lst (xs.map V.int))
theorem DealAt.fr {W : List Addr} {H H' : Hp} {d l : Addr} (h : DealAt H d l) (f : Fr W H H') (h1 : d ∉ W) (h2 : l ∉ W) : DealAt H' d l := by
  obtain ⟨s, n, xs, e1, e2⟩ := h
  exact ⟨s, n, xs, f.get e1 h1, f.get e2 h2⟩
theorem DealAt.fr0 {H H' : Hp} {d l : Addr} (h : DealAt H d l) (f : Fr [] H H') : DealAt H' d l := h.fr f (by simp) (by simp)
/-! ### programs -/
mutual
def SAt (H : Hp) : Stm → V → Prop
  | .let_ x a, v => ∃ p, v = .ref p ∧ H p = some (.tup [.str "let", .str x, a.v])
  | .sum x s a b, v => ∃ p, v = .ref p ∧ H p = some (.tup [.str "sum", .str x, .str s, a.v, b.v])
  | .fn x ps b, v => ∃ p q r vs, v = .ref p ∧ H p = some (.tup [.str "fn", .str x, .ref q, .ref r]) ∧ H q = some (.tup (ps.map V.str)) ∧ H r = some (.tup vs) ∧ BAt H b vs
  | .call x f as, v => ∃ p q, v = .ref p ∧ H p = some (.tup [.str "call", .str x, .str f, .ref q]) ∧ H q = some (.tup (as.map Atm.v))
  | .set x a, v => ∃ p, v = .ref p ∧ H p = some (.tup [.str "set", .str x, a.v])
  | .tell a, v => ∃ p, v = .ref p ∧ H p = some (.tup [.str "tell", a.v])
  | .give a, v => ∃ p, v = .ref p ∧ H p = some (.tup [.str "give", a.v])
  | .ite a b c, v => ∃ p q r vs ws, v = .ref p ∧ H p = some (.tup [.str "if", a.v, .ref q, .ref r]) ∧ H q = some (.tup vs) ∧ BAt H b vs ∧ H r = some (.tup ws) ∧ BAt H c ws
  | .while a b, v => ∃ p q vs, v = .ref p ∧ H p = some (.tup [.str "while", a.v, .ref q]) ∧ H q = some (.tup vs) ∧ BAt H b vs
  | .times o x a b, v => ∃ p q vs, v = .ref p ∧ H p = some (.tup [.str "times", .str (if o = true then "own" else "one"), .str x, a.v, .ref q]) ∧ H q = some (.tup vs) ∧ BAt H b vs
def BAt (H : Hp) : List Stm → List V → Prop
  | [], vs => vs = []
  | s :: b, vs => ∃ v r, vs = v :: r ∧ SAt H s v ∧ BAt H b r
end
def BV (H : Hp) (b : List Stm) (v : V) : Prop := ∃ p vs, v = .ref p ∧ H p = some (.tup vs) ∧ BAt H b vs
abbrev TupLe (H H' : Hp) : Prop := ∀ b xs, H b = some (.tup xs) → H' b = some (.tup xs)
section
variable {H H' : Hp}
theorem BAt_nil {vs : List V} : BAt H [] vs ↔ vs = [] := by simp only [BAt]
theorem BAt_cons {s : Stm} {b : List Stm} {vs : List V} : BAt H (s :: b) vs ↔ ∃ v r, vs = v :: r ∧ SAt H s v ∧ BAt H b r := by simp only [BAt]
mutual
theorem SAt.up (t : TupLe H H') : ∀ (s : Stm) (v : V), SAt H s v → SAt H' s v
  | .let_ x a, v, h => by simp only [SAt] at h ⊢; obtain ⟨p, e, h⟩ := h; exact ⟨p, e, t _ _ h⟩
  | .sum x s a b, v, h => by simp only [SAt] at h ⊢; obtain ⟨p, e, h⟩ := h; exact ⟨p, e, t _ _ h⟩
  | .fn x ps b, v, h => by simp only [SAt] at h ⊢; obtain ⟨p, q, r, vs, e, h1, h2, h3, h4⟩ := h; exact ⟨p, q, r, vs, e, t _ _ h1, t _ _ h2, t _ _ h3, BAt.up t b vs h4⟩
  | .call x f as, v, h => by simp only [SAt] at h ⊢; obtain ⟨p, q, e, h1, h2⟩ := h; exact ⟨p, q, e, t _ _ h1, t _ _ h2⟩
  | .set x a, v, h => by simp only [SAt] at h ⊢; obtain ⟨p, e, h⟩ := h; exact ⟨p, e, t _ _ h⟩
  | .tell a, v, h => by simp only [SAt] at h ⊢; obtain ⟨p, e, h⟩ := h; exact ⟨p, e, t _ _ h⟩
  | .give a, v, h => by simp only [SAt] at h ⊢; obtain ⟨p, e, h⟩ := h; exact ⟨p, e, t _ _ h⟩
  | .ite a b c, v, h => by simp only [SAt] at h ⊢; obtain ⟨p, q, r, vs, ws, e, h1, h2, h3, h4, h5⟩ := h; exact ⟨p, q, r, vs, ws, e, t _ _ h1, t _ _ h2, BAt.up t b vs h3, t _ _ h4, BAt.up t c ws h5⟩
  | .while a b, v, h => by simp only [SAt] at h ⊢; obtain ⟨p, q, vs, e, h1, h2, h3⟩ := h; exact ⟨p, q, vs, e, t _ _ h1, t _ _ h2, BAt.up t b vs h3⟩
  | .times o x a b, v, h => by simp only [SAt] at h ⊢; obtain ⟨p, q, vs, e, h1, h2, h3⟩ := h; exact ⟨p, q, vs, e, t _ _ h1, t _ _ h2, BAt.up t b vs h3⟩
theorem BAt.up (t : TupLe H H') : ∀ (b : List Stm) (vs : List V), BAt H b vs → BAt H' b vs
  | [], vs, h => by rw [BAt_nil] at h ⊢; exact h
  | s :: b, vs, h => by
    rw [BAt_cons] at h ⊢
    obtain ⟨v, r, e, h1, h2⟩ := h
    exact ⟨v, r, e, SAt.up t s v h1, BAt.up t b r h2⟩
end
theorem BAt.append : ∀ {b c : List Stm} {vs ws : List V}, BAt H b vs → BAt H c ws → BAt H (b ++ c) (vs ++ ws)
  | [], c, vs, ws, h1, h2 => by rw [BAt_nil] at h1; rw [h1]; exact h2
  | s :: b, c, vs, ws, h1, h2 => by
    obtain ⟨v, r, rfl, h3, h4⟩ := BAt_cons.mp h1
    exact BAt_cons.mpr ⟨v, r ++ ws, rfl, h3, BAt.append h4 h2⟩
theorem BAt.one {s : Stm} {v : V} (h : SAt H s v) : BAt H [s] [v] := BAt_cons.mpr ⟨v, [], rfl, h, BAt_nil.mpr rfl⟩
theorem BAt.len : ∀ {b : List Stm} {vs : List V}, BAt H b vs → vs.length = b.length
  | [], vs, h => by rw [BAt_nil] at h; subst h; rfl
  | s :: b, vs, h => by
    obtain ⟨v, r, rfl, _, h4⟩ := BAt_cons.mp h
    simp [BAt.len h4]
theorem BAt.get : ∀ {b : List Stm} {vs : List V} {i : Nat} {v : V}, BAt H b vs → vs[i]? = some v → ∃ s, b[i]? = some s ∧ SAt H s v
  | [], vs, i, v, h, e => by rw [BAt_nil] at h; rw [h] at e; simp at e
  | s :: b, vs, i, v, h, e => by
    obtain ⟨u, r, rfl, h3, h4⟩ := BAt_cons.mp h
    cases i with
    | zero => exact ⟨s, rfl, by have : u = v := by simpa using e
                                rw [← this]; exact h3⟩
    | succ i => exact BAt.get (i := i) h4 (by simpa using e)
theorem BV.up (t : TupLe H H') {b : List Stm} {v : V} (h : BV H b v) : BV H' b v := by
  obtain ⟨p, vs, e, h1, h2⟩ := h
  exact ⟨p, vs, e, t _ _ h1, h2.up t⟩
end
theorem Fr.tupLe {W : List Addr} {H H' : Hp} (f : Fr W H H') : TupLe H H' := f.1
/-! ### sizes -/
def wO : Op → Nat
  | .S us => 2 + us.length
  | .M _ => 1
  | .O => 1
  | .C => 0
def wL (o : List Op) : Nat := (o.map wO).sum
theorem wL_nil : wL [] = 0 := rfl
theorem wL_cons (o : Op) (l : List Op) : wL (o :: l) = wO o + wL l := by simp [wL]
theorem wL_append (a b : List Op) : wL (a ++ b) = wL a + wL b := by simp [wL]
def wB (b : List Stm) : Nat := wL (ops b)
theorem wB_nil : wB [] = 0 := by unfold wB; rw [ops_nil]; rfl
theorem wB_cons (s : Stm) (b : List Stm) : wB (s :: b) = wB [s] + wB b := by unfold wB; rw [ops_cons, ops_one, wL_append]
theorem wB_append (a b : List Stm) : wB (a ++ b) = wB a + wB b := by unfold wB; rw [ops_append, wL_append]
theorem wL_Ms (ps : List Str) : wL (ps.map Op.M) = ps.length := by
  induction ps with
  | nil => rfl
  | cons p ps ih => rw [List.map_cons, wL_cons, ih, List.length_cons]; show 1 + _ = _; omega
theorem nms_len (a : Atm) : a.nms.length ≤ 1 := by cases a <;> simp [Atm.nms]
theorem wB_let (x : Str) (a : Atm) : wB [.let_ x a] ≤ 4 := by
  unfold wB; rw [ops_one]; simp only [opsS, wL_cons, wL_nil, wO]; have := nms_len a; omega
theorem wB_sum (x s : Str) (a b : Atm) : wB [.sum x s a b] ≤ 5 := by
  unfold wB; rw [ops_one]; simp only [opsS, wL_cons, wL_nil, wO, List.length_append]; have := nms_len a; have := nms_len b; omega
theorem wB_fn (x : Str) (ps : List Str) (b : List Stm) : wB [.fn x ps b] = 4 + ps.length + wB b := by
  unfold wB; rw [ops_one]; simp only [opsS, wL_cons, wL_nil, wO, wL_append, wL_Ms, List.length_nil]; omega
theorem nmss_len : ∀ as : List Atm, (as.flatMap Atm.nms).length ≤ as.length
  | [] => by simp
  | a :: as => by rw [List.flatMap_cons, List.length_append, List.length_cons]; have := nms_len a; have := nmss_len as; omega
theorem wB_call (x f : Str) (as : List Atm) : wB [.call x f as] ≤ 4 + as.length := by
  unfold wB; rw [ops_one]; simp only [opsS, wL_cons, wL_nil, wO, List.length_cons]; have := nmss_len as; omega
theorem wB_set (x : Str) (a : Atm) : wB [.set x a] ≤ 4 := by
  unfold wB; rw [ops_one]; simp only [opsS, wL_cons, wL_nil, wO, List.length_cons]; have := nms_len a; omega
theorem wB_tell (a : Atm) : wB [.tell a] ≤ 3 := by
  unfold wB; rw [ops_one]; simp only [opsS, wL_cons, wL_nil, wO]; have := nms_len a; omega
theorem wB_give (a : Atm) : wB [.give a] ≤ 3 := by
  unfold wB; rw [ops_one]; simp only [opsS, wL_cons, wL_nil, wO]; have := nms_len a; omega
theorem wB_ite (a : Atm) (b c : List Stm) : wB [.ite a b c] ≤ 5 + wB b + wB c := by
  unfold wB; rw [ops_one]; simp only [opsS, wL_cons, wL_nil, wO, wL_append]; have := nms_len a; omega
theorem wB_while (a : Atm) (b : List Stm) : wB [.while a b] ≤ 4 + wB b := by
  unfold wB; rw [ops_one]; simp only [opsS, wL_cons, wL_nil, wO, wL_append]; have := nms_len a; omega
theorem wB_times (o : Bool) (x : Str) (a : Atm) (b : List Stm) : wB [.times o x a b] ≤ 6 + wB b := by
  unfold wB; rw [ops_one]; cases o <;> (simp only [opsS, wL_cons, wL_nil, wO, wL_append]; have := nms_len a; omega)
mutual
def depS : Stm → Nat
  | .fn _ _ b => depB b
  | .ite _ b c => Nat.max (depB b) (depB c)
  | .while _ b => depB b
  | .times _ _ _ b => depB b
  | .call _ _ as => as.length - 5
  | _ => 0
def depB : List Stm → Nat
  | [] => 1
  | s :: b => Nat.max (1 + depS s) (depB b)
end
theorem depB_le {n : Nat} : ∀ {b : List Stm}, (∀ s ∈ b, 1 + depS s ≤ n) → 1 ≤ n → depB b ≤ n
  | [], _, h1 => by simp only [depB]; exact h1
  | s :: b, h, h1 => by simp only [depB]; exact Nat.max_le.mpr ⟨h s (by simp), depB_le (fun x hx => h x (by simp [hx])) h1⟩
theorem depB_mem {n : Nat} : ∀ {b : List Stm}, depB b ≤ n → ∀ s ∈ b, 1 + depS s ≤ n
  | [], _, s, hs => by cases hs
  | t :: b, h, s, hs => by
    simp only [depB] at h
    obtain ⟨h1, h2⟩ := Nat.max_le.mp h
    rcases List.mem_cons.mp hs with rfl | hs
    · exact h1
    · exact depB_mem h2 s hs
theorem depB_pos : ∀ b : List Stm, 1 ≤ depB b
  | [] => by simp only [depB]; omega
  | s :: b => by simp only [depB]; exact Nat.le_trans (depB_pos b) (Nat.le_max_right _ _)
theorem depB_append {b c : List Stm} {n : Nat} (h1 : depB b ≤ n) (h2 : depB c ≤ n) : depB (b ++ c) ≤ n := depB_le (fun s hs => (List.mem_append.mp hs).elim (depB_mem h1 s) (depB_mem h2 s)) (Nat.le_trans (depB_pos b) h1)
theorem depB_one {s : Stm} {n : Nat} (h : 1 + depS s ≤ n) : depB [s] ≤ n := depB_le (fun t ht => by rw [List.mem_singleton.mp ht]; exact h) (by omega)
theorem dep_flat {s : Stm} (h : depS s = 0) {n : Nat} (hn : 1 ≤ n) : depB [s] ≤ n := depB_one (by omega)
/-! ### what the makers of programs carry -/
structure GC where
  (d l w nl : Addr)
  names : List Str
  ar : Addr
  go : List Addr
  g : Addr
  gs : List (List (Str × Int))
def GC.all (C : GC) : List Addr := C.d :: C.l :: C.w :: C.nl :: C.ar :: C.g :: C.go
/-- what may be changed -/
def GC.fp (C : GC) : List Addr := [C.d, C.l, C.w, C.g]
def GrOk (names : List Str) (tp : List (Str × Int)) : Prop := (tp.map (·.1)).Nodup ∧ ∀ p ∈ tp, p.1 ∈ names ∧ 0 ≤ p.2 ∧ p.2 ≤ 4
def GrAt (H : Hp) (g : Addr) (tp : List (Str × Int)) : Prop := ∃ ts : List Addr, H g = some (.lst (ts.map V.ref)) ∧ Paired (fun t (p : Str × Int) => H t = some (.tup [.str p.1, .int p.2])) ts tp
def wkv (nl : Addr) (lf : Int) : List (Key × V) := [(Sum.inr "names", .ref nl), (Sum.inr "left", .int lf)]
theorem wkv_names (nl : Addr) (lf : Int) : valV (wkv nl lf) (Sum.inr "names") = some (.ref nl) := by kernel_rfl
theorem wkv_left (nl : Addr) (lf : Int) : valV (wkv nl lf) (Sum.inr "left") = some (.int lf) := by kernel_rfl
theorem wkv_pleft (nl : Addr) (lf lf' : Int) : putK (wkv nl lf) (Sum.inr "left") (.int lf') = wkv nl lf' := by kernel_rfl
def GC.vis (C : GC) (tp : List (Str × Int)) : List Str := (C.gs ++ [tp]).flatMap (·.map (·.1))
structure Gn (H : Hp) (C : GC) (lf : Int) (tp : List (Str × Int)) : Prop where
  deal : DealAt H C.d C.l
  wd : H C.w = some (.dK (wkv C.nl lf))
  nm : H C.nl = some (.lst (C.names.map V.str))
  arl : H C.ar = some (.lst ((C.go ++ [C.g]).map V.ref))
  outs : Paired (GrAt H) C.go C.gs
  top : GrAt H C.g tp
  nd : C.all.Nodup
  nn : C.names.Nodup
  nz : 4 ≤ C.names.length ∧ C.names.length ≤ 17
  ok : ∀ g ∈ C.gs, GrOk C.names g
  tok : GrOk C.names tp
section
variable {H H' H2 : Hp} {C : GC} {lf lf' : Int} {tp tp' : List (Str × Int)} {W : List Addr} {g p : Addr}
theorem Paired.mem_left {α β : Type} {F : α → β → Prop} : ∀ {xs : List α} {ys : List β}, Paired F xs ys → ∀ x ∈ xs, ∃ y ∈ ys, F x y
  | _, _, .nil, _, h => by cases h
  | _, _, .cons r t, x, h => by
    rcases List.mem_cons.mp h with rfl | h
    · exact ⟨_, List.mem_cons_self, r⟩
    · obtain ⟨y, hy, q⟩ := Paired.mem_left t x h
      exact ⟨y, List.mem_cons_of_mem _ hy, q⟩
theorem Paired.imp' {α β : Type} {F G : α → β → Prop} : ∀ {xs : List α} {ys : List β}, Paired F xs ys → (∀ x ∈ xs, ∀ y, F x y → G x y) → Paired G xs ys
  | _, _, .nil, _ => .nil
  | _, _, .cons r t, h => .cons (h _ List.mem_cons_self _ r) (Paired.imp' t fun x hx y q => h x (List.mem_cons_of_mem _ hx) y q)
theorem Paired.snoc {α β : Type} {F : α → β → Prop} : ∀ {xs : List α} {ys : List β} {x : α} {y : β}, Paired F xs ys → F x y → Paired F (xs ++ [x]) (ys ++ [y])
  | _, _, _, _, .nil, h => .cons h .nil
  | _, _, _, _, .cons r t, h => .cons r (Paired.snoc t h)
theorem Paired.unsnoc {α β : Type} {F : α → β → Prop} : ∀ {xs : List α} {ys : List β} {x : α} {y : β}, Paired F (xs ++ [x]) (ys ++ [y]) → Paired F xs ys ∧ F x y
  | [], [], _, _, .cons r .nil => ⟨.nil, r⟩
  | [], y :: ys, _, _, .cons r t => by
    have := t.length
    simp at this
  | x :: xs, [], _, _, .cons r t => by
    have := t.length
    simp at this
  | x :: xs, y :: ys, _, _, .cons r t => ⟨.cons r (Paired.unsnoc t).1, (Paired.unsnoc t).2⟩
theorem GrAt.fr (h : GrAt H g tp) (f : Fr W H H') (hg : g ∉ W) : GrAt H' g tp := by
  obtain ⟨ts, e, q⟩ := h
  exact ⟨ts, f.get e hg, Paired.imp' q fun _ _ _ z => f.tup z⟩
theorem GrAt.live (h : GrAt H g tp) : ∃ ts, H g = some (.lst ts) := by
  obtain ⟨ts, e, _⟩ := h
  exact ⟨_, e⟩
theorem GrAt.add (h : GrAt H g tp) {t : Addr} {x : Str} {k : Int} (ht : H t = some (.tup [.str x, .int k])) : ∃ ts : List Addr, H g = some (.lst (ts.map V.ref)) ∧ ∀ H', (∀ b xs, H b = some (.tup xs) → H' b = some (.tup xs)) → H' g = some (.lst (ts.map V.ref ++ [.ref t])) → GrAt H' g (tp ++ [(x, k)]) := by
  obtain ⟨ts, e, q⟩ := h
  refine ⟨ts, e, fun H' t' e' => ⟨ts ++ [t], by rw [e']; simp, Paired.snoc (Paired.imp' q fun _ _ _ z => t' _ _ z) (t' _ _ ht)⟩⟩
theorem Gn.live (h : Gn H C lf tp) : ∀ a ∈ C.all, ∃ o, H a = some o := fun a ha => by
  unfold GC.all at ha
  simp only [List.mem_cons] at ha
  rcases ha with rfl | rfl | rfl | rfl | rfl | rfl | ha
  · obtain ⟨_, _, _, e, _⟩ := h.deal; exact ⟨_, e⟩
  · obtain ⟨_, _, _, _, e⟩ := h.deal; exact ⟨_, e⟩
  · exact ⟨_, h.wd⟩
  · exact ⟨_, h.nm⟩
  · exact ⟨_, h.arl⟩
  · obtain ⟨_, e⟩ := h.top.live; exact ⟨_, e⟩
  · obtain ⟨_, _, q⟩ := Paired.mem_left h.outs a ha
    obtain ⟨_, e⟩ := q.live
    exact ⟨_, e⟩
/-- what is new is none of ours -/
theorem Gn.nin (h : Gn H C lf tp) (hp : H p = none) : p ∉ C.all := fun q => by
  obtain ⟨o, e⟩ := h.live p q
  rw [hp] at e; cases e
theorem fp_all (C : GC) : ∀ a ∈ C.fp, a ∈ C.all := fun a ha => by
  unfold GC.fp at ha
  unfold GC.all
  simp only [List.mem_cons, List.not_mem_nil, or_false] at ha ⊢
  rcases ha with h | h | h | h <;> simp [h]
theorem Gn.nfp (h : Gn H C lf tp) (hp : H p = none) : p ∉ C.fp := fun q => h.nin hp (fp_all C p q)
theorem Gn.fr (h : Gn H C lf tp) (f : Fr W H H') (hW : ∀ a ∈ W, a ∉ C.all) : Gn H' C lf tp := by
  have n : ∀ a ∈ C.all, a ∉ W := fun a ha q => hW a q ha
  have n2 : ∀ a, a = C.d ∨ a = C.l ∨ a = C.w ∨ a = C.nl ∨ a = C.ar ∨ a = C.g ∨ a ∈ C.go → a ∉ W := fun a ha => n a (by unfold GC.all; simpa using ha)
  exact ⟨h.deal.fr f (n2 _ (by simp)) (n2 _ (by simp)), f.get h.wd (n2 _ (by simp)), f.get h.nm (n2 _ (by simp)), f.get h.arl (n2 _ (by simp)), Paired.imp' h.outs fun x hx y q => q.fr f (n2 _ (by simp [hx])), h.top.fr f (n2 _ (by simp)), h.nd, h.nn, h.nz, h.ok, h.tok⟩
theorem Gn.fr0 (h : Gn H C lf tp) (f : Fr [] H H') : Gn H' C lf tp := h.fr f fun a ha => by cases ha
theorem Gn.fr1 (h : Gn H C lf tp) (f : Fr [p] H H') (hp : p ∉ C.all) : Gn H' C lf tp := h.fr f fun a ha => by rw [List.mem_singleton.mp ha]; exact hp
/-- behind what changes the deal, the world, the top ground -/
theorem Gn.of (h : Gn H C lf tp) (f : Fr C.fp H H') (dl : DealAt H' C.d C.l) (wd : H' C.w = some (.dK (wkv C.nl lf'))) (tp1 : GrAt H' C.g tp') (ok : GrOk C.names tp') : Gn H' C lf' tp' := by
  have nd := h.nd
  unfold GC.all at nd
  simp only [List.nodup_cons, List.mem_cons, not_or] at nd
  obtain ⟨⟨a1, a2, a3, a4, a5, a6⟩, ⟨b2, b3, b4, b5, b6⟩, ⟨c3, c4, c5, c6⟩, ⟨d4, d5, d6⟩, ⟨e5, e6⟩, f6, _⟩ := nd
  have n2 : ∀ a, a = C.nl ∨ a = C.ar ∨ a ∈ C.go → a ∉ C.fp := fun a ha q => by
    unfold GC.fp at q
    simp only [List.mem_cons, List.not_mem_nil, or_false] at q
    rcases ha with rfl | rfl | ha
    · rcases q with q | q | q | q
      · exact a3 q.symm
      · exact b3 q.symm
      · exact c3 q.symm
      · exact d5 q
    · rcases q with q | q | q | q
      · exact a4 q.symm
      · exact b4 q.symm
      · exact c4 q.symm
      · exact e5 q
    · rcases q with rfl | rfl | rfl | rfl
      · exact a6 ha
      · exact b6 ha
      · exact c6 ha
      · exact f6 ha
  exact ⟨dl, wd, f.get h.nm (n2 _ (by simp)), f.get h.arl (n2 _ (by simp)), Paired.imp' h.outs fun x hx y q => q.fr f (n2 _ (by simp [hx])), tp1, h.nd, h.nn, h.nz, h.ok, ok⟩
theorem Gn.nes (h : Gn H C lf tp) : C.w ∉ [C.d, C.l] ∧ C.g ∉ [C.d, C.l] ∧ C.w ∉ [C.d, C.l, C.g] ∧ C.g ≠ C.w ∧ C.d ∉ [C.w] ∧ C.l ∉ [C.w] ∧ C.g ∉ [C.w] := by
  have nd := h.nd
  unfold GC.all at nd
  simp only [List.nodup_cons, List.mem_cons, not_or] at nd
  obtain ⟨⟨a1, a2, a3, a4, a5, a6⟩, ⟨b2, b3, b4, b5, b6⟩, ⟨c3, c4, c5, c6⟩, ⟨d4, d5, d6⟩, ⟨e5, e6⟩, f6, _⟩ := nd
  simp only [List.mem_cons, List.not_mem_nil, or_false, not_or]
  exact ⟨⟨Ne.symm a2, Ne.symm b2⟩, ⟨Ne.symm a5, Ne.symm b5⟩, ⟨Ne.symm a2, Ne.symm b2, c5⟩, Ne.symm c5, a2, b2, Ne.symm c5⟩
/-- behind a draw -/
theorem Gn.drew (h : Gn H C lf tp) (f : Fr [C.d, C.l] H H') (dl : DealAt H' C.d C.l) : Gn H' C lf tp :=
  h.of (f.mono fun a ha => by unfold GC.fp; simp at ha ⊢; rcases ha with h | h <;> simp [h]) dl (f.get h.wd h.nes.1) (h.top.fr f h.nes.2.1) h.tok
theorem Gn.fpd (h : Gn H C lf tp) (f : Fr [C.d, C.l] H H') : Fr C.fp H H' := f.mono fun a ha => by unfold GC.fp; simp at ha ⊢; rcases ha with h | h <;> simp [h]
/-- a ground more -/
def GC.push (C : GC) (ar2 g2 : Addr) (tp : List (Str × Int)) : GC := { C with ar := ar2, go := C.go ++ [C.g], g := g2, gs := C.gs ++ [tp] }
theorem Gn.push {ar2 g2 : Addr} {tp2 : List (Str × Int)} (h : Gn H C lf tp) (ha : H ar2 = some (.lst ((C.go ++ [C.g] ++ [g2]).map V.ref))) (hg : GrAt H g2 tp2) (na : ar2 ∉ C.all) (ng : g2 ∉ C.all) (nag : g2 ≠ ar2) (ok : GrOk C.names tp2) : Gn H (C.push ar2 g2 tp) lf tp2 := by
  refine ⟨h.deal, h.wd, h.nm, ha, Paired.snoc h.outs h.top, hg, ?_, h.nn, h.nz, fun x hx => ?_, ok⟩
  · have nd := h.nd
    unfold GC.all at nd na ng ⊢
    unfold GC.push
    simp only [List.nodup_cons, List.mem_cons, not_or, List.mem_append, List.not_mem_nil, or_false, List.nodup_append] at nd na ng ⊢
    obtain ⟨⟨a1, a2, a3, a4, a5, a6⟩, ⟨b2, b3, b4, b5, b6⟩, ⟨c3, c4, c5, c6⟩, ⟨d4, d5, d6⟩, ⟨e5, e6⟩, f6, f7⟩ := nd
    obtain ⟨n1, n2, n3, n4, n5, n6, n7⟩ := na
    obtain ⟨m1, m2, m3, m4, m5, m6, m7⟩ := ng
    refine ⟨⟨a1, a2, a3, Ne.symm n1, Ne.symm m1, a6, a5⟩, ⟨b2, b3, Ne.symm n2, Ne.symm m2, b6, b5⟩, ⟨c3, Ne.symm n3, Ne.symm m3, c6, c5⟩, ⟨Ne.symm n4, Ne.symm m4, d6, d5⟩, ⟨Ne.symm nag, n7, n6⟩, ⟨m7, m6⟩, f7, by simp, ?_⟩
    intro x hx y hy e
    subst hy; subst e
    exact f6 hx
  · rcases List.mem_append.mp hx with q | q
    · exact h.ok x q
    · rw [List.mem_singleton.mp q]; exact h.tok
theorem Gn.pop {ar2 g2 : Addr} {tp2 tp3 : List (Str × Int)} (h : Gn H C lf tp) (hp : Gn H' (C.push ar2 g2 tp) lf' tp3) (f : Fr (C.push ar2 g2 tp).fp H H') (na : ar2 ∉ C.all) (ng : g2 ∉ C.all) : Gn H' C lf' tp := by
  have h2 := hp.outs
  unfold GC.push at h2
  obtain ⟨o1, o2⟩ := Paired.unsnoc h2
  refine ⟨hp.deal, hp.wd, hp.nm, f.get h.arl ?_, o1, o2, h.nd, h.nn, h.nz, h.ok, h.tok⟩
  have nd := h.nd
  unfold GC.all at nd ng
  unfold GC.push GC.fp
  simp only [List.nodup_cons, List.mem_cons, not_or, List.not_mem_nil, or_false] at nd ng ⊢
  obtain ⟨⟨a1, a2, a3, a4, a5, a6⟩, ⟨b2, b3, b4, b5, b6⟩, ⟨c3, c4, c5, c6⟩, ⟨d4, d5, d6⟩, ⟨e5, e6⟩, f6, f7⟩ := nd
  obtain ⟨m1, m2, m3, m4, m5, m6, m7⟩ := ng
  exact ⟨Ne.symm a4, Ne.symm b4, Ne.symm c4, Ne.symm m5⟩
theorem Gn.setLeft (h : Gn H C lf tp) (lf' : Int) : Gn (upd H C.w (.dK (wkv C.nl lf'))) C lf' tp ∧ Fr C.fp H (upd H C.w (.dK (wkv C.nl lf'))) := by
  have f : Fr [C.w] H (upd H C.w (.dK (wkv C.nl lf'))) := Fr.put h.wd (by intro xs q; cases q) (by simp)
  have f2 : Fr C.fp H (upd H C.w (.dK (wkv C.nl lf'))) := f.mono fun a ha => by rw [List.mem_singleton.mp ha]; unfold GC.fp; simp
  obtain ⟨_, _, _, _, e1, e2, e3⟩ := h.nes
  exact ⟨h.of f2 (h.deal.fr f e1 e2) upd_same (h.top.fr f e3) h.tok, f2⟩
end
end Fb
set_option Elab.async false
set_option linter.all false
set_option maxRecDepth 100000
set_option maxHeartbeats 4000000
/-! Small steps for the makers of programs. -/
namespace Fb
open PySem PySem.Spec PyProof.Rows L2
section
variable {K : PySem.W.Frag} {σ : L2.St} {H : Hp} {Q : VK} {p q : Addr} {xs ys : List V} {x y v : V} {i : Int}
theorem g_rU {g : Int → V} (h : Q (g i) H) : rU g (.int i) H Q := ⟨i, rfl, h⟩
theorem g_len (h : H p = some (.lst xs)) {F : List V → Prop} (k : F xs) : ∃ p' ys, [V.ref p] = [.ref p'] ∧ (SqL K H p' ys ∨ SqT K H p' ys) ∧ F ys := ⟨p, xs, rfl, .inl (.inl (.of h)), k⟩
theorem g_lenT (h : H p = some (.tup xs)) {F : List V → Prop} (k : F xs) : ∃ p' ys, [V.ref p] = [.ref p'] ∧ (SqL K H p' ys ∨ SqT K H p' ys) ∧ F ys := ⟨p, xs, rfl, .inr (.inl (.of h)), k⟩
theorem g_append (h : H p = some (.lst xs)) (z : xs.length < sizeLine) (k : Q .non (upd H p (.lst (xs ++ [y])))) : rAppend (.ref p) [y] H Q := ⟨p, xs, y, rfl, rfl, h, z, k⟩
theorem g_extend (h : H p = some (.lst xs)) (h2 : H q = some (.lst ys)) (z : xs.length + ys.length ≤ sizeLine) (k : Q .non (upd H p (.lst (xs ++ ys)))) : rExtend (.ref p) [.ref q] H Q := ⟨p, q, xs, ys, rfl, rfl, h, h2, z, k⟩
theorem g_cat (h : H p = some (.lst xs)) (h2 : H q = some (.lst ys)) (z : xs.length + ys.length ≤ sizeLine) (k : ∀ r, H r = none → Q (.ref r) (upd H r (.lst (xs ++ ys)))) : rCat (.ref p) (.ref q) H Q := ⟨p, q, xs, ys, rfl, rfl, h, h2, z, k⟩
theorem g_rep {b : Bool} (h : H p = some (.lst xs)) (z : xs.length ≤ sizeLine) (k : ∀ r, H r = none → Q (.ref r) (upd H r (.lst (if b = true then xs else [])))) : rRep (.ref p) (.int (if b = true then 1 else 0)) H Q := by
  refine ⟨p, _, xs, rfl, rfl, h, ?_, ?_, ?_, fun r hr => ?_⟩
  · cases b <;> decide
  · cases b <;> decide
  · cases b
    · simp
    · simpa using z
  · have := k r hr
    cases b
    · simpa using this
    · simpa using this
theorem g_inL {n : Bool} (h : H p = some (.lst xs)) (f : flatV x = true) (fs : xs.all flatV = true) (k : Q (.bl (if n then !inV x xs else inV x xs)) H) : rIn K n x (.ref p) H Q := ⟨p, xs, rfl, .inl (.inl (.of h)), f, fs, k⟩
theorem g_inT {n : Bool} (h : H p = some (.tup xs)) (f : flatV x = true) (fs : xs.all flatV = true) (k : Q (.bl (if n then !inV x xs else inV x xs)) H) : rIn K n x (.ref p) H Q := ⟨p, xs, rfl, .inr (.inl (.of h)), f, fs, k⟩
theorem atI_last {α : Type} {xs : List α} {x : α} : atI (xs ++ [x]) (-1) = some x := by
  unfold atI ixN
  rw [if_neg (by decide), if_pos (by simp; omega)]
  have e : ((-1 : Int) + ((xs ++ [x]).length : Int)).toNat = xs.length := by simp; omega
  show (some ((-1 : Int) + ((xs ++ [x]).length : Int)).toNat).bind _ = _
  rw [e]
  simp
theorem atI_nat {α : Type} {xs : List α} {i : Int} (h0 : 0 ≤ i) (h1 : i < xs.length) : atI xs i = some (xs[i.toNat]'(by omega)) := by
  unfold atI ixN
  rw [if_pos h0, if_pos h1]
  simp
theorem inV_str {x : Str} {l : List Str} : inV (.str x) (l.map V.str) = decide (x ∈ l) := by
  unfold inV
  rw [List.any_map]
  induction l with
  | nil => rfl
  | cons a l ih =>
    rw [List.any_cons, ih]
    by_cases h : a = x
    · subst h; simp [eqV]
    · have : x ≠ a := fun e => h e.symm
      simp [eqV, h, this]
theorem flat_strs (l : List Str) : (l.map V.str).all flatV = true := by
  rw [List.all_map, List.all_eq_true]; intros; rfl
def selV (c : Str → Bool) : V → Option V
  | .str x => if c x = true then some (.str x) else none
  | _ => none
theorem sel_yes {c : Str → Bool} {x : Str} (h : c x = true) : selV c (.str x) = some (.str x) := if_pos h
theorem sel_no {c : Str → Bool} {x : Str} (h : c x = false) : selV c (.str x) = none := if_neg (by rw [h]; exact Bool.false_ne_true)
theorem fm_filter {l : List Str} {c : Str → Bool} : (l.map V.str).filterMap (selV c) = (l.filter c).map V.str := by
  induction l with
  | nil => rfl
  | cons a l ih =>
    rw [List.map_cons, List.filterMap_cons, List.filter_cons, ih]
    by_cases h : c a = true
    · simp [selV, h]
    · simp [selV, h]
/-- the first of the tuple there -/
def fstV (H : Hp) : V → Option V
  | .ref t => match H t with
    | some (.tup (x :: _)) => some x
    | _ => none
  | _ => none
theorem fm_fst {ts : List Addr} {tp : List (Str × Int)} (h : Paired (fun t (p : Str × Int) => H t = some (.tup [.str p.1, .int p.2])) ts tp) : (ts.map V.ref).filterMap (fstV H) = (tp.map (·.1)).map V.str := by
  induction h with
  | nil => rfl
  | cons r t ih =>
    rw [List.map_cons, List.filterMap_cons, ih]
    simp [fstV, r]
theorem Paired.at {α β : Type} {F : α → β → Prop} : ∀ {xs : List α} {ys : List β} {i : Nat} {x : α}, Paired F xs ys → xs[i]? = some x → ∃ y, ys[i]? = some y ∧ F x y
  | _, _, i, x, .nil, h => by simp at h
  | _, _, 0, x, .cons r t, h => ⟨_, rfl, by have := Option.some.inj h; rw [← this]; exact r⟩
  | _, _, i + 1, x, .cons r t, h => Paired.at (i := i) t h
theorem map_at {α β : Type} {f : α → β} {l : List α} {i : Nat} {y : β} (h : (l.map f)[i]? = some y) : ∃ x, l[i]? = some x ∧ y = f x := by
  rw [List.getElem?_map] at h
  cases e : l[i]? with
  | none => rw [e] at h; cases h
  | some x => rw [e] at h; exact ⟨x, rfl, (Option.some.inj h).symm⟩
theorem nodup_le {α : Type} [DecidableEq α] : ∀ {l m : List α}, l.Nodup → (∀ x ∈ l, x ∈ m) → l.length ≤ m.length
  | [], _, _, _ => by simp
  | a :: l, m, nd, h => by
    obtain ⟨n1, n2⟩ := List.nodup_cons.mp nd
    have ha := h a (by simp)
    have := nodup_le (l := l) (m := m.erase a) n2 fun x hx => (List.mem_erase_of_ne (fun e => n1 (by rw [← e]; exact hx))).mpr (h x (by simp [hx]))
    rw [List.length_erase_of_mem ha] at this
    have := List.length_pos_of_mem ha
    simp only [List.length_cons]
    omega
theorem GrOk.add {names : List Str} {tp : List (Str × Int)} {x : Str} {k : Int} (h : GrOk names tp) (hx : x ∈ names) (n : x ∉ tp.map (·.1)) (k0 : 0 ≤ k) (k4 : k ≤ 4) : GrOk names (tp ++ [(x, k)]) := by
  refine ⟨?_, fun p hp => ?_⟩
  · rw [List.map_append, List.nodup_append]
    refine ⟨h.1, by simp, fun a ha b hb e => ?_⟩
    simp at hb
    subst hb; subst e
    exact n ha
  · rcases List.mem_append.mp hp with q | q
    · exact h.2 p q
    · rw [List.mem_singleton.mp q]; exact ⟨hx, k0, k4⟩
theorem Gn.neg {C : GC} {lf : Int} {tp : List (Str × Int)} (h : Gn H C lf tp) : C.d ∉ [C.g] ∧ C.l ∉ [C.g] ∧ C.w ∉ [C.g] ∧ C.ar ∉ [C.g] := by
  have nd := h.nd
  unfold GC.all at nd
  simp only [List.nodup_cons, List.mem_cons, not_or] at nd
  simp only [List.mem_singleton]
  exact ⟨nd.1.2.2.2.2.1, nd.2.1.2.2.2.1, nd.2.2.1.2.2.1, nd.2.2.2.2.1.1⟩
theorem Gn.dl {C : GC} {lf : Int} {tp : List (Str × Int)} (h : Gn H C lf tp) (hp : H p = none) : p ∉ [C.d, C.l] := fun q => h.nfp hp (by unfold GC.fp; simp at q ⊢; rcases q with q | q <;> simp [q])
theorem GrOk.len {names : List Str} {tp : List (Str × Int)} (h : GrOk names tp) (hn : names.length ≤ 17) : tp.length ≤ 17 := by
  have : (tp.map (·.1)).length ≤ names.length := nodup_le h.1 fun x hx => by
    obtain ⟨q, hq, rfl⟩ := List.mem_map.mp hx
    exact (h.2 q hq).1
  rw [List.length_map] at this
  omega
def rIsN : R2 := fun x y H Q => y = .non ∧ Q (.bl (decide (x = .non))) H
def rNotN : R2 := fun x y H Q => y = .non ∧ Q (.bl (!decide (x = .non))) H
theorem op_isN1 {X : Cx} : OpR X (compareOp .Is) rIsN := op_isN
theorem op_notN1 {X : Cx} : OpR X (compareOp .IsNot) rNotN := op_notN
theorem g_isN (h : Q (.bl (decide (x = .non))) H) : rIsN x .non H Q := ⟨rfl, h⟩
theorem g_notN (h : Q (.bl (!decide (x = .non))) H) : rNotN x .non H Q := ⟨rfl, h⟩
theorem g_int1 {k : Bool} {F : Int → Prop} {F2 : Bool → Prop} (h : F2 k) : (∃ i, [V.bl k] = [.int i] ∧ F i) ∨ ∃ k', [V.bl k] = [.bl k'] ∧ F2 k' := .inr ⟨k, rfl, h⟩
theorem call_tuple_ofK {X : Cx} {K : PySem.W.Frag} (h : X.K = K := by rfl) : CallR X (.type "tuple") (fun xs H Q => ∃ p ys, xs = [.ref p] ∧ ((SqL K H p ys ∧ ∀ l, H l = none → Q (.ref l) (upd H l (.tup ys))) ∨ (SqT K H p ys ∧ Q (.ref p) H))) := h ▸ call_tuple_of
theorem g_tupof {F : Addr → List V → Prop} {F2 : Addr → Prop} (h : H p = some (.lst xs)) (k : F p xs) : ∃ p' ys, [V.ref p] = [.ref p'] ∧ ((SqL K H p' ys ∧ F p' ys) ∨ (SqT K H p' ys ∧ F2 p')) := ⟨p, xs, rfl, .inl ⟨.inl (.of h), k⟩⟩
theorem Gn.none {C : GC} {lf : Int} {tp : List (Str × Int)} {H' : Hp} (h : Gn H C lf tp) (f : Fr C.fp H H') (hp : H' p = none) (h' : ∃ lf' tp', Gn H' C lf' tp') : H p = none := by
  obtain ⟨_, _, h'⟩ := h'
  cases e : H p with
  | none => rfl
  | some o => rw [f.get e (h'.nfp hp)] at hp; cases hp
/-- what a maker of statements gives -/
def Made (C : GC) (lf : Int) (tp : List (Str × Int)) (H : Hp) (cst : Int) (dep : Nat) (Q : VK) : Prop := ∀ (H' : Hp) (p : Addr) (vs : List V) (b : List Stm) (nw : List (Str × Int)) (lf' : Int),
  Gn H' C lf' (tp ++ nw) → Fr C.fp H H' → H p = none → H' p = some (.lst vs) → BAt H' b vs → Good C.names (C.vis tp) b (nw.map (·.1)) → (wB b : Int) ≤ cst + 50 * (lf - lf') → lf' ≤ lf → (-4 ≤ lf → -4 ≤ lf') → depB b ≤ dep → Q (.ref p) H'
end
end Fb
set_option Elab.async false
set_option linter.all false
set_option maxRecDepth 100000
set_option maxHeartbeats 4000000
namespace Fb
open PySem PySem.Spec PyProof.Rows L2
local macro_rules | `(tactic| walk_at "go1") => `(tactic| first
  | with_reducible refine g_seq ?_
  | with_reducible refine g_asg ?_
  | with_reducible refine g_name ?_
  | ((with_reducible refine' g_var ?h1 ?_); (case h1 => rfl))
  | with_reducible refine g_c ?_
  | with_reducible refine g_op ?_
  | with_reducible refine g_un ?_
  | with_reducible refine g_rU ?_
  | with_reducible refine g_yes ?_
  | with_reducible refine g_isN ?_
  | with_reducible refine g_notN ?_
  | with_reducible refine g_int1 ?_
  | with_reducible refine g_I0 ?_
  | ((with_reducible refine' g_eq ?h1 ?_); (case h1 => rfl))
  | ((with_reducible refine' g_ne ?h1 ?_); (case h1 => rfl))
  | with_reducible refine g_test ?_
  | with_reducible refine g_tb ?_
  | with_reducible refine g_bl ?_
  | with_reducible refine g_drop ?_
  | with_reducible refine g_ret ?_
  | with_reducible refine g_if ?_
  | with_reducible refine g_ife ?_
  | with_reducible refine g_and ?_
  | with_reducible refine g_or ?_
  | with_reducible refine g_not ?_
  | with_reducible refine g_next ?_
  | with_reducible refine g_nil ?_
  | with_reducible refine g_cons ?_
  | with_reducible refine g_cb ?_
  | with_reducible refine g_call ?_
  | with_reducible refine g_tup ?_
  | with_reducible refine g_lst ?_
  | with_reducible refine g_dget ?_
  | with_reducible refine g_dput ?_
  | with_reducible refine g_bm ?_
  | with_reducible refine g_lc ?_
  | with_reducible refine g_for ?_
  | with_reducible refine g_il ?_
  | with_reducible refine g_rng1 ?_
  | with_reducible refine g_gsub ?_
  | with_reducible refine g_din ?_
  | with_reducible refine g_disp ?_
  | with_reducible refine g_pairs ?_
  | with_reducible refine g_pairs0 ?_
  | with_reducible refine g_sl ?_
  | with_reducible refine g_part ?_
  | with_reducible refine g_part1 ?_
  | with_reducible refine g_nopart ?_
  | with_reducible refine g_andV ?_
  | with_reducible refine g_orV ?_
  | with_reducible refine g_notV ?_
  | with_reducible refine g_itp ?_
  | with_reducible refine g_par ?_
  | with_reducible refine g_par1 ?_
  | with_reducible refine g_par3 ?_
  | with_reducible refine g_par31 ?_
  | with_reducible refine g_gname ?_
  | with_reducible refine g_gcons ?_
  | with_reducible refine g_gnil ?_
  | with_reducible refine g_bm0 ?_)
local macro_rules | `(tactic| walk_at "go") => `(tactic| repeat walk_at "go1")
local macro_rules | `(tactic| walk_at "at") => `(tactic| repeat first
  | assumption
  | exact upd_same
  | with_reducible refine keep (by assumption) ?_
  | with_reducible refine keep_ne (by assumption) ?_
  | with_reducible refine Fr.get0 (by assumption) ?_
  | with_reducible refine Fr.get (by assumption) ?_ (by assumption)
  | with_reducible refine Fr.tup (by assumption) ?_)
local macro_rules | `(tactic| walk_at "fr") => `(tactic| repeat first
  | assumption
  | exact Fr.refl _ _
  | with_reducible refine Fr.trans ?_ (Fr.new (by assumption))
  | with_reducible refine Fr.trans ?_ (Fr.nil (by assumption))
  | with_reducible refine Fr.trans ?_ (by assumption))
local macro_rules | `(tactic| walk_at "gn") => `(tactic| repeat first
  | assumption
  | with_reducible refine Gn.fr0 ?_ (Fr.new (by assumption))
  | with_reducible refine Gn.fr0 ?_ (by assumption))
local macro_rules | `(tactic| walk_at "bt") => `(tactic| repeat first
  | assumption
  | with_reducible refine BAt.up (Fr.new (W := []) (by assumption)).1 _ _ ?_
  | with_reducible refine SAt.up (Fr.new (W := []) (by assumption)).1 _ _ ?_
  | with_reducible refine BAt.up (Fr.tupLe (by assumption)) _ _ ?_
  | with_reducible refine SAt.up (Fr.tupLe (by assumption)) _ _ ?_)
def spDraw : Sp := fun vs H Q _ => ∃ (d l : Addr) (many : Int), vs = [.ref d, .int many] ∧ DealAt H d l ∧ 0 < many ∧ many < 1073741824 ∧
  ∀ (i : Int) (H' : Hp), 0 ≤ i → i < many → DealAt H' d l → Fr [d, l] H H' → Q (.int i) H'
section
variable {P : Program} {w : World} {K : PySem.W.Frag} {mg : Str → Option Value} {base : Heap}
theorem sc_law_draw : FnScope ["_law_deal_here", "_law_many", "_law_number", "_law_one", "_law_other"] ["_law_deal_here", "_law_many"] (defScope (topS 13)) := ⟨rfl, rfl, rfl, by decide +kernel, rfl, by decide +kernel, by decide +kernel⟩
theorem ok_draw (A : All K mg) : Ok P w K mg base CX0 1 "_law_draw" ["_law_deal_here", "_law_many"] spDraw := by
  refine ok_of0 A.draw sc_law_draw (fun _ _ _ _ _ _ us hl => match us, hl with | [_, _], _ => rfl) (fun vs H Q E h => ?_) (fun f cdv Ar outer s H vs Q E hr h => ?_)
  · obtain ⟨_, _, _, rfl, _⟩ := h; rfl
  · obtain ⟨d, l, many, rfl, ⟨s0, n0, xs0, hd0, hl0⟩, m0, m1, k⟩ := h
    refine ⟨_, (Evl.pss_cut (ps_while PassesOwn.never (pw_and (pt_cmpR op_eq (pe_dget (hu_of hr) (pv 0) pe_str (fun _ _ => rfl)) pe_int (nomark _)) (pw_and1 (pt_cmpR op_gt (pe_callB call_len_seq (by rfl) A.len boot_len (pa_cons (pe_dget (hu_of hr) (pv 0) pe_str (fun _ _ => rfl)) pa_nil)) pe_int (nomark _)))).pt (pss_one (ps_dput (hu_of hr) (pv 0) pe_str (pe_bm0 PySem.F.plainAttrs_list PySem.F.slot_list_pop PySem.F.type_list_pop mt_pop (pe_dget (hu_of hr) (pv 0) pe_str (fun _ _ => rfl))) rfl)))
    (pss_cons (ps_set (i := 2) sc_law_draw.nd rfl (Or.inl rfl) (pe_dget (hu_of hr) (pv 0) pe_str (fun _ _ => rfl)))
    (pss_cons (ps_if (pt_cmpR op_gt (pv 2) pe_int (nomark _)) (pss_cons (ps_dput (hu_of hr) (pv 0) pe_str (pe_op op_fdiv (pv 2) (pv 1)) rfl)
    (pss_one (ps_ret (pe_op op_mod (pv 2) (pv 1))))) pss_nil)
    (pss_cons (ps_set (i := 3) sc_law_draw.nd rfl (Or.inl rfl) (pe_op op_mod (pe_op op_add (pe_op op_mul (pe_dget (hu_of hr) (pv 0) pe_str (fun _ _ => rfl)) pe_int) pe_int) pe_int))
    (pss_cons (ps_dput (hu_of hr) (pv 0) pe_str (pe_op op_mod (pe_op op_add (pe_op op_mul (pv 3) pe_int) pe_int) pe_int) rfl)
    (pss_cons (ps_set (i := 4) sc_law_draw.nd rfl (Or.inl rfl) (pe_op op_mod (pe_op op_mul (pe_dget (hu_of hr) (pv 0) pe_str (fun _ _ => rfl)) (pe_dget (hu_of hr) (pv 0) pe_str (fun _ _ => rfl))) pe_int))
    (pss_one (ps_ret (pe_op op_mod (pe_op op_add (pe_op op_mul (pe_op op_mod (pe_op op_mul (pv 3) (pv 3)) pe_int) pe_int) (pv 4)) (pv 1)))))))))), ?_⟩
    refine ⟨fun σ H' => σ = [some (.ref d), some (.int many), none, none, none] ∧ DealAt H' d l ∧ Fr [d, l] H H', ?_, ?_⟩
    · refine ⟨fun m σ H' => σ = [some (.ref d), some (.int many), none, none, none] ∧ (∃ (s n : Int) (xs : List Int), H' d = some (.dK (dkv s n l)) ∧ H' l = some (.lst (xs.map V.int)) ∧ xs.length = m) ∧ Fr [d, l] H H',
        ⟨xs0.length, rfl, ⟨s0, n0, xs0, hd0, hl0, rfl⟩, Fr.refl _ _⟩, ?_⟩
      clear s0 n0 xs0 hd0 hl0
      rintro m σ H' ⟨rfl, ⟨s0, n0, xs0, hd, hl, hm⟩, fr⟩
      have ndl : l ≠ d := ne_of hl hd (by intro q; cases q)
      walk_at "go"
      refine ⟨_, _, rfl, kvl hd (dkv_number _ _ _), ?_⟩
      walk_at "go"
      refine i_dec (fun e => ?_) (fun e => ?_)
      · walk_at "go"
        refine ⟨_, _, rfl, kvl hd (dkv_left _ _ _), ?_⟩
        walk_at "go"
        refine ⟨_, _, rfl, .inl (.of hl), ?_⟩
        walk_at "go"
        refine i_dec (fun e2 => ?_) (fun e2 => ?_)
        · refine ⟨_, fun _ _ h => h, ?_⟩
          walk_at "go"
          refine ⟨_, _, rfl, kvl hd (dkv_left _ _ _), ?_⟩
          obtain ⟨a, r, rfl⟩ : ∃ r a, xs0 = r ++ [a] := by
            rcases List.eq_nil_or_concat xs0 with h | ⟨r, a, h⟩
            · rw [h] at e2; simp at e2
            · exact ⟨r, a, by simpa using h⟩
          refine ⟨ty_l hl, l, _, .int r, rfl, rfl, hl, by simp, ?_⟩
          walk_at "go"
          refine ⟨_, _, rfl, kvp (keep_ne (Ne.symm ndl) hd) (by show 3 < sizeLine; decide), ?_⟩
          rw [dkv_pnumber]
          have e1 : (List.map V.int (a ++ [r])).dropLast = a.map V.int := by simp
          rw [e1]
          refine ⟨a.length, by rw [← hm]; simp, rfl, ⟨s0, r, a, upd_same, ?_, rfl⟩, ?_⟩
          · rw [upd_ne ndl]; exact upd_same
          · exact fr.trans ((Fr.put hl (by intro xs q; cases q) (by simp)).trans (Fr.put (keep_ne (Ne.symm ndl) hd) (by intro xs q; cases q) (by simp)))
        · exact ⟨rfl, ⟨s0, n0, xs0, hd, hl⟩, fr⟩
      · walk_at "go"
        exact ⟨rfl, ⟨s0, n0, xs0, hd, hl⟩, fr⟩
    · clear s0 n0 xs0 hd0 hl0
      rintro σ H' ⟨rfl, ⟨s0, n0, xs0, hd, hl⟩, fr⟩
      have ndl : l ≠ d := ne_of hl hd (by intro q; cases q)
      have cut : ∀ {i j : Int}, 0 < j → 0 ≤ i % j ∧ i % j < j := fun h => ⟨Int.emod_nonneg _ (by omega), Int.emod_lt_of_pos _ h⟩
      have z3 : ∀ s n, (dkv s n l).length < sizeLine := fun s n => by show 3 < sizeLine; decide
      walk_at "go"
      refine ⟨_, _, rfl, kvl hd (dkv_number _ _ _), ?_⟩
      walk_at "go"
      refine i_dec (fun e => ?_) (fun e => ?_)
      · walk_at "go"
        refine g_I ⟨m0, m1⟩ ?_
        walk_at "go"
        refine ⟨_, _, rfl, kvp hd (z3 _ _), ?_⟩
        rw [dkv_pnumber]
        walk_at "go"
        refine g_I m0 ?_
        refine k _ _ (cut m0).1 (cut m0).2 ⟨_, _, _, upd_same, keep_ne ndl hl⟩ ?_
        exact fr.trans (Fr.put hd (by intro xs q; cases q) (by simp))
      · walk_at "go"
        refine ⟨_, _, rfl, kvl hd (dkv_seed _ _ _), ?_⟩
        walk_at "go"
        refine g_I (.inr (by decide)) ?_
        walk_at "go"
        refine g_I (by decide) ?_
        generalize h1 : (s0 * 48271 + 7919) % 2147483647 = one
        have b1 : 0 ≤ one ∧ one < 2147483647 := by rw [← h1]; exact cut (by decide)
        walk_at "go"
        refine g_I (.inr (by decide)) ?_
        walk_at "go"
        refine g_I (by decide) ?_
        generalize h2 : (one * 40692 + 104729) % 2147483399 = s1
        have b2 : 0 ≤ s1 ∧ s1 < 2147483399 := by rw [← h2]; exact cut (by decide)
        walk_at "go"
        refine ⟨_, _, rfl, kvp hd (z3 _ _), ?_⟩
        rw [dkv_pseed]
        walk_at "go"
        refine ⟨_, _, rfl, kvl upd_same (dkv_seed _ _ _), ?_⟩
        walk_at "go"
        refine ⟨_, _, rfl, kvl upd_same (dkv_seed _ _ _), ?_⟩
        refine g_I (.inr (by omega)) ?_
        walk_at "go"
        refine g_I (by decide) ?_
        generalize h3 : s1 * s1 % 2147483563 = oth
        walk_at "go"
        refine g_I (.inr (by omega)) ?_
        walk_at "go"
        refine g_I (by decide) ?_
        walk_at "go"
        refine g_I (.inr (by decide)) ?_
        walk_at "go"
        refine g_I m0 ?_
        refine k _ _ (cut m0).1 (cut m0).2 ⟨_, _, _, upd_same, keep_ne ndl hl⟩ ?_
        exact fr.trans (Fr.put hd (by intro xs q; cases q) (by simp))
end
end Fb
set_option Elab.async false
set_option linter.all false
set_option maxRecDepth 100000
set_option maxHeartbeats 4000000
namespace Fb
open PySem PySem.Spec PyProof.Rows L2
local macro_rules | `(tactic| walk_at "go1") => `(tactic| first
  | with_reducible refine g_seq ?_
  | with_reducible refine g_asg ?_
  | with_reducible refine g_name ?_
  | ((with_reducible refine' g_var ?h1 ?_); (case h1 => rfl))
  | with_reducible refine g_c ?_
  | with_reducible refine g_op ?_
  | with_reducible refine g_un ?_
  | with_reducible refine g_rU ?_
  | with_reducible refine g_yes ?_
  | with_reducible refine g_isN ?_
  | with_reducible refine g_notN ?_
  | with_reducible refine g_int1 ?_
  | with_reducible refine g_I0 ?_
  | ((with_reducible refine' g_eq ?h1 ?_); (case h1 => rfl))
  | ((with_reducible refine' g_ne ?h1 ?_); (case h1 => rfl))
  | with_reducible refine g_test ?_
  | with_reducible refine g_tb ?_
  | with_reducible refine g_bl ?_
  | with_reducible refine g_drop ?_
  | with_reducible refine g_ret ?_
  | with_reducible refine g_if ?_
  | with_reducible refine g_ife ?_
  | with_reducible refine g_and ?_
  | with_reducible refine g_or ?_
  | with_reducible refine g_not ?_
  | with_reducible refine g_next ?_
  | with_reducible refine g_nil ?_
  | with_reducible refine g_cons ?_
  | with_reducible refine g_cb ?_
  | with_reducible refine g_call ?_
  | with_reducible refine g_tup ?_
  | with_reducible refine g_lst ?_
  | with_reducible refine g_dget ?_
  | with_reducible refine g_dput ?_
  | with_reducible refine g_bm ?_
  | with_reducible refine g_lc ?_
  | with_reducible refine g_for ?_
  | with_reducible refine g_il ?_
  | with_reducible refine g_rng1 ?_
  | with_reducible refine g_gsub ?_
  | with_reducible refine g_din ?_
  | with_reducible refine g_disp ?_
  | with_reducible refine g_pairs ?_
  | with_reducible refine g_pairs0 ?_
  | with_reducible refine g_sl ?_
  | with_reducible refine g_part ?_
  | with_reducible refine g_part1 ?_
  | with_reducible refine g_nopart ?_
  | with_reducible refine g_andV ?_
  | with_reducible refine g_orV ?_
  | with_reducible refine g_notV ?_
  | with_reducible refine g_itp ?_
  | with_reducible refine g_par ?_
  | with_reducible refine g_par1 ?_
  | with_reducible refine g_par3 ?_
  | with_reducible refine g_par31 ?_
  | with_reducible refine g_gname ?_
  | with_reducible refine g_gcons ?_
  | with_reducible refine g_gnil ?_
  | with_reducible refine g_bm0 ?_)
local macro_rules | `(tactic| walk_at "go") => `(tactic| repeat walk_at "go1")
local macro_rules | `(tactic| walk_at "at") => `(tactic| repeat first
  | assumption
  | exact upd_same
  | with_reducible refine keep (by assumption) ?_
  | with_reducible refine keep_ne (by assumption) ?_
  | with_reducible refine Fr.get0 (by assumption) ?_
  | with_reducible refine Fr.get (by assumption) ?_ (by assumption)
  | with_reducible refine Fr.tup (by assumption) ?_)
local macro_rules | `(tactic| walk_at "fr") => `(tactic| repeat first
  | assumption
  | exact Fr.refl _ _
  | with_reducible refine Fr.trans ?_ (Fr.new (by assumption))
  | with_reducible refine Fr.trans ?_ (Fr.nil (by assumption))
  | with_reducible refine Fr.trans ?_ (by assumption))
local macro_rules | `(tactic| walk_at "gn") => `(tactic| repeat first
  | assumption
  | with_reducible refine Gn.fr0 ?_ (Fr.new (by assumption))
  | with_reducible refine Gn.fr0 ?_ (by assumption))
local macro_rules | `(tactic| walk_at "bt") => `(tactic| repeat first
  | assumption
  | with_reducible refine BAt.up (Fr.new (W := []) (by assumption)).1 _ _ ?_
  | with_reducible refine SAt.up (Fr.new (W := []) (by assumption)).1 _ _ ?_
  | with_reducible refine BAt.up (Fr.tupLe (by assumption)) _ _ ?_
  | with_reducible refine SAt.up (Fr.tupLe (by assumption)) _ _ ?_)
def spTakes : Sp := fun vs H Q _ => ∃ k : Int, vs = [.int k] ∧ 1 ≤ k ∧ k ≤ 4 ∧ ∀ (H' : Hp) (p q : Addr) (ks : List Int) (gv : Int), Fr [] H H' → H' p = some (.tup [.ref q, .int gv]) → H' q = some (.tup (ks.map V.int)) → ks.length ≤ 4 → (∀ x ∈ ks, x = 0 ∨ x = 1) → (gv = 0 ∨ gv = 1) → Q (.ref p) H'
/-- named(deal, world, around, kind) -/
def spNamed : Sp := fun vs H Q _ => ∃ (C : GC) (lf : Int) (tp : List (Str × Int)) (k : Int), vs = [.ref C.d, .ref C.w, .ref C.ar, .int k] ∧ Gn H C lf tp ∧ 0 ≤ k ∧ k ≤ 4 ∧
  ((∀ x ∈ C.names, x ∈ tp.map (·.1)) → ∀ H', Gn H' C lf tp → Fr C.fp H H' → Q .non H') ∧
  ∀ H' x, x ∈ C.names → x ∉ tp.map (·.1) → Gn H' C lf (tp ++ [(x, k)]) → Fr C.fp H H' → Q (.str x) H'
section
variable {P : Program} {w : World} {K : PySem.W.Frag} {mg : Str → Option Value} {base : Heap}
theorem sc_law_takes : FnScope ["_law_kind"] ["_law_kind"] (defScope (topS 17)) := ⟨rfl, rfl, rfl, by decide +kernel, rfl, by decide +kernel, by decide +kernel⟩
theorem ok_takes (A : All K mg) : Ok P w K mg base CX0 1 "_law_takes" ["_law_kind"] spTakes := by
  refine ok_of0 A.takes sc_law_takes (fun _ _ _ _ _ _ us hl => match us, hl with | [_], _ => rfl) (fun vs H Q E h => ?_) (fun f cdv Ar outer s H vs Q E hr h => ?_)
  · obtain ⟨_, rfl, _⟩ := h; rfl
  · obtain ⟨k, rfl, k1, k2, q⟩ := h
    refine ⟨_, (pss_one (ps_ret (pe_ix (ix_listK (K := K)) (pe_lst (pa_cons (pe_tup (pa_cons (pe_tup pa_nil) (pa_cons pe_int pa_nil))) (pa_cons (pe_tup (pa_cons (pe_tup (pa_cons pe_int pa_nil)) (pa_cons pe_int pa_nil))) (pa_cons (pe_tup (pa_cons (pe_tup (pa_cons pe_int pa_nil)) (pa_cons pe_int pa_nil))) (pa_cons (pe_tup (pa_cons (pe_tup (pa_cons pe_int (pa_cons pe_int (pa_cons pe_int (pa_cons pe_int pa_nil))))) (pa_cons pe_int pa_nil))) pa_nil))))) (pe_op op_sub (pv 0) pe_int) (fun _ _ => rfl)))), ?_⟩
    have z1 : ∀ {n : Nat}, n ≤ 10 → n ≤ sizeLine := fun h => small_of (by omega)
    walk_at "go"
    refine ⟨z1 (by simp), fun p1 n1 => ?_⟩
    walk_at "go"
    refine ⟨z1 (by simp), fun p2 n2 => ?_⟩
    walk_at "go"
    refine ⟨z1 (by simp), fun p3 n3 => ?_⟩
    walk_at "go"
    refine ⟨z1 (by simp), fun p4 n4 => ?_⟩
    walk_at "go"
    refine ⟨z1 (by simp), fun p5 n5 => ?_⟩
    walk_at "go"
    refine ⟨z1 (by simp), fun p6 n6 => ?_⟩
    walk_at "go"
    refine ⟨z1 (by simp), fun p7 n7 => ?_⟩
    walk_at "go"
    refine ⟨z1 (by simp), fun p8 n8 => ?_⟩
    walk_at "go"
    refine ⟨z1 (by simp), fun p9 n9 => ?_⟩
    walk_at "go"
    have hk : k = 1 ∨ k = 2 ∨ k = 3 ∨ k = 4 := by omega
    have fin : ∀ (p r : Addr) (ks : List Int) (gv : Int), atI [V.ref p2, V.ref p4, V.ref p6, V.ref p8] (k - 1) = some (.ref p) → upd (upd (upd (upd (upd (upd (upd (upd (upd H p1 (.tup [])) p2 (.tup [.ref p1, .int 0])) p3 (.tup [.int 0])) p4 (.tup [.ref p3, .int 0])) p5 (.tup [.int 1])) p6 (.tup [.ref p5, .int 1])) p7 (.tup [.int 0, .int 0, .int 1, .int 0])) p8 (.tup [.ref p7, .int 0])) p9 (.lst [.ref p2, .ref p4, .ref p6, .ref p8]) p = some (.tup [.ref r, .int gv]) →
        upd (upd (upd (upd (upd (upd (upd (upd (upd H p1 (.tup [])) p2 (.tup [.ref p1, .int 0])) p3 (.tup [.int 0])) p4 (.tup [.ref p3, .int 0])) p5 (.tup [.int 1])) p6 (.tup [.ref p5, .int 1])) p7 (.tup [.int 0, .int 0, .int 1, .int 0])) p8 (.tup [.ref p7, .int 0])) p9 (.lst [.ref p2, .ref p4, .ref p6, .ref p8]) r = some (.tup (ks.map V.int)) → ks.length ≤ 4 → (∀ x ∈ ks, x = 0 ∨ x = 1) → (gv = 0 ∨ gv = 1) →
        rIxL K (.ref p9) (.int (k - 1)) (upd (upd (upd (upd (upd (upd (upd (upd (upd H p1 (.tup [])) p2 (.tup [.ref p1, .int 0])) p3 (.tup [.int 0])) p4 (.tup [.ref p3, .int 0])) p5 (.tup [.int 1])) p6 (.tup [.ref p5, .int 1])) p7 (.tup [.int 0, .int 0, .int 1, .int 0])) p8 (.tup [.ref p7, .int 0])) p9 (.lst [.ref p2, .ref p4, .ref p6, .ref p8])) Q := fun p r ks gv e1 e2 e3 e4 e5 e6 =>
      g_ixL upd_same e1 (q _ p r ks gv (by walk_at "fr") e2 e3 e4 e5 e6)
    rcases hk with rfl | rfl | rfl | rfl
    · exact fin p2 p1 [] 0 rfl (by walk_at "at") (by walk_at "at") (by decide) (by simp) (.inl rfl)
    · exact fin p4 p3 [0] 0 rfl (by walk_at "at") (by walk_at "at") (by decide) (by simp) (.inl rfl)
    · exact fin p6 p5 [1] 1 rfl (by walk_at "at") (by walk_at "at") (by decide) (by simp) (.inr rfl)
    · exact fin p8 p7 [0, 0, 1, 0] 0 rfl (by walk_at "at") (by walk_at "at") (by decide) (by simp) (.inl rfl)
end
end Fb
set_option Elab.async false
set_option linter.all false
set_option maxRecDepth 100000
set_option maxHeartbeats 4000000
/-! Rules that the layer has not. -/
namespace Fb
open PySem PySem.Spec PyProof.Rows L2
section
variable {X : Cx}
/-- d.update(e), e another dict -/
def rUpdate : V → List V → Hp → VK → Prop := fun x vs H Q => ∃ (a b : Addr) (kvs more : List (Key × V)), x = .ref a ∧ vs = [.ref b] ∧ H a = some (.dK kvs) ∧ H b = some (.dK more) ∧ a ≠ b ∧ kvs.length + more.length ≤ sizeLine ∧ Q .non (upd H a (.dK (mergeK kvs more)))
theorem mt_update : MtR X "dict.update" rUpdate := by
  intro pins s σ H x vs v us Q I rx rv h
  obtain ⟨a, b, kvs, more, rfl, rfl, ea, eb, nab, hz, q⟩ := h
  obtain rfl : v = Value.ref a := rx
  obtain ⟨u, rfl, ru⟩ := vals1 rv
  obtain rfl : u = Value.ref b := ru
  obtain ⟨z1, d1, vs1, rel1, dd1⟩ := dk_of I.hok ea
  obtain ⟨z2, d2, vs2, rel2, dd2⟩ := dk_of I.hok eb
  refine call_meetsIn PySem.F.slot_dict_update dd1.typeIs PySem.F.entry_dict_update (PySem.F.args_dict_update_2 _ _) (meets_dict_update (mixKind X.prog X.w) a b nab d2)
    ⟨vs1, vs2, dd1, dd2, by rw [← rel1.length, ← rel2.length]; exact hz, fun h' dm _ hs => ?_⟩
  have he : ∃ q, h'.get? a = some q := let ⟨q, _, _, hq, _⟩ := dm; ⟨q, hq⟩
  exact ⟨.non, _, d_write (t' := s.toks) I (by rw [ea]; exact True.intro) hs he (dk_new (Nat.le_trans (length_mergeK more kvs) hz) d1 (KV.merge rel2 rel1) dm), rfl, q⟩
theorem foldl_rep (n : Nat) (a : Array Nat) : ∀ (acc : Array Nat), ((List.replicate n a).foldl (· ++ ·) acc).toList = acc.toList ++ (List.replicate n a.toList).flatten := by
  induction n with
  | zero => intro acc; simp
  | succ n ih => intro acc; rw [List.replicate_succ, List.foldl_cons, ih, List.replicate_succ, List.flatten_cons]; simp
/-- text * 0 or 1 -/
def rRepS : R2 := fun x y H Q => ∃ (z : Str) (b : Bool), x = .str z ∧ y = .int (if b = true then 1 else 0) ∧ Q (.str (if b = true then z else Str.empty)) H
theorem op_repS : OpR X (binaryOp .Mult) rRepS := by
  intro pins s σ H x y v u Q I rx ry h
  obtain ⟨z, b, rfl, rfl, q⟩ := h
  obtain ⟨t, rfl⟩ := rx
  obtain ⟨t', rfl⟩ := ry
  cases b with
  | true =>
    refine P.mul_str (by decide) (fun _ h2 => by simp at h2) (fun _ h2 => by simp at h2) ?_
    rw [if_neg (by decide), if_pos (by simp)]
    exact ⟨.str z, H, I, ⟨t, rfl⟩, q⟩
  | false =>
    refine P.mul_str_none (by decide) (by decide) ?_
    exact ⟨.str _, H, I.tok _, ⟨_, rfl⟩, q⟩
end
end Fb
set_option Elab.async false
set_option linter.all false
set_option maxRecDepth 100000
set_option maxHeartbeats 4000000
/-! tuple * 0, tuple * 1. -/
namespace Fb
open PySem PySem.Spec PyProof.Rows L2
theorem tuple_mul1 (l : Addr) (items : Array Value) (n : Nat) (dd : Option Addr) (sl : Array (Option Value)) (u : Tok) :
    Meets (Builtin.«tuple.__mul__» ⟨[.ref l, .int 1 u], []⟩) (fun _ R s => s.heap.get? l = some { cls := .type "tuple", dict := dd, data := .seq items n, slots := sl } ∧
      R (.ok (.ret (Value.ref l))) s) :=
  .of_wp fun prog w A R s h => by
    obtain ⟨hp, g, d, tk, os⟩ := s
    obtain ⟨hl, h⟩ := h
    have f1 := AutoSeq1.idx_int
    have c0 : (decide ((1 : Int) < -(2 ^ 63)) || decide ((1 : Int) ≥ 2 ^ 63)) = false := by decide
    have c1 : (items.isEmpty || (1 : Int) == 1) = true := by simp
    wp_walk using wpAny_loadPart' hl
    repeat (first
      | (refine wpAny_ite_false (decide_eq_false (by rw [c0]; exact Bool.false_ne_true)) ?_; wp_walk using wpAny_loadPart' hl)
      | (refine wpAny_ite_true (decide_eq_true (by rw [c1])) ?_; wp_walk using wpAny_loadPart' hl))
    exact ⟨_, rfl, h⟩
theorem tuple_mul0 (l : Addr) (items : Array Value) (n : Nat) (dd : Option Addr) (sl : Array (Option Value)) (u : Tok) (c1 : items.isEmpty = false) :
    Meets (Builtin.«tuple.__mul__» ⟨[.ref l, .int 0 u], []⟩) (fun _ R s => s.heap.get? l = some { cls := .type "tuple", dict := dd, data := .seq items n, slots := sl } ∧
      R (.ok (.ret (Value.ref s.heap.objs.size))) { s with heap := s.heap.push { cls := Value.type "tuple", data := Data.seq #[] }, toks := s.toks }) :=
  .of_wp fun prog w A R s h => by
    obtain ⟨hp, g, d, tk, os⟩ := s
    obtain ⟨hl, h⟩ := h
    have f1 := AutoSeq1.idx_int
    have c0 : (decide ((0 : Int) < -(2 ^ 63)) || decide ((0 : Int) ≥ 2 ^ 63)) = false := by decide
    have c1 : (items.isEmpty || (0 : Int) == 1) = false := by rw [c1]; rfl
    have c2 : (decide ((0 : Int) ≤ 0) || items.isEmpty) = true := by simp
    wp_walk using wpAny_loadPart' hl
    repeat (first
      | (refine wpAny_ite_false (decide_eq_false (by rw [c0]; exact Bool.false_ne_true)) ?_; wp_walk using wpAny_loadPart' hl)
      | (refine wpAny_ite_false (decide_eq_false (by rw [c1]; exact Bool.false_ne_true)) ?_; wp_walk using wpAny_loadPart' hl)
      | (refine wpAny_ite_true (decide_eq_true (by rw [c2])) ?_; wp_walk using wpAny_loadPart' hl))
    exact ⟨_, rfl, h⟩
/-- tuple * 0, tuple * 1 -/
def rRep01 (K : PySem.W.Frag) : R2 := fun x y H Q => ∃ l k xs, x = .ref l ∧ y = .int k ∧ SqT K H l xs ∧ xs ≠ [] ∧ xs.length ≤ 1000 ∧ ((k = 1 ∧ Q (.ref l) H) ∨ (k = 0 ∧ ∀ p, H p = none → Q (.ref p) (upd H p (.tup []))))
section
variable {X : Cx}
theorem op_rep01 {K : PySem.W.Frag} (hK : X.K = K := by rfl) : OpR X (binaryOp .Mult) (rRep01 K) := by
  subst hK
  intro pins s σ H x y v u Q I rx ry h
  obtain ⟨l, k, xs, rfl, rfl, hT, hne, hz, q⟩ := h
  cases rx
  obtain ⟨t, rfl⟩ := ry
  obtain ⟨its, r, ⟨⟨cls, dd, data, sl⟩, ho, hc, n, hd⟩, hs⟩ := I.tuple hT
  simp only at hc hd
  subst hc hd
  have hle : its.length = xs.length := r.length.symm
  have hi : its.toArray.isEmpty = false := by
    cases its with
    | nil => exact absurd (List.eq_nil_of_length_eq_zero hle.symm) hne
    | cons a b => rfl
  rcases q with ⟨rfl, q⟩ | ⟨rfl, q⟩
  · refine wpAny_binaryOp_repeat_ref (T := "tuple") (U := "int") (by decide) ⟨_, ho, rfl⟩ (fun s' => typeIs_int s' 1 t) noFill_tuple_mul F.fills_int_mul F.slot_int_rmul repeat_tuple F.slot_int_index.lookup
      (call_meets F.slot_int_rmul (typeIs_int s 1 t) F.entry_int_rmul (F.args_int_rmul_2 _ _) (int_rmul_tuple 1 t l its.toArray n dd sl)
        ⟨ho, rfl, ⟨_, ho, rfl⟩, call_meets F.slot_tuple_mul ⟨_, ho, rfl⟩ F.entry_tuple_mul (F.args_tuple_mul_2 _ _) (tuple_mul1 l its.toArray n dd sl t) ⟨ho, ?_⟩⟩)
    exact ⟨.ref l, H, I, rfl, q⟩
  · refine wpAny_binaryOp_repeat_ref (T := "tuple") (U := "int") (by decide) ⟨_, ho, rfl⟩ (fun s' => typeIs_int s' 0 t) noFill_tuple_mul F.fills_int_mul F.slot_int_rmul repeat_tuple F.slot_int_index.lookup
      (call_meets F.slot_int_rmul (typeIs_int s 0 t) F.entry_int_rmul (F.args_int_rmul_2 _ _) (int_rmul_tuple 0 t l its.toArray n dd sl)
        ⟨ho, rfl, ⟨_, ho, rfl⟩, call_meets F.slot_tuple_mul ⟨_, ho, rfl⟩ F.entry_tuple_mul (F.args_tuple_mul_2 _ _) (tuple_mul0 l its.toArray n dd sl t hi) ⟨ho, ?_⟩⟩)
    refine ⟨.ref s.heap.objs.size, _, I.laid (t' := s.toks) (o := .tup []) (fun b ob q => Heap.get?_push_of_some _ q) (Nat.le_refl _) ?_, rfl, q _ (I.hok.fresh (Nat.le_refl _))⟩
    exact ⟨Nat.zero_le _, [], .nil, IsTup.new _ _⟩
end
/-! ### list(reversed(list)) -/
section
variable {prog : Program} {w : World} {A : Around} {E : Value → Shared → Prop} {s : Shared}
open RT
theorem init_rev {it l S : Addr} {items : Array Value} {R : Result → Shared → Prop} (hh : A.handled = none) (hit : s.heap.IsRevIter it l ((items.size : Int) - 1)) (hl : s.heap.IsList l items) (hne : l ≠ it) (hn : items.size ≤ sizeLine) (hSi : S ≠ it) (hSl : S ≠ l)
    (hS : s.heap.get? S = some { cls := .type "list", data := .seq #[] })
    (hR : ∀ (h' : Heap) (tk : Nat) (acc : Array Value) (c : Nat), (∀ b o, b ≠ it → b ≠ S → s.heap.get? b = some o → h'.get? b = some o) → h'.get? S = some { cls := .type "list", dict := none, data := .seq acc c, slots := #[] } → ItemsOf (fun i v => items[items.size - 1 - i]? = some v) acc items.size → R (.ok (.ret .none)) { s with heap := h', toks := tk }) :
    wpAny (model prog w) A.in1 (Builtin.«list.__init__» ⟨[.ref S, .ref it], []⟩)
      (fun fin s' => match fin with | .done f => R (.ok f) s' | .again c' => c'.quiet = true ∧ codeAny (model prog w) A c' R s') (fun e s' => R (.error e) s') s := by
  have W := (Walks.listRev (prog := prog) (w := w) (A := A.in1) hh it l hne items).toS
  have hSf : S ∉ [it, l] := by simp only [List.mem_cons, List.not_mem_nil, or_false, not_or]; exact ⟨hSi, hSl⟩
  show wpAny _ _ (do let old ← Builtin.List.listItems (.ref S); Builtin.List.listUpdate (.ref S) (fun _ => #[]); letGo old.toList.reverse; Builtin.List.listExtendWith (.ref S) (.ref it) .none) _ _ s
  refine wpAny_bind ?_
  unfold Builtin.List.listItems
  refine wpAny_bind (wpAny_seqItems hS rfl (wpAny_pure ?_))
  show wpAny _ _ (updateSeq S (fun _ => #[]) >>= fun _ => letGo (#[] : Array Value).toList.reverse >>= fun _ => Builtin.List.listExtendWith (.ref S) (.ref it) .none) _ _ s
  refine wpAny_bind (wpAny_updateSeq hS rfl ?_)
  have hS₂ := Heap.get?_update_self (Obj.mapSeq (fun _ => (#[] : Array Value))) hS rfl
  have oth : ∀ b o, b ≠ S → s.heap.get? b = some o → (s.heap.update S (Obj.mapSeq (fun _ => (#[] : Array Value)))).get? b = some o :=
    fun b o hb e => (Heap.get?_update_other _ _ (Ne.symm hb)).trans e
  refine wpAny_bind (wpAny_letGo ?_)
  have hit1 : (s.heap.update S (Obj.mapSeq (fun _ => (#[] : Array Value)))).IsRevIter it l ((items.size : Int) - 1) := hit.at fun o e => oth _ _ hSi.symm e
  have hl1 : (s.heap.update S (Obj.mapSeq (fun _ => (#[] : Array Value)))).IsList l items := by
    obtain ⟨o, ho, r⟩ := hl
    exact ⟨o, oth _ _ hSl.symm ho, r⟩
  have hT : ({ s with heap := s.heap.update S (Obj.mapSeq (fun _ => (#[] : Array Value))) } : Shared).TypeIs (.ref it) "list_reverseiterator" := Heap.IsRevIter.typeIs (s := { s with heap := s.heap.update S (Obj.mapSeq (fun _ => (#[] : Array Value))) }) hit1
  have h1 : Builtin.List.listSameRef (.ref S) (.ref it) = false := by simp [Builtin.List.listSameRef, hSi]
  unfold Builtin.List.listExtendWith
  refine wpAny_bind (wpAny_typeOf hT ?_)
  rw [if_neg (by rw [h1]; decide)]
  refine wpAny_bind (wpAny_pyIter_revIter (s := { s with heap := s.heap.update S (Obj.mapSeq (fun _ => (#[] : Array Value))) }) hit1 ?_)
  refine wpAny_bind (wpAny_holding ?_)
  unfold Builtin.List.listLengthHint
  refine wpAny_bind (wpAny_specialOf hT nolen_lri ?_)
  show wpAny _ A.in1 (specialOf (Value.ref it) (Str.ofString "__length_hint__") >>= _) _ _ _
  refine wpAny_bind (wpAny_specialOf hT hint_lri ?_)
  generalize hid : ("list_reverseiterator.__length_hint__" : String) = id0
  wp_delta
  rw [show splitId id0 = some ("list_reverseiterator", "__length_hint__") from by subst hid; decide +kernel]
  subst hid
  refine wpAny_bind (wpAny_isInstance (b := true) hT (by rw [isSubtype_type]; kernel_rfl) ?_)
  refine wpAny_pure ?_
  rw [if_neg (by decide)]
  have e0 : ((items.size : Nat) : Int) - 1 - ((0 : Nat) : Int) = (items.size : Int) - 1 := by omega
  refine wpAny_pure ⟨plainId_quiet F.plain_extend_loop _, codeAny_extend_loopS W hn _ hSf _ items.size 0 _ _ _ rfl (Nat.zero_le _) ⟨Nat.zero_le _, by rw [e0]; exact hit1, hl1⟩ hS₂ (ItemsOf.nil _) fun s' acc' c' hm hS' hacc => ?_⟩
  rw [Moved.eq_with hm]
  refine hR s'.heap s'.toks acc' c' (fun b o hb hb2 e => hm.heap b o (fun hmem => ?_) (oth _ _ hb2 e)) hS' hacc
  rcases List.mem_cons.mp hmem with e' | hmem
  · exact hb2 e'
  · exact hb (List.mem_singleton.mp hmem)
theorem call_list_rev {it l : Addr} {items : Array Value} {Q : Value → Shared → Prop} (hh : A.handled = none) (hit : s.heap.IsRevIter it l ((items.size : Int) - 1)) (hl : s.heap.IsList l items) (hne : l ≠ it) (hn : items.size ≤ sizeLine)
    (hQ : ∀ (h' : Heap) (tk : Nat) (acc : Array Value) (c : Nat), (∀ b o, b ≠ it → s.heap.get? b = some o → h'.get? b = some o) → h'.get? s.heap.objs.size = some { cls := .type "list", dict := none, data := .seq acc c, slots := #[] } → ItemsOf (fun i v => items[items.size - 1 - i]? = some v) acc items.size →
      Q (.ref s.heap.objs.size) { s with heap := h', toks := tk }) :
    wpAny (model prog w) A (call (.type "list") [.ref it]) Q E s := by
  obtain ⟨oi, hoi, _⟩ := id hit
  obtain ⟨ol, hol, _⟩ := id hl
  refine callType_codes (Q₁ := fun obj s₁ => obj = .ref s.heap.objs.size ∧ s₁ = { s with heap := s.heap.push { cls := .type "list", data := .seq #[] } }) F.called_list (F.typeCall_list_1 _) F.entry_list_init
    (code_list_new _ ⟨rfl, rfl⟩) fun obj s₁ h₁ => ?_
  obtain ⟨rfl, rfl⟩ := h₁
  have hS : (s.heap.push { cls := .type "list", data := .seq #[] }).get? s.heap.objs.size = some { cls := .type "list", data := .seq #[] } := Heap.get?_push_size _ rfl
  refine ⟨⟨_, hS, rfl⟩, F.args_list_init_2 _ _, init_rev (A := A.in1) hh (hit.at fun o e => Heap.get?_push_of_some _ e) (hl.push _) hne hn (Nat.ne_of_gt (Heap.lt_size hoi)) (Nat.ne_of_gt (Heap.lt_size hol)) hS (fun h' tk acc' c' hk hS' hacc => ?_)⟩
  exact ⟨rfl, hQ h' tk acc' c' (fun b o hb e => hk b o hb (Nat.ne_of_lt (Heap.lt_size e)) (Heap.get?_push_of_some _ e)) hS' hacc⟩
end
section
variable {X : Cx}
/-- list(reversed(a)) -/
theorem pe_listrev {e : Expr} {te : TE} {p p2 pos pos2 : Pos} {K : PySem.W.Frag} (hg : Gl X "list") (hm : X.mg "list" = none) (hg2 : Gl X "reversed") (hm2 : X.mg "reversed" = none) (he : PE X e te) (hK : X.K = K := by rfl) (hc : X.calm = true := by rfl)
    (hs : starEach [e] X.env = [(false, eval e X.env)] := by rfl)
    (hs2 : starEach [.Call (.Name "reversed" p2) [e] [] pos2] X.env = (false, eval (.Call (.Name "reversed" p2) [e] [] pos2) X.env) :: starEach [] X.env := by rfl) :
    PE X (.Call (.Name "list" p) [.Call (.Name "reversed" p2) [e] [] pos2] [] pos) (fun σ H Q => te σ H fun x H1 => ∃ a xs, x = .ref a ∧ SqL K H1 a xs ∧ ∀ H' q, (∀ c o, H1 c = some o → H' c = some o) → H1 q = none → H' q = some (.lst xs.reverse) → Q (.ref q) H') := by
  subst hK
  have hs : starEach [e] X.env = (false, eval e X.env) :: starEach [] X.env := hs
  refine ⟨fun pins s σ H Q I h => ?_⟩
  refine Call_ (ld_blt I hg hm boot_list (PyProof.Rows.callWith_type1 (args_cons (Call_ (ld_blt I hg2 hm2 PyProof.Rows.boot_reversed (PyProof.Rows.callWith_type1 (args_cons (thn (he.run pins s σ H _ I h) fun u s1 ⟨v, H1, I1, r1, q1⟩ => args_nil ?_) hs) hs rfl))) hs2) hs2 rfl))
  obtain ⟨a, xs, ev, hq, q⟩ := q1
  subst ev
  obtain rfl : u = Value.ref a := r1
  obtain ⟨its, rv, p', hz⟩ := I1.list hq
  refine call_reversed_list p'.isList (args_nil ?_)
  have k0 : ∀ b o, s1.heap.get? b = some o → (s1.heap.push (revObj a ((its.toArray.size : Int) - 1))).get? b = some o := fun b o e => Heap.get?_push_of_some _ e
  have I2 : Inv X pins σ H1 { s1 with heap := s1.heap.push (revObj a ((its.toArray.size : Int) - 1)) } := I1.kept (t' := s1.toks) k0
  have hfp := I1.fpOk (H' := H1) (b := s1.heap.objs.size) (Nat.le_refl _) (I1.hok.fresh (Nat.le_refl _))
  have hl := p'.isList
  obtain ⟨ol, hol, _⟩ := id hl
  have hne : a ≠ s1.heap.objs.size := Nat.ne_of_lt (Heap.lt_size hol)
  have hn : its.toArray.size ≤ sizeLine := by rw [List.size_toArray, ← rv.length]; exact hz
  refine call_list_rev (s := { s1 with heap := s1.heap.push (revObj a ((its.toArray.size : Int) - 1)) }) (I1.ok.hd hc) ⟨_, Heap.get?_push_size _ rfl, rfl, rfl⟩ (hl.push _) hne hn fun h' tk acc c hk hS hi => ?_
  have hn0 := I2.hok.fresh (Nat.le_refl _)
  refine ⟨.ref _, upd H1 _ (.lst xs.reverse), I2.turnedNew (t' := tk) (ch := [s1.heap.objs.size]) (fun b o hb e => hk b o (fun z => hb (by simp [z])) e) (fun b hb => by rw [List.mem_singleton.mp hb]; exact hfp) (Nat.le_refl _)
    (show ObjOk X.prog X.w _ _ _ (.lst xs.reverse) from ⟨by rw [List.length_reverse]; exact hz, acc.toList, c, RT.vals_rev rv hi, ?_⟩), rfl, q _ _ (fun c o e => by rw [upd_ne (fun z => by rw [z, hn0] at e; cases e)]; exact e) hn0 upd_same⟩
  rw [Array.toArray_toList]
  exact hS
end
end Fb
set_option Elab.async false
set_option linter.all false
set_option maxRecDepth 100000
set_option maxHeartbeats 4000000
/-! list(zip(a, b)), a and b lists or tuples. -/
namespace Fb
open PySem PySem.Spec PyProof.Rows L2 RZ
def IsIt (t : Bool) (h : Heap) (it l : Addr) (k : Nat) : Prop := match t with | true => h.IsTupleIter it l k | false => h.IsListIter it l k
def IsSq (t : Bool) (h : Heap) (l : Addr) (xs : Array Value) : Prop := match t with | true => h.IsTuple l xs | false => h.IsList l xs
theorem IsIt.extBut {t : Bool} {h h' : Heap} {it l b : Addr} {k : Nat} (x : IsIt t h it l k) (e : Heap.ExtBut b h h') (n : it ≠ b) : IsIt t h' it l k := by
  cases t
  · exact Heap.IsListIter.extBut x e n
  · exact Heap.IsTupleIter.extBut x e n
theorem IsSq.extBut {t : Bool} {h h' : Heap} {l b : Addr} {xs : Array Value} (x : IsSq t h l xs) (e : Heap.ExtBut b h h') (n : l ≠ b) : IsSq t h' l xs := by
  cases t
  · exact Heap.IsList.extBut x e n
  · exact Heap.IsTuple.extBut x e n
theorem IsIt.at {t : Bool} {h h' : Heap} {it l : Addr} {k : Nat} (x : IsIt t h it l k) (e : ∀ o, h.get? it = some o → h'.get? it = some o) : IsIt t h' it l k := by
  cases t
  · obtain ⟨o, ho, r⟩ := x; exact ⟨o, e o ho, r⟩
  · obtain ⟨o, ho, r⟩ := x; exact ⟨o, e o ho, r⟩
theorem IsSq.at {t : Bool} {h h' : Heap} {l : Addr} {xs : Array Value} (x : IsSq t h l xs) (e : ∀ o, h.get? l = some o → h'.get? l = some o) : IsSq t h' l xs := by
  cases t
  · obtain ⟨o, ho, r⟩ := x; exact ⟨o, e o ho, r⟩
  · obtain ⟨o, ho, r⟩ := x; exact ⟨o, e o ho, r⟩
theorem IsIt.lt {t : Bool} {h : Heap} {it l : Addr} {k : Nat} (x : IsIt t h it l k) : it < h.objs.size := by
  cases t
  · obtain ⟨o, ho, r⟩ := x; exact Heap.lt_size ho
  · obtain ⟨o, ho, r⟩ := x; exact Heap.lt_size ho
section
variable {prog : Program} {w : World} {A : Around} {E : Value → Shared → Prop} {s : Shared}
theorem nextOf_item {t : Bool} {it l : Addr} {i : Nat} {items} {x : Value} {Q : Value → Shared → Prop} (hit : IsIt t s.heap it l i)
    (hl : IsSq t s.heap l items) (hx : items[i]? = some x)
    (hQ : ∀ h', IsIt t h' it l (i + 1) → Heap.SameBut it s.heap h' → Q x { s with heap := h' }) :
    wpAny (model prog w) A (Builtin.SmallTypes.nextOf (.ref it)) Q E s := by
  cases t
  · exact wpAny_nextOf_list_item hit hl hx hQ
  · exact nextOf_tuple_item hit hl hx hQ
theorem nextOf_end {t : Bool} {it l : Addr} {i : Nat} {items} {Q : Value → Shared → Prop} (hh : A.handled = none)
    (hit : IsIt t s.heap it l i) (hl : IsSq t s.heap l items) (hx : items[i]? = none)
    (hE : ∀ h' e, Heap.ExtBut it s.heap h' → (∃ o, h'.get? e = some o ∧ o.cls = .type "StopIteration") → E (.ref e) { s with heap := h' }) :
    wpAny (model prog w) A (Builtin.SmallTypes.nextOf (.ref it)) Q E s := by
  cases t
  · exact wpAny_nextOf_list_end hh hit hl hx hE
  · exact nextOf_tuple_end hh hit hl hx hE
theorem zipX_item {t1 t2 : Bool} {z TI TO i1 i2 l1 l2 : Addr} {k1 k2 : Nat} {xs ys : Array Value} {x y a b : Value} {Q : Value → Shared → Prop} (D : ZipApart z TI TO i1 i2 l1 l2)
    (hz : IsZip s.heap z TI TO .none) (hTI : PySem.IsPair s.heap TI (.ref i1) (.ref i2)) (hTO : PySem.IsPair s.heap TO a b)
    (h1 : IsIt t1 s.heap i1 l1 k1) (h2 : IsIt t2 s.heap i2 l2 k2) (hl1 : IsSq t1 s.heap l1 xs) (hl2 : IsSq t2 s.heap l2 ys) (hx : xs[k1]? = some x) (hy : ys[k2]? = some y)
    (hQ : ∀ h', IsZipHeld h' z TI TO s.heap.objs.size false → IsIt t1 h' i1 l1 (k1 + 1) → IsIt t2 h' i2 l2 (k2 + 1) → PySem.IsPair h' s.heap.objs.size x y → h'.objs.size = s.heap.objs.size + 1 →
      (∀ c o, c ≠ z → c ≠ TO → c ≠ i1 → c ≠ i2 → s.heap.get? c = some o → h'.get? c = some o) → Q (.ref s.heap.objs.size) { s with heap := h' }) :
    wpAny (model prog w) A (Builtin.«zip.__next__» ⟨[.ref z], []⟩) (fun fin s' => ∃ v, fin = .done (.ret v) ∧ Q v s') E s := by
  show wpAny _ _ (field (.ref z) 2 >>= _) _ _ _
  refine wpAny_bind (wpAny_field hz rfl (x := .bool false) rfl ?_)
  show wpAny _ _ (field (.ref z) 3 >>= _) _ _ _
  refine wpAny_bind (wpAny_field hz rfl (x := .ref TI) rfl ?_)
  refine wpAny_bind (wpAny_seqItems hTI rfl ?_)
  show wpAny _ _ (Builtin.SmallTypes.ownedTupleIsFree (.ref z) >>= _) _ _ _
  refine wpAny_bind ?_
  unfold Builtin.SmallTypes.ownedTupleIsFree
  refine wpAny_bind (wpAny_field hz rfl (x := .none) rfl (wpAny_pure ?_))
  simp only [if_true]
  refine wpAny_bind (wpAny_rule ?_)
  refine wpAny_bind (wpAny_field hz rfl (x := .ref TO) rfl ?_)
  refine wpAny_bind (wpAny_setField_rec hz (by simp) fun h₁ hz₁ hs₁ => ?_)
  replace hz₁ : IsZip h₁ z TI TO .ellipsis := hz₁
  refine wpAny_bind ?_
  simp only [List.zipIdx_cons, List.zipIdx_nil, List.forIn_cons, List.forIn_nil]
  refine wpAny_bind (wpAny_bind (wpAny_onRaise ?_))
  show wpAny _ _ (Builtin.SmallTypes.nextOf (.ref i1) >>= _) _ _ _
  refine wpAny_bind (nextOf_item (h1.extBut hs₁.extBut D.i1z) (hl1.extBut hs₁.extBut D.l1z) hx fun h₂ h1₂ hs₂ => wpAny_pure ?_)
  have hTO₂ : PySem.IsPair h₂ TO a b := hs₂.extBut _ _ D.TOi1 (hs₁.extBut _ _ D.TOz hTO)
  refine wpAny_bind (wpAny_seqItems hTO₂ rfl ?_)
  refine wpAny_bind (wpAny_updateSeq_pair hTO₂ fun h₃ hTO₃ hs₃ => ?_)
  replace hTO₃ : PySem.IsPair h₃ TO x b := hTO₃
  refine wpAny_bind (wpAny_letGo (wpAny_pure ?_))
  refine wpAny_bind (wpAny_bind (wpAny_onRaise ?_))
  show wpAny _ _ (Builtin.SmallTypes.nextOf (.ref i2) >>= _) _ _ _
  refine wpAny_bind (nextOf_item (((h2.extBut hs₁.extBut D.i2z).extBut hs₂.extBut D.i12.symm).extBut hs₃.extBut D.TOi2.symm)
    (((hl2.extBut hs₁.extBut D.l2z).extBut hs₂.extBut D.l2i1).extBut hs₃.extBut D.l2TO) hy fun h₄ h2₄ hs₄ => wpAny_pure ?_)
  have hTO₄ : PySem.IsPair h₄ TO x b := hs₄.extBut _ _ D.TOi2 hTO₃
  refine wpAny_bind (wpAny_seqItems hTO₄ rfl ?_)
  refine wpAny_bind (wpAny_updateSeq_pair hTO₄ fun h₅ hTO₅ hs₅ => ?_)
  replace hTO₅ : PySem.IsPair h₅ TO x y := hTO₅
  refine wpAny_bind (wpAny_letGo (wpAny_pure (wpAny_pure ?_)))
  refine wpAny_bind (wpAny_seqItems hTO₅ rfl ?_)
  refine wpAny_bind (wpAny_newTuple ?_)
  have hsz : h₅.objs.size = s.heap.objs.size := by rw [hs₅.1, hs₄.1, hs₃.1, hs₂.1, hs₁.1]
  have hz₅ : IsZip h₅ z TI TO .ellipsis := hs₅.extBut _ _ D.TOz.symm (hs₄.extBut _ _ D.i2z.symm (hs₃.extBut _ _ D.TOz.symm (hs₂.extBut _ _ D.i1z.symm hz₁)))
  have hk₅ : ∀ c o, c ≠ z → c ≠ TO → c ≠ i1 → c ≠ i2 → s.heap.get? c = some o → h₅.get? c = some o := fun c o c1 c2 c3 c4 e =>
    hs₅.extBut _ _ c2 (hs₄.extBut _ _ c4 (hs₃.extBut _ _ c2 (hs₂.extBut _ _ c3 (hs₁.extBut _ _ c1 e))))
  have h1₅ : IsIt t1 h₅ i1 l1 (k1 + 1) := ((h1₂.extBut hs₃.extBut D.TOi1.symm).extBut hs₄.extBut D.i12).extBut hs₅.extBut D.TOi1.symm
  have h2₅ : IsIt t2 h₅ i2 l2 (k2 + 1) := h2₄.extBut hs₅.extBut D.TOi2.symm
  have hzlt : z < h₅.objs.size := Heap.lt_size hz₅
  show wpAny _ _ (Builtin.SmallTypes.ownedTupleHandOut (.ref z) (.ref h₅.objs.size) >>= _) _ _ _
  refine wpAny_bind ?_
  unfold Builtin.SmallTypes.ownedTupleHandOut
  have hz₆ : IsZip (h₅.push { cls := .type "tuple", data := .seq #[x, y] }) z TI TO .ellipsis := Heap.get?_push_of_some _ hz₅
  refine wpAny_bind (wpAny_setField_rec hz₆ (by simp) fun h₇ hz₇ hs₇ => ?_)
  replace hz₇ : IsZip h₇ z TI TO (rawInt h₅.objs.size) := hz₇
  refine wpAny_setField_rec hz₇ (by simp) fun h₈ hz₈ hs₈ => ?_
  replace hz₈ : IsZip h₈ z TI TO (rawInt h₅.objs.size) := hz₈
  have up : ∀ c o, c ≠ z → h₅.get? c = some o → h₈.get? c = some o := fun c o c1 e => hs₈.extBut _ _ c1 (hs₇.extBut _ _ c1 (Heap.get?_push_of_some _ e))
  have hT₈ : PySem.IsPair h₈ h₅.objs.size x y := hs₈.extBut _ _ (Nat.ne_of_gt hzlt) (hs₇.extBut _ _ (Nat.ne_of_gt hzlt) (Heap.get?_push_size _ rfl))
  have hz8 : h₈.objs.size = h₅.objs.size + 1 := by rw [hs₈.1, hs₇.1, Heap.size_push]
  rw [hsz] at hz₈ hT₈ hz8
  refine wpAny_pure ⟨_, rfl, ?_⟩
  show Q (.ref h₅.objs.size) _
  rw [hsz]
  exact hQ h₈ hz₈ (h1₅.at fun o e => up _ o D.i1z e) (h2₅.at fun o e => up _ o D.i2z e) hT₈ hz8 fun c o c1 c2 c3 c4 e => up c o c1 (hk₅ c o c1 c2 c3 c4 e)
theorem zipX_end {t1 t2 : Bool} {z TI TO i1 i2 l1 l2 : Addr} {k1 k2 : Nat} {xs ys : Array Value} {a b : Value} {Q : Fin → Shared → Prop} (hh : A.handled = none) (D : ZipApart z TI TO i1 i2 l1 l2)
    (hz : IsZip s.heap z TI TO .none) (hTI : PySem.IsPair s.heap TI (.ref i1) (.ref i2)) (hTO : PySem.IsPair s.heap TO a b)
    (h1 : IsIt t1 s.heap i1 l1 k1) (h2 : IsIt t2 s.heap i2 l2 k2) (hl1 : IsSq t1 s.heap l1 xs) (hl2 : IsSq t2 s.heap l2 ys) (hend : xs[k1]? = none ∨ ys[k2]? = none)
    (hE : ∀ h' e, (∀ c o, c ≠ z → c ≠ TO → c ≠ i1 → c ≠ i2 → s.heap.get? c = some o → h'.get? c = some o) → (∃ o, h'.get? e = some o ∧ o.cls = .type "StopIteration") → E (.ref e) { s with heap := h' }) :
    wpAny (model prog w) A (Builtin.«zip.__next__» ⟨[.ref z], []⟩) Q E s := by
  show wpAny _ _ (field (.ref z) 2 >>= _) _ _ _
  refine wpAny_bind (wpAny_field hz rfl (x := .bool false) rfl ?_)
  show wpAny _ _ (field (.ref z) 3 >>= _) _ _ _
  refine wpAny_bind (wpAny_field hz rfl (x := .ref TI) rfl ?_)
  refine wpAny_bind (wpAny_seqItems hTI rfl ?_)
  show wpAny _ _ (Builtin.SmallTypes.ownedTupleIsFree (.ref z) >>= _) _ _ _
  refine wpAny_bind ?_
  unfold Builtin.SmallTypes.ownedTupleIsFree
  refine wpAny_bind (wpAny_field hz rfl (x := .none) rfl (wpAny_pure ?_))
  simp only [if_true]
  refine wpAny_bind (wpAny_rule ?_)
  refine wpAny_bind (wpAny_field hz rfl (x := .ref TO) rfl ?_)
  refine wpAny_bind (wpAny_setField_rec hz (by simp) fun h₁ hz₁ hs₁ => ?_)
  replace hz₁ : IsZip h₁ z TI TO .ellipsis := hz₁
  refine wpAny_bind ?_
  simp only [List.zipIdx_cons, List.zipIdx_nil, List.forIn_cons, List.forIn_nil]
  refine wpAny_bind (wpAny_bind (wpAny_onRaise ?_))
  show wpAny _ _ (Builtin.SmallTypes.nextOf (.ref i1) >>= _) _ _ _
  cases hx : xs[k1]? with
  | none =>
    refine wpAny_bind (nextOf_end hh (h1.extBut hs₁.extBut D.i1z) (hl1.extBut hs₁.extBut D.l1z) hx fun h₂ e hs₂ he => ?_)
    obtain ⟨oe, hoe, hce⟩ := he
    have hz₂ : IsZip h₂ z TI TO .ellipsis := hs₂ _ _ D.i1z.symm hz₁
    have hez : e ≠ z := fun x => by subst x; rw [hz₂] at hoe; cases hoe; simp at hce
    refine wpAny_setField_rec hz₂ (by simp) fun h₃ _ hs₃ => hE h₃ e (fun c o c1 _ c3 _ x => hs₃.extBut _ _ c1 (hs₂ _ _ c3 (hs₁.extBut _ _ c1 x))) ⟨oe, hs₃.extBut _ _ hez hoe, hce⟩
  | some x =>
    have hy : ys[k2]? = none := by rcases hend with h | h; rw [hx] at h; cases h; exact h
    refine wpAny_bind (nextOf_item (h1.extBut hs₁.extBut D.i1z) (hl1.extBut hs₁.extBut D.l1z) hx fun h₂ h1₂ hs₂ => wpAny_pure ?_)
    have hTO₂ : PySem.IsPair h₂ TO a b := hs₂.extBut _ _ D.TOi1 (hs₁.extBut _ _ D.TOz hTO)
    refine wpAny_bind (wpAny_seqItems hTO₂ rfl ?_)
    refine wpAny_bind (wpAny_updateSeq_pair hTO₂ fun h₃ hTO₃ hs₃ => ?_)
    refine wpAny_bind (wpAny_letGo (wpAny_pure ?_))
    refine wpAny_bind (wpAny_bind (wpAny_onRaise ?_))
    show wpAny _ _ (Builtin.SmallTypes.nextOf (.ref i2) >>= _) _ _ _
    refine wpAny_bind (nextOf_end hh (((h2.extBut hs₁.extBut D.i2z).extBut hs₂.extBut D.i12.symm).extBut hs₃.extBut D.TOi2.symm)
      (((hl2.extBut hs₁.extBut D.l2z).extBut hs₂.extBut D.l2i1).extBut hs₃.extBut D.l2TO) hy fun h₄ e hs₄ he => ?_)
    obtain ⟨oe, hoe, hce⟩ := he
    have hz₄ : IsZip h₄ z TI TO .ellipsis := hs₄ _ _ D.i2z.symm (hs₃.extBut _ _ D.TOz.symm (hs₂.extBut _ _ D.i1z.symm hz₁))
    have hez : e ≠ z := fun x => by subst x; rw [hz₄] at hoe; cases hoe; simp at hce
    refine wpAny_setField_rec hz₄ (by simp) fun h₅ _ hs₅ => hE h₅ e (fun c o c1 c2 c3 c4 x => hs₅.extBut _ _ c1 (hs₄ _ _ c4 (hs₃.extBut _ _ c2 (hs₂.extBut _ _ c3 (hs₁.extBut _ _ c1 x))))) ⟨oe, hs₅.extBut _ _ hez hoe, hce⟩
theorem zipX_item_held {t1 t2 : Bool} {z TI TO T i1 i2 l1 l2 : Addr} {f : Bool} {oT : Obj} {k1 k2 : Nat} {xs ys : Array Value} {x y : Value} {Q : Value → Shared → Prop} (D : ZipApart z TI TO i1 i2 l1 l2)
    (hz : IsZipHeld s.heap z TI TO T f) (hT : s.heap.get? T = some oT) (hTI : PySem.IsPair s.heap TI (.ref i1) (.ref i2))
    (h1 : IsIt t1 s.heap i1 l1 k1) (h2 : IsIt t2 s.heap i2 l2 k2) (hl1 : IsSq t1 s.heap l1 xs) (hl2 : IsSq t2 s.heap l2 ys) (hx : xs[k1]? = some x) (hy : ys[k2]? = some y)
    (hQ : ∀ h', IsZipHeld h' z TI TO T true → IsIt t1 h' i1 l1 (k1 + 1) → IsIt t2 h' i2 l2 (k2 + 1) → PySem.IsPair h' s.heap.objs.size x y → h'.objs.size = s.heap.objs.size + 1 →
      (∀ c o, c ≠ z → c ≠ i1 → c ≠ i2 → s.heap.get? c = some o → h'.get? c = some o) → Q (.ref s.heap.objs.size) { s with heap := h' }) :
    wpAny (model prog w) A (Builtin.«zip.__next__» ⟨[.ref z], []⟩) (fun fin s' => ∃ v, fin = .done (.ret v) ∧ Q v s') E s := by
  show wpAny _ _ (field (.ref z) 2 >>= _) _ _ _
  refine wpAny_bind (wpAny_field hz rfl (x := .bool false) rfl ?_)
  show wpAny _ _ (field (.ref z) 3 >>= _) _ _ _
  refine wpAny_bind (wpAny_field hz rfl (x := .ref TI) rfl ?_)
  refine wpAny_bind (wpAny_seqItems hTI rfl ?_)
  show wpAny _ _ (Builtin.SmallTypes.ownedTupleIsFree (.ref z) >>= _) _ _ _
  refine wpAny_bind (wpAny_tupleHeld_zip hz hT fun h₁ hz₁ hs₁ => ?_)
  simp only [Bool.false_eq_true, if_false]
  refine wpAny_bind ?_
  rw [← Array.forIn_toList]
  simp only [List.forIn_cons, List.forIn_nil]
  refine wpAny_bind (wpAny_bind (wpAny_holding ?_))
  show wpAny _ _ (Builtin.SmallTypes.nextOf (.ref i1) >>= _) _ _ _
  refine wpAny_bind (nextOf_item (s := { s with heap := h₁ }) (h1.extBut hs₁.extBut D.i1z) (hl1.extBut hs₁.extBut D.l1z) hx fun h₂ h1₂ hs₂ => wpAny_pure ?_)
  refine wpAny_pure ?_
  refine wpAny_bind (wpAny_bind (wpAny_holding ?_))
  show wpAny _ _ (Builtin.SmallTypes.nextOf (.ref i2) >>= _) _ _ _
  refine wpAny_bind (nextOf_item (s := { s with heap := h₂ }) ((h2.extBut hs₁.extBut D.i2z).extBut hs₂.extBut D.i12.symm) ((hl2.extBut hs₁.extBut D.l2z).extBut hs₂.extBut D.l2i1) hy fun h₃ h2₃ hs₃ => wpAny_pure ?_)
  refine wpAny_pure (wpAny_pure ?_)
  show wpAny _ _ (newTuple [x, y] >>= _) _ _ _
  refine wpAny_bind (wpAny_newTuple ?_)
  have hsz : h₃.objs.size = s.heap.objs.size := by rw [hs₃.1, hs₂.1, hs₁.1]
  have hz₃ : IsZipHeld h₃ z TI TO T true := hs₃.extBut _ _ D.i2z.symm (hs₂.extBut _ _ D.i1z.symm hz₁)
  have hk : ∀ c o, c ≠ z → c ≠ i1 → c ≠ i2 → s.heap.get? c = some o → h₃.get? c = some o := fun c o c1 c2 c3 e => hs₃.extBut _ _ c3 (hs₂.extBut _ _ c2 (hs₁.extBut _ _ c1 e))
  have h1₃ : IsIt t1 h₃ i1 l1 (k1 + 1) := h1₂.extBut hs₃.extBut D.i12
  refine wpAny_pure ⟨_, rfl, ?_⟩
  show Q (.ref h₃.objs.size) _
  have hp : PySem.IsPair (h₃.push { cls := .type "tuple", data := .seq #[x, y] }) h₃.objs.size x y := Heap.get?_push_size _ rfl
  have hz4 : (h₃.push { cls := .type "tuple", data := .seq #[x, y] }).objs.size = h₃.objs.size + 1 := Heap.size_push ..
  rw [hsz] at hp hz4 ⊢
  exact hQ _ (Heap.get?_push_of_some _ hz₃) (h1₃.at fun o e => Heap.get?_push_of_some _ e) (h2₃.at fun o e => Heap.get?_push_of_some _ e) hp hz4 fun c o c1 c2 c3 e => Heap.get?_push_of_some _ (hk c o c1 c2 c3 e)
theorem zipX_end_held {t1 t2 : Bool} {z TI TO T i1 i2 l1 l2 : Addr} {f : Bool} {oT : Obj} {k1 k2 : Nat} {xs ys : Array Value} {Q : Fin → Shared → Prop} (hh : A.handled = none) (D : ZipApart z TI TO i1 i2 l1 l2)
    (hz : IsZipHeld s.heap z TI TO T f) (hT : s.heap.get? T = some oT) (hTI : PySem.IsPair s.heap TI (.ref i1) (.ref i2))
    (h1 : IsIt t1 s.heap i1 l1 k1) (h2 : IsIt t2 s.heap i2 l2 k2) (hl1 : IsSq t1 s.heap l1 xs) (hl2 : IsSq t2 s.heap l2 ys) (hend : xs[k1]? = none ∨ ys[k2]? = none)
    (hE : ∀ h' e, (∀ c o, c ≠ z → c ≠ i1 → c ≠ i2 → s.heap.get? c = some o → h'.get? c = some o) → (∃ o, h'.get? e = some o ∧ o.cls = .type "StopIteration") → E (.ref e) { s with heap := h' }) :
    wpAny (model prog w) A (Builtin.«zip.__next__» ⟨[.ref z], []⟩) Q E s := by
  show wpAny _ _ (field (.ref z) 2 >>= _) _ _ _
  refine wpAny_bind (wpAny_field hz rfl (x := .bool false) rfl ?_)
  show wpAny _ _ (field (.ref z) 3 >>= _) _ _ _
  refine wpAny_bind (wpAny_field hz rfl (x := .ref TI) rfl ?_)
  refine wpAny_bind (wpAny_seqItems hTI rfl ?_)
  show wpAny _ _ (Builtin.SmallTypes.ownedTupleIsFree (.ref z) >>= _) _ _ _
  refine wpAny_bind (wpAny_tupleHeld_zip hz hT fun h₁ hz₁ hs₁ => ?_)
  simp only [Bool.false_eq_true, if_false]
  refine wpAny_bind ?_
  rw [← Array.forIn_toList]
  simp only [List.forIn_cons, List.forIn_nil]
  refine wpAny_bind (wpAny_bind (wpAny_holding ?_))
  show wpAny _ _ (Builtin.SmallTypes.nextOf (.ref i1) >>= _) _ _ _
  cases hx : xs[k1]? with
  | none =>
    refine wpAny_bind (nextOf_end (s := { s with heap := h₁ }) hh (h1.extBut hs₁.extBut D.i1z) (hl1.extBut hs₁.extBut D.l1z) hx fun h₂ e hs₂ he => ?_)
    exact hE h₂ e (fun c o c1 c2 _ x => hs₂ _ _ c2 (hs₁.extBut _ _ c1 x)) he
  | some x =>
    have hy : ys[k2]? = none := by rcases hend with h | h; rw [hx] at h; cases h; exact h
    refine wpAny_bind (nextOf_item (s := { s with heap := h₁ }) (h1.extBut hs₁.extBut D.i1z) (hl1.extBut hs₁.extBut D.l1z) hx fun h₂ h1₂ hs₂ => wpAny_pure ?_)
    refine wpAny_pure ?_
    refine wpAny_bind (wpAny_bind (wpAny_holding ?_))
    show wpAny _ _ (Builtin.SmallTypes.nextOf (.ref i2) >>= _) _ _ _
    refine wpAny_bind (nextOf_end (s := { s with heap := h₂ }) hh ((h2.extBut hs₁.extBut D.i2z).extBut hs₂.extBut D.i12.symm) ((hl2.extBut hs₁.extBut D.l2z).extBut hs₂.extBut D.l2i1) hy fun h₃ e hs₃ he => ?_)
    exact hE h₃ e (fun c o c1 c2 c3 x => hs₃ _ _ c3 (hs₂.extBut _ _ c2 (hs₁.extBut _ _ c1 x))) he
structure ZSt (t1 t2 : Bool) (h : Heap) (z TI TO i1 i2 l1 l2 S : Addr) (i : Nat) : Prop where
  ti : PySem.IsPair h TI (.ref i1) (.ref i2)
  one : IsIt t1 h i1 l1 i
  two : IsIt t2 h i2 l2 i
  own : (IsZip h z TI TO .none ∧ ∃ a b, PySem.IsPair h TO a b) ∨ ∃ T f oT, IsZipHeld h z TI TO T f ∧ h.get? T = some oT ∧ T ≠ S ∧ T ≠ z ∧ T ≠ i1 ∧ T ≠ i2
theorem ZSt.zip {t1 t2 : Bool} {z TI TO i1 i2 l1 l2 S : Addr} {i : Nat} (st : ZSt t1 t2 s.heap z TI TO i1 i2 l1 l2 S i) : s.TypeIs (.ref z) "zip" := by
  rcases st.own with ⟨q, _⟩ | ⟨T, f, oT, q, _⟩
  · exact ⟨_, q, rfl⟩
  · exact ⟨_, q, rfl⟩
theorem ZSt.keep {t1 t2 : Bool} {h h' : Heap} {z TI TO i1 i2 l1 l2 S : Addr} {i : Nat} (st : ZSt t1 t2 h z TI TO i1 i2 l1 l2 S i) (k : ∀ b o, b ≠ S → h.get? b = some o → h'.get? b = some o) (n1 : z ≠ S) (n2 : TI ≠ S) (n3 : TO ≠ S) (n4 : i1 ≠ S) (n5 : i2 ≠ S) : ZSt t1 t2 h' z TI TO i1 i2 l1 l2 S i := by
  obtain ⟨ti, one, two, own⟩ := st
  refine ⟨k _ _ n2 ti, one.at fun o e => k _ _ n4 e, two.at fun o e => k _ _ n5 e, ?_⟩
  rcases own with ⟨q, a, b, to⟩ | ⟨T, f, oT, q, q2, q3⟩
  · exact .inl ⟨k _ _ n1 q, a, b, k _ _ n3 to⟩
  · exact .inr ⟨T, f, oT, k _ _ n1 q, k _ _ q3.1 q2, q3⟩
theorem next_item {t1 t2 : Bool} {z TI TO i1 i2 l1 l2 S : Addr} {i : Nat} {xs ys : Array Value} {x y : Value} {Q : Option Value → Shared → Prop} (D : ZipApart z TI TO i1 i2 l1 l2) (st : ZSt t1 t2 s.heap z TI TO i1 i2 l1 l2 S i)
    (hl1 : IsSq t1 s.heap l1 xs) (hl2 : IsSq t2 s.heap l2 ys) (hx : xs[i]? = some x) (hy : ys[i]? = some y) (hS : S < s.heap.objs.size)
    (hQ : ∀ h', ZSt t1 t2 h' z TI TO i1 i2 l1 l2 S (i + 1) → PySem.IsPair h' s.heap.objs.size x y → h'.objs.size = s.heap.objs.size + 1 →
      (∀ c o, c ≠ z → c ≠ TO → c ≠ i1 → c ≠ i2 → s.heap.get? c = some o → h'.get? c = some o) → Q (some (.ref s.heap.objs.size)) { s with heap := h' }) :
    wpAny (model prog w) A (pyNext (.ref z)) Q E s := by
  have hTy := st.zip
  obtain ⟨ti, one, two, own⟩ := st
  unfold pyNext
  rcases own with ⟨q, a, b, to⟩ | ⟨T, f, oT, q, q2, q3⟩
  · exact wpAny_bind (wpAny_attempt (wpAny_callSpecial?_slot (name := Str.ofString "__next__") hTy F.slot_zip_next
      (wpAny_call_entry F.slot_zip_next hTy F.entry_zip_next
        (zipX_item D q ti to one two hl1 hl2 hx hy fun h' a1 a2 a3 a4 a5 a6 => wpAny_pure (hQ h' ⟨a6 _ _ D.TIz D.TITO D.TIi1 D.TIi2 ti, a2, a3, .inr ⟨_, _, _, a1, a4, Nat.ne_of_gt hS, Nat.ne_of_gt (Heap.lt_size q), Nat.ne_of_gt one.lt, Nat.ne_of_gt two.lt⟩⟩ a4 a5 a6)) (F.args_zip_next_1 _))))
  · exact wpAny_bind (wpAny_attempt (wpAny_callSpecial?_slot (name := Str.ofString "__next__") hTy F.slot_zip_next
      (wpAny_call_entry F.slot_zip_next hTy F.entry_zip_next
        (zipX_item_held D q q2 ti one two hl1 hl2 hx hy fun h' a1 a2 a3 a4 a5 a6 => wpAny_pure (hQ h' ⟨a6 _ _ D.TIz D.TIi1 D.TIi2 ti, a2, a3, .inr ⟨T, true, oT, a1, a6 _ _ q3.2.1 q3.2.2.1 q3.2.2.2 q2, q3⟩⟩ a4 a5 fun c o c1 c2 c3 c4 e => a6 c o c1 c3 c4 e)) (F.args_zip_next_1 _))))
theorem next_end {t1 t2 : Bool} {z TI TO i1 i2 l1 l2 S : Addr} {i : Nat} {xs ys : Array Value} {Q : Option Value → Shared → Prop} (hh : A.handled = none) (D : ZipApart z TI TO i1 i2 l1 l2) (st : ZSt t1 t2 s.heap z TI TO i1 i2 l1 l2 S i)
    (hl1 : IsSq t1 s.heap l1 xs) (hl2 : IsSq t2 s.heap l2 ys) (hend : xs[i]? = none ∨ ys[i]? = none)
    (hQ : ∀ h', (∀ c o, c ≠ z → c ≠ TO → c ≠ i1 → c ≠ i2 → s.heap.get? c = some o → h'.get? c = some o) → Q none { s with heap := h' }) :
    wpAny (model prog w) A (pyNext (.ref z)) Q E s := by
  have hTy := st.zip
  obtain ⟨ti, one, two, own⟩ := st
  unfold pyNext
  rcases own with ⟨q, a, b, to⟩ | ⟨T, f, oT, q, q2, q3⟩
  · refine wpAny_bind (wpAny_attempt (wpAny_callSpecial?_slot (name := Str.ofString "__next__") hTy F.slot_zip_next
      (wpAny_call_entry F.slot_zip_next hTy F.entry_zip_next (zipX_end hh D q ti to one two hl1 hl2 hend fun h' e hk he => ?_) (F.args_zip_next_1 _))))
    obtain ⟨o, ho, hc⟩ := he
    refine wpAny_bind (wpAny_isInstance (T := "StopIteration") (b := true) ⟨o, ho, hc⟩ isSubtype_stop ?_)
    exact wpAny_pure (hQ _ hk)
  · refine wpAny_bind (wpAny_attempt (wpAny_callSpecial?_slot (name := Str.ofString "__next__") hTy F.slot_zip_next
      (wpAny_call_entry F.slot_zip_next hTy F.entry_zip_next (zipX_end_held hh D q q2 ti one two hl1 hl2 hend fun h' e hk he => ?_) (F.args_zip_next_1 _))))
    obtain ⟨o, ho, hc⟩ := he
    refine wpAny_bind (wpAny_isInstance (T := "StopIteration") (b := true) ⟨o, ho, hc⟩ isSubtype_stop ?_)
    exact wpAny_pure (hQ _ fun c o c1 c2 c3 c4 e => hk c o c1 c3 c4 e)
/-- the pairs given out so far -/
structure Out (xs ys : Array Value) (lo : Addr) (h : Heap) (as : List Addr) : Prop where
  rise : as.Pairwise (· < ·)
  low : ∀ a ∈ as, lo ≤ a
  pair : ∀ (j : Nat) (a : Addr), as[j]? = some a → ∃ x y, xs[j]? = some x ∧ ys[j]? = some y ∧ PySem.IsPair h a x y
theorem Out.keep {xs ys : Array Value} {lo : Addr} {h h' : Heap} {as : List Addr} (o : Out xs ys lo h as) (k : ∀ b ob, lo ≤ b → h.get? b = some ob → h'.get? b = some ob) : Out xs ys lo h' as :=
  ⟨o.rise, o.low, fun j a e => by
    obtain ⟨x, y, e1, e2, e3⟩ := o.pair j a e
    exact ⟨x, y, e1, e2, k _ _ (o.low a (List.mem_of_getElem? e)) e3⟩⟩
theorem zip_loop {t1 t2 : Bool} {z TI TO i1 i2 l1 l2 S lo : Addr} {n : Nat} {xs ys : Array Value} {R : Result → Shared → Prop} (hh : A.handled = none) (D : ZipApart z TI TO i1 i2 l1 l2)
    (n1 : z ≠ S) (n2 : TI ≠ S) (n3 : TO ≠ S) (n4 : i1 ≠ S) (n5 : i2 ≠ S) (n6 : l1 ≠ S) (n7 : l2 ≠ S) (m1 : z < lo) (m2 : TO < lo) (m3 : i1 < lo) (m4 : i2 < lo) (m5 : S < lo)
    (hx : n ≤ xs.size) (hy : n ≤ ys.size) (hend : xs[n]? = none ∨ ys[n]? = none) (hn : n ≤ sizeLine) (res : Value) {h₁ : Heap}
    (hR : ∀ h' tk acc c as, (∀ b o, b ≠ S → b ≠ z → b ≠ TO → b ≠ i1 → b ≠ i2 → h₁.get? b = some o → h'.get? b = some o) → h'.get? S = some { cls := .type "list", dict := none, data := .seq acc c, slots := #[] } → as.length = n → Out xs ys lo h' as →
      acc.toList = as.map Value.ref → R (.ok (.ret res)) { s with heap := h', toks := tk }) :
    ∀ (k i : Nat) (h : Heap) (tk c : Nat) (acc : Array Value) (as : List Addr), n - i = k → i ≤ n → ZSt t1 t2 h z TI TO i1 i2 l1 l2 S i → IsSq t1 h l1 xs → IsSq t2 h l2 ys →
      (∀ b o, b ≠ S → b ≠ z → b ≠ TO → b ≠ i1 → b ≠ i2 → h₁.get? b = some o → h.get? b = some o) →
      h.get? S = some { cls := .type "list", dict := none, data := .seq acc c, slots := #[] } → acc.toList = as.map Value.ref → as.length = i → Out xs ys lo h as → lo ≤ h.objs.size → (∀ a ∈ as, a < h.objs.size) →
      codeAny (model prog w) A (.builtin "list.extend.loop" ⟨[.ref S, .ref z, res], []⟩) R { s with heap := h, toks := tk } := by
  intro k
  induction k with
  | zero =>
    intro i h tk c acc as hk hi st q1 q2 hkeep hS hacc hal hG hlo hlt
    obtain rfl : i = n := by omega
    refine codeAny_builtin PySem.F.entry_extend_loop ?_
    rw [Around.under_plainId PySem.F.plain_extend_loop _]
    show wpAny _ A.in1 (pyNext (.ref z) >>= _) _ _ _
    refine wpAny_bind (next_end (s := { s with heap := h, toks := tk }) (A := A.in1) hh D st q1 q2 hend fun h' he => ?_)
    exact wpAny_pure (hR h' tk acc c as (fun b o b1 b2 b3 b4 b5 e => he b o b2 b3 b4 b5 (hkeep b o b1 b2 b3 b4 b5 e)) (he S _ n1.symm n3.symm n4.symm n5.symm hS) hal
      (hG.keep fun b ob hb e => he b ob (Nat.ne_of_gt (Nat.lt_of_lt_of_le m1 hb)) (Nat.ne_of_gt (Nat.lt_of_lt_of_le m2 hb)) (Nat.ne_of_gt (Nat.lt_of_lt_of_le m3 hb)) (Nat.ne_of_gt (Nat.lt_of_lt_of_le m4 hb)) e) hacc)
  | succ k ih =>
    intro i h tk c acc as hk hi st q1 q2 hkeep hS hacc hal hG hlo hlt
    have hxi : xs[i]? = some (xs[i]'(by omega)) := Array.getElem?_eq_getElem (by omega)
    have hyi : ys[i]? = some (ys[i]'(by omega)) := Array.getElem?_eq_getElem (by omega)
    have hsz : acc.size = i := by rw [← Array.length_toList, hacc, List.length_map, hal]
    refine codeAny_builtin PySem.F.entry_extend_loop ?_
    rw [Around.under_plainId PySem.F.plain_extend_loop _]
    show wpAny _ A.in1 (pyNext (.ref z) >>= _) _ _ _
    refine wpAny_bind (next_item (s := { s with heap := h, toks := tk }) (S := S) D st q1 q2 hxi hyi (Heap.lt_size hS) fun h' st' ht hz hkp => ?_)
    dsimp only at ht hz hkp ⊢
    have hS' := hkp S _ n1.symm n3.symm n4.symm n5.symm hS
    have up : ∀ b o, b ≠ S → h'.get? b = some o → (h'.update S (Obj.mapSeq (·.push (Value.ref h.objs.size)))).get? b = some o := fun b o hb e => (Heap.get?_update_other _ _ (Ne.symm hb)).trans e
    show wpAny _ A.in1 (updateSeq S (·.push (Value.ref h.objs.size)) >>= _) _ _ _
    refine wpAny_bind ?_
    refine wpAny_updateSeq hS' rfl (wpAny_pure ⟨plainId_quiet PySem.F.plain_extend_loop _, ih (i + 1) _ tk _ (acc.push (Value.ref h.objs.size)) (as ++ [h.objs.size]) (by omega) (by omega) (st'.keep (fun b o hb e => up b o hb e) n1 n2 n3 n4 n5)
      (q1.at fun o e => up _ o n6 (hkp _ o D.l1z D.l1TO D.l1i1 D.l1i2 e)) (q2.at fun o e => up _ o n7 (hkp _ o D.l2z D.l2TO D.l2i1 D.l2i2 e))
      (fun b o b1 b2 b3 b4 b5 e => up b o b1 (hkp b o b2 b3 b4 b5 (hkeep b o b1 b2 b3 b4 b5 e))) (Heap.get?_update_self _ hS' rfl) (by rw [Array.toList_push, hacc, List.map_append]; rfl) (by rw [List.length_append, hal]; rfl) ⟨?_, ?_, ?_⟩ ?_ ?_⟩) (by rw [hsz]; omega) (by show (acc.push (Value.ref h.objs.size)).size ≤ sizeLine + 1; rw [Array.size_push, hsz]; omega)
    · refine List.pairwise_append.mpr ⟨hG.rise, List.pairwise_singleton _ _, fun a ha b hb => ?_⟩
      rw [List.mem_singleton.mp hb]
      exact hlt a ha
    · intro a ha
      rcases List.mem_append.mp ha with ha | ha
      · exact hG.low a ha
      · rw [List.mem_singleton.mp ha]; exact hlo
    · intro j b hj
      rcases Nat.lt_trichotomy j as.length with h1 | h1 | h1
      · rw [List.getElem?_append_left h1] at hj
        obtain ⟨x', y', e1, e2, e3⟩ := hG.pair j b hj
        have hb := hG.low b (List.mem_of_getElem? hj)
        exact ⟨x', y', e1, e2, up b _ (Nat.ne_of_gt (Nat.lt_of_lt_of_le m5 hb)) (hkp b _ (Nat.ne_of_gt (Nat.lt_of_lt_of_le m1 hb)) (Nat.ne_of_gt (Nat.lt_of_lt_of_le m2 hb)) (Nat.ne_of_gt (Nat.lt_of_lt_of_le m3 hb)) (Nat.ne_of_gt (Nat.lt_of_lt_of_le m4 hb)) e3)⟩
      · subst h1
        have hb : h.objs.size = b := by simpa using hj
        subst hb
        exact ⟨_, _, by rw [hal]; exact hxi, by rw [hal]; exact hyi, up _ _ (Nat.ne_of_gt (Heap.lt_size hS)) ht⟩
      · have hnone : (as ++ [h.objs.size])[j]? = none := List.getElem?_eq_none (by rw [List.length_append, List.length_singleton]; omega)
        rw [hnone] at hj; cases hj
    · rw [Heap.size_update]
      refine Nat.le_trans hlo ?_
      rw [show h'.objs.size = h.objs.size + 1 from hz]
      exact Nat.le_succ _
    · intro a ha
      rw [Heap.size_update, show h'.objs.size = h.objs.size + 1 from hz]
      rcases List.mem_append.mp ha with ha | ha
      · exact Nat.lt_succ_of_lt (hlt a ha)
      · rw [List.mem_singleton.mp ha]; exact Nat.lt_succ_self _
theorem nolen_zp : typeLookup (.type "zip") "__len__" = pure none := by rw [typeLookup_type, builtinLookup_eq_fast]; kernel_rfl
theorem nohint_zp : typeLookup (.type "zip") "__length_hint__" = pure none := by rw [typeLookup_type, builtinLookup_eq_fast]; kernel_rfl
theorem zip_hint {z : Value} {Q : Bool → Shared → Prop} (hT : s.TypeIs z "zip") (hQ : Q true s) : wpAny (model prog w) A (Builtin.List.listLengthHint z) Q E s := by
  unfold Builtin.List.listLengthHint
  refine wpAny_bind (wpAny_specialOf hT nolen_zp ?_)
  show wpAny _ A (specialOf z (Str.ofString "__length_hint__") >>= _) _ _ _
  refine wpAny_bind (wpAny_specialOf hT nohint_zp ?_)
  exact wpAny_pure hQ
theorem zip_extend {t1 t2 : Bool} {z TI TO i1 i2 l1 l2 S : Addr} {n : Nat} {xs ys : Array Value} {R : Result → Shared → Prop} (hh : A.handled = none) (D : ZipApart z TI TO i1 i2 l1 l2)
    (st : ZSt t1 t2 s.heap z TI TO i1 i2 l1 l2 S 0) (hz : IsZip s.heap z TI TO .none) (q1 : IsSq t1 s.heap l1 xs) (q2 : IsSq t2 s.heap l2 ys)
    (n1 : z ≠ S) (n2 : TI ≠ S) (n3 : TO ≠ S) (n4 : i1 ≠ S) (n5 : i2 ≠ S) (n6 : l1 ≠ S) (n7 : l2 ≠ S) (m2 : TO < s.heap.objs.size)
    (hx : n ≤ xs.size) (hy : n ≤ ys.size) (hend : xs[n]? = none ∨ ys[n]? = none) (hn : n ≤ sizeLine) (c₀ : Nat) (hS : s.heap.get? S = some { cls := .type "list", data := .seq #[] c₀ })
    (hR : ∀ h' tk acc c as, (∀ b o, b ≠ S → b ≠ z → b ≠ TO → b ≠ i1 → b ≠ i2 → s.heap.get? b = some o → h'.get? b = some o) → h'.get? S = some { cls := .type "list", dict := none, data := .seq acc c, slots := #[] } → as.length = n → Out xs ys s.heap.objs.size h' as →
      acc.toList = as.map Value.ref → R (.ok (.ret .none)) { s with heap := h', toks := tk }) :
    wpAny (model prog w) A.in1 (Builtin.List.listExtendWith (.ref S) (.ref z) .none)
      (fun fin s' => match fin with | .done f => R (.ok f) s' | .again c' => c'.quiet = true ∧ codeAny (model prog w) A c' R s') (fun e s' => R (.error e) s') s := by
  have key : ∀ (h : Heap) (c₁ tk : Nat), (∀ b o, b ≠ S → s.heap.get? b = some o → h.get? b = some o) → h.get? S = some { cls := .type "list", data := .seq #[] c₁ } → s.heap.objs.size ≤ h.objs.size →
      codeAny (model prog w) A (.builtin "list.extend.loop" ⟨[.ref S, .ref z, .none], []⟩) R { s with heap := h, toks := tk } := by
    intro h c₁ tk hk hS₁ hsz
    refine zip_loop (h₁ := s.heap) (lo := s.heap.objs.size) hh D n1 n2 n3 n4 n5 n6 n7 (Heap.lt_size hz) m2 st.one.lt st.two.lt (Heap.lt_size hS) hx hy hend hn .none hR n 0 h tk c₁ #[] [] (Nat.sub_zero _) (Nat.zero_le _) (st.keep hk n1 n2 n3 n4 n5)
      (q1.at fun o e => hk _ o n6 e) (q2.at fun o e => hk _ o n7 e) (fun b o b1 _ _ _ _ e => hk b o b1 e) hS₁ rfl rfl ⟨List.Pairwise.nil, (fun _ ha => nomatch ha), (fun j a hj => by simp at hj)⟩ hsz (fun _ ha => nomatch ha)
  unfold Builtin.List.listExtendWith
  refine wpAny_bind (wpAny_typeOf (T := "zip") st.zip ?_)
  have h1 : Builtin.List.listSameRef (.ref S) (.ref z) = false := by simp [Builtin.List.listSameRef, Ne.symm n1]
  have h2 : (Value.type "zip" == Value.type "list") = false := by decide
  have h3 : (Value.type "zip" == Value.type "tuple") = false := by decide
  simp only [h1, h2, h3, Bool.or_false, Bool.false_eq_true, if_false]
  refine wpAny_bind (wpAny_pyIter_zip hz ?_)
  refine wpAny_bind (wpAny_holding (zip_hint st.zip ?_))
  refine wpAny_ite_split (fun _ => ?_) (fun _ => wpAny_pure ⟨plainId_quiet PySem.F.plain_extend_loop _, key _ c₀ _ (fun b o _ e => e) hS (Nat.le_refl _)⟩)
  refine wpAny_bind (wpAny_rule ?_)
  refine wpAny_bind ?_
  show wpAny _ _ (updateSeq S (·.push .none) >>= fun _ => updateSeq S (·.pop)) _ _ _
  refine wpAny_bind (wpAny_updateSeq hS rfl ?_)
  have hS₂ := Heap.get?_update_self (Obj.mapSeq (·.push Value.none)) hS rfl
  refine wpAny_updateSeq (hz := by seq_fits) hS₂ rfl ?_
  have hS₃ := Heap.get?_update_self (Obj.mapSeq (·.pop)) hS₂ rfl
  refine wpAny_pure ⟨plainId_quiet PySem.F.plain_extend_loop _, key _ _ _ (fun b o hb e => ?_) hS₃ (by rw [Heap.size_update, Heap.size_update]; exact Nat.le_refl _)⟩
  exact (Heap.get?_update_other _ _ (Ne.symm hb)).trans ((Heap.get?_update_other _ _ (Ne.symm hb)).trans e)
theorem zip_init {t1 t2 : Bool} {z TI TO i1 i2 l1 l2 S : Addr} {n : Nat} {xs ys : Array Value} {R : Result → Shared → Prop} (hh : A.handled = none) (D : ZipApart z TI TO i1 i2 l1 l2)
    (st : ZSt t1 t2 s.heap z TI TO i1 i2 l1 l2 S 0) (hz : IsZip s.heap z TI TO .none) (q1 : IsSq t1 s.heap l1 xs) (q2 : IsSq t2 s.heap l2 ys)
    (n1 : z ≠ S) (n2 : TI ≠ S) (n3 : TO ≠ S) (n4 : i1 ≠ S) (n5 : i2 ≠ S) (n6 : l1 ≠ S) (n7 : l2 ≠ S) (m2 : TO < s.heap.objs.size)
    (hx : n ≤ xs.size) (hy : n ≤ ys.size) (hend : xs[n]? = none ∨ ys[n]? = none) (hn : n ≤ sizeLine) (hS : s.heap.get? S = some { cls := .type "list", data := .seq #[] })
    (hR : ∀ h' tk acc c as, (∀ b o, b ≠ S → b ≠ z → b ≠ TO → b ≠ i1 → b ≠ i2 → s.heap.get? b = some o → h'.get? b = some o) → h'.get? S = some { cls := .type "list", dict := none, data := .seq acc c, slots := #[] } → as.length = n → Out xs ys s.heap.objs.size h' as →
      acc.toList = as.map Value.ref → R (.ok (.ret .none)) { s with heap := h', toks := tk }) :
    wpAny (model prog w) A.in1 (Builtin.«list.__init__» ⟨[.ref S, .ref z], []⟩)
      (fun fin s' => match fin with | .done f => R (.ok f) s' | .again c' => c'.quiet = true ∧ codeAny (model prog w) A c' R s') (fun e s' => R (.error e) s') s := by
  show wpAny _ _ (do let old ← Builtin.List.listItems (.ref S); Builtin.List.listUpdate (.ref S) (fun _ => #[]); letGo old.toList.reverse; Builtin.List.listExtendWith (.ref S) (.ref z) .none) _ _ s
  refine wpAny_bind ?_
  unfold Builtin.List.listItems
  refine wpAny_bind (wpAny_seqItems hS rfl (wpAny_pure ?_))
  show wpAny _ _ (updateSeq S (fun _ => #[]) >>= fun _ => letGo (#[] : Array Value).toList.reverse >>= fun _ => Builtin.List.listExtendWith (.ref S) (.ref z) .none) _ _ s
  refine wpAny_bind (wpAny_updateSeq hS rfl ?_)
  have hS₂ := Heap.get?_update_self (Obj.mapSeq (fun _ => (#[] : Array Value))) hS rfl
  have oth : ∀ b o, b ≠ S → s.heap.get? b = some o → (s.heap.update S (Obj.mapSeq (fun _ => (#[] : Array Value)))).get? b = some o :=
    fun b o hb e => (Heap.get?_update_other _ _ (Ne.symm hb)).trans e
  have hzz : (s.heap.update S (Obj.mapSeq (fun _ => (#[] : Array Value)))).objs.size = s.heap.objs.size := Heap.size_update ..
  refine wpAny_bind (wpAny_letGo ?_)
  refine zip_extend hh D (st.keep oth n1 n2 n3 n4 n5) (oth _ _ n1 hz) (q1.at fun o e => oth _ o n6 e) (q2.at fun o e => oth _ o n7 e) n1 n2 n3 n4 n5 n6 n7 (by rw [hzz]; exact m2) hx hy hend hn _ hS₂ (fun h' tk acc c as hk hS' hl hG hacc => ?_)
  have hG : Out xs ys (s.heap.update S (Obj.mapSeq (fun _ => (#[] : Array Value)))).objs.size h' as := hG
  rw [hzz] at hG
  exact hR h' tk acc c as (fun b o b1 b2 b3 b4 b5 e => hk b o b1 b2 b3 b4 b5 (oth b o b1 e)) hS' hl hG hacc
theorem zip_call {t1 t2 : Bool} {z TI TO i1 i2 l1 l2 : Addr} {n : Nat} {xs ys : Array Value} {Q : Value → Shared → Prop} (hh : A.handled = none) (D : ZipApart z TI TO i1 i2 l1 l2)
    (hTI : PySem.IsPair s.heap TI (.ref i1) (.ref i2)) (h1 : IsIt t1 s.heap i1 l1 0) (h2 : IsIt t2 s.heap i2 l2 0) (hz : IsZip s.heap z TI TO .none) {a b : Value} (hTO : PySem.IsPair s.heap TO a b) (q1 : IsSq t1 s.heap l1 xs) (q2 : IsSq t2 s.heap l2 ys)
    (p1 : l1 < s.heap.objs.size) (p2 : l2 < s.heap.objs.size) (hx : n ≤ xs.size) (hy : n ≤ ys.size) (hend : xs[n]? = none ∨ ys[n]? = none) (hn : n ≤ sizeLine)
    (hQ : ∀ h' tk acc c as, (∀ b o, b ≠ z → b ≠ TO → b ≠ i1 → b ≠ i2 → s.heap.get? b = some o → h'.get? b = some o) → h'.get? s.heap.objs.size = some { cls := .type "list", dict := none, data := .seq acc c, slots := #[] } → as.length = n → Out xs ys (s.heap.objs.size + 1) h' as →
      acc.toList = as.map Value.ref → Q (.ref s.heap.objs.size) { s with heap := h', toks := tk }) :
    wpAny (model prog w) A (call (.type "list") [.ref z]) Q E s := by
  refine callType_codes (Q₁ := fun obj s₁ => obj = .ref s.heap.objs.size ∧ s₁ = { s with heap := s.heap.push { cls := .type "list", data := .seq #[] } }) PySem.F.called_list (PySem.F.typeCall_list_1 _) PySem.F.entry_list_init
    (code_list_new _ ⟨rfl, rfl⟩) fun obj s₁ h₁ => ?_
  obtain ⟨rfl, rfl⟩ := h₁
  have hS : (s.heap.push { cls := .type "list", data := .seq #[] }).get? s.heap.objs.size = some { cls := .type "list", data := .seq #[] } := Heap.get?_push_size _ rfl
  have up : ∀ b o, s.heap.get? b = some o → (s.heap.push { cls := .type "list", data := .seq #[] }).get? b = some o := fun b o e => Heap.get?_push_of_some _ e
  have hsz : (s.heap.push { cls := .type "list", data := .seq #[] }).objs.size = s.heap.objs.size + 1 := Heap.size_push ..
  have q1' : IsSq t1 (s.heap.push { cls := .type "list", data := .seq #[] }) l1 xs := q1.at fun o e => up _ o e
  have q2' : IsSq t2 (s.heap.push { cls := .type "list", data := .seq #[] }) l2 ys := q2.at fun o e => up _ o e
  have st : ZSt t1 t2 (s.heap.push { cls := .type "list", data := .seq #[] }) z TI TO i1 i2 l1 l2 s.heap.objs.size 0 := ⟨up _ _ hTI, h1.at fun o e => up _ o e, h2.at fun o e => up _ o e, .inl ⟨up _ _ hz, a, b, up _ _ hTO⟩⟩
  refine ⟨⟨_, hS, rfl⟩, PySem.F.args_list_init_2 _ _, zip_init (A := A.in1) hh D st (up _ _ hz) q1' q2' (Nat.ne_of_lt (Heap.lt_size hz)) (Nat.ne_of_lt (Heap.lt_size hTI)) (Nat.ne_of_lt (Heap.lt_size hTO)) (Nat.ne_of_lt h1.lt) (Nat.ne_of_lt h2.lt) (Nat.ne_of_lt p1) (Nat.ne_of_lt p2)
    (by rw [hsz]; exact Nat.lt_succ_of_lt (Heap.lt_size hTO)) hx hy hend hn hS (fun h' tk acc c as hk hS' hl hG hacc => ?_)⟩
  have hG : Out xs ys (s.heap.push { cls := .type "list", data := .seq #[] }).objs.size h' as := hG
  rw [hsz] at hG
  exact ⟨rfl, hQ h' tk acc c as (fun b o b2 b3 b4 b5 e => hk b o (Nat.ne_of_lt (Heap.lt_size e)) b2 b3 b4 b5 (up _ _ e)) hS' hl hG hacc⟩
end
abbrev zL1 (h : Heap) (l1 : Addr) : Heap := h.push { cls := .type "list_iterator", data := .fields #[.ref l1, .int 0 0] }
abbrev zL2 (h : Heap) (l1 l2 : Addr) : Heap := (zL1 h l1).push { cls := .type "tuple_iterator", data := .fields #[.ref l2, .int 0 0] }
abbrev zL3 (h : Heap) (l1 l2 : Addr) : Heap := (zL2 h l1 l2).push { cls := .type "tuple", data := .seq #[.ref h.objs.size, .ref (zL1 h l1).objs.size] }
abbrev zL4 (h : Heap) (l1 l2 : Addr) : Heap := (zL3 h l1 l2).push { cls := .type "tuple", data := .seq #[.none, .none] }
abbrev zL5 (h : Heap) (l1 l2 : Addr) : Heap := (zL4 h l1 l2).push { cls := .type "zip", data := .fields #[.none, .bool false, .bool false, .ref (zL2 h l1 l2).objs.size, .ref (zL3 h l1 l2).objs.size] }
theorem meets_zipLT_new (l1 l2 : Addr) (xs ys : Array Value) :
    Meets (Builtin.«zip.__new__» ⟨[.type "zip", .ref l1, .ref l2], []⟩) (fun _ R s => s.heap.IsList l1 xs ∧ s.heap.IsTuple l2 ys ∧
      R (.ok (.ret (.ref (zL4 s.heap l1 l2).objs.size))) { s with heap := zL5 s.heap l1 l2 }) :=
  .of_wp fun prog w A R s h => by
    obtain ⟨hp, g, d, tk, os⟩ := s; obtain ⟨hl1, hl2, h⟩ := h
    have hsub := sub_zip
    have hL1 : Heap.IsList (Shared.heap ⟨hp, g, d, tk, os⟩) l1 xs := hl1
    have hL2 : Heap.IsTuple (Shared.heap ⟨hp.push { cls := .type "list_iterator", data := .fields #[.ref l1, .int 0 0] }, g, d, tk, os⟩) l2 ys := Heap.IsTuple.push hl2 _
    wp_walk using wpAny_pyIter_list hL1, wpAny_pyIter_tuple hL2
    exact ⟨_, rfl, h⟩
section
variable {prog : Program} {w : World} {A : Around} {E : Value → Shared → Prop} {s : Shared}
theorem call_zipX {t1 : Bool} {l1 l2 : Addr} {xs ys : Array Value} {Q : Value → Shared → Prop} (hl1 : IsSq t1 s.heap l1 xs) (hl2 : s.heap.IsTuple l2 ys)
    (h : ∀ h', IsZip h' (s.heap.objs.size + 4) (s.heap.objs.size + 2) (s.heap.objs.size + 3) .none → PySem.IsPair h' (s.heap.objs.size + 2) (.ref s.heap.objs.size) (.ref (s.heap.objs.size + 1)) →
      PySem.IsPair h' (s.heap.objs.size + 3) .none .none → IsIt t1 h' s.heap.objs.size l1 0 → h'.IsTupleIter (s.heap.objs.size + 1) l2 0 → h'.objs.size = s.heap.objs.size + 5 →
      (∀ c o, s.heap.get? c = some o → h'.get? c = some o) → Q (.ref (s.heap.objs.size + 4)) { s with heap := h' }) :
    wpAny (model prog w) A (call (.type "zip") [.ref l1, .ref l2]) Q E s := by
  cases t1 with
  | true => exact call_zipT hl1 hl2 h
  | false =>
    refine callType_new PySem.F.called_zip (by decide) (PySem.F.typeCall_zip_2 _ _) (PySem.F.newCall_zip_2 _ _) (fun obj => PySem.F.args_object_init_3 obj _ _) PySem.F.entry_zip_new
      (meets_zipLT_new l1 l2 xs ys) ⟨hl1, hl2, ?_⟩
    have z1 : (zL1 s.heap l1).objs.size = s.heap.objs.size + 1 := Heap.size_push ..
    have z2 : (zL2 s.heap l1 l2).objs.size = s.heap.objs.size + 2 := by rw [Heap.size_push, z1]
    have z3 : (zL3 s.heap l1 l2).objs.size = s.heap.objs.size + 3 := by rw [Heap.size_push, z2]
    have z4 : (zL4 s.heap l1 l2).objs.size = s.heap.objs.size + 4 := by rw [Heap.size_push, z3]
    have z5 : (zL5 s.heap l1 l2).objs.size = s.heap.objs.size + 5 := by rw [Heap.size_push, z4]
    have g5 : (zL5 s.heap l1 l2).get? (zL4 s.heap l1 l2).objs.size = some _ := Heap.get?_push_size _ rfl
    have g4 : (zL5 s.heap l1 l2).get? (zL3 s.heap l1 l2).objs.size = some _ := Heap.get?_push_of_some _ (Heap.get?_push_size _ rfl)
    have g3 : (zL5 s.heap l1 l2).get? (zL2 s.heap l1 l2).objs.size = some _ := Heap.get?_push_of_some _ (Heap.get?_push_of_some _ (Heap.get?_push_size _ rfl))
    have g2 : (zL5 s.heap l1 l2).get? (zL1 s.heap l1).objs.size = some _ := Heap.get?_push_of_some _ (Heap.get?_push_of_some _ (Heap.get?_push_of_some _ (Heap.get?_push_size _ rfl)))
    have g1 : (zL5 s.heap l1 l2).get? s.heap.objs.size = some _ := Heap.get?_push_of_some _ (Heap.get?_push_of_some _ (Heap.get?_push_of_some _ (Heap.get?_push_of_some _ (Heap.get?_push_size _ rfl))))
    show _ ∧ _
    rw [z2, z3, z4] at g5
    rw [z1, z2] at g3
    rw [z3] at g4
    rw [z1] at g2
    rw [z4]
    exact ⟨⟨_, g5, rfl⟩, h _ g5 g3 g4 ⟨_, g1, rfl, rfl⟩ ⟨_, g2, rfl, rfl⟩ z5 fun c o x =>
      Heap.get?_push_of_some _ (Heap.get?_push_of_some _ (Heap.get?_push_of_some _ (Heap.get?_push_of_some _ (Heap.get?_push_of_some _ x))))⟩
end
end Fb
set_option Elab.async false
set_option linter.all false
set_option maxRecDepth 100000
set_option maxHeartbeats 4000000
/-! list(zip(a, b)) as a rule. -/
namespace Fb
open PySem PySem.Spec PyProof.Rows L2
section
variable {X : Cx} {pins : List (Addr × Obj)} {σ : L2.St} {s : Shared}
theorem lay_pairs {h' : Heap} : ∀ (as : List Addr) (ps : List (V × V)) (H : Hp) (G : Heap), as.Nodup → Inv X pins σ H { s with heap := G } → (∀ b o, G.get? b = some o → h'.get? b = some o) → (∀ a ∈ as, G.get? a = none ∧ H a = none) →
    Paired (fun a (q : V × V) => ∃ u v, RelV q.1 u ∧ RelV q.2 v ∧ PySem.IsPair h' a u v) as ps →
    ∃ G' H', Inv X pins σ H' { s with heap := G' } ∧ (∀ b o, G'.get? b = some o → h'.get? b = some o) ∧ (∀ b, b ∉ as → G'.get? b = G.get? b ∧ H' b = H b) ∧ (∀ c o, H c = some o → H' c = some o) ∧ Paired (fun t (q : V × V) => H' t = some (.tup [q.1, q.2])) as ps := by
  intro as
  induction as with
  | nil =>
    intro ps H G _ I hk hn hp
    cases hp
    exact ⟨G, H, I, hk, fun b _ => ⟨rfl, rfl⟩, fun _ _ e => e, .nil⟩
  | cons a as ih =>
    intro ps H G hnd I hk hn hp
    cases hp with
    | cons h1 hp =>
      rename_i q qs
      obtain ⟨u, v, r1, r2, hpair⟩ := h1
      obtain ⟨hna, hnd⟩ := List.nodup_cons.mp hnd
      obtain ⟨g0, h0⟩ := hn a List.mem_cons_self
      obtain ⟨G1, g1, g2⟩ := restrict h' fun b => (G.get? b).isSome || decide (b = a)
      have kG : ∀ b o, G.get? b = some o → G1.get? b = some o := fun b o e => (g1 b (by rw [e]; rfl)).trans (hk b o e)
      have gk : ∀ b o, G1.get? b = some o → h'.get? b = some o := fun b o e => by
        cases hb : ((G.get? b).isSome || decide (b = a)) with
        | true => rw [g1 b hb] at e; exact e
        | false => rw [g2 b hb] at e; cases e
      have ga : G1.get? a = h'.get? a := g1 a (by simp)
      have I1 : Inv X pins σ (upd H a (.tup [q.1, q.2])) { s with heap := G1 } :=
        I.laidN (t' := s.toks) kG g0 h0 ⟨by show 2 ≤ sizeLine; decide, [u, v], .cons r1 (.cons r2 .nil), ⟨_, ga.trans hpair, rfl, _, rfl⟩⟩
      have oth : ∀ b, b ≠ a → G1.get? b = G.get? b := fun b hb => by
        cases e : G.get? b with
        | some o => exact kG b o e
        | none => exact g2 b (by rw [e]; simp [hb])
      obtain ⟨G', H', I', k', o', x', p'⟩ := ih qs _ G1 hnd I1 gk (fun b hb => by
        have hne : b ≠ a := fun z => hna (z ▸ hb)
        obtain ⟨z1, z2⟩ := hn b (List.mem_cons_of_mem _ hb)
        exact ⟨(oth b hne).trans z1, (upd_ne hne).trans z2⟩) hp
      refine ⟨G', H', I', k', fun b hb => ?_, fun c o e => x' c o ?_, .cons ?_ p'⟩
      · obtain ⟨z1, z2⟩ := o' b fun z => hb (List.mem_cons_of_mem _ z)
        have hne : b ≠ a := fun z => hb (z ▸ List.mem_cons_self)
        exact ⟨z1.trans (oth b hne), z2.trans (upd_ne hne)⟩
      · rw [upd_ne (fun z => by rw [z, h0] at e; cases e)]; exact e
      · exact x' a _ upd_same
theorem paired_mem {α β : Type} {F G : α → β → Prop} : ∀ {xs : List α} {ys : List β}, Paired F xs ys → (∀ x ∈ xs, ∀ y, F x y → G x y) → Paired G xs ys
  | _, _, .nil, _ => .nil
  | _, _, .cons r t, h => .cons (h _ List.mem_cons_self _ r) (paired_mem t fun x hx y q => h x (List.mem_cons_of_mem _ hx) y q)
theorem refs_vals : ∀ as : List Addr, Vals (as.map V.ref) (as.map Value.ref)
  | [] => .nil
  | _ :: as => .cons rfl (refs_vals as)
theorem vals_at {xs : List V} {its : List Value} (r : Vals xs its) {i : Nat} {u : Value} (e : its[i]? = some u) : ∃ x, xs[i]? = some x ∧ RelV x u := by
  induction r generalizing i with
  | nil => cases e
  | cons r1 _ ih =>
    cases i with
    | zero => exact ⟨_, rfl, by cases e; exact r1⟩
    | succ i => exact ih e
theorem out_paired {xs ys : List V} {its its2 : List Value} {lo : Addr} {h : Heap} {as : List Addr} (r1 : Vals xs its) (r2 : Vals ys its2) (o : Out its.toArray its2.toArray lo h as) (hl : as.length = min xs.length ys.length) :
    Paired (fun a (q : V × V) => ∃ u v, RelV q.1 u ∧ RelV q.2 v ∧ PySem.IsPair h a u v) as (xs.zip ys) := by
  have hp : ∀ (j : Nat) (a : Addr), as[j]? = some a → ∃ u v x y, its[j]? = some u ∧ its2[j]? = some v ∧ xs[j]? = some x ∧ ys[j]? = some y ∧ RelV x u ∧ RelV y v ∧ PySem.IsPair h a u v := fun j a e => by
    obtain ⟨u, v, e1, e2, e3⟩ := o.pair j a e
    rw [List.getElem?_toArray] at e1 e2
    obtain ⟨x, f1, f2⟩ := vals_at r1 e1
    obtain ⟨y, f3, f4⟩ := vals_at r2 e2
    exact ⟨u, v, x, y, e1, e2, f1, f3, f2, f4, e3⟩
  clear o
  have gen : ∀ (as : List Addr) (xs ys : List V), (∀ (j : Nat) (a : Addr), as[j]? = some a → ∃ u v x y, xs[j]? = some x ∧ ys[j]? = some y ∧ RelV x u ∧ RelV y v ∧ PySem.IsPair h a u v) → as.length = min xs.length ys.length →
      Paired (fun a (q : V × V) => ∃ u v, RelV q.1 u ∧ RelV q.2 v ∧ PySem.IsPair h a u v) as (xs.zip ys) := by
    intro as
    induction as with
    | nil =>
      intro xs ys _ hl
      cases xs with
      | nil => exact .nil
      | cons x xs =>
        cases ys with
        | nil => exact .nil
        | cons y ys => simp at hl
    | cons a as ih =>
      intro xs ys hp hl
      cases xs with
      | nil => simp at hl
      | cons x xs =>
        cases ys with
        | nil => simp at hl
        | cons y ys =>
          refine .cons ?_ (ih xs ys (fun j b e => hp (j + 1) b e) (by simp at hl; omega))
          obtain ⟨u, v, x', y', e1, e2, f1, f2, f3⟩ := hp 0 a rfl
          cases e1; cases e2
          exact ⟨u, v, f1, f2, f3⟩
  exact gen as xs ys (fun j a e => by
    obtain ⟨u, v, x, y, _, _, f1, f2, f3, f4, f5⟩ := hp j a e
    exact ⟨u, v, x, y, f1, f2, f3, f4, f5⟩) hl
end
section
variable {X : Cx}
/-- list(zip(a, b)) -/
def rListZip (K : PySem.W.Frag) : List V → Hp → VK → Prop := fun vs H Q => ∃ a b xs ys, vs = [.ref a, .ref b] ∧ (SqL K H a xs ∨ SqT K H a xs) ∧ SqT K H b ys ∧
  ∀ (H' : Hp) (p : Addr) (ts : List Addr), (∀ c o, H c = some o → H' c = some o) → H p = none → H' p = some (.lst (ts.map V.ref)) → Paired (fun t (q : V × V) => H' t = some (.tup [q.1, q.2])) ts (xs.zip ys) → Q (.ref p) H'
theorem pe_listzip {e e2 : Expr} {ta : TA} {p p2 pos pos2 : Pos} {K : PySem.W.Frag} (hg : Gl X "list") (hm : X.mg "list" = none) (hg2 : Gl X "zip") (hm2 : X.mg "zip" = none) (ha : PA X [e, e2] ta) (hK : X.K = K := by rfl) (hc : X.calm = true := by rfl)
    (hs : starEach [e, e2] X.env = (false, eval e X.env) :: starEach [e2] X.env := by rfl) (hpl : (backTo pos2 (starEach [e2] X.env)).any (·.1) = false := by rfl)
    (hs2 : starEach [.Call (.Name "zip" p2) [e, e2] [] pos2] X.env = (false, eval (.Call (.Name "zip" p2) [e, e2] [] pos2) X.env) :: starEach [] X.env := by rfl) :
    PE X (.Call (.Name "list" p) [.Call (.Name "zip" p2) [e, e2] [] pos2] [] pos) (tCB (rListZip K) ta) := by
  subst hK
  refine ⟨fun pins s σ H Q I h => ?_⟩
  refine Call_ (ld_blt I hg hm boot_list (PyProof.Rows.callWith_type1 (args_cons (Call_ (ld_blt I hg2 hm2 PyProof.Rows.boot_zip (PyProof.Rows.callWith_type1 (thn (ha.run pos2 pins s σ H _ I h) fun us s1 ⟨vs, H1, I1, r1, q1⟩ => ?_) hs hpl))) hs2) hs2 rfl))
  obtain ⟨a, b, xs, ys, ex, hqx, hqy, q⟩ := q1
  subst ex
  cases r1 with
  | cons r rr =>
    cases rr with
    | cons r' rr =>
      cases rr
      cases r
      cases r'
      have one : ∃ t1, ∃ its : List Value, Vals xs its ∧ IsSq t1 s1.heap a its.toArray ∧ xs.length ≤ sizeLine ∧ a < s1.heap.objs.size := by
        rcases hqx with hqx | hqx
        · obtain ⟨its, rv, p1, hz⟩ := I1.list hqx
          exact ⟨false, its, rv, p1.isList, hz, p1.lt⟩
        · obtain ⟨its, rv, p1, hz⟩ := I1.tuple hqx
          exact ⟨true, its, rv, p1, hz, p1.lt⟩
      obtain ⟨t1, its, rv1, p1, hz1, l1⟩ := one
      obtain ⟨its2, rv2, p2, hz2⟩ := I1.tuple hqy
      have l2 : b < s1.heap.objs.size := p2.lt
      refine call_zipX (t1 := t1) p1 (show s1.heap.IsTuple b its2.toArray from p2) fun h1 hz hTI hTO h1' h2' hsz hk => args_nil ?_
      have e1 : its.length = xs.length := rv1.length.symm
      have e2 : its2.length = ys.length := rv2.length.symm
      have hmin1 := Nat.min_le_left xs.length ys.length
      have hmin2 := Nat.min_le_right xs.length ys.length
      refine zip_call (s := { s1 with heap := h1 }) (t1 := t1) (t2 := true) (n := min xs.length ys.length) (I1.ok.hd hc) (PySem.W.ktu_apart s1.heap.objs.size a b l1 l2) hTI h1' h2' hz hTO (p1.at fun o e => hk _ o e) (IsSq.at (t := true) p2 fun o e => hk _ o e)
        (by show a < h1.objs.size; rw [hsz]; exact Nat.lt_of_lt_of_le l1 (Nat.le_add_right _ _)) (by show b < h1.objs.size; rw [hsz]; exact Nat.lt_of_lt_of_le l2 (Nat.le_add_right _ _)) (by rw [List.size_toArray, e1]; exact hmin1) (by rw [List.size_toArray, e2]; exact hmin2) ?_ (Nat.le_trans hmin1 hz1)
        fun h' tk acc c as hk' hS' hl hG hacc => ?_
      · rcases Nat.le_total xs.length ys.length with hle | hle
        · left; rw [Nat.min_eq_left hle]; exact Array.getElem?_eq_none (by rw [List.size_toArray, e1]; exact Nat.le_refl _)
        · right; rw [Nat.min_eq_right hle]; exact Array.getElem?_eq_none (by rw [List.size_toArray, e2]; exact Nat.le_refl _)
      have hS' : h'.get? h1.objs.size = some { cls := .type "list", dict := none, data := .seq acc c, slots := #[] } := hS'
      have hG : Out its.toArray its2.toArray (h1.objs.size + 1) h' as := hG
      have K' : ∀ b o, s1.heap.get? b = some o → h'.get? b = some o := fun b o e => by
        have hb := Heap.lt_size e
        exact hk' b o (Nat.ne_of_lt (Nat.lt_of_lt_of_le hb (Nat.le_add_right _ _))) (Nat.ne_of_lt (Nat.lt_of_lt_of_le hb (Nat.le_add_right _ _))) (Nat.ne_of_lt hb) (Nat.ne_of_lt (Nat.lt_of_lt_of_le hb (Nat.le_add_right _ _))) (hk b o e)
      have hle : s1.heap.objs.size ≤ h1.objs.size := by rw [hsz]; exact Nat.le_add_right _ _
      have fr : ∀ a ∈ as, s1.heap.get? a = none ∧ H1 a = none := fun a ha => by
        have hge : s1.heap.objs.size ≤ a := Nat.le_trans hle (Nat.le_trans (Nat.le_succ _) (hG.low a ha))
        refine ⟨?_, I1.hok.fresh hge⟩
        cases e : s1.heap.get? a with
        | none => rfl
        | some o => exact absurd (Heap.lt_size e) (Nat.not_lt.mpr hge)
      obtain ⟨G', H', I', k', o', x', p'⟩ := lay_pairs (s := s1) (h' := h') as (xs.zip ys) H1 s1.heap (hG.rise.imp fun h => Nat.ne_of_lt h) I1 K' fr (out_paired rv1 rv2 hG hl)
      have nS : h1.objs.size ∉ as := fun z => absurd (hG.low _ z) (Nat.not_succ_le_self _)
      obtain ⟨z1, z2⟩ := o' _ nS
      have hSn : s1.heap.get? h1.objs.size = none := by
        cases e : s1.heap.get? h1.objs.size with
        | none => rfl
        | some o => exact absurd (Heap.lt_size e) (Nat.not_lt.mpr hle)
      have hSH : H1 h1.objs.size = none := I1.hok.fresh hle
      have I2 : Inv X pins σ (upd H' h1.objs.size (.lst (as.map V.ref))) { s1 with heap := h', toks := tk } :=
        I'.laidN (t' := tk) k' (z1.trans hSn) (z2.trans hSH) ⟨by rw [List.length_map, hl]; exact Nat.le_trans hmin1 hz1, as.map Value.ref, c, refs_vals as, by rw [← hacc, Array.toArray_toList]; exact hS'⟩
      refine ⟨.ref h1.objs.size, _, I2, rfl, q _ _ as (fun c o e => ?_) hSH upd_same (paired_mem p' fun t ht qq e => ?_)⟩
      · rw [upd_ne (fun z => by rw [z, hSH] at e; cases e)]; exact x' c o e
      · rw [upd_ne (fun z : t = h1.objs.size => nS (by rw [← z]; exact ht))]; exact e
end
end Fb
set_option Elab.async false
set_option linter.all false
set_option maxRecDepth 100000
set_option maxHeartbeats 4000000
/-! The dict of the names in sight. -/
namespace Fb
open PySem PySem.Spec PyProof.Rows L2
theorem type_dict_update : typeOf (.builtin "dict.update") = pure (.type "method_descriptor") := by show builtinType _ = _; rw [builtinType_eq_fast]; kernel_rfl
def gl (g : List (Str × Int)) : List (Key × V) := g.map fun p => (Sum.inr p.1, V.int p.2)
def gk (g : List (Str × Int)) : List (Key × V) := mergeK [] (gl g)
def seenK (gs : List (List (Str × Int))) : List (Key × V) := gs.foldl (fun acc g => mergeK acc (gk g)) []
structure KSt (vis : List Str) (kvs : List (Key × V)) : Prop where
  nd : (kvs.map (·.1)).Nodup
  mem : ∀ kv ∈ kvs, ∃ (x : Str) (k : Int), kv = (Sum.inr x, .int k) ∧ x ∈ vis ∧ 0 ≤ k ∧ k ≤ 4
theorem KSt.nil {vis : List Str} : KSt vis [] := ⟨by simp, fun kv h => by cases h⟩
theorem KSt.put {vis : List Str} {kvs : List (Key × V)} {x : Str} {k : Int} (h : KSt vis kvs) (hx : x ∈ vis) (k0 : 0 ≤ k) (k4 : k ≤ 4) : KSt vis (putK kvs (Sum.inr x) (.int k)) := by
  unfold putK
  split
  · refine ⟨?_, fun kv hkv => ?_⟩
    · have : ((kvs.map fun kv => if kv.1 = Sum.inr x then (kv.1, V.int k) else kv).map (·.1)) = kvs.map (·.1) := by
        rw [List.map_map]
        apply List.map_congr_left
        intro a _
        simp only [Function.comp]
        split <;> rfl
      rw [this]; exact h.nd
    · obtain ⟨q, hq, e⟩ := List.mem_map.mp hkv
      split at e
      · rename_i e1
        rw [← e, e1]
        exact ⟨x, k, rfl, hx, k0, k4⟩
      · rw [← e]; exact h.mem q hq
  · rename_i hn
    refine ⟨?_, fun kv hkv => ?_⟩
    · rw [List.map_append, List.nodup_append]
      refine ⟨h.nd, by simp, fun a ha b hb e => ?_⟩
      simp at hb
      subst hb; subst e
      obtain ⟨q, hq, e⟩ := List.mem_map.mp ha
      exact hn (List.any_eq_true.mpr ⟨q, hq, by simp [e]⟩)
    · rcases List.mem_append.mp hkv with q | q
      · exact h.mem kv q
      · rw [List.mem_singleton.mp q]; exact ⟨x, k, rfl, hx, k0, k4⟩
theorem KSt.merge {vis : List Str} : ∀ {more kvs : List (Key × V)}, KSt vis kvs → (∀ kv ∈ more, ∃ (x : Str) (k : Int), kv = (Sum.inr x, .int k) ∧ x ∈ vis ∧ 0 ≤ k ∧ k ≤ 4) → KSt vis (mergeK kvs more)
  | [], kvs, h, _ => h
  | m :: more, kvs, h, hm => by
    obtain ⟨x, k, rfl, hx, k0, k4⟩ := hm m (by simp)
    exact KSt.merge (more := more) (kvs := putK kvs (Sum.inr x) (.int k)) (h.put hx k0 k4) fun kv hkv => hm kv (by simp [hkv])
def GsIn (vis : List Str) (gs : List (List (Str × Int))) : Prop := ∀ g ∈ gs, ∀ p ∈ g, p.1 ∈ vis ∧ 0 ≤ p.2 ∧ p.2 ≤ 4
theorem gk_ok {vis : List Str} {g : List (Str × Int)} (h : ∀ p ∈ g, p.1 ∈ vis ∧ 0 ≤ p.2 ∧ p.2 ≤ 4) : KSt vis (gk g) := KSt.nil.merge fun kv hkv => by
  obtain ⟨p, hp, rfl⟩ := List.mem_map.mp hkv
  exact ⟨p.1, p.2, rfl, h p hp⟩
theorem seen_from {vis : List Str} : ∀ {gs : List (List (Str × Int))} {acc : List (Key × V)}, KSt vis acc → GsIn vis gs → KSt vis (gs.foldl (fun acc g => mergeK acc (gk g)) acc)
  | [], acc, h, _ => h
  | g :: gs, acc, h, hg => seen_from (gs := gs) (acc := mergeK acc (gk g)) (h.merge (gk_ok (hg g (by simp))).mem) fun x hx => hg x (by simp [hx])
theorem seen_ok {vis : List Str} {gs : List (List (Str × Int))} (h : GsIn vis gs) : KSt vis (seenK gs) := seen_from KSt.nil h
theorem KSt.keys {vis : List Str} : ∀ {kvs : List (Key × V)}, KSt vis kvs → ∃ ks : List Str, kvs.map (·.1) = ks.map Sum.inr ∧ (kvs.map fun kv => kV kv.1) = ks.map V.str ∧ ks.Nodup ∧ ∀ x ∈ ks, x ∈ vis
  | [], _ => ⟨[], rfl, rfl, by simp, by simp⟩
  | kv :: kvs, h => by
    obtain ⟨x, k, rfl, hx, _, _⟩ := h.mem kv (by simp)
    have hn := h.nd
    rw [List.map_cons, List.nodup_cons] at hn
    obtain ⟨ks, e1, e2, e3, e4⟩ := KSt.keys (kvs := kvs) ⟨hn.2, fun q hq => h.mem q (by simp [hq])⟩
    refine ⟨x :: ks, by simp [e1], by rw [List.map_cons, e2]; rfl, List.nodup_cons.mpr ⟨fun q => hn.1 ?_, e3⟩, fun y hy => ?_⟩
    · rw [e1]; exact List.mem_map.mpr ⟨x, q, rfl⟩
    · rcases List.mem_cons.mp hy with rfl | hy
      · exact hx
      · exact e4 y hy
theorem KSt.len {vis : List Str} {kvs : List (Key × V)} (h : KSt vis kvs) : kvs.length ≤ vis.length := by
  obtain ⟨ks, e1, _, e3, e4⟩ := h.keys
  have := nodup_le e3 e4
  have e : kvs.length = ks.length := by have := congrArg List.length e1; simpa using this
  omega
theorem KSt.val {vis : List Str} {kvs : List (Key × V)} (h : KSt vis kvs) {x : Str} (hx : Sum.inr x ∈ kvs.map (·.1)) : ∃ k : Int, valV kvs (Sum.inr x) = some (.int k) ∧ (Sum.inr x, V.int k) ∈ kvs ∧ x ∈ vis ∧ 0 ≤ k ∧ k ≤ 4 := by
  obtain ⟨p, hp, e⟩ := List.mem_map.mp hx
  obtain ⟨y, k, rfl, hy, k0, k4⟩ := h.mem p hp
  have e : Sum.inr y = (Sum.inr x : Key) := e
  cases e
  exact ⟨k, val_nodup h.nd _ hp, hp, hy, k0, k4⟩
theorem kvlF {kvs : List (Key × V)} {k : Str} {v : V} {H : Hp} {d : Addr} {o : Obj} (h : H d = some (.frz o (.dK kvs))) (e : valV kvs (Sum.inr k) = some v) : DGet H d (.str k) (some v) := .inl ⟨kvs, Sum.inr k, .inr ⟨o, h⟩, rfl, e.symm⟩
section
variable {K : PySem.W.Frag} {σ : L2.St} {H : Hp} {Q : VK} {C : GC} {lf : Int} {tp : List (Str × Int)}
theorem Gn.ins (G : Gn H C lf tp) : GsIn C.names (C.gs ++ [tp]) := fun g hg p hp => by
  rcases List.mem_append.mp hg with q | q
  · exact (G.ok g q).2 p hp
  · rw [List.mem_singleton.mp q] at hp; exact G.tok.2 p hp
theorem Gn.inv (G : Gn H C lf tp) : GsIn (C.vis tp) (C.gs ++ [tp]) := fun g hg p hp =>
  ⟨List.mem_flatMap.mpr ⟨g, hg, List.mem_map.mpr ⟨p, hp, rfl⟩⟩, (G.ins g hg p hp).2⟩
theorem Gn.len (G : Gn H C lf tp) : (seenK (C.gs ++ [tp])).length ≤ 17 := Nat.le_trans (seen_ok G.ins).len G.nz.2
theorem Gn.grounds (G : Gn H C lf tp) : Paired (GrAt H) (C.go ++ [C.g]) (C.gs ++ [tp]) := Paired.snoc G.outs G.top
def rDictP (K : PySem.W.Frag) : List V → Hp → VK → Prop := fun xs H Q => ∃ (a : Addr) (ps : List Addr) (kvs : List (Key × V)), xs = [.ref a] ∧ SqL K H a (ps.map V.ref) ∧ Paired (fun p kv => SqT K H p [kV kv.1, kv.2]) ps kvs ∧
    ∀ p, H p = none → Q (.ref p) (upd H p (.dK (mergeK [] kvs)))
theorem g_gather {D : Ends} {sd : Addr} {s gi ai : Nat} (G : Gn H C lf tp) (hsd : H sd = none) (h0 : σ.set gi none = σ) (h1 : ∀ v, (σ.set gi v)[ai]? = some (some (.ref C.ar))) (hs : ∀ v, (σ.set gi v)[s]? = some (some (.ref sd))) (hg : ∀ v, (σ.set gi (some v))[gi]? = some (some v)) (hgg : ∀ v u, (σ.set gi u).set gi (some v) = σ.set gi (some v))
    (q : ∀ v H', Fr [] H H' → H' sd = some (.dK (seenK (C.gs ++ [tp]))) → D.nx (σ.set gi v) H') :
    tFor (iList K (tVar ai)) (gName gi) (tDrop (tBM K "dict" rUpdate (tVar s) (tCons (tCB (rDictP K) (tCons (tVar gi) tNil)) tNil))) D σ (upd H sd (.dK [])) := by
  refine g_for (g_il (g_var (v := .ref C.ar) (by rw [← h0]; exact h1 none) ?_))
  refine for_list (xs := (C.go ++ [C.g]).map V.ref) (fun i σ' H' => (∃ v, σ' = σ.set gi v) ∧ Fr [] H H' ∧ H' sd = some (.dK (seenK ((C.gs ++ [tp]).take i)))) ⟨⟨none, h0.symm⟩, Fr.new hsd, by simp [seenK, upd_same]⟩ (fun i σ H' p => p.2.1.get0 G.arl) (fun σ' H' p => ?_) (fun i x σ' H' hx p => ?_)
  · obtain ⟨⟨v, rfl⟩, f, e⟩ := p
    have el : ((C.go ++ [C.g]).map V.ref).length = (C.gs ++ [tp]).length := by rw [List.length_map]; exact G.grounds.length
    rw [el, List.take_length] at e
    exact q v H' f e
  · obtain ⟨⟨v, rfl⟩, f, e⟩ := p
    obtain ⟨ga, hga, rfl⟩ := map_at hx
    obtain ⟨g, hgx, gr⟩ := Paired.at G.grounds hga
    have gr := gr.fr f (by simp)
    obtain ⟨ts, ht, pr⟩ := gr
    rw [show gName gi (V.ref ga) (σ.set gi v) H' = fun Q => Q ((σ.set gi v).set gi (some (.ref ga))) H' from rfl]
    rw [hgg]
    have gin : ∀ p ∈ g, p.1 ∈ C.names ∧ 0 ≤ p.2 ∧ p.2 ≤ 4 := G.ins g (List.mem_of_getElem? hgx)
    have hgl : g.length ≤ 17 ∧ (gk g).length ≤ 17 := by
      refine ⟨?_, Nat.le_trans (gk_ok gin).len G.nz.2⟩
      rcases List.mem_append.mp (List.mem_of_getElem? hgx) with q | q
      · exact (G.ok g q).len G.nz.2
      · rw [List.mem_singleton.mp q]; exact G.tok.len G.nz.2
    have sl : (seenK ((C.gs ++ [tp]).take i)).length ≤ 17 := Nat.le_trans (seen_ok (vis := C.names) fun x hx => G.ins x (List.mem_of_mem_take hx)).len G.nz.2
    refine g_drop (g_bm (g_var (hs _) ⟨.inr (.inr (.inl ⟨rfl, .inl ⟨_, e⟩⟩)), ?_⟩))
    refine g_cons (g_cb (g_cons (g_var (hg _) (g_nil ?_))))
    refine ⟨ga, ts, gl g, rfl, .inl (.of ht), Paired.imp' (ys := gl g) ?_ fun _ _ _ z => z, fun p hp => ?_⟩
    · show Paired _ ts (gl g)
      have : ∀ {ts : List Addr} {g : List (Str × Int)}, Paired (fun t (p : Str × Int) => H' t = some (.tup [.str p.1, .int p.2])) ts g → Paired (fun p (kv : Key × V) => SqT K H' p [kV kv.1, kv.2]) ts (gl g) := by
        intro ts g h
        induction h with
        | nil => exact .nil
        | cons r t ih => exact .cons (.inl (.of r)) ih
      exact this pr
    refine g_nil ?_
    have nsp : sd ≠ p := ne_of_none e hp
    refine ⟨sd, p, _, _, rfl, rfl, keep hp e, upd_same, nsp, ?_, ?_⟩
    · show _ + (gk g).length ≤ _
      exact small_of (by omega)
    refine ⟨⟨_, rfl⟩, ?_, ?_⟩
    · exact (f.trans (Fr.new hp)).mut hsd
    · rw [upd_same]
      have : seenK ((C.gs ++ [tp]).take (i + 1)) = mergeK (seenK ((C.gs ++ [tp]).take i)) (gk g) := by
        rw [List.take_add_one, hgx]
        unfold seenK
        rw [List.foldl_append]
        rfl
      rw [this]; rfl
end
theorem call_dictPK {X : Cx} {K : PySem.W.Frag} (hc : X.calm = true) (h : X.K = K := by rfl) : CallR X (.type "dict") (rDictP K) := h ▸ call_dictP hc
end Fb
set_option Elab.async false
set_option linter.all false
set_option maxRecDepth 100000
set_option maxHeartbeats 4000000
namespace Fb
open PySem PySem.Spec PyProof.Rows L2
local macro_rules | `(tactic| walk_at "go1") => `(tactic| first
  | with_reducible refine g_seq ?_
  | with_reducible refine g_asg ?_
  | with_reducible refine g_name ?_
  | ((with_reducible refine' g_var ?h1 ?_); (case h1 => rfl))
  | with_reducible refine g_c ?_
  | with_reducible refine g_op ?_
  | with_reducible refine g_un ?_
  | with_reducible refine g_rU ?_
  | with_reducible refine g_yes ?_
  | with_reducible refine g_isN ?_
  | with_reducible refine g_notN ?_
  | with_reducible refine g_int1 ?_
  | with_reducible refine g_I0 ?_
  | ((with_reducible refine' g_eq ?h1 ?_); (case h1 => rfl))
  | ((with_reducible refine' g_ne ?h1 ?_); (case h1 => rfl))
  | with_reducible refine g_test ?_
  | with_reducible refine g_tb ?_
  | with_reducible refine g_bl ?_
  | with_reducible refine g_drop ?_
  | with_reducible refine g_ret ?_
  | with_reducible refine g_if ?_
  | with_reducible refine g_ife ?_
  | with_reducible refine g_and ?_
  | with_reducible refine g_or ?_
  | with_reducible refine g_not ?_
  | with_reducible refine g_next ?_
  | with_reducible refine g_nil ?_
  | with_reducible refine g_cons ?_
  | with_reducible refine g_cb ?_
  | with_reducible refine g_call ?_
  | with_reducible refine g_tup ?_
  | with_reducible refine g_lst ?_
  | with_reducible refine g_dget ?_
  | with_reducible refine g_dput ?_
  | with_reducible refine g_bm ?_
  | with_reducible refine g_lc ?_
  | with_reducible refine g_for ?_
  | with_reducible refine g_il ?_
  | with_reducible refine g_rng1 ?_
  | with_reducible refine g_gsub ?_
  | with_reducible refine g_din ?_
  | with_reducible refine g_disp ?_
  | with_reducible refine g_pairs ?_
  | with_reducible refine g_pairs0 ?_
  | with_reducible refine g_sl ?_
  | with_reducible refine g_part ?_
  | with_reducible refine g_part1 ?_
  | with_reducible refine g_nopart ?_
  | with_reducible refine g_andV ?_
  | with_reducible refine g_orV ?_
  | with_reducible refine g_notV ?_
  | with_reducible refine g_itp ?_
  | with_reducible refine g_par ?_
  | with_reducible refine g_par1 ?_
  | with_reducible refine g_par3 ?_
  | with_reducible refine g_par31 ?_
  | with_reducible refine g_gname ?_
  | with_reducible refine g_gcons ?_
  | with_reducible refine g_gnil ?_
  | with_reducible refine g_bm0 ?_)
local macro_rules | `(tactic| walk_at "go") => `(tactic| repeat walk_at "go1")
local macro_rules | `(tactic| walk_at "at") => `(tactic| repeat first
  | assumption
  | exact upd_same
  | with_reducible refine keep (by assumption) ?_
  | with_reducible refine keep_ne (by assumption) ?_
  | with_reducible refine Fr.get0 (by assumption) ?_
  | with_reducible refine Fr.get (by assumption) ?_ (by assumption)
  | with_reducible refine Fr.tup (by assumption) ?_)
local macro_rules | `(tactic| walk_at "fr") => `(tactic| repeat first
  | assumption
  | exact Fr.refl _ _
  | with_reducible refine Fr.trans ?_ (Fr.new (by assumption))
  | with_reducible refine Fr.trans ?_ (Fr.nil (by assumption))
  | with_reducible refine Fr.trans ?_ (by assumption))
local macro_rules | `(tactic| walk_at "gn") => `(tactic| repeat first
  | assumption
  | with_reducible refine Gn.fr0 ?_ (Fr.new (by assumption))
  | with_reducible refine Gn.fr0 ?_ (by assumption))
local macro_rules | `(tactic| walk_at "bt") => `(tactic| repeat first
  | assumption
  | with_reducible refine BAt.up (Fr.new (W := []) (by assumption)).1 _ _ ?_
  | with_reducible refine SAt.up (Fr.new (W := []) (by assumption)).1 _ _ ?_
  | with_reducible refine BAt.up (Fr.tupLe (by assumption)) _ _ ?_
  | with_reducible refine SAt.up (Fr.tupLe (by assumption)) _ _ ?_)
section
variable {P : Program} {w : World} {K : PySem.W.Frag} {mg : Str → Option Value} {base : Heap}
theorem sc_law_named : FnScope ["_law_deal_here", "_law_world", "_law_around", "_law_kind", "_law_name", "_law_other", "_law_here", "_law_some"] ["_law_deal_here", "_law_world", "_law_around", "_law_kind"] (defScope (topS 16)) := ⟨rfl, rfl, rfl, by decide +kernel, rfl, by decide +kernel, by decide +kernel⟩
theorem ok_named (A : All K mg) : Ok P w K mg base CX0 2 "_law_named" ["_law_deal_here", "_law_world", "_law_around", "_law_kind"] spNamed := by
  have O_draw : Ok P w K mg base CX0 1 "_law_draw" ["_law_deal_here", "_law_many"] spDraw := ok_draw A
  refine ok_of0 A.named sc_law_named (fun _ _ _ _ _ _ us hl => match us, hl with | [_, _, _, _], _ => rfl) (fun vs H Q E h => ?_) (fun f cdv Ar outer s H vs Q E hr h => ?_)
  · obtain ⟨_, _, _, _, rfl, _⟩ := h; rfl
  · obtain ⟨C, lf, tp, k, rfl, G, k0, k1, q1, q2⟩ := h
    refine ⟨_, (pss_cons (ps_set (i := 6) sc_law_named.nd rfl (Or.inr rfl) (pe_lc (own := [("_law_name", 4), ("_law_other", 5)]) (by rfl) sc_law_named.nd (pi_list (pe_ix (ix_listK (K := K)) (pv 2) (pe_un un_neg pe_int) (fun _ _ => rfl))) (blkOk_by (own := [("_law_name", 4), ("_law_other", 5)]) (N := ["_law_deal_here", "_law_world", "_law_around", "_law_kind", "_law_name", "_law_other", "_law_here", "_law_some"]) (sc := defScope (topS 16)) (by decide +kernel)) (fun _ _ _ _ _ => (pg_tupK (K := K) (n := 2) rfl (pgs_cons (pg_nameL (i := 4) sc_law_named.nd rfl rfl) (pgs_cons (pg_nameL (i := 5) sc_law_named.nd rfl rfl) pgs_nil)))) (fun _ _ _ _ _ => pts_nil) (fun _ _ _ _ _ => (pv 4))))
    (pss_cons (ps_setLc (i := 7) (own := [("_law_name", 4)]) (g := gName 4) (by rfl) sc_law_named.nd rfl rfl (sw_true rfl rfl rfl (by decide +kernel)) (pi_list (pe_dget (hu_of hr) (pv 1) pe_str (fun _ _ => rfl))) (blkOk_by (own := [("_law_name", 4)]) (N := ["_law_deal_here", "_law_world", "_law_around", "_law_kind", "_law_name", "_law_other", "_law_here", "_law_some"]) (sc := defScope (topS 16)) (by decide +kernel)) (fun _ _ _ _ _ => (pg_nameL (i := 4) sc_law_named.nd rfl rfl)) (fun _ _ _ _ _ => (pts_one (pt_cmpR (op_notInK (K := K)) (pv 4) (pv 6) rfl))) (fun _ _ _ _ _ => (pv 4)))
    (pss_cons (ps_if (pt_cmpR op_eq (pe_callB call_len_seq (by rfl) A.len boot_len (pa_cons (pv 7) pa_nil)) pe_int (nomark _)) (pss_one (ps_ret pe_non)) pss_nil)
    (pss_cons (ps_expr (pe_bm PySem.F.plainAttrs_list PySem.F.slot_list_append PySem.F.type_list_append mt_append (pe_ix (ix_listK (K := K)) (pv 2) (pe_un un_neg pe_int) (fun _ _ => rfl)) (pa_cons (pe_tup (pa_cons (pe_ix (ix_listK (K := K)) (pv 7) (pe_ok O_draw (hr.mono (by omega)) (pa_cons (pv 0) (pa_cons (pe_callB call_len_seq (by rfl) A.len boot_len (pa_cons (pv 7) pa_nil)) pa_nil))) (fun _ _ => rfl)) (pa_cons (pv 3) pa_nil))) pa_nil)))
    (pss_one (ps_ret (pe_ix (ix_tupK (K := K)) (pe_ix (ix_listK (K := K)) (pe_ix (ix_listK (K := K)) (pv 2) (pe_un un_neg pe_int) (fun _ _ => rfl)) (pe_un un_neg pe_int) (fun _ _ => rfl)) pe_int (fun _ _ => rfl)))))))), ?_⟩
    obtain ⟨ts, hg, pr⟩ := G.top
    have har := G.arl
    have arl : atI ((C.go ++ [C.g]).map V.ref) (-1) = some (.ref C.g) := by rw [List.map_append]; exact atI_last
    have l1 : ts.length = tp.length := pr.length
    have l2 : tp.length ≤ 17 := G.tok.len G.nz.2
    walk_at "go"
    refine g_ixL har arl ?_
    refine lc_listP (fstV H) hg (fun p1 n1 => ?_) (fun D i x hD hx => ?_)
    rotate_left
    · obtain ⟨t, ht, rfl⟩ := map_at hx
      obtain ⟨p, _, hp⟩ := Paired.at pr ht
      refine g_gtup (keep hD hp) rfl ?_
      walk_at "go"
      refine ⟨rfl, ?_⟩
      walk_at "go"
      refine i_t rfl ?_
      walk_at "go"
      exact pu_yes (small_lt (by simp; omega)) hx (by simp [fstV, hp])
    rw [fm_fst pr]
    walk_at "go"
    refine ⟨_, _, rfl, kvl (keep n1 G.wd) (wkv_names _ _), ?_⟩
    refine lc_listP (selV fun x => decide (x ∉ tp.map (·.1))) (keep n1 G.nm) (fun p2 n2 => ?_) (fun D i x hD hx => ?_)
    rotate_left
    · obtain ⟨y, hy, rfl⟩ := map_at hx
      walk_at "go"
      refine ⟨rfl, ?_⟩
      walk_at "go"
      refine g_inL (keep hD upd_same) rfl (flat_strs _) ?_
      walk_at "go"
      rw [inV_str]
      refine i_bool (fun e => ?_) (fun e => ?_)
      · walk_at "go"
        exact pu_yes (small_lt (by simp; have := G.nz; omega)) hx (sel_yes (by simpa using e))
      · exact pu_no hx (sel_no (by simpa using e))
    rw [fm_filter]
    generalize hsome : C.names.filter (fun x => decide (x ∉ tp.map (·.1))) = some_
    have hm : ∀ x, x ∈ some_ ↔ x ∈ C.names ∧ x ∉ tp.map (·.1) := fun x => by rw [← hsome, List.mem_filter]; simp
    have hl : some_.length ≤ 17 := by
      have := List.length_filter_le (fun x => decide (x ∉ tp.map (·.1))) C.names
      rw [hsome] at this
      have := G.nz; omega
    have f1 : Fr [] H (upd H p1 (.lst ((tp.map (·.1)).map V.str))) := by walk_at "fr"
    have f2 : Fr [] H (upd (upd H p1 (.lst ((tp.map (·.1)).map V.str))) p2 (.lst (some_.map V.str))) := by walk_at "fr"
    walk_at "go"
    refine g_len upd_same ?_
    walk_at "go"
    refine i_dec (fun e => ?_) (fun e => ?_)
    · walk_at "go"
      refine q1 (fun x hx => ?_) _ (G.fr0 f2) f2.nil
      have e0 : some_ = [] := List.length_eq_zero_iff.mp (by simpa [vint] using e)
      by_cases h : x ∈ tp.map (·.1)
      · exact h
      · have := (hm x).mpr ⟨hx, h⟩
        rw [e0] at this; cases this
    · have e0 : 0 < some_.length := Nat.pos_of_ne_zero fun z => e (by rw [List.length_map, z]; rfl)
      walk_at "go"
      refine g_ixL (f2.get0 har) arl ?_
      refine ⟨ty_l (f2.get0 hg), ?_⟩
      walk_at "go"
      refine g_len upd_same ?_
      walk_at "go"
      have G2 := G.fr0 f2
      refine ⟨C.d, C.l, _, rfl, G2.deal, by simp; omega, by simp; omega, fun j H3 j0 j1 dl3 f3 => ?_⟩
      have G3 := G2.drew f3 dl3
      obtain ⟨x, hx⟩ : ∃ x, some_[j.toNat]? = some x := ⟨some_[j.toNat]'(by simp at j1; omega), by simp⟩
      have hxm := (hm x).mp (List.mem_of_getElem? hx)
      have hp2 : H3 p2 = some (.lst (some_.map V.str)) := f3.get upd_same ((G.fr0 f1).dl n2)
      refine g_ixL hp2 (v := .str x) ?_ ?_
      · unfold atI ixN
        rw [if_pos j0, if_pos (by simpa using j1)]
        simp [hx]
      walk_at "go"
      refine ⟨small_of (by simp), fun p4 n4 => ?_⟩
      walk_at "go"
      have f4 : Fr [] H3 (upd H3 p4 (.tup [.str x, .int k])) := by walk_at "fr"
      have G4 := G3.fr0 f4
      obtain ⟨ts4, hg4, add⟩ := G4.top.add (t := p4) (x := x) (k := k) upd_same
      have l4 : (ts4.map V.ref).length < sizeLine := by
        obtain ⟨ts5, hg5, pr5⟩ := G4.top
        have e5 : ts4.map V.ref = ts5.map V.ref := by rw [hg4] at hg5; exact HO.lst.inj (Option.some.inj hg5)
        have : ts5.length = tp.length := pr5.length
        rw [e5, List.length_map]
        exact small_lt (by omega)
      refine g_append hg4 l4 ?_
      walk_at "go"
      have f5 : Fr [C.g] (upd H3 p4 (.tup [.str x, .int k])) (upd (upd H3 p4 (.tup [.str x, .int k])) C.g (.lst (ts4.map V.ref ++ [.ref p4]))) := Fr.put hg4 (by intro xs q; cases q) (by simp)
      refine g_ixL (f5.get (f4.get0 (G3.arl)) G4.neg.2.2.2) arl ?_
      walk_at "go"
      refine g_ixL upd_same atI_last ?_
      walk_at "go"
      refine g_ixT (f5.tup upd_same) (v := .str x) (by rfl) ?_
      have fall : Fr C.fp (upd H3 p4 (.tup [.str x, .int k])) _ := f5.mono (W' := C.fp) fun a ha => by
        rw [List.mem_singleton.mp ha]; unfold GC.fp; simp
      exact q2 _ x hxm.1 hxm.2 (G4.of fall (G4.deal.fr f5 G4.neg.1 G4.neg.2.1) (f5.get G4.wd G4.neg.2.2.1) (add _ f5.1 upd_same) (G4.tok.add hxm.1 hxm.2 k0 k1)) (((f2.nil.trans (G2.fpd f3)).trans f4.nil).trans fall)
end
end Fb
set_option Elab.async false
set_option linter.all false
set_option maxRecDepth 100000
set_option maxHeartbeats 4000000
namespace Fb
open PySem PySem.Spec PyProof.Rows L2
local macro_rules | `(tactic| walk_at "go1") => `(tactic| first
  | with_reducible refine g_seq ?_
  | with_reducible refine g_asg ?_
  | with_reducible refine g_name ?_
  | ((with_reducible refine' g_var ?h1 ?_); (case h1 => rfl))
  | with_reducible refine g_c ?_
  | with_reducible refine g_op ?_
  | with_reducible refine g_un ?_
  | with_reducible refine g_rU ?_
  | with_reducible refine g_yes ?_
  | with_reducible refine g_isN ?_
  | with_reducible refine g_notN ?_
  | with_reducible refine g_int1 ?_
  | with_reducible refine g_I0 ?_
  | ((with_reducible refine' g_eq ?h1 ?_); (case h1 => rfl))
  | ((with_reducible refine' g_ne ?h1 ?_); (case h1 => rfl))
  | with_reducible refine g_test ?_
  | with_reducible refine g_tb ?_
  | with_reducible refine g_bl ?_
  | with_reducible refine g_drop ?_
  | with_reducible refine g_ret ?_
  | with_reducible refine g_if ?_
  | with_reducible refine g_ife ?_
  | with_reducible refine g_and ?_
  | with_reducible refine g_or ?_
  | with_reducible refine g_not ?_
  | with_reducible refine g_next ?_
  | with_reducible refine g_nil ?_
  | with_reducible refine g_cons ?_
  | with_reducible refine g_cb ?_
  | with_reducible refine g_call ?_
  | with_reducible refine g_tup ?_
  | with_reducible refine g_lst ?_
  | with_reducible refine g_dget ?_
  | with_reducible refine g_dput ?_
  | with_reducible refine g_bm ?_
  | with_reducible refine g_lc ?_
  | with_reducible refine g_for ?_
  | with_reducible refine g_il ?_
  | with_reducible refine g_rng1 ?_
  | with_reducible refine g_gsub ?_
  | with_reducible refine g_din ?_
  | with_reducible refine g_disp ?_
  | with_reducible refine g_pairs ?_
  | with_reducible refine g_pairs0 ?_
  | with_reducible refine g_sl ?_
  | with_reducible refine g_part ?_
  | with_reducible refine g_part1 ?_
  | with_reducible refine g_nopart ?_
  | with_reducible refine g_andV ?_
  | with_reducible refine g_orV ?_
  | with_reducible refine g_notV ?_
  | with_reducible refine g_itp ?_
  | with_reducible refine g_par ?_
  | with_reducible refine g_par1 ?_
  | with_reducible refine g_par3 ?_
  | with_reducible refine g_par31 ?_
  | with_reducible refine g_gname ?_
  | with_reducible refine g_gcons ?_
  | with_reducible refine g_gnil ?_
  | with_reducible refine g_bm0 ?_)
local macro_rules | `(tactic| walk_at "go") => `(tactic| repeat walk_at "go1")
local macro_rules | `(tactic| walk_at "at") => `(tactic| repeat first
  | assumption
  | exact upd_same
  | with_reducible refine keep (by assumption) ?_
  | with_reducible refine keep_ne (by assumption) ?_
  | with_reducible refine Fr.get0 (by assumption) ?_
  | with_reducible refine Fr.get (by assumption) ?_ (by assumption)
  | with_reducible refine Fr.tup (by assumption) ?_)
local macro_rules | `(tactic| walk_at "fr") => `(tactic| repeat first
  | assumption
  | exact Fr.refl _ _
  | with_reducible refine Fr.trans ?_ (Fr.new (by assumption))
  | with_reducible refine Fr.trans ?_ (Fr.nil (by assumption))
  | with_reducible refine Fr.trans ?_ (by assumption))
local macro_rules | `(tactic| walk_at "gn") => `(tactic| repeat first
  | assumption
  | with_reducible refine Gn.fr0 ?_ (Fr.new (by assumption))
  | with_reducible refine Gn.fr0 ?_ (by assumption))
local macro_rules | `(tactic| walk_at "bt") => `(tactic| repeat first
  | assumption
  | with_reducible refine BAt.up (Fr.new (W := []) (by assumption)).1 _ _ ?_
  | with_reducible refine SAt.up (Fr.new (W := []) (by assumption)).1 _ _ ?_
  | with_reducible refine BAt.up (Fr.tupLe (by assumption)) _ _ ?_
  | with_reducible refine SAt.up (Fr.tupLe (by assumption)) _ _ ?_)
/-- atom(deal, around, kind) -/
def spAtom : Sp := fun vs H Q _ => ∃ (C : GC) (lf : Int) (tp : List (Str × Int)) (k : Int), vs = [.ref C.d, .ref C.ar, .int k] ∧ Gn H C lf tp ∧
  (k = 0 → ∀ (n : Int) H', Gn H' C lf tp → Fr [C.d, C.l] H H' → Q (.int n) H') ∧
  (∀ x H', x ∈ C.vis tp → Gn H' C lf tp → Fr [C.d, C.l] H H' → Q (.str x) H') ∧
  (k ≠ 0 → (∀ kv ∈ seenK (C.gs ++ [tp]), kv.2 ≠ .int k) → ∀ H', Gn H' C lf tp → Fr [C.d, C.l] H H' → Q .non H')
section
variable {P : Program} {w : World} {K : PySem.W.Frag} {mg : Str → Option Value} {base : Heap}
theorem sc_law_atom : FnScope ["_law_deal_here", "_law_around", "_law_kind", "_law_seen", "_law_ground_here", "_law_name", "_law_some"] ["_law_deal_here", "_law_around", "_law_kind"] (defScope (topS 15)) := ⟨rfl, rfl, rfl, by decide +kernel, rfl, by decide +kernel, by decide +kernel⟩
theorem ok_atom (A : All K mg) : Ok P w K mg base CX0 2 "_law_atom" ["_law_deal_here", "_law_around", "_law_kind"] spAtom := by
  have O_draw : Ok P w K mg base CX0 1 "_law_draw" ["_law_deal_here", "_law_many"] spDraw := ok_draw A
  refine ok_of0 A.atom sc_law_atom (fun _ _ _ _ _ _ us hl => match us, hl with | [_, _, _], _ => rfl) (fun vs H Q E h => ?_) (fun f cdv Ar outer s H vs Q E hr h => ?_)
  · obtain ⟨_, _, _, _, rfl, _⟩ := h; rfl
  · obtain ⟨C, lf, tp, k, rfl, G, q1, q2, q3⟩ := h
    refine ⟨_, (pss_cons (ps_set (i := 3) sc_law_atom.nd rfl (Or.inr rfl) pe_dnewK)
    (pss_cons (ps_for PassesOwn.never rfl (pi_list (pv 1)) (pg_name (i := 4) sc_law_atom.nd rfl (Or.inl rfl)) (pss_one (ps_expr (pe_bm PySem.F.plainAttrs_dict PySem.F.slot_dict_update type_dict_update mt_update (pv 3) (pa_cons (pe_callTy (call_dictPK (K := K) rfl) (by rfl) A.dict (by decide +kernel) (pa_cons (pv 4) pa_nil)) pa_nil)))))
    (pss_cons (ps_set (i := 6) sc_law_atom.nd rfl (Or.inl rfl) (pe_callB cr_sortedS (by rfl) A.sorted (by decide +kernel) (pa_cons (pe_lock (pe_lc (own := [("_law_name", 5)]) (g := gName 5) (by rfl) sc_law_atom.nd (pi_keys (pv 3)) (blkOk_by (own := [("_law_name", 5)]) (N := ["_law_deal_here", "_law_around", "_law_kind", "_law_seen", "_law_ground_here", "_law_name", "_law_some"]) (sc := defScope (topS 15)) (by decide +kernel)) (fun _ _ _ _ _ => (pg_nameL (i := 5) sc_law_atom.nd rfl rfl)) (fun _ _ _ _ _ => (pts_one (pt_cmpR op_eq (pe_dget (hu_of hr) (pv 3) (pv 5) (fun _ _ => rfl)) (pv 2) (nomark _)))) (fun _ _ _ _ _ => (pv 5)))) pa_nil)))
    (Evl.pss_cut (ps_if (pt_cmpR op_eq (pe_ok O_draw (hr.mono (by omega)) (pa_cons (pv 0) (pa_cons pe_int pa_nil))) pe_int (nomark _)) (pss_one (ps_set (i := 6) sc_law_atom.nd rfl (Or.inl rfl) (pe_callB (call_sortedD rfl) (by rfl) A.sorted (by decide +kernel) (pa_cons (pv 3) pa_nil)))) pss_nil)
    (pss_cons (ps_if (pw_and (pt_cmpR op_eq (pv 2) pe_int (nomark _)) (pw_and1 (pw_or (pt_cmpR op_eq (pe_callB call_len_seq (by rfl) A.len boot_len (pa_cons (pv 6) pa_nil)) pe_int (nomark _)) (pw_or1 (pt_cmpR op_eq (pe_ok O_draw (hr.mono (by omega)) (pa_cons (pv 0) (pa_cons pe_int pa_nil))) pe_int (nomark _)))).pt)).pt (pss_one (ps_ret (pe_ix (ix_listK (K := K)) (pe_lst (pa_cons pe_int (pa_cons pe_int (pa_cons pe_int (pa_cons pe_int (pa_cons pe_int (pa_cons (pe_op op_sub pe_int (pe_ok O_draw (hr.mono (by omega)) (pa_cons (pv 0) (pa_cons pe_int pa_nil)))) pa_nil))))))) (pe_ok O_draw (hr.mono (by omega)) (pa_cons (pv 0) (pa_cons pe_int pa_nil))) (fun _ _ => rfl)))) pss_nil)
    (pss_one (ps_ret (pe_ifExp (pt_cmpR op_gt (pe_callB call_len_seq (by rfl) A.len boot_len (pa_cons (pv 6) pa_nil)) pe_int (nomark _)) (pe_ix (ix_listK (K := K)) (pv 6) (pe_ok O_draw (hr.mono (by omega)) (pa_cons (pv 0) (pa_cons (pe_callB call_len_seq (by rfl) A.len boot_len (pa_cons (pv 6) pa_nil)) pa_nil))) (fun _ _ => rfl)) pe_non)))))))), ?_⟩
    have ks := seen_ok G.inv
    have kl := G.len
    obtain ⟨keys, ke1, ke2, ke3, ke4⟩ := ks.keys
    have kel : keys.length ≤ 17 := by have := congrArg List.length ke1; simp at this; omega
    walk_at "go"
    intro sd hsd
    walk_at "go1"
    refine g_gather (s := 3) (gi := 4) G hsd rfl (fun _ => rfl) (fun _ => rfl) (fun _ => rfl) (fun _ _ => rfl) (fun gv H1 f1 e1 => ?_)
    have G1 := G.fr0 f1
    walk_at "go"
    refine lc_keysP (selV fun x => decide (valV (seenK (C.gs ++ [tp])) (Sum.inr x) = some (.int k))) rfl e1 (fun p2 n2 => ?_) (fun D o i ky v hD nD hi => ?_)
    rotate_left
    · obtain ⟨x, kx, e2, hx, k0, k4⟩ := ks.mem _ (List.mem_of_getElem? hi)
      cases e2
      have hv : valV (seenK (C.gs ++ [tp])) (Sum.inr x) = some (.int kx) := val_nodup ks.nd _ (List.mem_of_getElem? hi)
      walk_at "go"
      refine ⟨rfl, ?_⟩
      walk_at "go"
      refine ⟨_, _, rfl, kvlF (by rw [upd_ne (Ne.symm nD)]; exact upd_same) hv, ?_⟩
      walk_at "go"
      have hat : ((seenK (C.gs ++ [tp])).map fun kv => kV kv.1)[i]? = some (.str x) := by rw [List.getElem?_map, hi]; rfl
      refine i_dec (fun e => ?_) (fun e => ?_)
      · walk_at "go"
        exact pu_yes (small_lt (by simp; omega)) hat (sel_yes (by rw [hv, e]; simp))
      · exact pu_no hat (sel_no (by rw [hv]; simpa using e))
    rw [ke2, fm_filter]
    generalize hsome : keys.filter (fun x => decide (valV (seenK (C.gs ++ [tp])) (Sum.inr x) = some (.int k))) = some_
    have hl : some_.length ≤ 17 := by
      have := List.length_filter_le (fun x => decide (valV (seenK (C.gs ++ [tp])) (Sum.inr x) = some (.int k))) keys
      rw [hsome] at this; omega
    have hm : ∀ x, x ∈ some_ ↔ x ∈ keys ∧ valV (seenK (C.gs ++ [tp])) (Sum.inr x) = some (.int k) := fun x => by rw [← hsome, List.mem_filter]; simp
    walk_at "go"
    refine ⟨p2, some_, rfl, .inl (.of upd_same), by omega, fun ys p3 perm _ n3 => ?_⟩
    walk_at "go"
    have f2 : Fr [] H1 (upd (upd H1 p2 (.lst (some_.map V.str))) p3 (.lst (ys.map V.str))) := by walk_at "fr"
    refine ⟨fun σ' H' => ∃ (p : Addr) (zs : List Str), σ' = [some (.ref C.d), some (.ref C.ar), some (.int k), some (.ref sd), gv, none, some (.ref p)] ∧ Gn H' C lf tp ∧ Fr [C.d, C.l] H H' ∧ H' p = some (.lst (zs.map V.str)) ∧ p ∉ [C.d, C.l] ∧ zs.length ≤ 17 ∧ (∀ x ∈ zs, x ∈ C.vis tp) ∧ (zs = [] → ∀ kv ∈ seenK (C.gs ++ [tp]), kv.2 ≠ .int k), ?_, ?_⟩
    · have n3' : p3 ∉ [C.d, C.l] := (G1.fr0 (Fr.new n2)).dl n3
      have nsd : sd ∉ [C.d, C.l] := G.dl hsd
      have f3 : Fr [] H (upd (upd H1 p2 (.lst (some_.map V.str))) p3 (.lst (ys.map V.str))) := f1.trans f2
      have G3 := G.fr0 f3
      have e3 : (upd (upd H1 p2 (.lst (some_.map V.str))) p3 (.lst (ys.map V.str))) sd = some (.dK (seenK (C.gs ++ [tp]))) := f2.get0 e1
      have e3p : (upd (upd H1 p2 (.lst (some_.map V.str))) p3 (.lst (ys.map V.str))) p3 = some (.lst (ys.map V.str)) := upd_same
      generalize upd (upd H1 p2 (.lst (some_.map V.str))) p3 (.lst (ys.map V.str)) = H3 at *
      have none_ : ys = [] → ∀ kv ∈ seenK (C.gs ++ [tp]), kv.2 ≠ .int k := fun e kv hkv q => by
        have hk : kv.1 ∈ (seenK (C.gs ++ [tp])).map (·.1) := List.mem_map.mpr ⟨kv, hkv, rfl⟩
        rw [ke1] at hk
        obtain ⟨x, hx, ex⟩ := List.mem_map.mp hk
        have : x ∈ some_ := (hm x).mpr ⟨hx, by rw [ex, val_nodup ks.nd _ hkv, q]⟩
        rw [← perm.mem_iff, e] at this
        cases this
      have vis_ : ∀ x ∈ ys, x ∈ C.vis tp := fun x hx => ke4 x ((hm x).mp (perm.mem_iff.mp hx)).1
      walk_at "go"
      refine ⟨C.d, C.l, _, rfl, G3.deal, by decide, by decide, fun j H4 j0 j1 dl4 f4 => ?_⟩
      have G4 := G3.drew f4 dl4
      walk_at "go"
      refine i_dec (fun e => ?_) (fun e => ?_)
      · walk_at "go"
        refine ⟨sd, _, keys, rfl, .of (f4.get e3 nsd), ke1, by omega, fun zs p5 perm2 _ n5 => ?_⟩
        walk_at "go"
        have f5 : Fr [] H4 (upd H4 p5 (.lst (zs.map V.str))) := by walk_at "fr"
        refine ⟨p5, zs, rfl, G4.fr0 f5, (f3.nil.trans f4).trans f5.nil, upd_same, G4.dl n5, by rw [perm2.length_eq]; exact kel, fun x hx => ke4 x (perm2.mem_iff.mp hx), fun e kv hkv q => ?_⟩
        have hk : kv.1 ∈ (seenK (C.gs ++ [tp])).map (·.1) := List.mem_map.mpr ⟨kv, hkv, rfl⟩
        rw [ke1] at hk
        obtain ⟨x, hx, ex⟩ := List.mem_map.mp hk
        rw [← perm2.mem_iff, e] at hx
        cases hx
      · walk_at "go"
        exact ⟨p3, ys, rfl, G4, f3.nil.trans f4, f4.get e3p n3', n3', by rw [perm.length_eq]; exact hl, vis_, none_⟩
    · rintro σ' H' ⟨p, zs, rfl, G5, f5, e5, n5, l5, v5, z5⟩
      have pick : ∀ (i : Int), 0 ≤ i → i < zs.length → ∃ x, x ∈ zs ∧ atI (zs.map V.str) i = some (.str x) := fun i i0 i1 =>
        ⟨zs[i.toNat]'(by omega), List.getElem_mem _, by rw [atI_nat i0 (by simpa using i1)]; simp⟩
      have fin : ∀ H6, Gn H6 C lf tp → Fr [C.d, C.l] H H6 → H6 p = some (.lst (zs.map V.str)) → (zs = [] → k ≠ 0) →
          (tIf (tTest (tOp (rI0 fun i j => .bl (decide (i > j))) (tCB (fun xs H Q => ∃ p ys, xs = [.ref p] ∧ (SqL K H p ys ∨ SqT K H p ys) ∧ Q (.int ys.length) H) (tCons (tVar 6) tNil)) (tC (.int 0)))) (tOp (rIxL K) (tVar 6) (tCall spDraw [] E0 (tCons (tVar 0) (tCons (tCB (fun xs H Q => ∃ p ys, xs = [.ref p] ∧ (SqL K H p ys ∨ SqT K H p ys) ∧ Q (.int ys.length) H) (tCons (tVar 6) tNil)) tNil)))) (tC .non)) [some (.ref C.d), some (.ref C.ar), some (.int k), some (.ref sd), gv, none, some (.ref p)] H6 Q := fun H6 G6 f6 e6 hz => by
        walk_at "go"
        refine g_len e6 ?_
        walk_at "go"
        refine i_dec (fun e => ?_) (fun e => ?_)
        · walk_at "go"
          refine g_len e6 ?_
          walk_at "go"
          have hb : ((zs.map V.str).length : Int) < 1073741824 := by rw [List.length_map]; exact Int.lt_of_le_of_lt (Int.ofNat_le.mpr l5) (by decide)
          refine ⟨C.d, C.l, _, rfl, G6.deal, by simpa using e, hb, fun j H7 j0 j1 dl7 f7 => ?_⟩
          obtain ⟨x, hx, hat⟩ := pick j j0 (by simpa using j1)
          exact g_ixL (f7.get e6 n5) hat (q2 x H7 (v5 x hx) (G6.drew f7 dl7) (f6.trans f7))
        · walk_at "go"
          have z : zs = [] := List.length_eq_zero_iff.mp (Nat.eq_zero_of_not_pos fun hp => e (by rw [List.length_map]; omega))
          exact q3 (hz z) (z5 z) _ G6 f6
      walk_at "go"
      have nums : k = 0 → ∀ H6, Gn H6 C lf tp → Fr [C.d, C.l] H H6 → 
          (tOp (rIxL K) (tLst (tCons (tC (.int 0)) (tCons (tC (.int 1)) (tCons (tC (.int 2)) (tCons (tC (.int 3)) (tCons (tC (.int 4)) (tCons (tOp (rI0 fun i j => .int (i - j)) (tC (.int 999999999)) (tCall spDraw [] E0 (tCons (tVar 0) (tCons (tC (.int 1000000000)) tNil)))) tNil))))))) (tCall spDraw [] E0 (tCons (tVar 0) (tCons (tC (.int 6)) tNil)))) [some (.ref C.d), some (.ref C.ar), some (.int k), some (.ref sd), gv, none, some (.ref p)] H6 Q := fun k0 H6 G6 f6 => by
        walk_at "go"
        refine ⟨C.d, C.l, _, rfl, G6.deal, by decide, by decide, fun j H7 j0 j1 dl7 f7 => ?_⟩
        have G7 := G6.drew f7 dl7
        walk_at "go"
        refine ⟨small_of (by simp), fun p8 n8 => ?_⟩
        walk_at "go"
        have f8 : Fr [] H7 (upd H7 p8 (.lst [.int 0, .int 1, .int 2, .int 3, .int 4, .int (999999999 - j)])) := by walk_at "fr"
        have G8 := G7.fr0 f8
        refine ⟨C.d, C.l, _, rfl, G8.deal, by decide, by decide, fun i H9 i0 i1 dl9 f9 => ?_⟩
        have hi : i = 0 ∨ i = 1 ∨ i = 2 ∨ i = 3 ∨ i = 4 ∨ i = 5 := by omega
        have key : ∀ n : Int, atI [V.int 0, .int 1, .int 2, .int 3, .int 4, .int (999999999 - j)] i = some (.int n) → rIxL K (.ref p8) (.int i) H9 Q := fun n hat =>
          g_ixL (f9.get upd_same (G7.dl n8)) hat (q1 k0 n H9 (G8.drew f9 dl9) (((f6.trans f7).trans f8.nil).trans f9))
        rcases hi with rfl | rfl | rfl | rfl | rfl | rfl
        · exact key 0 rfl
        · exact key 1 rfl
        · exact key 2 rfl
        · exact key 3 rfl
        · exact key 4 rfl
        · exact key _ rfl
      refine i_dec (fun e => ?_) (fun e => ?_)
      · have k0 : k = 0 := V.int.inj e
        walk_at "go"
        refine g_len e5 ?_
        walk_at "go"
        refine i_dec (fun e2 => ?_) (fun e2 => ?_)
        · refine i_t rfl ?_
          refine g_ret ?_
          exact nums k0 _ G5 f5
        · walk_at "go"
          refine ⟨C.d, C.l, _, rfl, G5.deal, by decide, by decide, fun j H4 j0 j1 dl4 f4 => ?_⟩
          have G6 := G5.drew f4 dl4
          walk_at "go"
          refine i_bool (fun e3 => ?_) (fun e3 => ?_)
          · refine g_ret ?_
            exact nums k0 _ G6 (f5.trans f4)
          · walk_at "go1"
            walk_at "go1"
            refine fin _ G6 (f5.trans f4) (f4.get e5 n5) (fun z => absurd (by rw [z]; rfl) e2)
      · refine i_f rfl ?_
        walk_at "go1"
        walk_at "go1"
        exact fin _ G5 f5 e5 (fun _ z => e (by rw [z]))
end
end Fb
set_option Elab.async false
set_option linter.all false
set_option maxRecDepth 100000
set_option maxHeartbeats 4000000
namespace Fb
open PySem PySem.Spec PyProof.Rows L2
section
variable {K : PySem.W.Frag} {σ : L2.St} {H : Hp} {Q : VK} {E : XK} {C : GC} {lf : Int} {tp : List (Str × Int)} {p q : Addr} {xs ys : List V} {x y v : V} {i k many : Int}
theorem g_draw (G : Gn H C lf tp) (m0 : 0 < many) (m1 : many < 1073741824) (h : ∀ j H', 0 ≤ j → j < many → Gn H' C lf tp → Fr [C.d, C.l] H H' → Q (.int j) H') : spDraw [.ref C.d, .int many] H Q E :=
  ⟨C.d, C.l, many, rfl, G.deal, m0, m1, fun j H' j0 j1 dl f => h j H' j0 j1 (G.drew f dl) f⟩
theorem g_atom0 (G : Gn H C lf tp) (h : ∀ (a : Atm) H', (∀ x ∈ a.nms, x ∈ C.vis tp) → Gn H' C lf tp → Fr [C.d, C.l] H H' → Q a.v H') : spAtom [.ref C.d, .ref C.ar, .int 0] H Q E :=
  ⟨C, lf, tp, 0, rfl, G, fun _ n H' G' f => h (.num n) H' (by simp [Atm.nms]) G' f, fun x H' hx G' f => h (.nm x) H' (by simpa [Atm.nms] using hx) G' f, fun z => absurd rfl z⟩
def ov : Option Atm → V
  | some a => a.v
  | none => .non
def onm : Option Atm → List Str
  | some a => a.nms
  | none => []
theorem g_atomO (G : Gn H C lf tp) (h : ∀ (a : Option Atm) H', (∀ x ∈ onm a, x ∈ C.vis tp) → Gn H' C lf tp → Fr [C.d, C.l] H H' → Q (ov a) H') : spAtom [.ref C.d, .ref C.ar, .int k] H Q E :=
  ⟨C, lf, tp, k, rfl, G, fun _ n H' G' f => h (some (.num n)) H' (by simp [onm, Atm.nms]) G' f, fun x H' hx G' f => h (some (.nm x)) H' (by simpa [onm, Atm.nms] using hx) G' f, fun _ _ H' G' f => h none H' (by simp [onm]) G' f⟩
theorem g_atomS (G : Gn H C lf tp) {kv : Key × V} (hk : kv ∈ seenK (C.gs ++ [tp])) (e : kv.2 = .int k) (h : ∀ (a : Atm) H', (∀ x ∈ a.nms, x ∈ C.vis tp) → Gn H' C lf tp → Fr [C.d, C.l] H H' → Q a.v H') : spAtom [.ref C.d, .ref C.ar, .int k] H Q E :=
  ⟨C, lf, tp, k, rfl, G, fun _ n H' G' f => h (.num n) H' (by simp [Atm.nms]) G' f, fun x H' hx G' f => h (.nm x) H' (by simpa [Atm.nms] using hx) G' f, fun _ z => absurd e (z kv hk)⟩
theorem g_named (G : Gn H C lf tp) (k0 : 0 ≤ k) (k4 : k ≤ 4) (h0 : ∀ H', Gn H' C lf tp → Fr C.fp H H' → Q .non H') (h1 : ∀ H' x, x ∈ C.names → x ∉ tp.map (·.1) → Gn H' C lf (tp ++ [(x, k)]) → Fr C.fp H H' → Q (.str x) H') : spNamed [.ref C.d, .ref C.w, .ref C.ar, .int k] H Q E :=
  ⟨C, lf, tp, k, rfl, G, k0, k4, fun _ H' G' f => h0 H' G' f, h1⟩
theorem flatA (as : List Atm) : (as.map Atm.v).all flatV = true := by
  rw [List.all_map, List.all_eq_true]; intro a _; cases a <;> rfl
theorem flatO (as : List (Option Atm)) : (as.map ov).all flatV = true := by
  rw [List.all_map, List.all_eq_true]; intro a _; cases a with
  | none => rfl
  | some a => cases a <;> rfl
theorem atm_ne (a : Atm) : a.v ≠ .non := by cases a <;> (intro h; cases h)
theorem ov_some : ∀ {as : List (Option Atm)}, none ∉ as → ∃ bs : List Atm, as.map ov = bs.map Atm.v ∧ bs.length = as.length ∧ ∀ x ∈ bs.flatMap Atm.nms, ∃ a ∈ as, x ∈ onm a
  | [], _ => ⟨[], rfl, rfl, by simp⟩
  | none :: as, h => absurd (by simp) h
  | some a :: as, h => by
    obtain ⟨bs, e1, e2, e3⟩ := ov_some (as := as) (fun z => h (by simp [z]))
    refine ⟨a :: bs, by simp [e1, ov], by simp [e2], fun x hx => ?_⟩
    rw [List.flatMap_cons, List.mem_append] at hx
    rcases hx with hx | hx
    · exact ⟨some a, by simp, hx⟩
    · obtain ⟨c, hc, hx⟩ := e3 x hx
      exact ⟨c, by simp [hc], hx⟩
theorem inV_none : ∀ (as : List (Option Atm)), inV .non (as.map ov) = decide (none ∈ as)
  | [] => rfl
  | a :: as => by
    have ih := inV_none as
    unfold inV at ih ⊢
    rw [List.map_cons, List.any_cons, ih]
    cases a with
    | none => simp [ov, eqV]
    | some a => cases a <;> simp [ov, eqV, Atm.v]
/-- vis of the ground -/
theorem vis_old {tp nw : List (Str × Int)} {x : Str} (h : x ∈ C.vis tp) : x ∈ C.vis (tp ++ nw) := by
  unfold GC.vis at h ⊢
  simp only [List.flatMap_append, List.flatMap_cons, List.flatMap_nil, List.append_nil, List.mem_append, List.map_append] at h ⊢
  rcases h with h | h
  · exact .inl h
  · exact .inr (.inl h)
theorem vis_new {tp nw : List (Str × Int)} {x : Str} (h : x ∈ nw.map (·.1)) : x ∈ C.vis (tp ++ nw) := by
  unfold GC.vis
  simp only [List.flatMap_append, List.flatMap_cons, List.flatMap_nil, List.append_nil, List.mem_append, List.map_append]
  exact .inr (.inr h)
theorem vis_app {tp nw : List (Str × Int)} {x : Str} (h : x ∈ C.vis (tp ++ nw)) : x ∈ C.vis tp ++ nw.map (·.1) := by
  unfold GC.vis at h ⊢
  simp only [List.flatMap_append, List.flatMap_cons, List.flatMap_nil, List.append_nil, List.mem_append, List.map_append] at h ⊢
  rcases h with h | h | h
  · exact .inl (.inl h)
  · exact .inl (.inr h)
  · exact .inr h
/-- a list of one statement, or none -/
theorem Made.one {cst : Int} {dep : Nat} {st : Stm} {nw : List (Str × Int)} {H' : Hp} {w : V} {lf' : Int} {lf0 : Int} {tp0 : List (Str × Int)} (m : Made C lf tp H cst dep Q) (G : Gn H C lf0 tp0) (G' : Gn H' C lf' (tp ++ nw)) (f : Fr C.fp H H') (s : SAt H' st w) (g : Good C.names (C.vis tp) [st] (nw.map (·.1))) (hw : (wB [st] : Int) ≤ cst + 50 * (lf - lf')) (hl : lf' ≤ lf) (h4 : -4 ≤ lf → -4 ≤ lf') (hd : 1 + depS st ≤ dep) (hp : H' p = none) :
    Q (.ref p) (upd H' p (.lst [w])) := by
  have f' : Fr [] H' (upd H' p (.lst [w])) := Fr.new hp
  exact m _ p [w] [st] nw lf' (G'.fr0 f') (f.trans f'.nil) (G.none f hp ⟨_, _, G'⟩) upd_same (BAt.one (s.up f'.tupLe)) g hw hl h4 (depB_one hd)
theorem Made.zero {cst : Int} {dep : Nat} {H' : Hp} {lf' : Int} {lf0 : Int} {tp0 : List (Str × Int)} (m : Made C lf tp H cst dep Q) (G : Gn H C lf0 tp0) (G' : Gn H' C lf' tp) (f : Fr C.fp H H') (hw : 0 ≤ cst + 50 * (lf - lf')) (hl : lf' ≤ lf) (h4 : -4 ≤ lf → -4 ≤ lf') (hd : 1 ≤ dep) (hp : H' p = none) :
    Q (.ref p) (upd H' p (.lst [])) := by
  have f' : Fr [] H' (upd H' p (.lst [])) := Fr.new hp
  exact m _ p [] [] [] lf' (by rw [List.append_nil]; exact G'.fr0 f') (f.trans f'.nil) (G.none f hp ⟨_, _, G'⟩) upd_same (BAt_nil.mpr rfl) Good.nil (by rw [wB_nil]; exact hw) hl h4 (by simp only [depB]; exact hd)
end
end Fb
set_option Elab.async false
set_option linter.all false
set_option maxRecDepth 100000
set_option maxHeartbeats 4000000
namespace Fb
open PySem PySem.Spec PyProof.Rows L2
local macro_rules | `(tactic| walk_at "go1") => `(tactic| first
  | with_reducible refine g_seq ?_
  | with_reducible refine g_asg ?_
  | with_reducible refine g_name ?_
  | ((with_reducible refine' g_var ?h1 ?_); (case h1 => rfl))
  | with_reducible refine g_c ?_
  | with_reducible refine g_op ?_
  | with_reducible refine g_un ?_
  | with_reducible refine g_rU ?_
  | with_reducible refine g_yes ?_
  | with_reducible refine g_isN ?_
  | with_reducible refine g_notN ?_
  | with_reducible refine g_int1 ?_
  | with_reducible refine g_I0 ?_
  | ((with_reducible refine' g_eq ?h1 ?_); (case h1 => rfl))
  | ((with_reducible refine' g_ne ?h1 ?_); (case h1 => rfl))
  | with_reducible refine g_test ?_
  | with_reducible refine g_tb ?_
  | with_reducible refine g_bl ?_
  | with_reducible refine g_drop ?_
  | with_reducible refine g_ret ?_
  | with_reducible refine g_if ?_
  | with_reducible refine g_ife ?_
  | with_reducible refine g_and ?_
  | with_reducible refine g_or ?_
  | with_reducible refine g_not ?_
  | with_reducible refine g_next ?_
  | with_reducible refine g_nil ?_
  | with_reducible refine g_cons ?_
  | with_reducible refine g_cb ?_
  | with_reducible refine g_call ?_
  | with_reducible refine g_tup ?_
  | with_reducible refine g_lst ?_
  | with_reducible refine g_dget ?_
  | with_reducible refine g_dput ?_
  | with_reducible refine g_bm ?_
  | with_reducible refine g_lc ?_
  | with_reducible refine g_for ?_
  | with_reducible refine g_il ?_
  | with_reducible refine g_rng1 ?_
  | with_reducible refine g_gsub ?_
  | with_reducible refine g_din ?_
  | with_reducible refine g_disp ?_
  | with_reducible refine g_pairs ?_
  | with_reducible refine g_pairs0 ?_
  | with_reducible refine g_sl ?_
  | with_reducible refine g_part ?_
  | with_reducible refine g_part1 ?_
  | with_reducible refine g_nopart ?_
  | with_reducible refine g_andV ?_
  | with_reducible refine g_orV ?_
  | with_reducible refine g_notV ?_
  | with_reducible refine g_itp ?_
  | with_reducible refine g_par ?_
  | with_reducible refine g_par1 ?_
  | with_reducible refine g_par3 ?_
  | with_reducible refine g_par31 ?_
  | with_reducible refine g_gname ?_
  | with_reducible refine g_gcons ?_
  | with_reducible refine g_gnil ?_
  | with_reducible refine g_bm0 ?_)
local macro_rules | `(tactic| walk_at "go") => `(tactic| repeat walk_at "go1")
local macro_rules | `(tactic| walk_at "at") => `(tactic| repeat first
  | assumption
  | exact upd_same
  | with_reducible refine keep (by assumption) ?_
  | with_reducible refine keep_ne (by assumption) ?_
  | with_reducible refine Fr.get0 (by assumption) ?_
  | with_reducible refine Fr.get (by assumption) ?_ (by assumption)
  | with_reducible refine Fr.tup (by assumption) ?_)
local macro_rules | `(tactic| walk_at "fr") => `(tactic| repeat first
  | assumption
  | exact Fr.refl _ _
  | with_reducible refine Fr.trans ?_ (Fr.new (by assumption))
  | with_reducible refine Fr.trans ?_ (Fr.nil (by assumption))
  | with_reducible refine Fr.trans ?_ (by assumption))
local macro_rules | `(tactic| walk_at "gn") => `(tactic| repeat first
  | assumption
  | with_reducible refine Gn.fr0 ?_ (Fr.new (by assumption))
  | with_reducible refine Gn.fr0 ?_ (by assumption))
local macro_rules | `(tactic| walk_at "bt") => `(tactic| repeat first
  | assumption
  | with_reducible refine BAt.up (Fr.new (W := []) (by assumption)).1 _ _ ?_
  | with_reducible refine SAt.up (Fr.new (W := []) (by assumption)).1 _ _ ?_
  | with_reducible refine BAt.up (Fr.tupLe (by assumption)) _ _ ?_
  | with_reducible refine SAt.up (Fr.tupLe (by assumption)) _ _ ?_)
/-- simple(deal, world, around, way) -/
def spSimple : Sp := fun vs H Q _ => ∃ (C : GC) (lf : Int) (tp : List (Str × Int)) (way : Int), vs = [.ref C.d, .ref C.w, .ref C.ar, .int way] ∧ Gn H C lf tp ∧ Made C lf tp H 12 1 Q
section
variable {P : Program} {w : World} {K : PySem.W.Frag} {mg : Str → Option Value} {base : Heap}
theorem sc_law_simple : FnScope ["_law_deal_here", "_law_world", "_law_around", "_law_way", "_law_seen", "_law_ground_here", "_law_name", "_law_pool", "_law_a", "_law_b", "_law_x", "_law_f", "_law_takes_here", "_law_gives", "_law_kind", "_law_args"] ["_law_deal_here", "_law_world", "_law_around", "_law_way"] (defScope (topS 18)) := ⟨rfl, rfl, rfl, by decide +kernel, rfl, by decide +kernel, by decide +kernel⟩
theorem ok_simple (A : All K mg) : Ok P w K mg base CX0 3 "_law_simple" ["_law_deal_here", "_law_world", "_law_around", "_law_way"] spSimple := by
  have O_draw : Ok P w K mg base CX0 1 "_law_draw" ["_law_deal_here", "_law_many"] spDraw := ok_draw A
  have O_named : Ok P w K mg base CX0 2 "_law_named" ["_law_deal_here", "_law_world", "_law_around", "_law_kind"] spNamed := ok_named A
  have O_atom : Ok P w K mg base CX0 2 "_law_atom" ["_law_deal_here", "_law_around", "_law_kind"] spAtom := ok_atom A
  have O_takes : Ok P w K mg base CX0 1 "_law_takes" ["_law_kind"] spTakes := ok_takes A
  refine ok_of0 A.simple sc_law_simple (fun _ _ _ _ _ _ us hl => match us, hl with | [_, _, _, _], _ => rfl) (fun vs H Q E h => ?_) (fun f cdv Ar outer s H vs Q E hr h => ?_)
  · obtain ⟨_, _, _, _, rfl, _⟩ := h; rfl
  · obtain ⟨C, lf, tp, way, rfl, G, m⟩ := h
    refine ⟨_, (pss_cons (ps_set (i := 4) sc_law_simple.nd rfl (Or.inr rfl) pe_dnewK)
    (pss_cons (ps_for PassesOwn.never rfl (pi_list (pv 2)) (pg_name (i := 5) sc_law_simple.nd rfl (Or.inl rfl)) (pss_one (ps_expr (pe_bm PySem.F.plainAttrs_dict PySem.F.slot_dict_update type_dict_update mt_update (pv 4) (pa_cons (pe_callTy (call_dictPK (K := K) rfl) (by rfl) A.dict (by decide +kernel) (pa_cons (pv 5) pa_nil)) pa_nil)))))
    (pss_cons (ps_if (pt_cmpR op_eq (pv 3) pe_int (nomark _)) (pss_one (ps_ret (pe_lst (pa_cons (pe_tup (pa_cons pe_str (pa_cons (pe_ok O_atom (hr.mono (by omega)) (pa_cons (pv 0) (pa_cons (pv 2) (pa_cons pe_int pa_nil)))) pa_nil))) pa_nil)))) pss_nil)
    (pss_cons (ps_set (i := 7) sc_law_simple.nd rfl (Or.inl rfl) (pe_callB cr_sortedS (by rfl) A.sorted (by decide +kernel) (pa_cons (pe_lock (pe_lc (own := [("_law_name", 6)]) (g := gName 6) (by rfl) sc_law_simple.nd (pi_keys (pv 4)) (blkOk_by (own := [("_law_name", 6)]) (N := ["_law_deal_here", "_law_world", "_law_around", "_law_way", "_law_seen", "_law_ground_here", "_law_name", "_law_pool", "_law_a", "_law_b", "_law_x", "_law_f", "_law_takes_here", "_law_gives", "_law_kind", "_law_args"]) (sc := defScope (topS 18)) (by decide +kernel)) (fun _ _ _ _ _ => (pg_nameL (i := 6) sc_law_simple.nd rfl rfl)) (fun _ _ _ _ _ => (pts_one (pw_or (pt_cmpR op_lt (pv 3) pe_int (nomark _)) (pw_or1 (pt_cmpR op_gt (pe_dget (hu_of hr) (pv 4) (pv 6) (fun _ _ => rfl)) pe_int (nomark _)))).pt)) (fun _ _ _ _ _ => (pv 6)))) pa_nil)))
    (pss_cons (ps_if (pw_or (pt_cmpR op_lt (pv 3) pe_int (nomark _)) (pw_or1 (pt_cmpR op_eq (pe_callB call_len_seq (by rfl) A.len boot_len (pa_cons (pv 7) pa_nil)) pe_int (nomark _)))).pt (pss_cons (ps_par (i := 8) (j := 9) rfl sc_law_simple.nd rfl rfl (by decide) rfl rfl (pa_cons (pe_ok O_atom (hr.mono (by omega)) (pa_cons (pv 0) (pa_cons (pv 2) (pa_cons pe_int pa_nil)))) (pa_cons (pe_ok O_atom (hr.mono (by omega)) (pa_cons (pv 0) (pa_cons (pv 2) (pa_cons pe_int pa_nil)))) pa_nil)) (by rfl))
    (pss_cons (ps_set (i := 10) sc_law_simple.nd rfl (Or.inl rfl) (pe_ok O_named (hr.mono (by omega)) (pa_cons (pv 0) (pa_cons (pv 1) (pa_cons (pv 2) (pa_cons pe_int pa_nil))))))
    (pss_one (ps_ret (pe_op op_rep (pe_lst (pa_cons (pe_tup (pa_cons pe_str (pa_cons (pv 10) (pa_cons (pe_ix ix_str pe_str (pe_ok O_draw (hr.mono (by omega)) (pa_cons (pv 0) (pa_cons pe_int pa_nil))) (fun _ _ => rfl)) (pa_cons (pv 8) (pa_cons (pv 9) pa_nil)))))) pa_nil)) (pe_callTy call_int1 (by rfl) A.int (by decide +kernel) (pa_cons (pe_cmpR op_notN1 (pv 10) pe_non (nomark _)) pa_nil))))))) pss_nil)
    (pss_cons (ps_set (i := 11) sc_law_simple.nd rfl (Or.inl rfl) (pe_ix (ix_listK (K := K)) (pv 7) (pe_ok O_draw (hr.mono (by omega)) (pa_cons (pv 0) (pa_cons (pe_callB call_len_seq (by rfl) A.len boot_len (pa_cons (pv 7) pa_nil)) pa_nil))) (fun _ _ => rfl)))
    (pss_cons (ps_if (pt_cmpR op_lt (pv 3) pe_int (nomark _)) (pss_cons (ps_set (i := 8) sc_law_simple.nd rfl (Or.inl rfl) (pe_ok O_atom (hr.mono (by omega)) (pa_cons (pv 0) (pa_cons (pv 2) (pa_cons (pe_dget (hu_of hr) (pv 4) (pv 11) (fun _ _ => rfl)) pa_nil)))))
    (pss_cons (ps_if (pt_cmpR op_gt (pv 3) pe_int (nomark _)) (pss_one (ps_ret (pe_lst (pa_cons (pe_tup (pa_cons pe_str (pa_cons (pv 11) (pa_cons (pv 8) pa_nil)))) pa_nil)))) pss_nil)
    (pss_cons (ps_set (i := 10) sc_law_simple.nd rfl (Or.inl rfl) (pe_ok O_named (hr.mono (by omega)) (pa_cons (pv 0) (pa_cons (pv 1) (pa_cons (pv 2) (pa_cons (pe_dget (hu_of hr) (pv 4) (pv 11) (fun _ _ => rfl)) pa_nil))))))
    (pss_one (ps_ret (pe_op op_rep (pe_lst (pa_cons (pe_tup (pa_cons pe_str (pa_cons (pv 10) (pa_cons (pv 8) pa_nil)))) pa_nil)) (pe_callTy call_int1 (by rfl) A.int (by decide +kernel) (pa_cons (pe_cmpR op_notN1 (pv 10) pe_non (nomark _)) pa_nil)))))))) pss_nil)
    (pss_cons (ps_asg (pe_ok O_takes (hr.mono (by omega)) (pa_cons (pe_dget (hu_of hr) (pv 4) (pv 11) (fun _ _ => rfl)) pa_nil)) (pg_tupK (K := K) (n := 2) rfl (pgs_cons (pg_name (i := 12) sc_law_simple.nd rfl (Or.inl rfl)) (pgs_cons (pg_name (i := 13) sc_law_simple.nd rfl (Or.inl rfl)) pgs_nil))))
    (pss_cons (ps_set (i := 15) sc_law_simple.nd rfl (Or.inl rfl) (pe_op op_cat (pe_lc (own := [("_law_kind", 14)]) (g := gName 14) (by rfl) sc_law_simple.nd (pi_tup (pv 12)) (blkOk_by (own := [("_law_kind", 14)]) (N := ["_law_deal_here", "_law_world", "_law_around", "_law_way", "_law_seen", "_law_ground_here", "_law_name", "_law_pool", "_law_a", "_law_b", "_law_x", "_law_f", "_law_takes_here", "_law_gives", "_law_kind", "_law_args"]) (sc := defScope (topS 18)) (by decide +kernel)) (fun _ _ _ _ _ => (pg_nameL (i := 14) sc_law_simple.nd rfl rfl)) (fun _ _ _ _ _ => pts_nil) (fun _ _ _ _ _ => (pe_ok O_atom (hr.mono (by omega)) (pa_cons (pv 0) (pa_cons (pv 2) (pa_cons (pv 14) pa_nil)))))) (pe_op op_rep (pe_lst (pa_cons pe_int pa_nil)) (pe_callTy call_int1 (by rfl) A.int (by decide +kernel) (pa_cons (pe_cmpR op_eq (pe_ok O_draw (hr.mono (by omega)) (pa_cons (pv 0) (pa_cons pe_int pa_nil))) pe_int (nomark _)) pa_nil)))))
    (pss_cons (ps_set (i := 10) sc_law_simple.nd rfl (Or.inl rfl) (pe_ifExp (pt_cmpR (op_inK (K := K)) pe_non (pv 15) rfl) pe_non (pe_ok O_named (hr.mono (by omega)) (pa_cons (pv 0) (pa_cons (pv 1) (pa_cons (pv 2) (pa_cons (pv 13) pa_nil)))))))
    (pss_one (ps_ret (pe_op op_rep (pe_lst (pa_cons (pe_tup (pa_cons pe_str (pa_cons (pv 10) (pa_cons (pv 11) (pa_cons (pe_callTy (call_tuple_ofK (K := K)) (by rfl) A.tuple (by decide +kernel) (pa_cons (pv 15) pa_nil)) pa_nil))))) pa_nil)) (pe_callTy call_int1 (by rfl) A.int (by decide +kernel) (pa_cons (pe_cmpR op_notN1 (pv 10) pe_non (nomark _)) pa_nil))))))))))))))), ?_⟩
    have ks := seen_ok G.inv
    have kl := G.len
    obtain ⟨keys, ke1, ke2, ke3, ke4⟩ := ks.keys
    have kel : keys.length ≤ 17 := by have := congrArg List.length ke1; simp at this; omega
    walk_at "go"
    intro sd hsd
    walk_at "go1"
    walk_at "go1"
    refine g_gather (s := 4) (gi := 5) G hsd (by rfl) (fun _ => by rfl) (fun _ => by rfl) (fun _ => by rfl) (fun _ _ => by rfl) (fun gv H1 f1 e1 => ?_)
    have G1 := G.fr0 f1
    walk_at "go"
    have one : ∀ {n : Nat}, n ≤ 10 → n ≤ sizeLine := fun h => small_of (by omega)
    refine i_dec (fun e0 => ?_) (fun e0 => ?_)
    · walk_at "go"
      refine g_atom0 G1 (fun a H2 va G2 f2 => ?_)
      walk_at "go"
      refine ⟨one (by simp), fun p3 n3 => ?_⟩
      walk_at "go"
      refine ⟨one (by simp), fun p4 n4 => ?_⟩
      have f3 : Fr [] H2 (upd H2 p3 (.tup [.str "tell", a.v])) := Fr.new n3
      have := wB_tell a
      exact m.one (st := .tell a) (nw := []) G (by rw [List.append_nil]; exact G2.fr0 f3) ((f1.nil.trans (G1.fpd f2)).trans f3.nil) (by simp only [SAt]; exact ⟨p3, rfl, upd_same⟩) (Good.use (us := a.nms) (by simp only [opsS]) va) (by omega) (Int.le_refl _) id (by simp [depS]) n4
    · walk_at "go"
      refine lc_keysP (selV fun x => decide (way < 8) || (match valV (seenK (C.gs ++ [tp])) (Sum.inr x) with | some (.int k) => decide (k > 0) | _ => false)) rfl e1 (fun p2 n2 => ?_) (fun D o i ky v hD nD hi => ?_)
      rotate_left
      · obtain ⟨x, kx, e2, hx, k0, k4⟩ := ks.mem _ (List.mem_of_getElem? hi)
        cases e2
        have hv : valV (seenK (C.gs ++ [tp])) (Sum.inr x) = some (.int kx) := val_nodup ks.nd _ (List.mem_of_getElem? hi)
        have hat : ((seenK (C.gs ++ [tp])).map fun kv => kV kv.1)[i]? = some (.str x) := by rw [List.getElem?_map, hi]; rfl
        have zl : ((seenK (C.gs ++ [tp])).map fun kv => kV kv.1).length < sizeLine := small_lt (by simp; omega)
        walk_at "go"
        refine ⟨rfl, ?_⟩
        walk_at "go"
        refine i_dec (fun e => ?_) (fun e => ?_)
        · refine i_t rfl ?_
          walk_at "go"
          exact pu_yes zl hat (sel_yes (by simp [e]))
        · walk_at "go"
          refine ⟨_, _, rfl, kvlF (by rw [upd_ne (Ne.symm nD)]; exact upd_same) hv, ?_⟩
          walk_at "go"
          refine i_dec (fun e' => ?_) (fun e' => ?_)
          · walk_at "go"
            exact pu_yes zl hat (sel_yes (by rw [hv]; simpa using .inr e'))
          · exact pu_no hat (sel_no (by rw [hv]; simp; omega))
      rw [ke2, fm_filter]
      generalize hsome : keys.filter (fun x => decide (way < 8) || (match valV (seenK (C.gs ++ [tp])) (Sum.inr x) with | some (.int k) => decide (k > 0) | _ => false)) = some_
      have hl : some_.length ≤ 17 := by
        have := List.length_filter_le (fun x => decide (way < 8) || (match valV (seenK (C.gs ++ [tp])) (Sum.inr x) with | some (.int k) => decide (k > 0) | _ => false)) keys
        rw [hsome] at this; omega
      have hm : ∀ x ∈ some_, ∃ k : Int, valV (seenK (C.gs ++ [tp])) (Sum.inr x) = some (.int k) ∧ (Sum.inr x, V.int k) ∈ seenK (C.gs ++ [tp]) ∧ x ∈ C.vis tp ∧ 0 ≤ k ∧ k ≤ 4 ∧ (¬ way < 8 → 0 < k) := fun x hx => by
        rw [← hsome, List.mem_filter] at hx
        obtain ⟨k, h1, h2, h3, h4, h5⟩ := ks.val (x := x) (by rw [ke1]; exact List.mem_map.mpr ⟨x, hx.1, rfl⟩)
        refine ⟨k, h1, h2, h3, h4, h5, fun hw => ?_⟩
        have := hx.2
        rw [h1] at this
        simpa [hw] using this
      walk_at "go"
      refine ⟨p2, some_, rfl, .inl (.of upd_same), by omega, fun ys p3 perm _ n3 => ?_⟩
      have f2 : Fr [] H1 (upd (upd H1 p2 (.lst (some_.map V.str))) p3 (.lst (ys.map V.str))) := by walk_at "fr"
      have f3 : Fr [] H (upd (upd H1 p2 (.lst (some_.map V.str))) p3 (.lst (ys.map V.str))) := f1.trans f2
      have G3 := G.fr0 f3
      have n3' : p3 ∉ C.all := (G1.fr0 (Fr.new n2)).nin n3
      have n3f : p3 ∉ C.fp := fun z => n3' (fp_all C _ z)
      have n3d : p3 ∉ [C.d, C.l] := (G1.fr0 (Fr.new n2)).dl n3
      have nsd : sd ∉ C.fp := G.nfp hsd
      have nsd2 : sd ∉ [C.d, C.l] := G.dl hsd
      have e3 : (upd (upd H1 p2 (.lst (some_.map V.str))) p3 (.lst (ys.map V.str))) sd = some (.dK (seenK (C.gs ++ [tp]))) := f2.get0 e1
      have e3p : (upd (upd H1 p2 (.lst (some_.map V.str))) p3 (.lst (ys.map V.str))) p3 = some (.lst (ys.map V.str)) := upd_same
      walk_at "go"
      generalize upd (upd H1 p2 (.lst (some_.map V.str))) p3 (.lst (ys.map V.str)) = H3 at *
      have yl : ys.length ≤ 17 := by rw [perm.length_eq]; exact hl
      have hy := fun x (hx : x ∈ ys) => hm x (perm.mem_iff.mp hx)
      rcases Decidable.em (way < 4 ∨ ys = []) with hc | hc
      · refine i_dec (fun e4 => ?a1) (fun e4 => ?a2)
        case' a2 =>
          walk_at "go"
          refine g_len e3p ?_
          walk_at "go"
          have hz : ys = [] := hc.resolve_left e4
          subst hz
          refine i_t (by rfl) ?_
        case' a1 => refine i_t (by rfl) ?_
        all_goals
          walk_at "go"
          refine g_atom0 G3 (fun a H4 va G4 f4 => ?_)
          walk_at "go"
          refine g_atom0 G4 (fun b H5 vb G5 f5 => ?_)
          walk_at "go"
          have f35 : Fr C.fp H H5 := (f3.nil.trans (G3.fpd f4)).trans (G4.fpd f5)
          refine g_named G5 (by decide) (by decide) (fun H6 G6 f6 => ?_) (fun H6 x hx nx G6 f6 => ?_)
          · walk_at "go"
            refine g_draw G6 (by decide) (by decide) (fun j H7 j0 j1 G7 f7 => ?_)
            have hj : ∃ c, atI (("+-*<=" : Str).cps.toList) j = some c := by
              rcases (show j = 0 ∨ j = 1 ∨ j = 2 ∨ j = 3 ∨ j = 4 by omega) with rfl | rfl | rfl | rfl | rfl <;> exact ⟨_, rfl⟩
            obtain ⟨c, hc⟩ := hj
            refine ⟨_, j, c, rfl, rfl, by decide, hc, ?_⟩
            walk_at "go"
            refine ⟨one (by simp), fun p8 n8 => ?_⟩
            walk_at "go"
            refine ⟨one (by simp), fun p9 n9 => ?_⟩
            walk_at "go"
            refine g_rep upd_same (one (by simp)) (fun p10 n10 => ?_)
            rw [if_neg (by simp)]
            have fz : Fr [] H7 (upd (upd H7 p8 (.tup [.str "sum", .non, .str ⟨#[c]⟩, a.v, b.v])) p9 (.lst [.ref p8])) := by walk_at "fr"
            exact m.zero G (G7.fr0 fz) (((f35.trans f6).trans (G6.fpd f7)).trans fz.nil) (by omega) (Int.le_refl _) id (by decide) n10
          · walk_at "go"
            refine g_draw G6 (by decide) (by decide) (fun j H7 j0 j1 G7 f7 => ?_)
            have hj : ∃ c, atI (("+-*<=" : Str).cps.toList) j = some c := by
              rcases (show j = 0 ∨ j = 1 ∨ j = 2 ∨ j = 3 ∨ j = 4 by omega) with rfl | rfl | rfl | rfl | rfl <;> exact ⟨_, rfl⟩
            obtain ⟨c, hc⟩ := hj
            refine ⟨_, j, c, rfl, rfl, by decide, hc, ?_⟩
            walk_at "go"
            refine ⟨one (by simp), fun p8 n8 => ?_⟩
            walk_at "go"
            refine ⟨one (by simp), fun p9 n9 => ?_⟩
            walk_at "go"
            refine g_rep upd_same (one (by simp)) (fun p10 n10 => ?_)
            rw [if_pos (by simp)]
            have fz : Fr [] H7 (upd (upd H7 p8 (.tup [.str "sum", .str x, .str ⟨#[c]⟩, a.v, b.v])) p9 (.lst [.ref p8])) := by walk_at "fr"
            have hw := wB_sum x ⟨#[c]⟩ a b
            exact m.one (st := .sum x ⟨#[c]⟩ a b) (nw := [(x, 0)]) G (G7.fr0 fz) (((f35.trans f6).trans (G6.fpd f7)).trans fz.nil) (by simp only [SAt]; exact ⟨p8, rfl, by walk_at "at"⟩)
              (Good.make (hx := hx) (us := a.nms ++ b.nms) (by simp only [opsS]) (fun z hz => (List.mem_append.mp hz).elim (va z) (vb z))) (by omega) (Int.le_refl _) id (by simp [depS]) n10
      · have hc4 : ¬ way < 4 := fun z => hc (.inl z)
        have hcy : ys ≠ [] := fun z => hc (.inr z)
        have hy0 : 0 < ys.length := List.length_pos_iff.mpr hcy
        refine i_f (decide_eq_false hc4) ?_
        walk_at "go"
        refine g_len e3p ?_
        walk_at "go"
        refine i_f (by simp [hcy]) ?_
        walk_at "go"
        refine g_len e3p ?_
        walk_at "go"
        refine g_draw G3 (by simp; omega) (by simp; omega) (fun j H4 j0 j1 G4 f4 => ?_)
        obtain ⟨f_, hf, hat⟩ : ∃ f_, f_ ∈ ys ∧ atI (ys.map V.str) j = some (.str f_) :=
          ⟨ys[j.toNat]'(by simp at j1; omega), List.getElem_mem _, by rw [atI_nat j0 (by simpa using j1)]; simp⟩
        obtain ⟨k, hv, hkv, hvis, k0, k4, kp⟩ := hy f_ hf
        refine g_ixL (f4.get e3p n3d) hat ?_
        have e4 := f4.get e3 nsd2
        have f34 : Fr C.fp H H4 := f3.nil.trans (G3.fpd f4)
        walk_at "go"
        refine i_dec (fun e5 => ?_) (fun e5 => ?_)
        · walk_at "go"
          refine ⟨_, _, rfl, kvl e4 hv, ?_⟩
          walk_at "go"
          refine g_atomS G4 hkv rfl (fun a H5 va G5 f5 => ?_)
          have f35 : Fr C.fp H H5 := f34.trans (G4.fpd f5)
          walk_at "go"
          refine i_dec (fun e6 => ?_) (fun e6 => ?_)
          · walk_at "go"
            refine ⟨one (by simp), fun p8 n8 => ?_⟩
            walk_at "go"
            refine ⟨one (by simp), fun p9 n9 => ?_⟩
            have fz : Fr [] H5 (upd H5 p8 (.tup [.str "set", .str f_, a.v])) := by walk_at "fr"
            have hw := wB_set f_ a
            exact m.one (st := .set f_ a) (nw := []) G (by rw [List.append_nil]; exact G5.fr0 fz) (f35.trans fz.nil) (by simp only [SAt]; exact ⟨p8, rfl, by walk_at "at"⟩)
              (Good.use (us := f_ :: a.nms) (by simp only [opsS]) (fun z hz => (List.mem_cons.mp hz).elim (fun q => by rw [q]; exact hvis) (va z))) (by omega) (Int.le_refl _) id (by simp [depS]) n9
          · walk_at "go"
            refine ⟨_, _, rfl, kvl (f5.get e4 nsd2) hv, ?_⟩
            walk_at "go"
            refine g_named G5 k0 k4 (fun H6 G6 f6 => ?_) (fun H6 x hx nx G6 f6 => ?_)
            · walk_at "go"
              refine ⟨one (by simp), fun p8 n8 => ?_⟩
              walk_at "go"
              refine ⟨one (by simp), fun p9 n9 => ?_⟩
              walk_at "go"
              refine g_rep upd_same (one (by simp)) (fun p10 n10 => ?_)
              rw [if_neg (by simp)]
              have fz : Fr [] H6 (upd (upd H6 p8 (.tup [.str "let", .non, a.v])) p9 (.lst [.ref p8])) := by walk_at "fr"
              exact m.zero G (G6.fr0 fz) ((f35.trans f6).trans fz.nil) (by omega) (Int.le_refl _) id (by decide) n10
            · walk_at "go"
              refine ⟨one (by simp), fun p8 n8 => ?_⟩
              walk_at "go"
              refine ⟨one (by simp), fun p9 n9 => ?_⟩
              walk_at "go"
              refine g_rep upd_same (one (by simp)) (fun p10 n10 => ?_)
              rw [if_pos (by simp)]
              have fz : Fr [] H6 (upd (upd H6 p8 (.tup [.str "let", .str x, a.v])) p9 (.lst [.ref p8])) := by walk_at "fr"
              have hw := wB_let x a
              exact m.one (st := .let_ x a) (nw := [(x, k)]) G (G6.fr0 fz) ((f35.trans f6).trans fz.nil) (by simp only [SAt]; exact ⟨p8, rfl, by walk_at "at"⟩)
                (Good.make (hx := hx) (us := a.nms) (by simp only [opsS]) va) (by omega) (Int.le_refl _) id (by simp [depS]) n10
        · walk_at "go"
          refine ⟨_, _, rfl, kvl e4 hv, ?_⟩
          walk_at "go"
          have kp := kp e5
          refine ⟨k, rfl, by omega, by omega, fun H5 p5 q5 ks gv f5 e5p e5q kl5 kx gx => ?_⟩
          have G5 := G4.fr0 f5
          have f35 : Fr C.fp H H5 := f34.trans f5.nil
          walk_at "go"
          refine g_gtup e5p rfl ?_
          walk_at "go"
          refine lc_tup (fun D i H' => ∃ as : List (Option Atm), as.length = i ∧ (∀ a ∈ as, ∀ x ∈ onm a, x ∈ C.vis tp) ∧ Gn H' C lf tp ∧ Fr [C.d, C.l] H5 H' ∧ H' D = some (.lst (as.map ov))) e5q
            (fun D hD => ⟨[], rfl, by simp, G5.fr0 (Fr.new hD), Fr.new hD, upd_same⟩) (fun D i H' hD ⟨as, _, _, _, f6, _⟩ => f6.tup e5q) (fun D H6 hD ⟨as, al, va, G6, f6, e6⟩ => ?_) (fun D i x H6 hD hx ⟨as, al, va, G6, f6, e6⟩ => ?_)
          rotate_left
          · obtain ⟨kk, hkk, rfl⟩ := map_at hx
            have hil : i < ks.length := (List.getElem?_eq_some_iff.mp hkk).1
            walk_at "go"
            refine ⟨rfl, ?_⟩
            walk_at "go"
            refine i_t rfl ?_
            walk_at "go"
            refine g_atomO G6 (fun a H7 va7 G7 f7 => ?_)
            have e7 := f7.get e6 (G5.dl hD)
            refine ⟨_, e7, small_lt (by simp; omega), as ++ [a], by simp [al], fun b hb => ?_, ?_, ?_, ?_⟩
            · rcases List.mem_append.mp hb with q | q
              · exact va b q
              · rw [List.mem_singleton.mp q]; exact va7
            · exact G7.fr1 (Fr.put e7 (by intro xs q; cases q) (by simp)) (G5.nin hD)
            · exact (f6.trans f7).mut hD
            · rw [upd_same]; simp
          · walk_at "go"
            rw [List.length_map] at al
            have nD : D ∉ [C.d, C.l] := G5.dl hD
            refine ⟨one (by simp), fun p6 n6 => ?_⟩
            have f6' : Fr [] H6 (upd H6 p6 (.lst [.int 7])) := by walk_at "fr"
            have G6' := G6.fr0 f6'
            walk_at "go"
            refine g_draw G6' (by decide) (by decide) (fun j7 H7 j0 j1 G7 f7 => ?_)
            walk_at "go"
            refine g_rep (f7.get upd_same (G6.dl n6)) (one (by simp)) (fun p8 n8 => ?_)
            have e7D := f7.get (f6'.get0 e6) nD
            refine g_cat (keep n8 e7D) upd_same (small_of (by split <;> simp <;> omega)) (fun p9 n9 => ?_)
            obtain ⟨as2, al2, va2, ha2⟩ : ∃ as2 : List (Option Atm), as2.length ≤ 5 ∧ (∀ a ∈ as2, ∀ x ∈ onm a, x ∈ C.vis tp) ∧ (List.map ov as ++ if decide (V.int j7 = V.int 1) = true then [V.int 7] else []) = as2.map ov := by
              by_cases hj : V.int j7 = V.int 1
              · refine ⟨as ++ [some (.num 7)], by simp; omega, fun a ha => ?_, by simp [hj, ov, Atm.v]⟩
                rcases List.mem_append.mp ha with q | q
                · exact va a q
                · rw [List.mem_singleton.mp q]; simp [onm, Atm.nms]
              · exact ⟨as, by omega, va, by simp [hj]⟩
            rw [ha2]
            have f9 : Fr C.fp H (upd (upd H7 p8 (.lst (if decide (V.int j7 = V.int 1) = true then [V.int 7] else []))) p9 (.lst (as2.map ov))) :=
              ((((f35.trans (G5.fpd f6)).trans f6'.nil).trans (G6'.fpd f7)).trans (Fr.new n8)).trans (Fr.new n9)
            have G9 := (G7.fr0 (Fr.new (o := .lst (if decide (V.int j7 = V.int 1) = true then [V.int 7] else [])) n8)).fr0 (Fr.new (o := .lst (as2.map ov)) n9)
            have e9 : (upd (upd H7 p8 (.lst (if decide (V.int j7 = V.int 1) = true then [V.int 7] else []))) p9 (.lst (as2.map ov))) p9 = some (.lst (as2.map ov)) := upd_same
            have n9' : p9 ∉ C.fp := (G7.fr0 (Fr.new n8)).nfp n9
            generalize upd (upd H7 p8 (.lst (if decide (V.int j7 = V.int 1) = true then [V.int 7] else []))) p9 (.lst (as2.map ov)) = H9 at *
            walk_at "go"
            refine g_inL e9 rfl (flatO _) ?_
            rw [inV_none]
            walk_at "go"
            refine i_dec (fun hn => ?_) (fun hn => ?_)
            · walk_at "go"
              refine g_tupof e9 (fun p10 n10 => ?_)
              walk_at "go"
              refine ⟨one (by simp), fun p11 n11 => ?_⟩
              walk_at "go"
              refine ⟨one (by simp), fun p12 n12 => ?_⟩
              walk_at "go"
              refine g_rep upd_same (one (by simp)) (fun p13 n13 => ?_)
              rw [if_neg (by simp)]
              exact m.zero G (G9.fr0 (by walk_at "fr")) (f9.trans (Fr.nil (by walk_at "fr"))) (by omega) (Int.le_refl _) id (by decide) n13
            · have hgv : 0 ≤ gv ∧ gv ≤ 4 := by rcases gx with rfl | rfl <;> decide
              obtain ⟨bs, hb1, hb2, hb3⟩ := ov_some hn
              rw [hb1] at e9
              walk_at "go"
              refine g_named G9 hgv.1 hgv.2 (fun H10 G10 f10 => ?_) (fun H10 x hx nx G10 f10 => ?_)
              · walk_at "go"
                refine g_tupof (f10.get e9 n9') (fun p10 n10 => ?_)
                walk_at "go"
                refine ⟨one (by simp), fun p11 n11 => ?_⟩
                walk_at "go"
                refine ⟨one (by simp), fun p12 n12 => ?_⟩
                walk_at "go"
                refine g_rep upd_same (one (by simp)) (fun p13 n13 => ?_)
                rw [if_neg (by simp)]
                exact m.zero G (G10.fr0 (by walk_at "fr")) ((f9.trans f10).trans (Fr.nil (by walk_at "fr"))) (by omega) (Int.le_refl _) id (by decide) n13
              · walk_at "go"
                refine g_tupof (f10.get e9 n9') (fun p10 n10 => ?_)
                walk_at "go"
                refine ⟨one (by simp), fun p11 n11 => ?_⟩
                walk_at "go"
                refine ⟨one (by simp), fun p12 n12 => ?_⟩
                walk_at "go"
                refine g_rep upd_same (one (by simp)) (fun p13 n13 => ?_)
                rw [if_pos (by simp)]
                have hw := wB_call x f_ bs
                exact m.one (st := .call x f_ bs) (nw := [(x, gv)]) G (G10.fr0 (by walk_at "fr")) ((f9.trans f10).trans (Fr.nil (by walk_at "fr"))) (by simp only [SAt]; exact ⟨p11, p10, rfl, by walk_at "at", by walk_at "at"⟩)
                  (Good.make (hx := hx) (us := f_ :: bs.flatMap Atm.nms) (by simp only [opsS]) (fun z hz => by
                    rcases List.mem_cons.mp hz with q | q
                    · rw [q]; exact hvis
                    · obtain ⟨a, ha, hz⟩ := hb3 z q
                      exact va2 a ha z hz)) (by omega) (Int.le_refl _) id (by simp only [depS]; omega) n13
end
end Fb
set_option Elab.async false
set_option linter.all false
set_option maxRecDepth 100000
set_option maxHeartbeats 4000000
/-! A list of statements that grows. -/
namespace Fb
open PySem PySem.Spec PyProof.Rows L2
theorem wS_pos (s : Stm) : 1 ≤ wB [s] := by
  unfold wB; rw [ops_one]
  cases s with
  | times o x a b => cases o <;> simp only [opsS, wL_cons, wO] <;> omega
  | _ => simp only [opsS, wL_cons, wO] <;> omega
theorem len_w : ∀ b : List Stm, b.length ≤ wB b
  | [] => by simp
  | s :: b => by rw [wB_cons, List.length_cons]; have := wS_pos s; have := len_w b; omega
section
variable {K : PySem.W.Frag} {σ : L2.St} {H H' H2 : Hp} {Q : VK} {C : GC} {lf lf' lf2 cst cst2 : Int} {tp nw nw2 gr gr2 : List (Str × Int)} {p pf : Addr} {vs ws : List V} {b c : List Stm} {dep : Nat}
/-- what a maker of a block gives -/
def MadeT (gv : V) (C : GC) (lf : Int) (tp : List (Str × Int)) (H : Hp) (cst : Int) (dep : Nat) (Q : VK) : Prop := ∀ (H' : Hp) (p : Addr) (vs : List V) (b : List Stm) (nw ex : List (Str × Int)) (lf' : Int),
  (gv ≠ .int 1 → ex = []) → Gn H' C lf' (tp ++ nw ++ ex) → Fr C.fp H H' → H' p = some (.tup vs) → BAt H' b vs → Good C.names (C.vis tp) b (nw.map (·.1)) → (wB b : Int) ≤ cst + 50 * (lf - lf') → lf' ≤ lf → (-4 ≤ lf → -4 ≤ lf') → depB b ≤ dep → Q (.ref p) H'
structure AccX (C : GC) (lf : Int) (tp : List (Str × Int)) (H : Hp) (cst : Int) (dep : Nat) (pf : Addr) (H' : Hp) (vs : List V) (b : List Stm) (nw : List (Str × Int)) (lf' : Int) (gr : List (Str × Int)) : Prop where
  G : Gn H' C lf' gr
  fr : Fr C.fp H H'
  e : H' pf = some (.lst vs)
  bt : BAt H' b vs
  good : Good C.names (C.vis tp) b (nw.map (·.1))
  w : (wB b : Int) ≤ cst + 50 * (lf - lf')
  l : lf' ≤ lf
  l4 : -4 ≤ lf → -4 ≤ lf'
  dep : depB b ≤ dep
abbrev Acc (C : GC) (lf : Int) (tp : List (Str × Int)) (H : Hp) (cst : Int) (dep : Nat) (pf : Addr) (H' : Hp) (vs : List V) (b : List Stm) (nw : List (Str × Int)) (lf' : Int) : Prop := AccX C lf tp H cst dep pf H' vs b nw lf' (tp ++ nw)
theorem Acc.zero (G : Gn H C lf tp) (hp : H pf = none) (hd : 1 ≤ dep) (h0 : 0 ≤ cst) : Acc C lf tp H cst dep pf (upd H pf (.lst [])) [] [] [] lf :=
  ⟨by rw [List.append_nil]; exact G.fr0 (Fr.new hp), Fr.new hp, upd_same, BAt_nil.mpr rfl, Good.nil, by rw [wB_nil]; omega, Int.le_refl _, id, by simp only [depB]; exact hd⟩
theorem nodup_new {names : List Str} {tp nw nw2 : List (Str × Int)} (h : GrOk names (tp ++ nw ++ nw2)) : ∀ x ∈ nw2.map (·.1), x ∉ nw.map (·.1) := fun x hx hy => by
  have := h.1
  rw [List.map_append, List.map_append, List.nodup_append] at this
  exact this.2.2 x (List.mem_append_right _ hy) x hx rfl
theorem AccX.ext (a : Acc C lf tp H cst dep pf H' vs b nw lf') {lf0 : Int} {tp0 : List (Str × Int)} (G : Gn H C lf0 tp0) (hn : H pf = none) (G2 : Gn H2 C lf2 (tp ++ nw ++ nw2)) (f2 : Fr C.fp H' H2) (bt2 : BAt H2 c ws) (g2 : Good C.names (C.vis (tp ++ nw)) c (nw2.map (·.1))) (w2 : (wB c : Int) ≤ cst2 + 50 * (lf' - lf2)) (l2 : lf2 ≤ lf') (l42 : -4 ≤ lf' → -4 ≤ lf2) (d2 : depB c ≤ dep) :
    H2 pf = some (.lst vs) ∧ Acc C lf tp H (cst + cst2) dep pf (upd H2 pf (.lst (vs ++ ws))) (vs ++ ws) (b ++ c) (nw ++ nw2) lf2 := by
  have np := G.nin hn
  have e2 : H2 pf = some (.lst vs) := f2.get a.e (fun q => np (fp_all C _ q))
  have f3 : Fr [pf] H2 (upd H2 pf (.lst (vs ++ ws))) := Fr.put e2 (by intro xs q; cases q) (by simp)
  refine ⟨e2, ⟨?_, (a.fr.trans f2).mut hn, upd_same, ?_, ?_, ?_, by have := a.l; omega, fun h => l42 (a.l4 h), depB_append a.dep d2⟩⟩
  · rw [← List.append_assoc]; exact G2.fr1 f3 np
  · exact BAt.append (a.bt.up (f2.trans (f3.mono (W' := C.fp ++ [pf]) (by simp) |>.mono (W' := C.fp ++ [pf]) (by simp) |> fun z => ⟨fun b xs h => h, fun b o h _ => h⟩)).tupLe |>.up f3.tupLe) (bt2.up f3.tupLe)
  · rw [List.map_append]
    exact a.good.append (g2.mono fun x hx => vis_app hx) (nodup_new G2.tok)
  · rw [wB_append]; have := a.w; push_cast; omega
/-- one statement more -/
theorem AccX.add {st : Stm} {v : V} (a : Acc C lf tp H cst dep pf H' vs b nw lf') {lf0 : Int} {tp0 : List (Str × Int)} (G : Gn H C lf0 tp0) (hn : H pf = none) (G2 : Gn H2 C lf2 (tp ++ nw ++ nw2)) (f2 : Fr C.fp H' H2) (s : SAt H2 st v) (g2 : Good C.names (C.vis (tp ++ nw)) [st] (nw2.map (·.1))) (w2 : (wB [st] : Int) ≤ cst2 + 50 * (lf' - lf2)) (l2 : lf2 ≤ lf') (l42 : -4 ≤ lf' → -4 ≤ lf2) (d2 : 1 + depS st ≤ dep) :
    H2 pf = some (.lst vs) ∧ Acc C lf tp H (cst + cst2) dep pf (upd H2 pf (.lst (vs ++ [v]))) (vs ++ [v]) (b ++ [st]) (nw ++ nw2) lf2 :=
  a.ext G hn G2 f2 (BAt.one s) g2 w2 l2 l42 (depB_one d2)
theorem AccX.add0 {st : Stm} {v : V} (a : AccX C lf tp H cst dep pf H' vs b nw lf' gr) {lf0 : Int} {tp0 : List (Str × Int)} (G : Gn H C lf0 tp0) (hn : H pf = none) (f2 : Fr C.fp H' H2) (G2 : Gn H2 C lf' gr) (s : SAt H2 st v) (g2 : Good C.names (C.vis (tp ++ nw)) [st] []) (w2 : (wB [st] : Int) ≤ cst2) (d2 : 1 + depS st ≤ dep) :
    H2 pf = some (.lst vs) ∧ AccX C lf tp H (cst + cst2) dep pf (upd H2 pf (.lst (vs ++ [v]))) (vs ++ [v]) (b ++ [st]) nw lf' gr := by
  have np := G.nin hn
  have e2 : H2 pf = some (.lst vs) := f2.get a.e (fun q => np (fp_all C _ q))
  have f3 : Fr [pf] H2 (upd H2 pf (.lst (vs ++ [v]))) := Fr.put e2 (by intro xs q; cases q) (by simp)
  refine ⟨e2, ⟨G2.fr1 f3 np, (a.fr.trans f2).mut hn, upd_same, ?_, ?_, ?_, a.l, a.l4, depB_append a.dep (depB_one d2)⟩⟩
  · exact BAt.append ((a.bt.up f2.tupLe).up f3.tupLe) (BAt.one (s.up f3.tupLe))
  · have := a.good.append (n2 := []) (g2.mono fun x hx => vis_app hx) (by simp)
    rwa [List.append_nil] at this
  · rw [wB_append]; have := a.w; push_cast; omega
theorem AccX.len (a : AccX C lf tp H cst dep pf H' vs b nw lf' gr) (h : cst + 50 * (lf - lf') ≤ 50000) : vs.length ≤ 50000 := by
  have := a.bt.len
  have := len_w b
  have := a.w
  omega
theorem AccX.same (a : AccX C lf tp H cst dep pf H' vs b nw lf' gr) {lf0 : Int} {tp0 : List (Str × Int)} (G : Gn H C lf0 tp0) (hn : H pf = none) (G2 : Gn H2 C lf' gr2) (f2 : Fr C.fp H' H2) : AccX C lf tp H cst dep pf H2 vs b nw lf' gr2 :=
  ⟨G2, a.fr.trans f2, f2.get a.e (fun q => G.nin hn (fp_all C _ q)), a.bt.up f2.tupLe, a.good, a.w, a.l, a.l4, a.dep⟩
theorem AccX.more (a : AccX C lf tp H cst dep pf H' vs b nw lf' gr) (h : cst ≤ cst2) : AccX C lf tp H cst2 dep pf H' vs b nw lf' gr := ⟨a.G, a.fr, a.e, a.bt, a.good, by have := a.w; omega, a.l, a.l4, a.dep⟩
end
/-! ### the four contracts -/
def spBlk (m : Nat) : Sp := fun vs H Q _ => ∃ (C : GC) (lf : Int) (tp : List (Str × Int)) (gv : V), vs = [.ref C.d, .ref C.w, .ref C.ar, .int ((m : Int) - 1), gv] ∧ 1 ≤ m ∧ (gv = .non ∨ gv = .int 0 ∨ gv = .int 1) ∧ C.go.length + 2 * m ≤ 22 ∧ Gn H C lf tp ∧ -4 ≤ lf ∧ lf ≤ 100 ∧ MadeT gv C lf tp H 20 (m + 1) Q
def spFn (m : Nat) : Sp := fun vs H Q _ => ∃ (C : GC) (lf : Int) (tp : List (Str × Int)), vs = [.ref C.d, .ref C.w, .ref C.ar, .int (m : Int)] ∧ 1 ≤ m ∧ C.go.length + 2 * m ≤ 20 ∧ Gn H C lf tp ∧ 0 ≤ lf ∧ lf ≤ 100 ∧ Made C (lf - 4) tp H 30 (m + 2) Q
def spLoop (m : Nat) : Sp := fun vs H Q _ => ∃ (C : GC) (lf : Int) (tp : List (Str × Int)), vs = [.ref C.d, .ref C.w, .ref C.ar, .int (m : Int)] ∧ 1 ≤ m ∧ C.go.length + 2 * m ≤ 20 ∧ Gn H C lf tp ∧ -4 ≤ lf ∧ lf ≤ 100 ∧ Made C lf tp H 40 (m + 2) Q
def spPiece (m : Nat) : Sp := fun vs H Q _ => ∃ (C : GC) (lf : Int) (tp : List (Str × Int)), vs = [.ref C.d, .ref C.w, .ref C.ar, .int (m : Int)] ∧ C.go.length + 2 * m ≤ 20 ∧ Gn H C lf tp ∧ 1 ≤ lf ∧ lf ≤ 100 ∧ Made C (lf - 1) tp H 50 (m + 2) Q
end Fb
set_option Elab.async false
set_option linter.all false
set_option maxRecDepth 100000
set_option maxHeartbeats 4000000
namespace Fb
open PySem PySem.Spec PyProof.Rows L2
local macro_rules | `(tactic| walk_at "go1") => `(tactic| first
  | with_reducible refine g_seq ?_
  | with_reducible refine g_asg ?_
  | with_reducible refine g_name ?_
  | ((with_reducible refine' g_var ?h1 ?_); (case h1 => rfl))
  | with_reducible refine g_c ?_
  | with_reducible refine g_op ?_
  | with_reducible refine g_un ?_
  | with_reducible refine g_rU ?_
  | with_reducible refine g_yes ?_
  | with_reducible refine g_isN ?_
  | with_reducible refine g_notN ?_
  | with_reducible refine g_int1 ?_
  | with_reducible refine g_I0 ?_
  | ((with_reducible refine' g_eq ?h1 ?_); (case h1 => rfl))
  | ((with_reducible refine' g_ne ?h1 ?_); (case h1 => rfl))
  | with_reducible refine g_test ?_
  | with_reducible refine g_tb ?_
  | with_reducible refine g_bl ?_
  | with_reducible refine g_drop ?_
  | with_reducible refine g_ret ?_
  | with_reducible refine g_if ?_
  | with_reducible refine g_ife ?_
  | with_reducible refine g_and ?_
  | with_reducible refine g_or ?_
  | with_reducible refine g_not ?_
  | with_reducible refine g_next ?_
  | with_reducible refine g_nil ?_
  | with_reducible refine g_cons ?_
  | with_reducible refine g_cb ?_
  | with_reducible refine g_call ?_
  | with_reducible refine g_tup ?_
  | with_reducible refine g_lst ?_
  | with_reducible refine g_dget ?_
  | with_reducible refine g_dput ?_
  | with_reducible refine g_bm ?_
  | with_reducible refine g_lc ?_
  | with_reducible refine g_for ?_
  | with_reducible refine g_il ?_
  | with_reducible refine g_rng1 ?_
  | with_reducible refine g_gsub ?_
  | with_reducible refine g_din ?_
  | with_reducible refine g_disp ?_
  | with_reducible refine g_pairs ?_
  | with_reducible refine g_pairs0 ?_
  | with_reducible refine g_sl ?_
  | with_reducible refine g_part ?_
  | with_reducible refine g_part1 ?_
  | with_reducible refine g_nopart ?_
  | with_reducible refine g_andV ?_
  | with_reducible refine g_orV ?_
  | with_reducible refine g_notV ?_
  | with_reducible refine g_itp ?_
  | with_reducible refine g_par ?_
  | with_reducible refine g_par1 ?_
  | with_reducible refine g_par3 ?_
  | with_reducible refine g_par31 ?_
  | with_reducible refine g_gname ?_
  | with_reducible refine g_gcons ?_
  | with_reducible refine g_gnil ?_
  | with_reducible refine g_bm0 ?_)
local macro_rules | `(tactic| walk_at "go") => `(tactic| repeat walk_at "go1")
local macro_rules | `(tactic| walk_at "at") => `(tactic| repeat first
  | assumption
  | exact upd_same
  | with_reducible refine keep (by assumption) ?_
  | with_reducible refine keep_ne (by assumption) ?_
  | with_reducible refine Fr.get0 (by assumption) ?_
  | with_reducible refine Fr.get (by assumption) ?_ (by assumption)
  | with_reducible refine Fr.tup (by assumption) ?_)
local macro_rules | `(tactic| walk_at "fr") => `(tactic| repeat first
  | assumption
  | exact Fr.refl _ _
  | with_reducible refine Fr.trans ?_ (Fr.new (by assumption))
  | with_reducible refine Fr.trans ?_ (Fr.nil (by assumption))
  | with_reducible refine Fr.trans ?_ (by assumption))
local macro_rules | `(tactic| walk_at "gn") => `(tactic| repeat first
  | assumption
  | with_reducible refine Gn.fr0 ?_ (Fr.new (by assumption))
  | with_reducible refine Gn.fr0 ?_ (by assumption))
local macro_rules | `(tactic| walk_at "bt") => `(tactic| repeat first
  | assumption
  | with_reducible refine BAt.up (Fr.new (W := []) (by assumption)).1 _ _ ?_
  | with_reducible refine SAt.up (Fr.new (W := []) (by assumption)).1 _ _ ?_
  | with_reducible refine BAt.up (Fr.tupLe (by assumption)) _ _ ?_
  | with_reducible refine SAt.up (Fr.tupLe (by assumption)) _ _ ?_)
section
variable {P : Program} {w : World} {K : PySem.W.Frag} {mg : Str → Option Value} {base : Heap}
theorem sc_law_block : FnScope ["_law_deal_here", "_law_world", "_law_around", "_law_deep", "_law_gives", "_law_found", "_law_k", "_law_a", "_law_x"] ["_law_deal_here", "_law_world", "_law_around", "_law_deep", "_law_gives"] (defScope (topS 22)) := ⟨rfl, rfl, rfl, by decide +kernel, rfl, by decide +kernel, by decide +kernel⟩
theorem ok_blk (A : All K mg) {m k : Nat} (hk : 3 ≤ k) (O_piece : Ok P w K mg base CX0 k "_law_piece" ["_law_deal_here", "_law_world", "_law_around", "_law_deep"] (spPiece m)) : Ok P w K mg base CX0 (k + 1) "_law_block" ["_law_deal_here", "_law_world", "_law_around", "_law_deep", "_law_gives"] (spBlk (m + 1)) := by
  have O_draw : Ok P w K mg base CX0 1 "_law_draw" ["_law_deal_here", "_law_many"] spDraw := ok_draw A
  have O_named : Ok P w K mg base CX0 2 "_law_named" ["_law_deal_here", "_law_world", "_law_around", "_law_kind"] spNamed := ok_named A
  have O_atom : Ok P w K mg base CX0 2 "_law_atom" ["_law_deal_here", "_law_around", "_law_kind"] spAtom := ok_atom A
  refine ok_of0 A.block sc_law_block (fun _ _ _ _ _ _ us hl => match us, hl with | [_, _, _, _, _], _ => rfl) (fun vs H Q E h => ?_) (fun f cdv Ar outer s H vs Q E hr h => ?_)
  · obtain ⟨_, _, _, _, rfl, _⟩ := h; rfl
  · obtain ⟨C, lf, tp, gv, rfl, m1, hgv, gb, G, lf0, lf1, mk⟩ := h
    rw [show (((m + 1 : Nat) : Int) - 1) = (m : Int) by omega]
    refine ⟨_, (pss_cons (ps_set (i := 5) sc_law_block.nd rfl (Or.inl rfl) (pe_lst pa_nil))
    (Evl.pss_cut (ps_for PassesOwn.never rfl (pi_range1 (by rfl) A.range (pa_cons (pe_op op_add pe_int (pe_ok O_draw (hr.mono (by omega)) (pa_cons (pv 0) (pa_cons pe_int pa_nil)))) pa_nil)) (pg_name (i := 6) sc_law_block.nd rfl (Or.inl rfl)) (pss_one (ps_if (pt_cmpR op_gt (pe_dget (hu_of hr) (pv 1) pe_str (fun _ _ => rfl)) pe_int (nomark _)) (pss_one (ps_expr (pe_bm PySem.F.plainAttrs_list PySem.F.slot_list_extend PySem.F.type_list_extend mt_extend (pv 5) (pa_cons (pe_ok O_piece (hr.mono (by omega)) (pa_cons (pv 0) (pa_cons (pv 1) (pa_cons (pv 2) (pa_cons (pv 3) pa_nil))))) pa_nil)))) pss_nil)))
    (Evl.pss_cut (ps_if (pw_and (pt_cmpR op_eq (pv 4) pe_int (nomark _)) (pw_and1 (pt_cmpR op_gt (pe_ok O_draw (hr.mono (by omega)) (pa_cons (pv 0) (pa_cons pe_int pa_nil))) pe_int (nomark _)))).pt (pss_one (ps_expr (pe_bm PySem.F.plainAttrs_list PySem.F.slot_list_append PySem.F.type_list_append mt_append (pv 5) (pa_cons (pe_tup (pa_cons pe_str (pa_cons (pe_ok O_atom (hr.mono (by omega)) (pa_cons (pv 0) (pa_cons (pv 2) (pa_cons pe_int pa_nil)))) pa_nil))) pa_nil)))) pss_nil)
    (Evl.pss_cut (ps_if (pt_cmpR op_eq (pv 4) pe_int (nomark _)) (pss_cons (ps_set (i := 7) sc_law_block.nd rfl (Or.inl rfl) (pe_ok O_atom (hr.mono (by omega)) (pa_cons (pv 0) (pa_cons (pv 2) (pa_cons pe_int pa_nil)))))
    (pss_cons (ps_set (i := 8) sc_law_block.nd rfl (Or.inl rfl) (pe_ok O_named (hr.mono (by omega)) (pa_cons (pv 0) (pa_cons (pv 1) (pa_cons (pv 2) (pa_cons pe_int pa_nil))))))
    (pss_cons (ps_if (pw_and (pt_cmpR op_isN1 (pv 7) pe_non (nomark _)) (pw_and1 (pt_cmpR op_notN1 (pv 8) pe_non (nomark _)))).pt (pss_one (ps_expr (pe_bm PySem.F.plainAttrs_list PySem.F.slot_list_append PySem.F.type_list_append mt_append (pv 5) (pa_cons (pe_tup (pa_cons pe_str (pa_cons (pv 8) (pa_cons (pe_tup pa_nil) (pa_cons (pe_tup (pa_cons (pe_tup (pa_cons pe_str (pa_cons (pe_ok O_atom (hr.mono (by omega)) (pa_cons (pv 0) (pa_cons (pv 2) (pa_cons pe_int pa_nil)))) pa_nil))) pa_nil)) pa_nil))))) pa_nil)))) pss_nil)
    (pss_one (ps_expr (pe_bm PySem.F.plainAttrs_list PySem.F.slot_list_append PySem.F.type_list_append mt_append (pv 5) (pa_cons (pe_tup (pa_cons pe_str (pa_cons (pe_ix (ix_listK (K := K)) (pe_lst (pa_cons (pv 7) (pa_cons (pv 8) (pa_cons pe_int pa_nil)))) (pe_op op_add (pe_callTy call_int1 (by rfl) A.int (by decide +kernel) (pa_cons (pe_cmpR op_isN1 (pv 7) pe_non (nomark _)) pa_nil)) (pe_callTy call_int1 (by rfl) A.int (by decide +kernel) (pa_cons (pe_and (pe_cmpR op_isN1 (pv 7) pe_non (nomark _)) (pe_one (pe_cmpR op_isN1 (pv 8) pe_non (nomark _)))) pa_nil))) (fun _ _ => rfl)) pa_nil))) pa_nil))))))) pss_nil)
    (pss_one (ps_ret (pe_callTy (call_tuple_ofK (K := K)) (by rfl) A.tuple (by decide +kernel) (pa_cons (pv 5) pa_nil)))))))), ?_⟩
    have one : ∀ {n : Nat}, n ≤ 10 → n ≤ sizeLine := fun h => small_of (by omega)
    walk_at "go"
    refine ⟨one (by simp), fun pf hn => ?_⟩
    walk_at "go"
    have np := G.nin hn
    -- after the loop
    refine ⟨fun σ' H' => ∃ u vs b nw lf', σ' = [some (.ref C.d), some (.ref C.w), some (.ref C.ar), some (.int m), some gv, some (.ref pf), u, none, none] ∧ Acc C lf tp H 0 (m + 2) pf H' vs b nw lf', ?_, ?_⟩
    · walk_at "go"
      refine g_draw (G.fr0 (Fr.new hn)) (by decide) (by decide) (fun j H1 j0 j1 G1 f1 => ?_)
      walk_at "go"
      refine ⟨_, rfl, by omega, by omega, ?_⟩
      have f1' : Fr C.fp H H1 := (Fr.new hn).trans ((G.fr0 (Fr.new hn)).fpd f1)
      have a1 : Acc C lf tp H 0 (m + 2) pf H1 [] [] [] lf :=
        (Acc.zero G hn (by omega) (Int.le_refl 0)).same G hn (by rw [List.append_nil]; exact G1) ((G.fr0 (Fr.new hn)).fpd f1)
      refine for_rng (fun i σ' H' => ∃ u vs b nw lf', σ' = [some (.ref C.d), some (.ref C.w), some (.ref C.ar), some (.int m), some gv, some (.ref pf), u, none, none] ∧ Acc C lf tp H 0 (m + 2) pf H' vs b nw lf')
        ⟨_, _, _, _, _, rfl, a1⟩ (fun σ' H' p => p) (fun i σ' H' hi ⟨u, vs, b, nw, lf', e, a⟩ => ?_)
      subst e
      have al := a.l4 lf0
      have al2 := a.l
      walk_at "go"
      refine ⟨_, _, rfl, kvl a.G.wd (wkv_left _ _), ?_⟩
      walk_at "go"
      refine i_dec (fun e => ?_) (fun e => ?_)
      · walk_at "go"
        refine ⟨ty_l a.e, ?_⟩
        walk_at "go"
        refine ⟨C, lf', tp ++ nw, rfl, by omega, a.G, by omega, by omega, fun H2 p ws c nw2 lf2 G2 f2 hp e2 bt2 g2 w2 l2 l42 d2 => ?_⟩
        obtain ⟨ee, a2⟩ := a.ext (cst2 := 0) G hn G2 f2 bt2 g2 (by omega) (by omega) (by omega) d2
        walk_at "go"
        refine g_extend ee e2 (small_of ?_) ?_
        · have := a2.len (by have := a2.l; omega)
          rw [List.length_append] at this; omega
        · walk_at "go"
          exact ⟨_, _, _, _, _, rfl, a2⟩
      · walk_at "go"
        exact ⟨_, _, _, _, _, rfl, a⟩
    · rintro σ' H' ⟨u, vs, b, nw, lf', rfl, a⟩
      have al := a.l4 lf0
      have al2 := a.l
      refine ⟨fun σ' H' => ∃ vs b nw, σ' = [some (.ref C.d), some (.ref C.w), some (.ref C.ar), some (.int m), some gv, some (.ref pf), u, none, none] ∧ Acc C lf tp H 3 (m + 2) pf H' vs b nw lf', ?_, ?_⟩
      · walk_at "go"
        refine ⟨by rcases hgv with rfl | rfl | rfl <;> rfl, ?_⟩
        walk_at "go"
        refine i_dec (fun e => ?_) (fun e => ?_)
        · walk_at "go"
          refine g_draw a.G (by decide) (by decide) (fun j H1 j0 j1 G1 f1 => ?_)
          have a := a.same G hn G1 (a.G.fpd f1)
          walk_at "go"
          refine i_dec (fun e2 => ?_) (fun e2 => ?_)
          · walk_at "go"
            refine ⟨ty_l a.e, ?_⟩
            walk_at "go"
            refine g_atom0 G1 (fun c H2 vc G2 f2 => ?_)
            walk_at "go"
            refine ⟨one (by simp), fun p3 n3 => ?_⟩
            walk_at "go"
            have f3 : Fr [] H2 (upd H2 p3 (.tup [.str "give", c.v])) := Fr.new n3
            have hw := wB_give c
            obtain ⟨ee, a2⟩ := a.add (st := .give c) (v := .ref p3) (nw2 := []) (cst2 := 3) (lf2 := lf') G hn (by rw [List.append_nil]; exact G2.fr0 f3) ((G1.fpd f2).trans f3.nil) (by simp only [SAt]; exact ⟨p3, rfl, upd_same⟩) (Good.use (us := c.nms) (by simp only [opsS]) vc) (by omega) (Int.le_refl _) id (by simp [depS])
            refine g_append ee (small_lt ?_) ?_
            · have := a2.len (by omega)
              simp only [List.length_append, List.length_cons, List.length_nil] at this ⊢; omega
            · walk_at "go"
              exact ⟨_, _, _, rfl, a2⟩
          · walk_at "go"
            exact ⟨_, _, _, rfl, a.more (by decide)⟩
        · refine i_f rfl ?_
          walk_at "go"
          exact ⟨_, _, _, rfl, a.more (by decide)⟩
      · clear a vs b nw
        rintro σ' H' ⟨vs, b, nw, rfl, a⟩
        refine ⟨fun σ' H' => ∃ u1 u2 vs b nw ex, σ' = [some (.ref C.d), some (.ref C.w), some (.ref C.ar), some (.int m), some gv, some (.ref pf), u, u1, u2] ∧ (gv ≠ .int 1 → ex = []) ∧ AccX C lf tp H 15 (m + 2) pf H' vs b nw lf' (tp ++ nw ++ ex), ?_, ?_⟩
        · walk_at "go"
          refine ⟨by rcases hgv with rfl | rfl | rfl <;> rfl, ?_⟩
          walk_at "go"
          refine i_dec (fun e => ?_) (fun e => ?_)
          · subst e
            walk_at "go"
            refine g_atomO a.G (fun oa H1 vo G1 f1 => ?_)
            have a := a.same G hn G1 (a.G.fpd f1)
            walk_at "go"
            refine g_named G1 (by decide) (by decide) (fun H2 G2 f2 => ?_) (fun H2 x hx nx G2 f2 => ?_)
            · have a := a.same G hn G2 f2
              walk_at "go"
              cases oa with
              | none =>
                refine i_t (by rfl) ?_
                walk_at "go"
                refine i_f (by rfl) ?_
                walk_at "go"
                refine ⟨ty_l a.e, ?_⟩
                walk_at "go"
                refine ⟨one (by simp), fun p3 n3 => ?_⟩
                walk_at "go"
                refine i_t (by rfl) ?_
                walk_at "go"
                refine g_ixL upd_same (v := (Atm.num 0).v) (by rfl) ?_
                walk_at "go"
                refine ⟨one (by simp), fun p4 n4 => ?_⟩
                walk_at "go"
                have hw := wB_give (Atm.num 0)
                obtain ⟨ee, a9⟩ := a.add0 (st := .give (Atm.num 0)) (v := .ref p4) (cst2 := 3) G hn (H2 := upd (upd _ p3 _) p4 (.tup [.str "give", (Atm.num 0).v])) (Fr.trans (Fr.new n3) (Fr.new n4)) (a.G.fr0 (Fr.trans (Fr.new n3) (Fr.new n4))) (by simp only [SAt]; exact ⟨p4, rfl, upd_same⟩) (Good.use (us := (Atm.num 0).nms) (by simp only [opsS]) (by simp [Atm.nms])) (by omega) (by simp [depS])
                refine g_append ee (small_lt ?_) ?_
                · have := a9.len (by omega)
                  simp only [List.length_append, List.length_cons, List.length_nil] at this ⊢; omega
                · walk_at "go"
                  exact ⟨_, _, _, _, nw, [], rfl, fun z => rfl, by rw [List.append_nil]; exact a9.more (by decide)⟩
              | some c =>
                have hd : decide (ov (some c) = V.non) = false := decide_eq_false (atm_ne c)
                refine i_f hd ?_
                refine i_f rfl ?_
                walk_at "go"
                refine ⟨ty_l a.e, ?_⟩
                walk_at "go"
                refine ⟨one (by simp), fun p3 n3 => ?_⟩
                walk_at "go"
                refine i_f hd ?_
                walk_at "go"
                rw [hd]
                refine g_ixL upd_same (v := (c).v) (by rfl) ?_
                walk_at "go"
                refine ⟨one (by simp), fun p4 n4 => ?_⟩
                walk_at "go"
                have hw := wB_give (c)
                obtain ⟨ee, a9⟩ := a.add0 (st := .give (c)) (v := .ref p4) (cst2 := 3) G hn (H2 := upd (upd _ p3 _) p4 (.tup [.str "give", (c).v])) (Fr.trans (Fr.new n3) (Fr.new n4)) (a.G.fr0 (Fr.trans (Fr.new n3) (Fr.new n4))) (by simp only [SAt]; exact ⟨p4, rfl, upd_same⟩) (Good.use (us := (c).nms) (by simp only [opsS]) vo) (by omega) (by simp [depS])
                refine g_append ee (small_lt ?_) ?_
                · have := a9.len (by omega)
                  simp only [List.length_append, List.length_cons, List.length_nil] at this ⊢; omega
                · walk_at "go"
                  exact ⟨_, _, _, _, nw, [], rfl, fun z => rfl, by rw [List.append_nil]; exact a9.more (by decide)⟩
            · walk_at "go"
              cases oa with
              | none =>
                refine i_t (by rfl) ?_
                walk_at "go"
                refine i_t (by rfl) ?_
                walk_at "go"
                refine ⟨ty_l (a.same G hn G2 f2).e, ?_⟩
                walk_at "go"
                refine ⟨one (by simp), fun q1 m1 => ?_⟩
                walk_at "go"
                have f3 : Fr [] H2 (upd H2 q1 (.tup [])) := Fr.new m1
                refine g_atom0 (G2.fr0 f3) (fun c H4 vc G4 f4 => ?_)
                walk_at "go"
                refine ⟨one (by simp), fun q2 m2 => ?_⟩
                walk_at "go"
                refine ⟨one (by simp), fun q3 m3 => ?_⟩
                walk_at "go"
                refine ⟨one (by simp), fun q4 m4 => ?_⟩
                walk_at "go"
                have f5 : Fr [] H4 (upd (upd (upd H4 q2 (.tup [.str "give", c.v])) q3 (.tup [.ref q2])) q4 (.tup [.str "fn", .str x, .ref q1, .ref q3])) := by walk_at "fr"
                have hw : wB [.fn x [] [.give c]] ≤ 7 := by rw [wB_fn]; have := wB_give c; simp only [List.length_nil]; omega
                have gd : Good C.names (C.vis (tp ++ nw)) [.fn x [] [.give c]] ([(x, (1 : Int))].map (·.1)) :=
                  Good.fn (hx := hx) (hp := by simp) (nb := []) (Good.use (us := c.nms) (by simp only [opsS]) fun z hz => by
                    have := vis_app (vc z hz)
                    simpa using this) (by simp) (by simp)
                obtain ⟨ee, a⟩ := a.add (st := .fn x [] [.give c]) (v := .ref q4) (nw2 := [(x, 1)]) (cst2 := 7) (lf2 := lf') G hn (G4.fr0 f5) (((f2.trans f3.nil).trans ((G2.fr0 f3).fpd f4)).trans f5.nil)
                  (by simp only [SAt]; exact ⟨q4, q1, q3, [.ref q2], rfl, by walk_at "at", by walk_at "at", by walk_at "at", BAt.one (by simp only [SAt]; exact ⟨q2, rfl, by walk_at "at"⟩)⟩) gd (by omega) (Int.le_refl _) id (by simp only [depS, depB]; exact Nat.le_trans (show _ ≤ 2 by decide) (by omega))
                refine g_append ee (small_lt ?_) ?_
                · have := a.len (by omega)
                  simp only [List.length_append, List.length_cons, List.length_nil] at this ⊢; omega
                walk_at "go"
                have hvx : x ∈ C.vis (tp ++ (nw ++ [(x, 1)])) := by
                  rw [← List.append_assoc]; exact vis_new (by simp)
                refine ⟨ty_l a.e, ?_⟩
                walk_at "go"
                refine ⟨one (by simp), fun p3 n3 => ?_⟩
                walk_at "go"
                refine i_t (by rfl) ?_
                walk_at "go"
                refine g_ixL upd_same (v := (Atm.nm x).v) (by rfl) ?_
                walk_at "go"
                refine ⟨one (by simp), fun p4 n4 => ?_⟩
                walk_at "go"
                have hw := wB_give (Atm.nm x)
                obtain ⟨ee, a9⟩ := a.add0 (st := .give (Atm.nm x)) (v := .ref p4) (cst2 := 3) G hn (H2 := upd (upd _ p3 _) p4 (.tup [.str "give", (Atm.nm x).v])) (Fr.trans (Fr.new n3) (Fr.new n4)) (a.G.fr0 (Fr.trans (Fr.new n3) (Fr.new n4))) (by simp only [SAt]; exact ⟨p4, rfl, upd_same⟩) (Good.use (us := (Atm.nm x).nms) (by simp only [opsS]) (fun z hz => by simp [Atm.nms] at hz; rw [hz]; exact hvx)) (by omega) (by simp [depS])
                refine g_append ee (small_lt ?_) ?_
                · have := a9.len (by omega)
                  simp only [List.length_append, List.length_cons, List.length_nil] at this ⊢; omega
                · walk_at "go"
                  exact ⟨_, _, _, _, (nw ++ [(x, 1)]), [], rfl, fun z => rfl, by rw [List.append_nil]; exact a9.more (by decide)⟩
              | some c =>
                have a := a.same G hn G2 f2
                have hd : decide (ov (some c) = V.non) = false := decide_eq_false (atm_ne c)
                refine i_f hd ?_
                refine i_f rfl ?_
                walk_at "go"
                refine ⟨ty_l a.e, ?_⟩
                walk_at "go"
                refine ⟨one (by simp), fun p3 n3 => ?_⟩
                walk_at "go"
                refine i_f hd ?_
                walk_at "go"
                rw [hd]
                refine g_ixL upd_same (v := (c).v) (by rfl) ?_
                walk_at "go"
                refine ⟨one (by simp), fun p4 n4 => ?_⟩
                walk_at "go"
                have hw := wB_give (c)
                obtain ⟨ee, a9⟩ := a.add0 (st := .give (c)) (v := .ref p4) (cst2 := 3) G hn (H2 := upd (upd _ p3 _) p4 (.tup [.str "give", (c).v])) (Fr.trans (Fr.new n3) (Fr.new n4)) (a.G.fr0 (Fr.trans (Fr.new n3) (Fr.new n4))) (by simp only [SAt]; exact ⟨p4, rfl, upd_same⟩) (Good.use (us := (c).nms) (by simp only [opsS]) vo) (by omega) (by simp [depS])
                refine g_append ee (small_lt ?_) ?_
                · have := a9.len (by omega)
                  simp only [List.length_append, List.length_cons, List.length_nil] at this ⊢; omega
                · walk_at "go"
                  exact ⟨_, _, _, _, nw, [(x, 1)], rfl, fun z => absurd (by rfl) z, a9.more (by decide)⟩
          · walk_at "go"
            exact ⟨_, _, _, _, nw, [], rfl, fun _ => rfl, by rw [List.append_nil]; exact a.more (by decide)⟩
        · rintro σ' H' ⟨u1, u2, vs, b, nw, ex, rfl, hex, a⟩
          walk_at "go"
          refine g_tupof a.e (fun p hp => ?_)
          have f := Fr.new (W := []) (o := .tup vs) hp
          exact mk _ p vs b nw ex lf' hex (a.G.fr0 f) (a.fr.trans f.nil) upd_same (a.bt.up f.tupLe) a.good (by have := a.w; omega) a.l a.l4 a.dep
end
end Fb
set_option Elab.async false
set_option linter.all false
set_option maxRecDepth 100000
set_option maxHeartbeats 4000000
namespace Fb
open PySem PySem.Spec PyProof.Rows L2
theorem cyc {names : List Str} {f t : Nat} (nd : names.Nodup) (hf : f ≤ names.length) (ht : t ≤ names.length) : (((names ++ names).drop f).take t).Nodup ∧ (((names ++ names).drop f).take t).length = t ∧ ∀ x ∈ ((names ++ names).drop f).take t, x ∈ names := by
  have e : (names ++ names).drop f = (names.drop f ++ names.take f) ++ names.drop f := by
    rw [List.drop_append_of_le_length hf, List.append_assoc, List.take_append_drop]
  have l : (names.drop f ++ names.take f).length = names.length := by simp; omega
  have n : (names.drop f ++ names.take f).Nodup := by
    have p : (names.drop f ++ names.take f).Perm names := (List.perm_append_comm).trans (by rw [List.take_append_drop])
    exact p.nodup_iff.mpr nd
  rw [e, List.take_append_of_le_length (by omega)]
  refine ⟨List.Nodup.sublist (List.take_sublist _ _) n, by rw [List.length_take, l]; omega, fun x hx => ?_⟩
  have := List.mem_of_mem_take hx
  rcases List.mem_append.mp this with h | h
  · exact List.mem_of_mem_drop h
  · exact List.mem_of_mem_take h
theorem cut_nat {xs : List V} {f t : Nat} (h : f + t ≤ xs.length) : cutV xs (some (f : Int)) (some ((f : Int) + (t : Int))) = (xs.drop f).take t := by
  unfold cutV
  have e : ((f : Int) + (t : Int)) = ((f + t : Nat) : Int) := by push_cast; rfl
  rw [e, HT.sIx_nat, HT.sIx_nat, Nat.min_eq_left (by omega), Nat.min_eq_left (by omega)]
  congr 1
  omega
section
variable {K : PySem.W.Frag} {H H' H2 : Hp} {C : GC} {lf lf' : Int} {tp tp2 : List (Str × Int)} {ar2 g2 : Addr}
theorem push_fr (f : Fr (C.push ar2 g2 tp).fp H2 H') (f0 : Fr C.fp H H2) (hg : H g2 = none) : Fr C.fp H H' := by
  refine ⟨fun b xs h => f.1 b xs (f0.1 b xs h), fun b o h n => f.2 b o (f0.2 b o h n) fun q => ?_⟩
  unfold GC.push GC.fp at q
  unfold GC.fp at n
  simp only [List.mem_cons, List.not_mem_nil, or_false, not_or] at q n
  rcases q with q | q | q | q
  · exact n.1 q
  · exact n.2.1 q
  · exact n.2.2.1 q
  · subst q; rw [hg] at h; cases h
theorem push_names : (C.push ar2 g2 tp).names = C.names := rfl
theorem push_vis {tp2 : List (Str × Int)} : (C.push ar2 g2 tp).vis tp2 = C.vis tp ++ tp2.map (·.1) := by
  unfold GC.push GC.vis
  simp only [List.flatMap_append, List.flatMap_cons, List.flatMap_nil, List.append_nil]
theorem nd_zip : ∀ {ns : List Str} {ks : List Int}, ns.length = ks.length → (ns.zip ks).map (·.1) = ns
  | [], _, _ => by simp
  | n :: ns, k :: ks, h => by rw [List.zip_cons_cons, List.map_cons, nd_zip (by simpa using h)]
  | n :: ns, [], h => by simp at h
theorem gr_zip {ts : List Addr} {ns : List Str} {ks : List Int} (h : Paired (fun t (q : V × V) => H t = some (.tup [q.1, q.2])) ts ((ns.map V.str).zip (ks.map V.int))) : Paired (fun t (p : Str × Int) => H t = some (.tup [.str p.1, .int p.2])) ts (ns.zip ks) := by
  induction ns generalizing ts ks with
  | nil => simp at h; cases h; simp; exact .nil
  | cons n ns ih =>
    cases ks with
    | nil => simp at h; cases h; simp; exact .nil
    | cons k ks =>
      simp only [List.map_cons, List.zip_cons_cons] at h ⊢
      cases h with
      | cons r t => exact .cons r (ih t)
theorem ok_zip {names ns : List Str} {ks : List Int} (nd : ns.Nodup) (hn : ∀ x ∈ ns, x ∈ names) (hl : ns.length = ks.length) (hk : ∀ k ∈ ks, k = 0 ∨ k = 1) : GrOk names (ns.zip ks) := by
  refine ⟨by rw [nd_zip hl]; exact nd, fun p hp => ?_⟩
  obtain ⟨h1, h2⟩ := List.of_mem_zip (a := p.1) (b := p.2) hp
  exact ⟨hn _ h1, by rcases hk _ h2 with h | h <;> omega, by rcases hk _ h2 with h | h <;> omega⟩
theorem gn_inner {H7 : Hp} {p7 p8 p9 : Addr} (G : Gn H C lf tp) (f7 : Fr [] H H7) (n7 : H p7 = none) (g7 : GrAt H7 p7 tp2) (ok : GrOk C.names tp2) (n8 : H7 p8 = none) (n9 : upd H7 p8 (.lst [.ref p7]) p9 = none) :
    Gn (upd (upd H7 p8 (.lst [.ref p7])) p9 (.lst ((C.go ++ [C.g]).map V.ref ++ [.ref p7]))) (C.push p9 p7 tp) lf tp2 ∧ Fr [] H (upd (upd H7 p8 (.lst [.ref p7])) p9 (.lst ((C.go ++ [C.g]).map V.ref ++ [.ref p7]))) ∧ p7 ∉ C.all ∧ p9 ∉ C.all ∧ p9 ≠ p7 ∧ Gn (upd (upd H7 p8 (.lst [.ref p7])) p9 (.lst ((C.go ++ [C.g]).map V.ref ++ [.ref p7]))) C lf tp := by
  have G7 := G.fr0 f7
  have G8 := G7.fr0 (Fr.new (o := .lst [.ref p7]) n8)
  have f9 : Fr [] H7 (upd (upd H7 p8 (.lst [.ref p7])) p9 (.lst ((C.go ++ [C.g]).map V.ref ++ [.ref p7]))) := (Fr.new n8).trans (Fr.new n9)
  have e9 : (upd (upd H7 p8 (.lst [.ref p7])) p9 (.lst ((C.go ++ [C.g]).map V.ref ++ [.ref p7]))) p9 = some (.lst ((C.go ++ [C.g] ++ [p7]).map V.ref)) := by rw [upd_same]; simp
  obtain ⟨ts, ht⟩ := g7.live
  have n79 : p7 ≠ p9 := ne_of_none (keep n8 ht) n9
  exact ⟨(G7.fr0 f9).push e9 (g7.fr f9 (by simp)) (G8.nin n9) (G.nin n7) n79 ok, f7.trans f9, G.nin n7, G8.nin n9, Ne.symm n79, G7.fr0 f9⟩
theorem gn_inner_at {H7 : Hp} {p8 : Addr} (G : Gn H C lf tp) (f7 : Fr [] H H7) (n8 : H7 p8 = none) {x : HO} : (upd H7 p8 x) C.ar = some (.lst ((C.go ++ [C.g]).map V.ref)) := ((G.fr0 f7).fr0 (Fr.new n8)).arl
theorem gr_nil {g : Addr} (h : H g = some (.lst [])) : GrAt H g [] := ⟨[], h, .nil⟩
theorem grok_nil {names : List Str} : GrOk names [] := ⟨by simp, by simp⟩
theorem nin_pushfp {p p7 p9 : Addr} (h : p ∉ C.all) (h7 : p ≠ p7) : p ∉ (C.push p9 p7 tp).fp := fun q => by
  unfold GC.push GC.fp at q
  simp only [List.mem_cons, List.not_mem_nil, or_false] at q
  rcases q with q | q | q | q
  · exact h (by rw [q]; unfold GC.all; simp)
  · exact h (by rw [q]; unfold GC.all; simp)
  · exact h (by rw [q]; unfold GC.all; simp)
  · exact h7 q
/-- a list of two statements, or of none -/
theorem Made.two {Q : VK} {p : Addr} {cst : Int} {dep : Nat} {s1 s2 : Stm} {nw : List (Str × Int)} {w1 w2 : V} {lf0 : Int} {tp0 : List (Str × Int)} (m : Made C lf tp H cst dep Q) (G : Gn H C lf0 tp0) (G' : Gn H' C lf' (tp ++ nw)) (f : Fr C.fp H H') (a1 : SAt H' s1 w1) (a2 : SAt H' s2 w2) (g : Good C.names (C.vis tp) [s1, s2] (nw.map (·.1))) (hw : (wB [s1] + wB [s2] : Int) ≤ cst + 50 * (lf - lf')) (hl : lf' ≤ lf) (h4 : -4 ≤ lf → -4 ≤ lf') (hd1 : 1 + depS s1 ≤ dep) (hd2 : 1 + depS s2 ≤ dep) (hp : H' p = none) :
    Q (.ref p) (upd H' p (.lst [w1, w2])) := by
  have f' : Fr [] H' (upd H' p (.lst [w1, w2])) := Fr.new hp
  refine m _ p [w1, w2] [s1, s2] nw lf' (G'.fr0 f') (f.trans f'.nil) (G.none f hp ⟨_, _, G'⟩) upd_same (BAt_cons.mpr ⟨w1, [w2], rfl, a1.up f'.tupLe, BAt.one (a2.up f'.tupLe)⟩) g ?_ hl h4 ?_
  · rw [wB_cons]; push_cast; omega
  · exact depB_le (fun s hs => by
      rcases List.mem_cons.mp hs with e | e
      · rw [e]; exact hd1
      · rw [List.mem_singleton.mp e]; exact hd2) (by omega)
theorem g_catA {Q : VK} {p q : Addr} {xs ys : List V} (h : H p = some (.tup xs)) (h2 : H q = some (.tup ys)) (z : xs.length + ys.length ≤ sizeLine) (k : ∀ r H', Fr [] H H' → H' r = some (.tup (xs ++ ys)) → Q (.ref r) H') : rCatA K (.ref p) (.ref q) H Q :=
  ⟨p, q, xs, ys, rfl, rfl, .inl (.of h), .inl (.of h2), z, fun e => k q H (Fr.refl _ _) (by rw [e]; exact h2), fun _ e => k p H (Fr.refl _ _) (by rw [e, List.append_nil]; exact h), fun _ _ r hr => k r _ (Fr.new hr) upd_same⟩
theorem g_rep01 {Q : VK} {p : Addr} {xs : List V} {j : Int} (h : H p = some (.tup xs)) (hx : xs ≠ []) (z : xs.length ≤ 1000) (hj : j = 0 ∨ j = 1) (k : ∀ r H', Fr [] H H' → H' r = some (.tup (if j = 1 then xs else [])) → Q (.ref r) H') : rRep01 K (.ref p) (.int j) H Q := by
  refine ⟨p, j, xs, rfl, rfl, .inl (.of h), hx, z, ?_⟩
  rcases hj with rfl | rfl
  · exact .inr ⟨rfl, fun r hr => k r _ (Fr.new hr) upd_same⟩
  · exact .inl ⟨rfl, k p H (Fr.refl _ _) h⟩
end
end Fb
set_option Elab.async false
set_option linter.all false
set_option maxRecDepth 100000
set_option maxHeartbeats 4000000
namespace Fb
open PySem PySem.Spec PyProof.Rows L2
local macro_rules | `(tactic| walk_at "go1") => `(tactic| first
  | with_reducible refine g_seq ?_
  | with_reducible refine g_asg ?_
  | with_reducible refine g_name ?_
  | ((with_reducible refine' g_var ?h1 ?_); (case h1 => rfl))
  | with_reducible refine g_c ?_
  | with_reducible refine g_op ?_
  | with_reducible refine g_un ?_
  | with_reducible refine g_rU ?_
  | with_reducible refine g_yes ?_
  | with_reducible refine g_isN ?_
  | with_reducible refine g_notN ?_
  | with_reducible refine g_int1 ?_
  | with_reducible refine g_I0 ?_
  | ((with_reducible refine' g_eq ?h1 ?_); (case h1 => rfl))
  | ((with_reducible refine' g_ne ?h1 ?_); (case h1 => rfl))
  | with_reducible refine g_test ?_
  | with_reducible refine g_tb ?_
  | with_reducible refine g_bl ?_
  | with_reducible refine g_drop ?_
  | with_reducible refine g_ret ?_
  | with_reducible refine g_if ?_
  | with_reducible refine g_ife ?_
  | with_reducible refine g_and ?_
  | with_reducible refine g_or ?_
  | with_reducible refine g_not ?_
  | with_reducible refine g_next ?_
  | with_reducible refine g_nil ?_
  | with_reducible refine g_cons ?_
  | with_reducible refine g_cb ?_
  | with_reducible refine g_call ?_
  | with_reducible refine g_tup ?_
  | with_reducible refine g_lst ?_
  | with_reducible refine g_dget ?_
  | with_reducible refine g_dput ?_
  | with_reducible refine g_bm ?_
  | with_reducible refine g_lc ?_
  | with_reducible refine g_for ?_
  | with_reducible refine g_il ?_
  | with_reducible refine g_rng1 ?_
  | with_reducible refine g_gsub ?_
  | with_reducible refine g_din ?_
  | with_reducible refine g_disp ?_
  | with_reducible refine g_pairs ?_
  | with_reducible refine g_pairs0 ?_
  | with_reducible refine g_sl ?_
  | with_reducible refine g_part ?_
  | with_reducible refine g_part1 ?_
  | with_reducible refine g_nopart ?_
  | with_reducible refine g_andV ?_
  | with_reducible refine g_orV ?_
  | with_reducible refine g_notV ?_
  | with_reducible refine g_itp ?_
  | with_reducible refine g_par ?_
  | with_reducible refine g_par1 ?_
  | with_reducible refine g_par3 ?_
  | with_reducible refine g_par31 ?_
  | with_reducible refine g_gname ?_
  | with_reducible refine g_gcons ?_
  | with_reducible refine g_gnil ?_
  | with_reducible refine g_bm0 ?_)
local macro_rules | `(tactic| walk_at "go") => `(tactic| repeat walk_at "go1")
local macro_rules | `(tactic| walk_at "at") => `(tactic| repeat first
  | assumption
  | exact upd_same
  | with_reducible refine keep (by assumption) ?_
  | with_reducible refine keep_ne (by assumption) ?_
  | with_reducible refine Fr.get0 (by assumption) ?_
  | with_reducible refine Fr.get (by assumption) ?_ (by assumption)
  | with_reducible refine Fr.tup (by assumption) ?_)
local macro_rules | `(tactic| walk_at "fr") => `(tactic| repeat first
  | assumption
  | exact Fr.refl _ _
  | with_reducible refine Fr.trans ?_ (Fr.new (by assumption))
  | with_reducible refine Fr.trans ?_ (Fr.nil (by assumption))
  | with_reducible refine Fr.trans ?_ (by assumption))
local macro_rules | `(tactic| walk_at "gn") => `(tactic| repeat first
  | assumption
  | with_reducible refine Gn.fr0 ?_ (Fr.new (by assumption))
  | with_reducible refine Gn.fr0 ?_ (by assumption))
local macro_rules | `(tactic| walk_at "bt") => `(tactic| repeat first
  | assumption
  | with_reducible refine BAt.up (Fr.new (W := []) (by assumption)).1 _ _ ?_
  | with_reducible refine SAt.up (Fr.new (W := []) (by assumption)).1 _ _ ?_
  | with_reducible refine BAt.up (Fr.tupLe (by assumption)) _ _ ?_
  | with_reducible refine SAt.up (Fr.tupLe (by assumption)) _ _ ?_)
section
variable {P : Program} {w : World} {K : PySem.W.Frag} {mg : Str → Option Value} {base : Heap}
theorem sc_law_fn : FnScope ["_law_deal_here", "_law_world", "_law_around", "_law_deep", "_law_kind", "_law_x", "_law_first", "_law_takes_here", "_law_gives", "_law_names", "_law_block_here"] ["_law_deal_here", "_law_world", "_law_around", "_law_deep"] (defScope (topS 19)) := ⟨rfl, rfl, rfl, by decide +kernel, rfl, by decide +kernel, by decide +kernel⟩
theorem ok_fn (A : All K mg) {m k : Nat} (hk : 3 ≤ k) (O_block : Ok P w K mg base CX0 k "_law_block" ["_law_deal_here", "_law_world", "_law_around", "_law_deep", "_law_gives"] (spBlk m)) : Ok P w K mg base CX0 (k + 1) "_law_fn" ["_law_deal_here", "_law_world", "_law_around", "_law_deep"] (spFn m) := by
  have O_draw : Ok P w K mg base CX0 1 "_law_draw" ["_law_deal_here", "_law_many"] spDraw := ok_draw A
  have O_named : Ok P w K mg base CX0 2 "_law_named" ["_law_deal_here", "_law_world", "_law_around", "_law_kind"] spNamed := ok_named A
  have O_takes : Ok P w K mg base CX0 1 "_law_takes" ["_law_kind"] spTakes := ok_takes A
  refine ok_of0 A.fn sc_law_fn (fun _ _ _ _ _ _ us hl => match us, hl with | [_, _, _, _], _ => rfl) (fun vs H Q E h => ?_) (fun f cdv Ar outer s H vs Q E hr h => ?_)
  · obtain ⟨_, _, _, rfl, _⟩ := h; rfl
  · obtain ⟨C, lf, tp, rfl, m1, gb, G, lf0, lf1, mk⟩ := h
    refine ⟨_, (pss_cons (ps_set (i := 4) sc_law_fn.nd rfl (Or.inl rfl) (pe_op op_add pe_int (pe_ok O_draw (hr.mono (by omega)) (pa_cons (pv 0) (pa_cons pe_int pa_nil)))))
    (pss_cons (ps_dput (hu_of hr) (pv 1) pe_str (pe_op op_sub (pe_dget (hu_of hr) (pv 1) pe_str (fun _ _ => rfl)) pe_int) rfl)
    (Evl.pss_cut (ps_par (i := 5) (j := 6) rfl sc_law_fn.nd rfl rfl (by decide) rfl rfl (pa_cons (pe_ok O_named (hr.mono (by omega)) (pa_cons (pv 0) (pa_cons (pv 1) (pa_cons (pv 2) (pa_cons (pv 4) pa_nil))))) (pa_cons (pe_ok O_draw (hr.mono (by omega)) (pa_cons (pv 0) (pa_cons (pe_callB call_len_seq (by rfl) A.len boot_len (pa_cons (pe_dget (hu_of hr) (pv 1) pe_str (fun _ _ => rfl)) pa_nil)) pa_nil))) pa_nil)) (by rfl))
    (pss_cons (ps_asg (pe_ok O_takes (hr.mono (by omega)) (pa_cons (pv 4) pa_nil)) (pg_tupK (K := K) (n := 2) rfl (pgs_cons (pg_name (i := 7) sc_law_fn.nd rfl (Or.inl rfl)) (pgs_cons (pg_name (i := 8) sc_law_fn.nd rfl (Or.inl rfl)) pgs_nil))))
    (pss_cons (ps_set (i := 9) sc_law_fn.nd rfl (Or.inl rfl) (pe_slice sl_list (pe_op op_rep (pe_dget (hu_of hr) (pv 1) pe_str (fun _ _ => rfl)) pe_int) (po_some (pv 6)) (po_some (pe_op op_add (pv 6) (pe_callB call_len_seq (by rfl) A.len boot_len (pa_cons (pv 7) pa_nil))))))
    (pss_cons (ps_set (i := 10) sc_law_fn.nd rfl (Or.inl rfl) (pe_ok O_block (hr.mono (by omega)) (pa_cons (pv 0) (pa_cons (pv 1) (pa_cons (pe_op op_cat (pv 2) (pe_lst (pa_cons (pe_listzip (K := K) (by rfl) A.list (by rfl) A.zip (pa_cons (pv 9) (pa_cons (pv 7) pa_nil))) pa_nil))) (pa_cons (pe_op op_sub (pv 3) pe_int) (pa_cons (pv 8) pa_nil)))))))
    (pss_one (ps_ret (pe_op op_rep (pe_lst (pa_cons (pe_tup (pa_cons pe_str (pa_cons (pv 5) (pa_cons (pe_callTy (call_tuple_ofK (K := K)) (by rfl) A.tuple (by decide +kernel) (pa_cons (pv 9) pa_nil)) (pa_cons (pv 10) pa_nil))))) pa_nil)) (pe_callTy call_int1 (by rfl) A.int (by decide +kernel) (pa_cons (pe_cmpR op_notN1 (pv 5) pe_non (nomark _)) pa_nil))))))))))), ?_⟩
    have one : ∀ {n : Nat}, n ≤ 10 → n ≤ sizeLine := fun h => small_of (by omega)
    have hnz := G.nz
    walk_at "go"
    refine g_draw G (by decide) (by decide) (fun j H1 j0 j1 G1 f1 => ?_)
    walk_at "go"
    refine ⟨_, _, rfl, kvl G1.wd (wkv_left _ _), ?_⟩
    walk_at "go"
    refine ⟨_, _, rfl, kvp G1.wd (by show 2 < sizeLine; decide), ?_⟩
    rw [wkv_pleft]
    obtain ⟨G2, f2⟩ := G1.setLeft (lf - 4)
    have f12 := (G.fpd f1).trans f2
    generalize upd H1 C.w (.dK (wkv C.nl (lf - 4))) = H2 at *
    refine ⟨fun σ' H' => ∃ (tpx : List (Str × Int)) (xv : V) (i : Int), σ' = [some (.ref C.d), some (.ref C.w), some (.ref C.ar), some (.int m), some (.int (1 + j)), some xv, some (.int i), none, none, none, none] ∧ Gn H' C (lf - 4) tpx ∧ Fr C.fp H H' ∧ 0 ≤ i ∧ i < C.names.length ∧ ((xv = .non ∧ tpx = tp) ∨ ∃ x, xv = .str x ∧ tpx = tp ++ [(x, 1 + j)]), ?_, ?_⟩
    · walk_at "go"
      refine g_named G2 (by omega) (by omega) (fun H3 G3 f3 => ?_) (fun H3 x hx nx G3 f3 => ?_)
      · walk_at "go"
        refine ⟨_, _, rfl, kvl G3.wd (wkv_names _ _), ?_⟩
        walk_at "go"
        refine g_len G3.nm ?_
        walk_at "go"
        refine g_draw G3 (by simp; omega) (by simp; omega) (fun i H4 i0 i1 G4 f4 => ?_)
        walk_at "go"
        exact ⟨tp, .non, i, rfl, G4, (f12.trans f3).trans (G3.fpd f4), i0, by simpa using i1, .inl ⟨rfl, rfl⟩⟩
      · walk_at "go"
        refine ⟨_, _, rfl, kvl G3.wd (wkv_names _ _), ?_⟩
        walk_at "go"
        refine g_len G3.nm ?_
        walk_at "go"
        refine g_draw G3 (by simp; omega) (by simp; omega) (fun i H4 i0 i1 G4 f4 => ?_)
        walk_at "go"
        exact ⟨_, .str x, i, rfl, G4, (f12.trans f3).trans (G3.fpd f4), i0, by simpa using i1, .inr ⟨x, rfl, rfl⟩⟩
    · rintro σ' H3 ⟨tpx, xv, i, rfl, G3, f3, i0, i1, hx⟩
      walk_at "go"
      refine ⟨1 + j, rfl, by omega, by omega, fun H4 p4 q4 ks gv f4 e4 e4q kl kx gx => ?_⟩
      have G4 := G3.fr0 f4
      walk_at "go"
      refine g_gtup e4 rfl ?_
      walk_at "go"
      refine ⟨_, _, rfl, kvl G4.wd (wkv_names _ _), ?_⟩
      walk_at "go"
      refine ⟨_, 2, _, rfl, rfl, G4.nm, by decide, by decide, small_of (by simp; omega), fun p5 n5 => ?_⟩
      walk_at "go"
      refine g_lenT (keep n5 e4q) ?_
      walk_at "go"
      obtain ⟨fi, rfl⟩ : ∃ fi : Nat, i = (fi : Int) := ⟨i.toNat, by omega⟩
      obtain ⟨z1, z2, z3⟩ := cyc (names := C.names) (f := fi) (t := ks.length) G.nn (by omega) (by omega)
      have hcut : cutV ((List.replicate (2 : Int).toNat (C.names.map V.str)).flatten) (some (fi : Int)) (some ((fi : Int) + ((ks.map V.int).length : Int))) = (((C.names ++ C.names).drop fi).take ks.length).map V.str := by
        have e : (List.replicate (2 : Int).toNat (C.names.map V.str)).flatten = (C.names ++ C.names).map V.str := by simp [List.replicate]
        rw [e, List.length_map, cut_nat (by simp; omega), List.map_take, List.map_drop]
      refine ⟨p5, _, rfl, .inl (.of upd_same), fun p6 n6 => ?_⟩
      rw [hcut]
      generalize hns : ((C.names ++ C.names).drop fi).take ks.length = ns at *
      walk_at "go"
      have f6 : Fr [] H4 (upd (upd H4 p5 (.lst (List.replicate (2 : Int).toNat (C.names.map V.str)).flatten)) p6 (.lst (ns.map V.str))) := by walk_at "fr"
      have e6 : (upd (upd H4 p5 (.lst (List.replicate (2 : Int).toNat (C.names.map V.str)).flatten)) p6 (.lst (ns.map V.str))) p6 = some (.lst (ns.map V.str)) := upd_same
      have n6' : p6 ∉ C.all := (G4.fr0 (Fr.new n5)).nin n6
      have n6h : H4 p6 = none := Fr.none (Fr.new n5) n6
      generalize upd (upd H4 p5 (.lst (List.replicate (2 : Int).toNat (C.names.map V.str)).flatten)) p6 (.lst (ns.map V.str)) = H6 at *
      have G6 := G4.fr0 f6
      refine ⟨p6, q4, _, _, rfl, .inl (.inl (.of e6)), .inl (.of (f6.tup e4q)), fun H7 p7 ts k7 n7 e7 pr7 => ?_⟩
      have f7 : Fr [] H6 H7 := ⟨fun b xs h => k7 _ _ h, fun b o h _ => k7 _ _ h⟩
      have G7 := G6.fr0 f7
      walk_at "go"
      refine ⟨one (by simp), fun p8 n8 => ?_⟩
      have G8 := G7.fr0 (Fr.new (o := .lst [.ref p7]) n8)
      refine g_cat G8.arl upd_same (small_of (by simp; omega)) (fun p9 n9 => ?_)
      walk_at "go"
      have f9 : Fr [] H7 (upd (upd H7 p8 (.lst [.ref p7])) p9 (.lst ((C.go ++ [C.g]).map V.ref ++ [.ref p7]))) := by walk_at "fr"
      have e9 : (upd (upd H7 p8 (.lst [.ref p7])) p9 (.lst ((C.go ++ [C.g]).map V.ref ++ [.ref p7]))) p9 = some (.lst ((C.go ++ [C.g] ++ [p7]).map V.ref)) := by rw [upd_same]; simp
      have n7p : p7 ∉ C.all := G6.nin n7
      have n9p : p9 ∉ C.all := G8.nin n9
      have n79 : p7 ≠ p9 := ne_of_none (keep n8 e7) n9
      have f39 : Fr C.fp H3 (upd (upd H7 p8 (.lst [.ref p7])) p9 (.lst ((C.go ++ [C.g]).map V.ref ++ [.ref p7]))) := ((f4.trans f6).trans (f7.trans f9)).nil
      generalize upd (upd H7 p8 (.lst [.ref p7])) p9 (.lst ((C.go ++ [C.g]).map V.ref ++ [.ref p7])) = H9 at *
      have G9 := G7.fr0 f9
      have G9p : Gn H9 (C.push p9 p7 tpx) (lf - 4) (ns.zip ks) := G9.push e9 ⟨ts, f9.get0 e7, gr_zip (Paired.imp' pr7 fun _ _ _ z => f9.tup z)⟩ n9p n7p n79 (ok_zip z1 z3 z2 kx)
      refine ⟨C.push p9 p7 tpx, lf - 4, ns.zip ks, .int gv, rfl, m1, by rcases gx with rfl | rfl <;> simp, by unfold GC.push; simp; omega, G9p, by omega, by omega, fun H10 pb vs b nb ex lf10 hex G10 f10 eb bt gd w10 l10 l4 d10 => ?_⟩
      have G10c : Gn H10 C lf10 tpx := G9.pop (tp2 := []) G10 f10 n9p n7p
      have f310 : Fr C.fp H3 H10 := push_fr f10 f39 (Fr.none (f4.trans f6) n7)
      have e10 : H10 p6 = some (.lst (ns.map V.str)) := f10.get (f9.get0 (f7.get0 e6)) (fun q => by
        unfold GC.push GC.fp at q
        simp only [List.mem_cons, List.not_mem_nil, or_false] at q
        rcases q with q | q | q | q
        · exact n6' (by rw [q]; unfold GC.all; simp)
        · exact n6' (by rw [q]; unfold GC.all; simp)
        · exact n6' (by rw [q]; unfold GC.all; simp)
        · exact ne_of_none e6 n7 q)
      rw [push_names, push_vis, nd_zip z2] at gd
      have hdis : ∀ y ∈ nb.map (·.1), y ∉ ns := fun y hy hz => by
        have := G10.tok.1
        rw [List.map_append, List.map_append, nd_zip z2, List.nodup_append] at this
        exact (List.nodup_append.mp this.1).2.2 y hz y hy rfl
      walk_at "go"
      refine g_tupof e10 (fun q1 m1 => ?_)
      walk_at "go"
      refine ⟨one (by simp), fun q2 m2 => ?_⟩
      walk_at "go"
      refine ⟨one (by simp), fun q3 m3 => ?_⟩
      walk_at "go"
      refine g_rep upd_same (one (by simp)) (fun q5 m5 => ?_)
      rcases hx with ⟨rfl, rfl⟩ | ⟨x, rfl, rfl⟩
      · rw [if_neg (by simp)]
        have fz : Fr [] H10 (upd (upd (upd H10 q1 (.tup (ns.map V.str))) q2 (.tup [.str "fn", .non, .ref q1, .ref pb])) q3 (.lst [.ref q2])) := by walk_at "fr"
        exact Made.zero (lf' := lf10) mk G (G10c.fr0 fz) ((f3.trans f310).trans fz.nil) (by omega) l10 l4 (by omega) m5
      · rw [if_pos (by simp)]
        have fz : Fr [] H10 (upd (upd (upd H10 q1 (.tup (ns.map V.str))) q2 (.tup [.str "fn", .str x, .ref q1, .ref pb])) q3 (.lst [.ref q2])) := by walk_at "fr"
        have hw := wB_fn x ns b
        have hkl : ns.length ≤ 4 := by omega
        refine Made.one (st := .fn x ns b) (nw := [(x, 1 + j)]) (lf' := lf10) mk G (G10c.fr0 fz) ((f3.trans f310).trans fz.nil) ?_ ?_ (by omega) l10 l4 (by simp only [depS]; omega) m5
        · simp only [SAt]
          exact ⟨q2, q1, pb, vs, rfl, by walk_at "at", by walk_at "at", fz.tup eb, bt.up fz.tupLe⟩
        · refine Good.fn (hx := (G3.tok.2 (x, 1 + j) (by simp)).1) (hp := z3) (nb := nb.map (·.1)) (gd.mono fun y hy => ?_) z1 hdis
          rcases List.mem_append.mp hy with h | h
          · have := vis_app h
            simp only [List.map_cons, List.map_nil] at this
            exact List.mem_append_left _ this
          · exact List.mem_append_right _ h
end
end Fb
set_option Elab.async false
set_option linter.all false
set_option maxRecDepth 100000
set_option maxHeartbeats 4000000
namespace Fb
open PySem PySem.Spec PyProof.Rows L2
local macro_rules | `(tactic| walk_at "go1") => `(tactic| first
  | with_reducible refine g_seq ?_
  | with_reducible refine g_asg ?_
  | with_reducible refine g_name ?_
  | ((with_reducible refine' g_var ?h1 ?_); (case h1 => rfl))
  | with_reducible refine g_c ?_
  | with_reducible refine g_op ?_
  | with_reducible refine g_un ?_
  | with_reducible refine g_rU ?_
  | with_reducible refine g_yes ?_
  | with_reducible refine g_isN ?_
  | with_reducible refine g_notN ?_
  | with_reducible refine g_int1 ?_
  | with_reducible refine g_I0 ?_
  | ((with_reducible refine' g_eq ?h1 ?_); (case h1 => rfl))
  | ((with_reducible refine' g_ne ?h1 ?_); (case h1 => rfl))
  | with_reducible refine g_test ?_
  | with_reducible refine g_tb ?_
  | with_reducible refine g_bl ?_
  | with_reducible refine g_drop ?_
  | with_reducible refine g_ret ?_
  | with_reducible refine g_if ?_
  | with_reducible refine g_ife ?_
  | with_reducible refine g_and ?_
  | with_reducible refine g_or ?_
  | with_reducible refine g_not ?_
  | with_reducible refine g_next ?_
  | with_reducible refine g_nil ?_
  | with_reducible refine g_cons ?_
  | with_reducible refine g_cb ?_
  | with_reducible refine g_call ?_
  | with_reducible refine g_tup ?_
  | with_reducible refine g_lst ?_
  | with_reducible refine g_dget ?_
  | with_reducible refine g_dput ?_
  | with_reducible refine g_bm ?_
  | with_reducible refine g_lc ?_
  | with_reducible refine g_for ?_
  | with_reducible refine g_il ?_
  | with_reducible refine g_rng1 ?_
  | with_reducible refine g_gsub ?_
  | with_reducible refine g_din ?_
  | with_reducible refine g_disp ?_
  | with_reducible refine g_pairs ?_
  | with_reducible refine g_pairs0 ?_
  | with_reducible refine g_sl ?_
  | with_reducible refine g_part ?_
  | with_reducible refine g_part1 ?_
  | with_reducible refine g_nopart ?_
  | with_reducible refine g_andV ?_
  | with_reducible refine g_orV ?_
  | with_reducible refine g_notV ?_
  | with_reducible refine g_itp ?_
  | with_reducible refine g_par ?_
  | with_reducible refine g_par1 ?_
  | with_reducible refine g_par3 ?_
  | with_reducible refine g_par31 ?_
  | with_reducible refine g_gname ?_
  | with_reducible refine g_gcons ?_
  | with_reducible refine g_gnil ?_
  | with_reducible refine g_bm0 ?_)
local macro_rules | `(tactic| walk_at "go") => `(tactic| repeat walk_at "go1")
local macro_rules | `(tactic| walk_at "at") => `(tactic| repeat first
  | assumption
  | exact upd_same
  | with_reducible refine keep (by assumption) ?_
  | with_reducible refine keep_ne (by assumption) ?_
  | with_reducible refine Fr.get0 (by assumption) ?_
  | with_reducible refine Fr.get (by assumption) ?_ (by assumption)
  | with_reducible refine Fr.tup (by assumption) ?_)
local macro_rules | `(tactic| walk_at "fr") => `(tactic| repeat first
  | assumption
  | exact Fr.refl _ _
  | with_reducible refine Fr.trans ?_ (Fr.new (by assumption))
  | with_reducible refine Fr.trans ?_ (Fr.nil (by assumption))
  | with_reducible refine Fr.trans ?_ (by assumption))
local macro_rules | `(tactic| walk_at "gn") => `(tactic| repeat first
  | assumption
  | with_reducible refine Gn.fr0 ?_ (Fr.new (by assumption))
  | with_reducible refine Gn.fr0 ?_ (by assumption))
local macro_rules | `(tactic| walk_at "bt") => `(tactic| repeat first
  | assumption
  | with_reducible refine BAt.up (Fr.new (W := []) (by assumption)).1 _ _ ?_
  | with_reducible refine SAt.up (Fr.new (W := []) (by assumption)).1 _ _ ?_
  | with_reducible refine BAt.up (Fr.tupLe (by assumption)) _ _ ?_
  | with_reducible refine SAt.up (Fr.tupLe (by assumption)) _ _ ?_)
section
variable {P : Program} {w : World} {K : PySem.W.Frag} {mg : Str → Option Value} {base : Heap}
theorem sc_law_loop : FnScope ["_law_deal_here", "_law_world", "_law_around", "_law_deep", "_law_x", "_law_many", "_law_mode", "_law_a", "_law_block_here", "_law_c", "_law_inner", "_law_d", "_law_name", "_law_kind", "_law_less"] ["_law_deal_here", "_law_world", "_law_around", "_law_deep"] (defScope (topS 20)) := ⟨rfl, rfl, rfl, by decide +kernel, rfl, by decide +kernel, by decide +kernel⟩
theorem ok_loop (A : All K mg) {m k : Nat} (hk : 3 ≤ k) (O_block : Ok P w K mg base CX0 k "_law_block" ["_law_deal_here", "_law_world", "_law_around", "_law_deep", "_law_gives"] (spBlk m)) : Ok P w K mg base CX0 (k + 1) "_law_loop" ["_law_deal_here", "_law_world", "_law_around", "_law_deep"] (spLoop m) := by
  have O_draw : Ok P w K mg base CX0 1 "_law_draw" ["_law_deal_here", "_law_many"] spDraw := ok_draw A
  have O_named : Ok P w K mg base CX0 2 "_law_named" ["_law_deal_here", "_law_world", "_law_around", "_law_kind"] spNamed := ok_named A
  have O_atom : Ok P w K mg base CX0 2 "_law_atom" ["_law_deal_here", "_law_around", "_law_kind"] spAtom := ok_atom A
  refine ok_of0 A.loop sc_law_loop (fun _ _ _ _ _ _ us hl => match us, hl with | [_, _, _, _], _ => rfl) (fun vs H Q E h => ?_) (fun f cdv Ar outer s H vs Q E hr h => ?_)
  · obtain ⟨_, _, _, rfl, _⟩ := h; rfl
  · obtain ⟨C, lf, tp, rfl, m1, gb, G, lf0, lf1, mk⟩ := h
    refine ⟨_, (pss_cons (ps_par (i := 4) (j := 5) rfl sc_law_loop.nd rfl rfl (by decide) rfl rfl (pa_cons (pe_ix (ix_listK (K := K)) (pe_dget (hu_of hr) (pv 1) pe_str (fun _ _ => rfl)) (pe_ok O_draw (hr.mono (by omega)) (pa_cons (pv 0) (pa_cons (pe_callB call_len_seq (by rfl) A.len boot_len (pa_cons (pe_dget (hu_of hr) (pv 1) pe_str (fun _ _ => rfl)) pa_nil)) pa_nil))) (fun _ _ => rfl)) (pa_cons (pe_ok O_draw (hr.mono (by omega)) (pa_cons (pv 0) (pa_cons pe_int pa_nil))) pa_nil)) (by rfl))
    (Evl.pss_cut (ps_set (i := 6) sc_law_loop.nd rfl (Or.inl rfl) (pe_ix (ix_listK (K := K)) (pe_lst (pa_cons pe_str (pa_cons pe_str (pa_cons pe_str pa_nil)))) (pe_ok O_draw (hr.mono (by omega)) (pa_cons (pv 0) (pa_cons pe_int pa_nil))) (fun _ _ => rfl)))
    (pss_cons (ps_if (pw_and (pt_cmpR op_eq (pv 6) pe_str (nomark _)) (pw_and1 (pt_cmpR op_eq (pe_ok O_draw (hr.mono (by omega)) (pa_cons (pv 0) (pa_cons pe_int pa_nil))) pe_int (nomark _)))).pt (pss_cons (ps_set (i := 7) sc_law_loop.nd rfl (Or.inl rfl) (pe_ok O_atom (hr.mono (by omega)) (pa_cons (pv 0) (pa_cons (pv 2) (pa_cons (pe_ix (ix_listK (K := K)) (pe_lst (pa_cons pe_int (pa_cons pe_int (pa_cons pe_int (pa_cons pe_int pa_nil))))) (pe_ok O_draw (hr.mono (by omega)) (pa_cons (pv 0) (pa_cons pe_int pa_nil))) (fun _ _ => rfl)) pa_nil)))))
    (pss_cons (ps_set (i := 8) sc_law_loop.nd rfl (Or.inl rfl) (pe_ok O_block (hr.mono (by omega)) (pa_cons (pv 0) (pa_cons (pv 1) (pa_cons (pe_op op_cat (pv 2) (pe_lst (pa_cons (pe_lst pa_nil) pa_nil))) (pa_cons (pe_op op_sub (pv 3) pe_int) (pa_cons pe_non pa_nil)))))))
    (pss_one (ps_ret (pe_lst (pa_cons (pe_tup (pa_cons pe_str (pa_cons (pe_ix (ix_listK (K := K)) (pe_lst (pa_cons (pv 7) (pa_cons pe_int pa_nil))) (pe_callTy call_int1 (by rfl) A.int (by decide +kernel) (pa_cons (pe_cmpR op_isN1 (pv 7) pe_non (nomark _)) pa_nil)) (fun _ _ => rfl)) (pa_cons (pe_op (op_catAK (K := K)) (pv 8) (pe_op (op_rep01 (K := K)) (pe_tup (pa_cons (pe_tup (pa_cons pe_str (pa_cons pe_int pa_nil))) pa_nil)) (pe_ok O_draw (hr.mono (by omega)) (pa_cons (pv 0) (pa_cons pe_int pa_nil))))) pa_nil)))) pa_nil)))))) pss_nil)
    (pss_cons (ps_if (pt_cmpR op_eq (pv 6) pe_str (nomark _)) (pss_cons (ps_set (i := 9) sc_law_loop.nd rfl (Or.inl rfl) (pe_ok O_named (hr.mono (by omega)) (pa_cons (pv 0) (pa_cons (pv 1) (pa_cons (pv 2) (pa_cons pe_int pa_nil))))))
    (pss_cons (ps_set (i := 10) sc_law_loop.nd rfl (Or.inl rfl) (pe_op op_cat (pv 2) (pe_lst (pa_cons (pe_lst pa_nil) pa_nil))))
    (pss_cons (ps_set (i := 8) sc_law_loop.nd rfl (Or.inl rfl) (pe_ok O_block (hr.mono (by omega)) (pa_cons (pv 0) (pa_cons (pv 1) (pa_cons (pv 10) (pa_cons (pe_op op_sub (pv 3) pe_int) (pa_cons pe_non pa_nil)))))))
    (pss_cons (ps_set (i := 11) sc_law_loop.nd rfl (Or.inl rfl) (pe_ok O_named (hr.mono (by omega)) (pa_cons (pv 0) (pa_cons (pv 1) (pa_cons (pv 10) (pa_cons pe_int pa_nil))))))
    (pss_cons (ps_if (pw_or (pt_cmpR op_isN1 (pv 9) pe_non (nomark _)) (pw_or (pt_cmpR op_isN1 (pv 11) pe_non (nomark _)) (pw_or1 (pt_cmpR (op_inK (K := K)) (pv 9) (pe_lc (own := [("_law_name", 12), ("_law_kind", 13)]) (by rfl) sc_law_loop.nd (pi_list (pe_ix (ix_listK (K := K)) (pv 10) (pe_un un_neg pe_int) (fun _ _ => rfl))) (blkOk_by (own := [("_law_name", 12), ("_law_kind", 13)]) (N := ["_law_deal_here", "_law_world", "_law_around", "_law_deep", "_law_x", "_law_many", "_law_mode", "_law_a", "_law_block_here", "_law_c", "_law_inner", "_law_d", "_law_name", "_law_kind", "_law_less"]) (sc := defScope (topS 20)) (by decide +kernel)) (fun _ _ _ _ _ => (pg_tupK (K := K) (n := 2) rfl (pgs_cons (pg_nameL (i := 12) sc_law_loop.nd rfl rfl) (pgs_cons (pg_nameL (i := 13) sc_law_loop.nd rfl rfl) pgs_nil)))) (fun _ _ _ _ _ => pts_nil) (fun _ _ _ _ _ => (pv 12))) rfl)))).pt (pss_one (ps_ret (pe_op op_rep (pe_lst (pa_cons (pe_tup (pa_cons pe_str (pa_cons (pv 9) (pa_cons (pv 5) pa_nil)))) (pa_cons (pe_tup (pa_cons pe_str (pa_cons (pv 9) (pa_cons (pv 8) (pa_cons (pe_tup pa_nil) pa_nil))))) pa_nil))) (pe_callTy call_int1 (by rfl) A.int (by decide +kernel) (pa_cons (pe_cmpR op_notN1 (pv 9) pe_non (nomark _)) pa_nil))))) pss_nil)
    (pss_cons (ps_set (i := 14) sc_law_loop.nd rfl (Or.inl rfl) (pe_tup (pa_cons (pe_tup (pa_cons pe_str (pa_cons (pv 11) (pa_cons pe_str (pa_cons (pv 9) (pa_cons pe_int pa_nil)))))) (pa_cons (pe_tup (pa_cons pe_str (pa_cons (pv 9) (pa_cons (pv 11) pa_nil)))) pa_nil))))
    (pss_one (ps_ret (pe_lst (pa_cons (pe_tup (pa_cons pe_str (pa_cons (pv 9) (pa_cons (pv 5) pa_nil)))) (pa_cons (pe_tup (pa_cons pe_str (pa_cons (pv 9) (pa_cons (pe_ix (ix_listK (K := K)) (pe_lst (pa_cons (pe_op (op_catAK (K := K)) (pv 8) (pv 14)) (pa_cons (pe_op (op_catAK (K := K)) (pv 14) (pv 8)) pa_nil))) (pe_ok O_draw (hr.mono (by omega)) (pa_cons (pv 0) (pa_cons pe_int pa_nil))) (fun _ _ => rfl)) pa_nil)))) pa_nil))))))))))) pss_nil)
    (pss_cons (ps_set (i := 7) sc_law_loop.nd rfl (Or.inl rfl) (pv 5))
    (Evl.pss_cut (ps_if (pt_cmpR op_eq (pe_ok O_draw (hr.mono (by omega)) (pa_cons (pv 0) (pa_cons pe_int pa_nil))) pe_int (nomark _)) (pss_one (ps_set (i := 7) sc_law_loop.nd rfl (Or.inl rfl) (pe_ok O_atom (hr.mono (by omega)) (pa_cons (pv 0) (pa_cons (pv 2) (pa_cons pe_int pa_nil)))))) pss_nil)
    (pss_cons (ps_set (i := 10) sc_law_loop.nd rfl (Or.inl rfl) (pe_op op_cat (pv 2) (pe_lst (pa_cons (pe_lst (pa_cons (pe_tup (pa_cons (pv 4) (pa_cons pe_int pa_nil))) pa_nil)) pa_nil))))
    (pss_cons (ps_if (pt_cmpR op_eq (pv 6) pe_str (nomark _)) (pss_one (ps_set (i := 10) sc_law_loop.nd rfl (Or.inl rfl) (pe_op op_cat (pv 10) (pe_lst (pa_cons (pe_lst pa_nil) pa_nil))))) pss_nil)
    (pss_one (ps_ret (pe_lst (pa_cons (pe_tup (pa_cons pe_str (pa_cons (pv 6) (pa_cons (pv 4) (pa_cons (pv 7) (pa_cons (pe_ok O_block (hr.mono (by omega)) (pa_cons (pv 0) (pa_cons (pv 1) (pa_cons (pv 10) (pa_cons (pe_op op_sub (pv 3) pe_int) (pa_cons pe_non pa_nil)))))) pa_nil)))))) pa_nil)))))))))))), ?_⟩
    have one : ∀ {n : Nat}, n ≤ 10 → n ≤ sizeLine := fun h => small_of (by omega)
    have hnz := G.nz
    walk_at "go"
    refine ⟨_, _, rfl, kvl G.wd (wkv_names _ _), ?_⟩
    walk_at "go"
    refine ⟨_, _, rfl, kvl G.wd (wkv_names _ _), ?_⟩
    walk_at "go"
    refine g_len G.nm ?_
    walk_at "go"
    refine g_draw G (by simp; omega) (by simp; omega) (fun i H1 i0 i1 G1 f1 => ?_)
    obtain ⟨x, hx, hat⟩ : ∃ x, x ∈ C.names ∧ atI (C.names.map V.str) i = some (.str x) :=
      ⟨C.names[i.toNat]'(by simp at i1; omega), List.getElem_mem _, by rw [atI_nat i0 (by simpa using i1)]; simp⟩
    refine g_ixL G1.nm hat ?_
    walk_at "go"
    refine g_draw G1 (by decide) (by decide) (fun many H2 j0 j1 G2 f2 => ?_)
    walk_at "go"
    have f02 := (G.fpd f1).trans (G1.fpd f2)
    refine ⟨fun σ' H' => ∃ md : Str, (md = "own" ∨ md = "one" ∨ md = "while") ∧ σ' = [some (.ref C.d), some (.ref C.w), some (.ref C.ar), some (.int m), some (.str x), some (.int many), some (.str md), none, none, none, none, none, none, none, none] ∧ Gn H' C lf tp ∧ Fr C.fp H H', ?_, ?_⟩
    · walk_at "go"
      refine ⟨one (by simp), fun p1 n1 => ?_⟩
      walk_at "go"
      have G3 := G2.fr0 (Fr.new (o := .lst [.str "own", .str "one", .str "while"]) n1)
      refine g_draw G3 (by decide) (by decide) (fun j H4 k0 k1 G4 f4 => ?_)
      obtain ⟨md, hmd, hat⟩ : ∃ md : Str, (md = "own" ∨ md = "one" ∨ md = "while") ∧ atI [V.str "own", .str "one", .str "while"] j = some (.str md) := by
        rcases (show j = 0 ∨ j = 1 ∨ j = 2 by omega) with rfl | rfl | rfl
        · exact ⟨"own", by simp, rfl⟩
        · exact ⟨"one", by simp, rfl⟩
        · exact ⟨"while", by simp, rfl⟩
      refine g_ixL (f4.get upd_same (G2.dl n1)) hat ?_
      walk_at "go"
      exact ⟨md, hmd, rfl, G4, (f02.trans (Fr.new n1)).trans (G3.fpd f4)⟩
    · clear f02 f1 f2 G1 G2 hat i1 i0
      rintro σ' H1 ⟨md, hmd, rfl, G1, f1⟩
      walk_at "go"
      by_cases hw : md = "while"
      · subst hw
        refine i_t (by rfl) ?_
        walk_at "go"
        refine g_draw G1 (by decide) (by decide) (fun i H2 i0 i1 G2 f2 => ?_)
        walk_at "go"
        have f02 := f1.trans (G1.fpd f2)
        refine i_dec (fun e => ?_) (fun e => ?_)
        · walk_at "go"
          refine ⟨one (by simp), fun p3 n3 => ?_⟩
          walk_at "go"
          have f3 : Fr [] H2 (upd H2 p3 (.lst [.int 0, .int 0, .int 0, .int 1])) := Fr.new n3
          have G3 := G2.fr0 f3
          refine g_draw G3 (by decide) (by decide) (fun j H4 k0 k1 G4 f4 => ?_)
          have f04 := (f02.trans f3.nil).trans (G3.fpd f4)
          obtain ⟨kk, hat⟩ : ∃ kk : Int, atI [V.int 0, .int 0, .int 0, .int 1] j = some (.int kk) := by
            rcases (show j = 0 ∨ j = 1 ∨ j = 2 ∨ j = 3 by omega) with rfl | rfl | rfl | rfl <;> exact ⟨_, rfl⟩
          refine g_ixL (f4.get upd_same (G2.dl n3)) hat ?_
          walk_at "go"
          refine g_atomO G4 (fun oa H5 vo G5 f5 => ?_)
          have f05 := f04.trans (G4.fpd f5)
          walk_at "go"
          refine ⟨one (by simp), fun p7 n7 => ?_⟩
          walk_at "go"
          refine ⟨one (by simp), fun p8 n8 => ?_⟩
          refine g_cat (gn_inner_at G5 (Fr.new n7) n8) upd_same (small_of (by simp; omega)) (fun p9 n9 => ?_)
          walk_at "go"
          obtain ⟨G9, f9, hp7, hp9, h97, G9c⟩ := gn_inner G5 (Fr.new n7) n7 (gr_nil upd_same) grok_nil n8 n9
          generalize upd (upd (upd H5 p7 (.lst [])) p8 (.lst [.ref p7])) p9 (.lst ((C.go ++ [C.g]).map V.ref ++ [.ref p7])) = H9 at *
          refine ⟨C.push p9 p7 tp, lf, [], .non, rfl, m1, .inl rfl, by unfold GC.push; simp; omega, G9, by omega, by omega, fun H10 pb vs b nb ex lf10 hex G10 f10 eb bt gd w10 l10 l4 d10 => ?_⟩
          have G10c : Gn H10 C lf10 tp := G9c.pop (tp2 := []) G10 f10 hp9 hp7
          have f0a : Fr C.fp H H10 := f05.trans (push_fr f10 f9.nil n7)
          rw [push_names, push_vis, List.map_nil, List.append_nil] at gd
          walk_at "go"
          refine ⟨one (by simp), fun q1 m1 => ?_⟩
          walk_at "go"
          obtain ⟨a, hva, hat2⟩ : ∃ a : Atm, (∀ x ∈ a.nms, x ∈ C.vis tp) ∧ atI [ov oa, V.int 0] (if decide (ov oa = V.non) = true then 1 else 0) = some a.v := by
            cases oa with
            | none => exact ⟨.num 0, by simp [Atm.nms], rfl⟩
            | some a => exact ⟨a, vo, by rw [show decide (ov (some a) = V.non) = false from decide_eq_false (atm_ne a)]; rfl⟩
          refine g_ixL upd_same hat2 ?_
          walk_at "go"
          refine ⟨one (by simp), fun q2 m2 => ?_⟩
          walk_at "go"
          refine ⟨one (by simp), fun q3 m3 => ?_⟩
          walk_at "go"
          have fa : Fr [] H10 (upd (upd (upd H10 q1 (.lst [ov oa, .int 0])) q2 (.tup [.str "give", .int 0])) q3 (.tup [.ref q2])) := by walk_at "fr"
          have eq2 : (upd (upd (upd H10 q1 (.lst [ov oa, .int 0])) q2 (.tup [.str "give", .int 0])) q3 (.tup [.ref q2])) q2 = some (.tup [.str "give", .int 0]) := by walk_at "at"
          have eq3 : (upd (upd (upd H10 q1 (.lst [ov oa, .int 0])) q2 (.tup [.str "give", .int 0])) q3 (.tup [.ref q2])) q3 = some (.tup [.ref q2]) := upd_same
          generalize upd (upd (upd H10 q1 (.lst [ov oa, .int 0])) q2 (.tup [.str "give", .int 0])) q3 (.tup [.ref q2]) = H11 at *
          refine g_draw (G10c.fr0 fa) (by decide) (by decide) (fun l H12 l0 l1 G12 f12 => ?_)
          refine g_rep01 (f12.tup eq3) (by simp) (by simp) (by omega) (fun r H13 f13 er => ?_)
          have vl : vs.length ≤ 50000 := by have := bt.len; have := len_w b; omega
          refine g_catA (f13.tup (f12.tup (fa.tup eb))) er (small_of (by split <;> simp <;> omega)) (fun r2 H14 f14 er2 => ?_)
          walk_at "go"
          have fe : Fr C.fp H10 H14 := ((fa.nil.trans ((G10c.fr0 fa).fpd f12)).trans f13.nil).trans f14.nil
          have G14 : Gn H14 C lf10 tp := (G12.fr0 f13).fr0 f14
          refine ⟨one (by simp), fun q4 m4 => ?_⟩
          walk_at "go"
          refine ⟨one (by simp), fun q5 m5 => ?_⟩
          have f15 : Fr [] H14 (upd H14 q4 (.tup [.str "while", a.v, .ref r2])) := Fr.new m4
          obtain ⟨b2, hb2, hb3, hb4, hb5⟩ : ∃ b2 : List Stm, BAt H14 (b ++ b2) (vs ++ if l = 1 then [V.ref q2] else []) ∧ wB b2 ≤ 3 ∧ depB b2 ≤ 2 ∧ Good C.names (C.vis tp) (b ++ b2) (nb.map (·.1)) := by
            by_cases hl : l = 1
            · refine ⟨[.give (.num 0)], ?_, wB_give _, by simp only [depS, depB]; decide, ?_⟩
              · rw [if_pos hl]
                exact BAt.append (bt.up fe.tupLe) (BAt.one (by simp only [SAt]; exact ⟨q2, rfl, f14.tup (f13.tup (f12.tup eq2))⟩))
              · have := gd.append (b2 := [.give (.num 0)]) (n2 := []) (Good.use (us := []) (by simp only [opsS, Atm.nms]) (by simp)) (by simp)
                rwa [List.append_nil] at this
            · refine ⟨[], ?_, by rw [wB_nil]; omega, by simp only [depB]; decide, by rw [List.append_nil]; exact gd⟩
              rw [if_neg hl]
              simpa using bt.up fe.tupLe
          have hw := wB_while a (b ++ b2)
          rw [wB_append] at hw
          have hdd : depB (b ++ b2) ≤ m + 1 := depB_append d10 (by omega)
          refine Made.one (st := .while a (b ++ b2)) (nw := []) (lf' := lf10) mk G (by rw [List.append_nil]; exact G14.fr0 f15) ((f0a.trans fe).trans f15.nil) ?_ (Good.while hva hb5) (by omega) l10 l4 (by simp only [depS]; omega) m5
          simp only [SAt]
          exact ⟨q4, r2, _, rfl, upd_same, f15.tup er2, hb2.up f15.tupLe⟩
        · walk_at "go"
          refine i_t (by rfl) ?_
          walk_at "go"
          refine g_named G2 (by decide) (by decide) (fun H3 G3 f3 => ?_) (fun H3 c hc nc G3 f3 => ?_)
          · walk_at "go"
            have f03 := f02.trans f3
            refine ⟨one (by simp), fun p7 n7 => ?_⟩
            walk_at "go"
            refine ⟨one (by simp), fun p8 n8 => ?_⟩
            refine g_cat (gn_inner_at G3 (Fr.new n7) n8) upd_same (small_of (by simp; omega)) (fun p9 n9 => ?_)
            walk_at "go"
            obtain ⟨G9, f9, hp7, hp9, h97, G9c⟩ := gn_inner G3 (Fr.new n7) n7 (gr_nil upd_same) grok_nil n8 n9
            generalize upd (upd (upd H3 p7 (.lst [])) p8 (.lst [.ref p7])) p9 (.lst ((C.go ++ [C.g]).map V.ref ++ [.ref p7])) = H9 at *
            refine ⟨C.push p9 p7 tp, lf, [], .non, rfl, m1, .inl rfl, by unfold GC.push; simp; omega, G9, by omega, by omega, fun H10 pb vs b nb ex lf10 hex G10 f10 eb bt gd w10 l10 l4 d10 => ?_⟩
            walk_at "go"
            refine g_named G10 (by decide) (by decide) (fun H11 G11 f11 => ?_) (fun H11 d hd nd G11 f11 => ?_)
            all_goals
              have G11c : Gn H11 C lf10 tp := G9c.pop (tp2 := []) G11 (f10.trans f11) hp9 hp7
              have f0a : Fr C.fp H H11 := f03.trans (push_fr (f10.trans f11) f9.nil n7)
              walk_at "go"
              refine i_t (by rfl) ?_
              refine i_t (by rfl) ?_
              walk_at "go"
              refine ⟨one (by simp), fun q1 m1 => ?_⟩
              walk_at "go"
              refine ⟨one (by simp), fun q2 m2 => ?_⟩
              walk_at "go"
              refine ⟨one (by simp), fun q3 m3 => ?_⟩
              walk_at "go"
              refine ⟨one (by simp), fun q4 m4 => ?_⟩
              walk_at "go"
              refine g_rep upd_same (one (by simp)) (fun q5 m5 => ?_)
              rw [if_neg (by simp)]
              have fz : Fr [] H11 (upd (upd (upd (upd H11 q1 (.tup [.str "let", .non, .int many])) q2 (.tup [])) q3 (.tup [.str "if", .non, .ref pb, .ref q2])) q4 (.lst [.ref q1, .ref q3])) := by walk_at "fr"
              exact Made.zero (lf' := lf10) mk G (G11c.fr0 fz) (f0a.trans fz.nil) (by omega) l10 l4 (by omega) m5
          · walk_at "go"
            have f03 := f02.trans f3
            refine ⟨one (by simp), fun p7 n7 => ?_⟩
            walk_at "go"
            refine ⟨one (by simp), fun p8 n8 => ?_⟩
            refine g_cat (gn_inner_at G3 (Fr.new n7) n8) upd_same (small_of (by simp; omega)) (fun p9 n9 => ?_)
            walk_at "go"
            obtain ⟨G9, f9, hp7, hp9, h97, G9c⟩ := gn_inner G3 (Fr.new n7) n7 (gr_nil upd_same) grok_nil n8 n9
            generalize upd (upd (upd H3 p7 (.lst [])) p8 (.lst [.ref p7])) p9 (.lst ((C.go ++ [C.g]).map V.ref ++ [.ref p7])) = H9 at *
            refine ⟨C.push p9 p7 (tp ++ [(c, 0)]), lf, [], .non, rfl, m1, .inl rfl, by unfold GC.push; simp; omega, G9, by omega, by omega, fun H10 pb vs b nb ex lf10 hex G10 f10 eb bt gd w10 l10 l4 d10 => ?_⟩
            have hex := hex (by simp)
            subst hex
            rw [List.append_nil, List.nil_append] at G10
            rw [push_names] at gd
            have gdc : Good C.names (C.vis tp ++ [c]) b (nb.map (·.1)) := gd.mono fun y hy => by
              rw [push_vis, List.map_nil, List.append_nil] at hy
              simpa using vis_app hy
            have vl : vs.length ≤ 50000 := by have := bt.len; have := len_w b; omega
            walk_at "go"
            refine g_named G10 (by decide) (by decide) (fun HX GX fX => ?_) (fun HX d hd nd GX fX => ?_)
            · have GXc : Gn HX C lf10 (tp ++ [(c, 0)]) := G9c.pop (tp2 := []) GX (f10.trans fX) hp9 hp7
              have f0x : Fr C.fp H HX := f03.trans (push_fr (f10.trans fX) f9.nil n7)
              have eX := fX.tup eb
              have bX := bt.up fX.tupLe
              walk_at "go"
              refine i_f (by simp) ?_
              walk_at "go"
              refine i_t (by rfl) ?_
              refine i_t (by rfl) ?_
              walk_at "go"
              refine ⟨one (by simp), fun q1 m1 => ?_⟩
              walk_at "go"
              refine ⟨one (by simp), fun q2 m2 => ?_⟩
              walk_at "go"
              refine ⟨one (by simp), fun q3 m3 => ?_⟩
              walk_at "go"
              refine ⟨one (by simp), fun q4 m4 => ?_⟩
              walk_at "go"
              refine g_rep upd_same (one (by simp)) (fun q5 m5 => ?_)
              rw [if_pos (by simp)]
              have fz : Fr [] HX (upd (upd (upd (upd HX q1 (.tup [.str "let", .str c, .int many])) q2 (.tup [])) q3 (.tup [.str "if", .str c, .ref pb, .ref q2])) q4 (.lst [.ref q1, .ref q3])) := by walk_at "fr"
              have hw1 := wB_let c (.num many)
              have hw2 := wB_ite (.nm c) b []
              rw [wB_nil] at hw2
              refine Made.two (s1 := .let_ c (.num many)) (s2 := .ite (.nm c) b []) (nw := [(c, 0)]) (lf' := lf10) mk G (GXc.fr0 fz) (f0x.trans fz.nil) (by simp only [SAt]; exact ⟨q1, rfl, by walk_at "at"⟩) (by simp only [SAt]; exact ⟨q3, pb, q2, vs, [], rfl, by walk_at "at", fz.tup eX, bX.up fz.tupLe, by walk_at "at", BAt_nil.mpr rfl⟩) ?_ (by omega) l10 l4 (by simp only [depS]; omega) (by simp only [depS, depB]; have h : (depB b).max 1 ≤ m + 1 := Nat.max_le.mpr ⟨d10, by omega⟩; omega) m5
              exact Good.append (b1 := [.let_ c (.num many)]) (b2 := [.ite (.nm c) b []]) (n1 := [c]) (n2 := []) (Good.make (hx := hc) (us := []) (by simp only [opsS, Atm.nms]) (by simp)) (Good.ite (by simp [Atm.nms]) gdc Good.nil) (by simp)
            · have GXc : Gn HX C lf10 (tp ++ [(c, 0)]) := G9c.pop (tp2 := []) GX (f10.trans fX) hp9 hp7
              have f0x : Fr C.fp H HX := f03.trans (push_fr (f10.trans fX) f9.nil n7)
              have eX := fX.tup eb
              have bX := bt.up fX.tupLe
              obtain ⟨ts, hg, pr⟩ := GX.top
              have har := GX.arl
              have arl : atI (((C.push p9 p7 (tp ++ [(c, 0)])).go ++ [(C.push p9 p7 (tp ++ [(c, 0)])).g]).map V.ref) (-1) = some (.ref (C.push p9 p7 (tp ++ [(c, 0)])).g) := by rw [List.map_append]; exact atI_last
              have tl := pr.length
              have tl2 := GX.tok.len GX.nz.2
              walk_at "go"
              refine i_f (by simp) ?_
              walk_at "go"
              refine i_f (by simp) ?_
              walk_at "go"
              refine g_ixL har arl ?_
              refine lc_listP (fstV HX) hg (fun q0 m0 => ?_) (fun D i x hD hx => ?_)
              rotate_left
              · obtain ⟨t, ht, rfl⟩ := map_at hx
                obtain ⟨p, _, hp⟩ := Paired.at pr ht
                refine g_gtup (keep hD hp) rfl ?_
                walk_at "go"
                refine ⟨rfl, ?_⟩
                walk_at "go"
                refine i_t rfl ?_
                walk_at "go"
                exact pu_yes (small_lt (by simp; omega)) hx (by simp [fstV, hp])
              rw [fm_fst pr]
              walk_at "go"
              refine g_inL upd_same rfl (flat_strs _) ?_
              rw [inV_str]
              have f0q : Fr [] HX (upd HX q0 (.lst (((nb ++ [(d, (0 : Int))]).map (fun (p : Str × Int) => p.1)).map V.str))) := Fr.new m0
              have f0x := f0x.trans f0q.nil
              have GXc := GXc.fr0 f0q
              have eX := f0q.tup eX
              have bX := bX.up f0q.tupLe
              generalize upd HX q0 (.lst (((nb ++ [(d, (0 : Int))]).map (fun (p : Str × Int) => p.1)).map V.str)) = HX at *
              walk_at "go"
              refine i_dec (fun hin => ?_) (fun hin => ?_)
              · have hin' := hin
                walk_at "go"
                refine ⟨one (by simp), fun q1 m1 => ?_⟩
                walk_at "go"
                refine ⟨one (by simp), fun q2 m2 => ?_⟩
                walk_at "go"
                refine ⟨one (by simp), fun q3 m3 => ?_⟩
                walk_at "go"
                refine ⟨one (by simp), fun q4 m4 => ?_⟩
                walk_at "go"
                refine g_rep upd_same (one (by simp)) (fun q5 m5 => ?_)
                rw [if_pos (by simp)]
                have fz : Fr [] HX (upd (upd (upd (upd HX q1 (.tup [.str "let", .str c, .int many])) q2 (.tup [])) q3 (.tup [.str "if", .str c, .ref pb, .ref q2])) q4 (.lst [.ref q1, .ref q3])) := by walk_at "fr"
                have hw1 := wB_let c (.num many)
                have hw2 := wB_ite (.nm c) b []
                rw [wB_nil] at hw2
                refine Made.two (s1 := .let_ c (.num many)) (s2 := .ite (.nm c) b []) (nw := [(c, 0)]) (lf' := lf10) mk G (GXc.fr0 fz) (f0x.trans fz.nil) (by simp only [SAt]; exact ⟨q1, rfl, by walk_at "at"⟩) (by simp only [SAt]; exact ⟨q3, pb, q2, vs, [], rfl, by walk_at "at", fz.tup eX, bX.up fz.tupLe, by walk_at "at", BAt_nil.mpr rfl⟩) ?_ (by omega) l10 l4 (by simp only [depS]; omega) (by simp only [depS, depB]; have h : (depB b).max 1 ≤ m + 1 := Nat.max_le.mpr ⟨d10, by omega⟩; omega) m5
                exact Good.append (b1 := [.let_ c (.num many)]) (b2 := [.ite (.nm c) b []]) (n1 := [c]) (n2 := []) (Good.make (hx := hc) (us := []) (by simp only [opsS, Atm.nms]) (by simp)) (Good.ite (by simp [Atm.nms]) gdc Good.nil) (by simp)
              · have hcn : c ∉ nb.map (·.1) := fun z => hin (by simp at z ⊢; exact .inl z)
                walk_at "go"
                refine ⟨one (by simp), fun q1 m1 => ?_⟩
                walk_at "go"
                refine ⟨one (by simp), fun q2 m2 => ?_⟩
                walk_at "go"
                refine ⟨one (by simp), fun q3 m3 => ?_⟩
                walk_at "go"
                refine ⟨one (by simp), fun q4 m4 => ?_⟩
                walk_at "go"
                have fa : Fr [] HX (upd (upd (upd (upd HX q1 (.tup [.str "sum", .str d, .str "-", .str c, .int 1])) q2 (.tup [.str "set", .str c, .str d])) q3 (.tup [.ref q1, .ref q2])) q4 (.tup [.str "let", .str c, .int many])) := by walk_at "fr"
                have a1 : SAt (upd (upd (upd (upd HX q1 (.tup [.str "sum", .str d, .str "-", .str c, .int 1])) q2 (.tup [.str "set", .str c, .str d])) q3 (.tup [.ref q1, .ref q2])) q4 (.tup [.str "let", .str c, .int many])) (.sum d "-" (.nm c) (.num 1)) (.ref q1) := by simp only [SAt]; exact ⟨q1, rfl, by walk_at "at"⟩
                have a2 : SAt (upd (upd (upd (upd HX q1 (.tup [.str "sum", .str d, .str "-", .str c, .int 1])) q2 (.tup [.str "set", .str c, .str d])) q3 (.tup [.ref q1, .ref q2])) q4 (.tup [.str "let", .str c, .int many])) (.set c (.nm d)) (.ref q2) := by simp only [SAt]; exact ⟨q2, rfl, by walk_at "at"⟩
                have a4 : SAt (upd (upd (upd (upd HX q1 (.tup [.str "sum", .str d, .str "-", .str c, .int 1])) q2 (.tup [.str "set", .str c, .str d])) q3 (.tup [.ref q1, .ref q2])) q4 (.tup [.str "let", .str c, .int many])) (.let_ c (.num many)) (.ref q4) := by simp only [SAt]; exact ⟨q4, rfl, by walk_at "at"⟩
                have e3 : (upd (upd (upd (upd HX q1 (.tup [.str "sum", .str d, .str "-", .str c, .int 1])) q2 (.tup [.str "set", .str c, .str d])) q3 (.tup [.ref q1, .ref q2])) q4 (.tup [.str "let", .str c, .int many])) q3 = some (.tup [.ref q1, .ref q2]) := by walk_at "at"
                generalize upd (upd (upd (upd HX q1 (.tup [.str "sum", .str d, .str "-", .str c, .int 1])) q2 (.tup [.str "set", .str c, .str d])) q3 (.tup [.ref q1, .ref q2])) q4 (.tup [.str "let", .str c, .int many]) = H12 at *
                refine g_catA (fa.tup eX) e3 (small_of (by simp; omega)) (fun r1 H13 f13 er1 => ?_)
                walk_at "go"
                refine g_catA (f13.tup e3) (f13.tup (fa.tup eX)) (small_of (by simp; omega)) (fun r2 H14 f14 er2 => ?_)
                walk_at "go"
                refine ⟨one (by simp), fun q5 m5 => ?_⟩
                walk_at "go"
                have f15 : Fr [] HX (upd H14 q5 (.lst [.ref r1, .ref r2])) := ((fa.trans f13).trans f14).trans (Fr.new m5)
                have GE := GXc.fr0 f15
                refine g_draw GE (by decide) (by decide) (fun l H16 l0 l1 G16 f16 => ?_)
                have f12 : Fr [] H12 (upd H14 q5 (.lst [.ref r1, .ref r2])) := (f13.trans f14).trans (Fr.new m5)
                have less : Good C.names (C.vis tp ++ [c]) [.sum d "-" (.nm c) (.num 1), .set c (.nm d)] [d] := by
                  have := Good.append (ns := C.names) (vs := C.vis tp ++ [c]) (b1 := [.sum d "-" (.nm c) (.num 1)]) (b2 := [.set c (.nm d)]) (n1 := [d]) (n2 := []) (Good.make (hx := hd) (us := [c]) (by simp only [opsS, Atm.nms, List.append_nil]) (by simp)) (Good.use (us := [c, d]) (by simp only [opsS, Atm.nms]) (by simp)) (by simp)
                  simpa using this
                have bless : BAt H16 [.sum d "-" (.nm c) (.num 1), .set c (.nm d)] [.ref q1, .ref q2] := by
                  have u1 := (a1.up f12.tupLe).up f16.tupLe
                  have u2 := (a2.up f12.tupLe).up f16.tupLe
                  exact BAt_cons.mpr ⟨_, _, rfl, u1, BAt.one u2⟩
                have wl : wB [.sum d "-" (.nm c) (.num 1), .set c (.nm d)] ≤ 9 := by
                  rw [wB_cons]; have := wB_sum d "-" (.nm c) (.num 1); have := wB_set c (.nm d); omega
                have dl : depB [.sum d "-" (.nm c) (.num 1), .set c (.nm d)] ≤ m + 1 := by
                  simp only [depB, depS]
                  exact Nat.le_trans (show _ ≤ 1 by decide) (by omega)
                obtain ⟨r, b2, vs2, hat, er, hb, hg, hwb, hdb⟩ : ∃ (r : Addr) (b2 : List Stm) (vs2 : List V), atI [V.ref r1, V.ref r2] l = some (.ref r) ∧ H16 r = some (.tup vs2) ∧ BAt H16 b2 vs2 ∧ (∃ n2, Good C.names (C.vis tp ++ [c]) b2 n2) ∧ wB b2 ≤ wB b + 9 ∧ depB b2 ≤ m + 1 := by
                  rcases (show l = 0 ∨ l = 1 by omega) with rfl | rfl
                  · refine ⟨r1, b ++ [.sum d "-" (.nm c) (.num 1), .set c (.nm d)], vs ++ [.ref q1, .ref q2], rfl, f16.tup ((Fr.new (W := []) m5).tup (f14.tup er1)), (((bX.up f15.tupLe).up f16.tupLe)).append bless, ⟨_, gdc.append (less.mono (by simp; intro y hy; rcases hy with h | h <;> simp [h])) (by
                      intro y hy
                      simp at hy
                      subst hy
                      exact nd)⟩, by rw [wB_append]; omega, depB_append d10 dl⟩
                  · refine ⟨r2, [.sum d "-" (.nm c) (.num 1), .set c (.nm d)] ++ b, [.ref q1, .ref q2] ++ vs, rfl, f16.tup ((Fr.new (W := []) m5).tup er2), bless.append (((bX.up f15.tupLe).up f16.tupLe)), ⟨_, less.append (gdc.mono (by simp; intro y hy; rcases hy with h | h <;> simp [h])) (by
                      intro y hy hz
                      simp only [List.mem_singleton] at hz
                      subst hz
                      exact nd hy)⟩, by rw [wB_append]; omega, depB_append dl d10⟩
                obtain ⟨n2, hg⟩ := hg
                have e16 : H16 q5 = some (.lst [.ref r1, .ref r2]) := f16.get upd_same (fun z => (GXc.fr0 ((fa.trans f13).trans f14)).dl m5 z)
                refine g_ixL e16 hat ?_
                walk_at "go"
                refine ⟨one (by simp), fun q6 m6 => ?_⟩
                walk_at "go"
                refine ⟨one (by simp), fun q7 m7 => ?_⟩
                have f17 : Fr [] H16 (upd H16 q6 (.tup [.str "while", .str c, .ref r])) := Fr.new m6
                have hw1 := wB_let c (.num many)
                have hw2 := wB_while (.nm c) b2
                refine Made.two (s1 := .let_ c (.num many)) (s2 := .while (.nm c) b2) (nw := [(c, 0)]) (lf' := lf10) mk G (G16.fr0 f17) (((f0x.trans f15.nil).trans (GE.fpd f16)).trans f17.nil) (((a4.up f12.tupLe).up f16.tupLe).up f17.tupLe) (by simp only [SAt]; exact ⟨q6, r, vs2, rfl, upd_same, f17.tup er, hb.up f17.tupLe⟩) ?_ (by omega) l10 l4 (by simp only [depS]; omega) (by simp only [depS]; omega) m7
                exact Good.append (b1 := [.let_ c (.num many)]) (b2 := [.while (.nm c) b2]) (n1 := [c]) (n2 := []) (Good.make (hx := hc) (us := []) (by simp only [opsS, Atm.nms]) (by simp)) (Good.while (by simp [Atm.nms]) hg) (by simp)
      · refine i_f (decide_eq_false (fun e => hw (V.str.inj e))) ?_
        refine i_f rfl ?_
        walk_at "go"
        refine i_f (decide_eq_false (fun e => hw (V.str.inj e))) ?_
        walk_at "go"
        have hmd : md = "own" ∨ md = "one" := by rcases hmd with h | h | h <;> simp_all
        refine ⟨fun σ' H' => ∃ a : Atm, (∀ x ∈ a.nms, x ∈ C.vis tp) ∧ σ' = [some (.ref C.d), some (.ref C.w), some (.ref C.ar), some (.int m), some (.str x), some (.int many), some (.str md), some a.v, none, none, none, none, none, none, none] ∧ Gn H' C lf tp ∧ Fr C.fp H H', ?_, ?_⟩
        · walk_at "go"
          refine g_draw G1 (by decide) (by decide) (fun i H2 i0 i1 G2 f2 => ?_)
          walk_at "go"
          refine i_dec (fun e => ?_) (fun e => ?_)
          · walk_at "go"
            refine g_atom0 G2 (fun a H3 va G3 f3 => ?_)
            walk_at "go"
            exact ⟨a, va, rfl, G3, (f1.trans (G1.fpd f2)).trans (G2.fpd f3)⟩
          · walk_at "go"
            exact ⟨.num many, by simp [Atm.nms], rfl, G2, f1.trans (G1.fpd f2)⟩
        · clear G1 f1
          rintro σ' H3 ⟨a, va, rfl, G3, f3⟩
          walk_at "go"
          refine ⟨one (by simp), fun p6 n6 => ?_⟩
          walk_at "go"
          refine ⟨one (by simp), fun p7 n7 => ?_⟩
          walk_at "go"
          refine ⟨one (by simp), fun p8 n8 => ?_⟩
          have f7 : Fr [] H3 (upd (upd H3 p6 (.tup [.str x, .int 0])) p7 (.lst [.ref p6])) := by walk_at "fr"
          have n7' : H3 p7 = none := Fr.none (Fr.new n6) n7
          refine g_cat (gn_inner_at G3 f7 n8) upd_same (small_of (by simp; omega)) (fun p9 n9 => ?_)
          walk_at "go"
          obtain ⟨G9, f9, hp7, hp9, h97, G9c⟩ := gn_inner (tp2 := [(x, 0)]) G3 f7 n7' ⟨[p6], upd_same, .cons (by walk_at "at") .nil⟩ ⟨by simp, by simp [hx]⟩ n8 n9
          generalize upd (upd (upd (upd H3 p6 (.tup [.str x, .int 0])) p7 (.lst [.ref p6])) p8 (.lst [.ref p7])) p9 (.lst ((C.go ++ [C.g]).map V.ref ++ [.ref p7])) = H9 at *
          rcases hmd with rfl | rfl
          · refine i_f (by rfl) ?_
            walk_at "go"
            refine ⟨C.push p9 p7 tp, lf, [(x, 0)], .non, rfl, m1, .inl rfl, by unfold GC.push; simp; omega, G9, by omega, by omega, fun H10 pb vs b nb ex lf10 hex G10 f10 eb bt gd w10 l10 l4 d10 => ?_⟩
            have G10c : Gn H10 C lf10 tp := G9c.pop (tp2 := []) G10 f10 hp9 hp7
            have f0a : Fr C.fp H H10 := f3.trans (push_fr f10 f9.nil n7')
            rw [push_names, push_vis] at gd
            walk_at "go"
            refine ⟨one (by simp), fun q4 m4 => ?_⟩
            walk_at "go"
            refine ⟨one (by simp), fun q5 m5 => ?_⟩
            have f15 : Fr [] H10 (upd H10 q4 (.tup [.str "times", .str "own", .str x, a.v, .ref pb])) := Fr.new m4
            have hw2 := wB_times true x a b
            have hdis : x ∉ nb.map (·.1) := fun hz => by
              have := G10.tok.1
              rw [List.map_append, List.map_append, List.nodup_append] at this
              exact (List.nodup_append.mp this.1).2.2 x (by simp) x hz rfl
            refine Made.one (st := .times true x a b) (nw := []) (lf' := lf10) mk G (by rw [List.append_nil]; exact G10c.fr0 f15) (f0a.trans f15.nil) ?_ (Good.times (hx := hx) va gd (fun _ => hdis)) (by omega) l10 l4 (by simp only [depS]; omega) m5
            simp only [SAt]
            exact ⟨q4, pb, vs, rfl, upd_same, f15.tup eb, bt.up f15.tupLe⟩
          · refine i_t (by rfl) ?_
            walk_at "go"
            refine ⟨one (by simp), fun p17 n17 => ?_⟩
            walk_at "go"
            refine ⟨one (by simp), fun p18 n18 => ?_⟩
            refine g_cat (gn_inner_at G9 (Fr.new n17) n18) upd_same (small_of (by unfold GC.push; simp; omega)) (fun p19 n19 => ?_)
            walk_at "go"
            obtain ⟨G19, f19, hp17, hp19, h197, G19c⟩ := gn_inner G9 (Fr.new n17) n17 (gr_nil upd_same) grok_nil n18 n19
            generalize upd (upd (upd H9 p17 (.lst [])) p18 (.lst [.ref p17])) p19 (.lst (((C.push p9 p7 tp).go ++ [(C.push p9 p7 tp).g]).map V.ref ++ [.ref p17])) = H19 at *
            refine ⟨(C.push p9 p7 tp).push p19 p17 [(x, 0)], lf, [], .non, rfl, m1, .inl rfl, by unfold GC.push; simp; omega, G19, by omega, by omega, fun H10 pb vs b nb ex lf10 hex G10 f10 eb bt gd w10 l10 l4 d10 => ?_⟩
            have G10b : Gn H10 (C.push p9 p7 tp) lf10 [(x, 0)] := G19c.pop (tp2 := []) G10 f10 hp19 hp17
            have f9a : Fr (C.push p9 p7 tp).fp H9 H10 := push_fr f10 f19.nil n17
            have G10c : Gn H10 C lf10 tp := G9c.pop (tp2 := []) G10b f9a hp9 hp7
            have f0a : Fr C.fp H H10 := f3.trans (push_fr f9a f9.nil n7')
            rw [push_names, push_names, push_vis, push_vis, List.map_nil, List.append_nil] at gd
            walk_at "go"
            refine ⟨one (by simp), fun q4 m4 => ?_⟩
            walk_at "go"
            refine ⟨one (by simp), fun q5 m5 => ?_⟩
            have f15 : Fr [] H10 (upd H10 q4 (.tup [.str "times", .str "one", .str x, a.v, .ref pb])) := Fr.new m4
            have hw2 := wB_times false x a b
            refine Made.one (st := .times false x a b) (nw := []) (lf' := lf10) mk G (by rw [List.append_nil]; exact G10c.fr0 f15) (f0a.trans f15.nil) ?_ (Good.times (hx := hx) va gd (fun z => by cases z)) (by omega) l10 l4 (by simp only [depS]; omega) m5
            simp only [SAt]
            exact ⟨q4, pb, vs, rfl, upd_same, f15.tup eb, bt.up f15.tupLe⟩
end
end Fb
set_option Elab.async false
set_option linter.all false
set_option maxRecDepth 100000
set_option maxHeartbeats 4000000
namespace Fb
open PySem PySem.Spec PyProof.Rows L2
local macro_rules | `(tactic| walk_at "go1") => `(tactic| first
  | with_reducible refine g_seq ?_
  | with_reducible refine g_asg ?_
  | with_reducible refine g_name ?_
  | ((with_reducible refine' g_var ?h1 ?_); (case h1 => rfl))
  | with_reducible refine g_c ?_
  | with_reducible refine g_op ?_
  | with_reducible refine g_un ?_
  | with_reducible refine g_rU ?_
  | with_reducible refine g_yes ?_
  | with_reducible refine g_isN ?_
  | with_reducible refine g_notN ?_
  | with_reducible refine g_int1 ?_
  | with_reducible refine g_I0 ?_
  | ((with_reducible refine' g_eq ?h1 ?_); (case h1 => rfl))
  | ((with_reducible refine' g_ne ?h1 ?_); (case h1 => rfl))
  | with_reducible refine g_test ?_
  | with_reducible refine g_tb ?_
  | with_reducible refine g_bl ?_
  | with_reducible refine g_drop ?_
  | with_reducible refine g_ret ?_
  | with_reducible refine g_if ?_
  | with_reducible refine g_ife ?_
  | with_reducible refine g_and ?_
  | with_reducible refine g_or ?_
  | with_reducible refine g_not ?_
  | with_reducible refine g_next ?_
  | with_reducible refine g_nil ?_
  | with_reducible refine g_cons ?_
  | with_reducible refine g_cb ?_
  | with_reducible refine g_call ?_
  | with_reducible refine g_tup ?_
  | with_reducible refine g_lst ?_
  | with_reducible refine g_dget ?_
  | with_reducible refine g_dput ?_
  | with_reducible refine g_bm ?_
  | with_reducible refine g_lc ?_
  | with_reducible refine g_for ?_
  | with_reducible refine g_il ?_
  | with_reducible refine g_rng1 ?_
  | with_reducible refine g_gsub ?_
  | with_reducible refine g_din ?_
  | with_reducible refine g_disp ?_
  | with_reducible refine g_pairs ?_
  | with_reducible refine g_pairs0 ?_
  | with_reducible refine g_sl ?_
  | with_reducible refine g_part ?_
  | with_reducible refine g_part1 ?_
  | with_reducible refine g_nopart ?_
  | with_reducible refine g_andV ?_
  | with_reducible refine g_orV ?_
  | with_reducible refine g_notV ?_
  | with_reducible refine g_itp ?_
  | with_reducible refine g_par ?_
  | with_reducible refine g_par1 ?_
  | with_reducible refine g_par3 ?_
  | with_reducible refine g_par31 ?_
  | with_reducible refine g_gname ?_
  | with_reducible refine g_gcons ?_
  | with_reducible refine g_gnil ?_
  | with_reducible refine g_bm0 ?_)
local macro_rules | `(tactic| walk_at "go") => `(tactic| repeat walk_at "go1")
local macro_rules | `(tactic| walk_at "at") => `(tactic| repeat first
  | assumption
  | exact upd_same
  | with_reducible refine keep (by assumption) ?_
  | with_reducible refine keep_ne (by assumption) ?_
  | with_reducible refine Fr.get0 (by assumption) ?_
  | with_reducible refine Fr.get (by assumption) ?_ (by assumption)
  | with_reducible refine Fr.tup (by assumption) ?_)
local macro_rules | `(tactic| walk_at "fr") => `(tactic| repeat first
  | assumption
  | exact Fr.refl _ _
  | with_reducible refine Fr.trans ?_ (Fr.new (by assumption))
  | with_reducible refine Fr.trans ?_ (Fr.nil (by assumption))
  | with_reducible refine Fr.trans ?_ (by assumption))
local macro_rules | `(tactic| walk_at "gn") => `(tactic| repeat first
  | assumption
  | with_reducible refine Gn.fr0 ?_ (Fr.new (by assumption))
  | with_reducible refine Gn.fr0 ?_ (by assumption))
local macro_rules | `(tactic| walk_at "bt") => `(tactic| repeat first
  | assumption
  | with_reducible refine BAt.up (Fr.new (W := []) (by assumption)).1 _ _ ?_
  | with_reducible refine SAt.up (Fr.new (W := []) (by assumption)).1 _ _ ?_
  | with_reducible refine BAt.up (Fr.tupLe (by assumption)) _ _ ?_
  | with_reducible refine SAt.up (Fr.tupLe (by assumption)) _ _ ?_)
section
variable {P : Program} {w : World} {K : PySem.W.Frag} {mg : Str → Option Value} {base : Heap}
theorem sc_law_piece : FnScope ["_law_deal_here", "_law_world", "_law_around", "_law_deep", "_law_way", "_law_found", "_law_turn", "_law_a", "_law_side", "_law_arms"] ["_law_deal_here", "_law_world", "_law_around", "_law_deep"] (defScope (topS 21)) := ⟨rfl, rfl, rfl, by decide +kernel, rfl, by decide +kernel, by decide +kernel⟩
theorem ok_piece (A : All K mg) {m k kb : Nat} (hkb : kb ≤ k) (hk : 3 ≤ k) (O_block : Ok P w K mg base CX0 kb "_law_block" ["_law_deal_here", "_law_world", "_law_around", "_law_deep", "_law_gives"] (spBlk m)) (O_fn : Ok P w K mg base CX0 k "_law_fn" ["_law_deal_here", "_law_world", "_law_around", "_law_deep"] (spFn m)) (O_loop : Ok P w K mg base CX0 k "_law_loop" ["_law_deal_here", "_law_world", "_law_around", "_law_deep"] (spLoop m)) : Ok P w K mg base CX0 (k + 1) "_law_piece" ["_law_deal_here", "_law_world", "_law_around", "_law_deep"] (spPiece m) := by
  have O_draw : Ok P w K mg base CX0 1 "_law_draw" ["_law_deal_here", "_law_many"] spDraw := ok_draw A
  have O_simple : Ok P w K mg base CX0 3 "_law_simple" ["_law_deal_here", "_law_world", "_law_around", "_law_way"] spSimple := ok_simple A
  have O_atom : Ok P w K mg base CX0 2 "_law_atom" ["_law_deal_here", "_law_around", "_law_kind"] spAtom := ok_atom A
  refine ok_of0 A.piece sc_law_piece (fun _ _ _ _ _ _ us hl => match us, hl with | [_, _, _, _], _ => rfl) (fun vs H Q E h => ?_) (fun f cdv Ar outer s H vs Q E hr h => ?_)
  · obtain ⟨_, _, _, rfl, _⟩ := h; rfl
  · obtain ⟨C, lf, tp, rfl, gb, G, lf0, lf1, mk⟩ := h
    refine ⟨_, (pss_cons (ps_set (i := 4) sc_law_piece.nd rfl (Or.inl rfl) (pe_ok O_draw (hr.mono (by omega)) (pa_cons (pv 0) (pa_cons pe_int pa_nil))))
    (pss_cons (ps_dput (hu_of hr) (pv 1) pe_str (pe_op op_sub (pe_dget (hu_of hr) (pv 1) pe_str (fun _ _ => rfl)) pe_int) rfl)
    (pss_cons (ps_if (pt_cmpR op_eq (pe_ok O_draw (hr.mono (by omega)) (pa_cons (pv 0) (pa_cons pe_int pa_nil))) pe_int (nomark _)) (pss_one (ps_ret (pe_lst (pa_cons (pe_tup (pa_cons pe_str (pa_cons (pe_ok O_atom (hr.mono (by omega)) (pa_cons (pv 0) (pa_cons (pv 2) (pa_cons pe_int pa_nil)))) pa_nil))) pa_nil)))) pss_nil)
    (pss_cons (ps_if (pw_or (pt_cmpR op_lt (pv 4) pe_int (nomark _)) (pw_or1 (pt_cmpR op_lt (pv 3) pe_int (nomark _)))).pt (pss_one (ps_ret (pe_ok O_simple (hr.mono (by omega)) (pa_cons (pv 0) (pa_cons (pv 1) (pa_cons (pv 2) (pa_cons (pe_op op_mod (pv 4) pe_int) pa_nil))))))) pss_nil)
    (pss_cons (ps_if (pt_cmpR op_lt (pv 4) pe_int (nomark _)) (pss_cons (ps_set (i := 5) sc_law_piece.nd rfl (Or.inl rfl) (pe_ok O_fn (hr.mono (by omega)) (pa_cons (pv 0) (pa_cons (pv 1) (pa_cons (pv 2) (pa_cons (pv 3) pa_nil))))))
    (pss_cons (ps_for PassesOwn.never rfl (pi_range1 (by rfl) A.range (pa_cons (pe_ok O_draw (hr.mono (by omega)) (pa_cons (pv 0) (pa_cons pe_int pa_nil))) pa_nil)) (pg_name (i := 6) sc_law_piece.nd rfl (Or.inl rfl)) (pss_one (ps_expr (pe_bm PySem.F.plainAttrs_list PySem.F.slot_list_extend PySem.F.type_list_extend mt_extend (pv 5) (pa_cons (pe_ok O_simple (hr.mono (by omega)) (pa_cons (pv 0) (pa_cons (pv 1) (pa_cons (pv 2) (pa_cons (pe_ix (ix_listK (K := K)) (pe_lst (pa_cons pe_int (pa_cons pe_int pa_nil))) (pv 6) (fun _ _ => rfl)) pa_nil))))) pa_nil)))))
    (pss_one (ps_ret (pv 5))))) pss_nil)
    (pss_cons (ps_if (pt_cmpR op_gt (pv 4) pe_int (nomark _)) (pss_cons (ps_dput (hu_of hr) (pv 1) pe_str (pe_op op_sub (pe_dget (hu_of hr) (pv 1) pe_str (fun _ _ => rfl)) pe_int) rfl)
    (pss_one (ps_ret (pe_ok O_loop (hr.mono (by omega)) (pa_cons (pv 0) (pa_cons (pv 1) (pa_cons (pv 2) (pa_cons (pv 3) pa_nil)))))))) pss_nil)
    (pss_cons (ps_set (i := 7) sc_law_piece.nd rfl (Or.inl rfl) (pe_ok O_atom (hr.mono (by omega)) (pa_cons (pv 0) (pa_cons (pv 2) (pa_cons pe_int pa_nil)))))
    (pss_cons (ps_setLc (i := 9) (own := [("_law_side", 8)]) (g := gName 8) (by rfl) sc_law_piece.nd rfl rfl (sw_true rfl rfl rfl (by decide +kernel)) (pi_range1 (by rfl) A.range (pa_cons pe_int pa_nil)) (blkOk_by (own := [("_law_side", 8)]) (N := ["_law_deal_here", "_law_world", "_law_around", "_law_deep", "_law_way", "_law_found", "_law_turn", "_law_a", "_law_side", "_law_arms"]) (sc := defScope (topS 21)) (by decide +kernel)) (fun _ _ _ _ _ => (pg_nameL (i := 8) sc_law_piece.nd rfl rfl)) (fun _ _ _ _ _ => pts_nil) (fun _ _ _ _ _ => (pe_ok O_block (hr.mono (by omega)) (pa_cons (pv 0) (pa_cons (pv 1) (pa_cons (pe_op op_cat (pv 2) (pe_lst (pa_cons (pe_lst pa_nil) pa_nil))) (pa_cons (pe_op op_sub (pv 3) pe_int) (pa_cons pe_non pa_nil))))))))
    (pss_one (ps_ret (pe_lst (pa_cons (pe_tup (pa_cons pe_str (pa_cons (pv 7) (pa_cons (pe_ix (ix_listK (K := K)) (pv 9) pe_int (fun _ _ => rfl)) (pa_cons (pe_ix (ix_listK (K := K)) (pv 9) pe_int (fun _ _ => rfl)) pa_nil))))) pa_nil)))))))))))), ?_⟩
    have one : ∀ {n : Nat}, n ≤ 10 → n ≤ sizeLine := fun h => small_of (by omega)
    have hnz := G.nz
    walk_at "go"
    refine g_draw G (by decide) (by decide) (fun way H1 i0 i1 G1 f1 => ?_)
    walk_at "go"
    refine ⟨_, _, rfl, kvl G1.wd (wkv_left _ _), ?_⟩
    walk_at "go"
    refine ⟨_, _, rfl, kvp G1.wd (by show 2 < sizeLine; decide), ?_⟩
    rw [wkv_pleft]
    obtain ⟨G2, f2⟩ := G1.setLeft (lf - 1)
    have f02 := (G.fpd f1).trans f2
    generalize upd H1 C.w (.dK (wkv C.nl (lf - 1))) = H2 at *
    clear f1 f2 G1
    walk_at "go"
    refine g_draw G2 (by decide) (by decide) (fun i H3 j0 j1 G3 f3 => ?_)
    have f03 := f02.trans (G2.fpd f3)
    walk_at "go"
    refine i_dec (fun e => ?_) (fun e => ?_)
    · walk_at "go"
      refine g_atom0 G3 (fun a H4 va G4 f4 => ?_)
      walk_at "go"
      refine ⟨one (by simp), fun p3 n3 => ?_⟩
      walk_at "go"
      refine ⟨one (by simp), fun p4 n4 => ?_⟩
      have f5 : Fr [] H4 (upd H4 p3 (.tup [.str "give", a.v])) := Fr.new n3
      have := wB_give a
      exact Made.one (st := .give a) (nw := []) (lf' := lf - 1) mk G (by rw [List.append_nil]; exact G4.fr0 f5) ((f03.trans (G3.fpd f4)).trans f5.nil) (by simp only [SAt]; exact ⟨p3, rfl, upd_same⟩) (Good.use (us := a.nms) (by simp only [opsS]) va) (by omega) (Int.le_refl _) id (by simp [depS]) n4
    · walk_at "go"
      clear f3 f02 G2 e j0 j1
      rcases Decidable.em (way < 11 ∨ (m : Int) < 1) with hc | hc
      · refine i_dec (fun e4 => ?a1) (fun e4 => ?a2)
        case' a2 =>
          walk_at "go"
          refine i_t (decide_eq_true (hc.resolve_left e4)) ?_
        case' a1 => refine i_t (by rfl) ?_
        all_goals
          walk_at "go"
          refine g_I (C := fun i j => 0 < j) (by decide) ?_
          refine ⟨C, lf - 1, tp, _, rfl, G3, fun H4 p vs b nw lf' G4 f4 hp e4 bt g4 w4 l4 l44 d4 => ?_⟩
          exact mk H4 p vs b nw lf' G4 (f03.trans f4) (G.none f03 hp ⟨_, _, G3⟩) e4 bt g4 (by omega) l4 l44 (by omega)
      · have hc1 : ¬ way < 11 := fun z => hc (.inl z)
        have hm : 1 ≤ m := by have : ¬ (m : Int) < 1 := fun z => hc (.inr z); omega
        refine i_f (decide_eq_false hc1) ?_
        walk_at "go"
        refine i_f (decide_eq_false (by omega)) ?_
        walk_at "go"
        refine i_dec (fun e => ?_) (fun e => ?_)
        · walk_at "go"
          refine ⟨C, lf - 1, tp, rfl, hm, gb, G3, by omega, by omega, fun H4 pf vs b nw lf' G4 f4 hn e4 bt g4 w4 l4 l44 d4 => ?_⟩
          have a : Acc C (lf - 1 - 4) tp H3 30 (m + 2) pf H4 vs b nw lf' := ⟨G4, f4, e4, bt, g4, w4, l4, l44, d4⟩
          clear G4 f4 e4 bt g4 w4 l4 l44 d4
          walk_at "go"
          refine g_draw a.G (by decide) (by decide) (fun tn H5 t0 t1 G5 f5 => ?_)
          have a := a.same G3 hn G5 (a.G.fpd f5)
          walk_at "go"
          refine ⟨_, rfl, by omega, by omega, ?_⟩
          refine for_rng (fun i σ' H' => ∃ u vs b nw lf', σ' = [some (.ref C.d), some (.ref C.w), some (.ref C.ar), some (.int m), some (.int way), some (.ref pf), u, none, none, none] ∧ Acc C (lf - 1 - 4) tp H3 (30 + 12 * i) (m + 2) pf H' vs b nw lf')
            ⟨_, _, _, _, _, rfl, a.more (by omega)⟩ (fun σ' H' p => ?_) (fun i σ' H' hi ⟨u, vs, b, nw, lf', e, a⟩ => ?_)
          · obtain ⟨u, vs, b, nw, lf', rfl, a⟩ := p
            walk_at "go"
            exact mk H' pf vs b nw lf' a.G (f03.trans a.fr) (G.none f03 hn ⟨_, _, G3⟩) a.e a.bt a.good (by have := a.w; omega) (by have := a.l; omega) (fun _ => a.l4 (by omega)) a.dep
          · subst e
            walk_at "go"
            refine ⟨ty_l a.e, ?_⟩
            walk_at "go"
            refine ⟨one (by simp), fun p1 n1 => ?_⟩
            walk_at "go"
            obtain ⟨kk, hat⟩ : ∃ kk : Int, atI [V.int 8, .int 6] (0 + (i : Int)) = some (.int kk) := by
              rcases (show i = 0 ∨ i = 1 by omega) with rfl | rfl <;> exact ⟨_, rfl⟩
            refine g_ixL upd_same hat ?_
            walk_at "go"
            have f6 : Fr [] H' (upd H' p1 (.lst [.int 8, .int 6])) := Fr.new n1
            refine ⟨C, lf', tp ++ nw, _, rfl, a.G.fr0 f6, fun H7 p ws c nw2 lf2 G7 f7 hp e7 bt2 g2 w2 l2 l42 d2 => ?_⟩
            have al := a.l4 (by omega)
            have al2 := a.l
            obtain ⟨ee, a2⟩ := a.ext (cst2 := 12) G3 hn G7 (f6.nil.trans f7) bt2 g2 (by omega) (by omega) (by omega) (by omega)
            walk_at "go"
            refine g_extend ee e7 (small_of ?_) ?_
            · have := a2.len (by have := a2.l; omega)
              rw [List.length_append] at this; omega
            · walk_at "go"
              exact ⟨_, _, _, _, _, rfl, by have e : ((30 : Int) + 12 * (i : Int) + 12) = 30 + 12 * ((i + 1 : Nat) : Int) := by push_cast; omega
                                            rw [← e]; exact a2⟩
        · walk_at "go"
          refine i_dec (fun e2 => ?_) (fun e2 => ?_)
          · walk_at "go"
            refine ⟨_, _, rfl, kvl G3.wd (wkv_left _ _), ?_⟩
            walk_at "go"
            refine ⟨_, _, rfl, kvp G3.wd (by show 2 < sizeLine; decide), ?_⟩
            rw [wkv_pleft]
            obtain ⟨G4, f4⟩ := G3.setLeft (lf - 1 - 3)
            walk_at "go"
            refine ⟨C, lf - 1 - 3, tp, rfl, hm, gb, G4, by omega, by omega, fun H5 p vs b nw lf' G5 f5 hp e5 bt g5 w5 l5 l55 d5 => ?_⟩
            exact mk H5 p vs b nw lf' G5 ((f03.trans f4).trans f5) (G.none (f03.trans f4) hp ⟨_, _, G4⟩) e5 bt g5 (by omega) (by omega) (fun _ => l55 (by omega)) d5
          · walk_at "go"
            refine g_atom0 G3 (fun a H4 va G4 f4 => ?_)
            have f04 := f03.trans (G3.fpd f4)
            walk_at "go"
            refine ⟨2, rfl, by decide, by decide, ?_⟩
            refine lc_rng (fun D i H' => ∃ (arms : List (Addr × List V × List Stm)) (lf' : Int), arms.length = i ∧ Gn H' C lf' tp ∧ Fr C.fp H4 H' ∧ H' D = some (.lst (arms.map fun q => .ref q.1)) ∧
                (∀ q ∈ arms, H' q.1 = some (.tup q.2.1) ∧ BAt H' q.2.2 q.2.1 ∧ (∃ nb, Good C.names (C.vis tp) q.2.2 nb) ∧ depB q.2.2 ≤ m + 1) ∧ (((arms.map fun q => wB q.2.2).sum : Nat) : Int) ≤ 20 * i + 50 * (lf - 1 - lf') ∧ lf' ≤ lf - 1 ∧ -4 ≤ lf')
              (fun D hD => ⟨[], lf - 1, rfl, G4.fr0 (Fr.new hD), Fr.new hD, upd_same, by simp, by simp, Int.le_refl _, by omega⟩) (fun D H5 hD ⟨arms, lf', al, G5, f5, e5, ha, hs, l5, l55⟩ => ?_) (fun D i H5 hD hi ⟨arms, lf', al, G5, f5, e5, ha, hs, l5, l55⟩ => ?_)
            · walk_at "go"
              match arms, al with
              | [u, v], _ =>
              obtain ⟨u1, u2, ⟨nu, u3⟩, u4⟩ := ha u (by simp)
              obtain ⟨v1, v2, ⟨nv, v3⟩, v4⟩ := ha v (by simp)
              refine g_ixL e5 (v := .ref u.1) (by rfl) ?_
              walk_at "go"
              refine g_ixL e5 (v := .ref v.1) (by rfl) ?_
              walk_at "go"
              refine ⟨one (by simp), fun p3 n3 => ?_⟩
              walk_at "go"
              refine ⟨one (by simp), fun p4 n4 => ?_⟩
              have f6 : Fr [] H5 (upd H5 p3 (.tup [.str "if", a.v, .ref u.1, .ref v.1])) := Fr.new n3
              have hw := wB_ite a u.2.2 v.2.2
              simp only [List.map_cons, List.map_nil, List.sum_cons, List.sum_nil] at hs
              refine Made.one (st := .ite a u.2.2 v.2.2) (nw := []) (lf' := lf') mk G (by rw [List.append_nil]; exact G5.fr0 f6) ((f04.trans f5).trans f6.nil) ?_ (Good.ite va u3 v3) (by push_cast at hs ⊢; omega) l5 (fun _ => l55) (by simp only [depS]; have h : (depB u.2.2).max (depB v.2.2) ≤ m + 1 := Nat.max_le.mpr ⟨u4, v4⟩; omega) n4
              simp only [SAt]
              exact ⟨p3, u.1, v.1, u.2.1, v.2.1, rfl, upd_same, f6.tup u1, u2.up f6.tupLe, f6.tup v1, v2.up f6.tupLe⟩
            · walk_at "go"
              refine ⟨rfl, ?_⟩
              walk_at "go"
              refine i_t rfl ?_
              walk_at "go"
              refine ⟨one (by simp), fun p7 n7 => ?_⟩
              walk_at "go"
              refine ⟨one (by simp), fun p8 n8 => ?_⟩
              refine g_cat (gn_inner_at G5 (Fr.new n7) n8) upd_same (small_of (by simp; omega)) (fun p9 n9 => ?_)
              walk_at "go"
              obtain ⟨G9, f9, hp7, hp9, h97, G9c⟩ := gn_inner G5 (Fr.new n7) n7 (gr_nil upd_same) grok_nil n8 n9
              generalize upd (upd (upd H5 p7 (.lst [])) p8 (.lst [.ref p7])) p9 (.lst ((C.go ++ [C.g]).map V.ref ++ [.ref p7])) = H9 at *
              refine ⟨C.push p9 p7 tp, lf', [], .non, rfl, hm, .inl rfl, by unfold GC.push; simp; omega, G9, by omega, by omega, fun H10 pb vs b nb ex lf10 hex G10 f10 eb bt gd w10 l10 l4 d10 => ?_⟩
              have G10c : Gn H10 C lf10 tp := G9c.pop (tp2 := []) G10 f10 hp9 hp7
              have f510 : Fr C.fp H5 H10 := push_fr f10 f9.nil n7
              rw [push_names, push_vis, List.map_nil, List.append_nil] at gd
              have e10 : H10 D = some (.lst (arms.map fun q => .ref q.1)) := f510.get e5 (G4.nfp hD)
              have fp : Fr [D] H10 (upd H10 D (.lst ((arms.map fun q => .ref q.1) ++ [.ref pb]))) := Fr.put e10 (by intro xs q; cases q) (by simp)
              refine ⟨_, e10, small_lt (by simp; omega), arms ++ [(pb, vs, b)], lf10, by simp [al], G10c.fr1 fp (G4.nin hD), (f5.trans f510).mut hD, by rw [upd_same]; simp, fun q hq => ?_, ?_, by omega, l4 (by omega)⟩
              · rcases List.mem_append.mp hq with h | h
                · obtain ⟨h1, h2, h3, h4⟩ := ha q h
                  exact ⟨fp.tup (f510.tup h1), (h2.up f510.tupLe).up fp.tupLe, h3, h4⟩
                · rw [List.mem_singleton.mp h]
                  exact ⟨fp.tup eb, bt.up fp.tupLe, ⟨_, gd⟩, d10⟩
              · simp only [List.map_append, List.sum_append, List.map_cons, List.map_nil, List.sum_cons, List.sum_nil]
                push_cast at hs ⊢
                omega
/-- a contract that nobody calls -/
theorem ok_no {x : Str} {st : Stmt} {ps : List Str} {k : Nat} {sp : Sp} (F : Fd K mg x st)
    (hb : ∀ (kV doc pm : Value) (an : Option Addr) (cdv ct : Value) (us : List Value), us.length = ps.length → bindArgs (PySem.W.fnOf x x (defArgs st) (defBody st) (defScope st) .none kV doc pm an cdv ct) ⟨us, []⟩ = pure (ps.zip us))
    (hsp : ∀ vs H Q E, ¬ sp vs H Q E) : Ok P w K mg base CX0 k x ps sp := by
  obtain ⟨f, fd, F, m⟩ := F
  exact ⟨f, fd, m, F.kp, F.bindsN hb, ⟨fun _ _ _ _ h => absurd h (hsp _ _ _ _), fun _ _ _ _ _ _ _ _ _ _ _ _ _ h => absurd h (hsp _ _ _ _)⟩⟩
theorem ok_block_all (A : All K mg) : ∀ m : Nat, Ok P w K mg base CX0 (3 * m + 3) "_law_block" ["_law_deal_here", "_law_world", "_law_around", "_law_deep", "_law_gives"] (spBlk m)
  | 0 => ok_no A.block (fun _ _ _ _ _ _ us hl => match us, hl with | [_, _, _, _, _], _ => rfl) fun vs H Q E h => by
    obtain ⟨_, _, _, _, _, h, _⟩ := h
    omega
  | m + 1 => by
    have O := ok_block_all A m
    have O_fn := ok_fn A (by omega) O
    have O_loop := ok_loop A (by omega) O
    exact ok_blk A (k := 3 * m + 3 + 1 + 1) (by omega) (ok_piece A (by omega) (by omega) O O_fn O_loop)
theorem ok_piece_all (A : All K mg) (m : Nat) : Ok P w K mg base CX0 (3 * m + 5) "_law_piece" ["_law_deal_here", "_law_world", "_law_around", "_law_deep"] (spPiece m) := by
  have O := ok_block_all (P := P) (w := w) (base := base) A m
  exact ok_piece A (by omega) (by omega) O (ok_fn A (by omega) O) (ok_loop A (by omega) O)
end
end Fb
set_option Elab.async false
set_option linter.all false
set_option maxRecDepth 100000
set_option maxHeartbeats 4000000
namespace Fb
open PySem PySem.Spec PyProof.Rows L2
local macro_rules | `(tactic| walk_at "go1") => `(tactic| first
  | with_reducible refine g_seq ?_
  | with_reducible refine g_asg ?_
  | with_reducible refine g_name ?_
  | ((with_reducible refine' g_var ?h1 ?_); (case h1 => rfl))
  | with_reducible refine g_c ?_
  | with_reducible refine g_op ?_
  | with_reducible refine g_un ?_
  | with_reducible refine g_rU ?_
  | with_reducible refine g_yes ?_
  | with_reducible refine g_isN ?_
  | with_reducible refine g_notN ?_
  | with_reducible refine g_int1 ?_
  | with_reducible refine g_I0 ?_
  | ((with_reducible refine' g_eq ?h1 ?_); (case h1 => rfl))
  | ((with_reducible refine' g_ne ?h1 ?_); (case h1 => rfl))
  | with_reducible refine g_test ?_
  | with_reducible refine g_tb ?_
  | with_reducible refine g_bl ?_
  | with_reducible refine g_drop ?_
  | with_reducible refine g_ret ?_
  | with_reducible refine g_if ?_
  | with_reducible refine g_ife ?_
  | with_reducible refine g_and ?_
  | with_reducible refine g_or ?_
  | with_reducible refine g_not ?_
  | with_reducible refine g_next ?_
  | with_reducible refine g_nil ?_
  | with_reducible refine g_cons ?_
  | with_reducible refine g_cb ?_
  | with_reducible refine g_call ?_
  | with_reducible refine g_tup ?_
  | with_reducible refine g_lst ?_
  | with_reducible refine g_dget ?_
  | with_reducible refine g_dput ?_
  | with_reducible refine g_bm ?_
  | with_reducible refine g_lc ?_
  | with_reducible refine g_for ?_
  | with_reducible refine g_il ?_
  | with_reducible refine g_rng1 ?_
  | with_reducible refine g_gsub ?_
  | with_reducible refine g_din ?_
  | with_reducible refine g_disp ?_
  | with_reducible refine g_pairs ?_
  | with_reducible refine g_pairs0 ?_
  | with_reducible refine g_sl ?_
  | with_reducible refine g_part ?_
  | with_reducible refine g_part1 ?_
  | with_reducible refine g_nopart ?_
  | with_reducible refine g_andV ?_
  | with_reducible refine g_orV ?_
  | with_reducible refine g_notV ?_
  | with_reducible refine g_itp ?_
  | with_reducible refine g_par ?_
  | with_reducible refine g_par1 ?_
  | with_reducible refine g_par3 ?_
  | with_reducible refine g_par31 ?_
  | with_reducible refine g_gname ?_
  | with_reducible refine g_gcons ?_
  | with_reducible refine g_gnil ?_
  | with_reducible refine g_bm0 ?_)
local macro_rules | `(tactic| walk_at "go") => `(tactic| repeat walk_at "go1")
local macro_rules | `(tactic| walk_at "at") => `(tactic| repeat first
  | assumption
  | exact upd_same
  | with_reducible refine keep (by assumption) ?_
  | with_reducible refine keep_ne (by assumption) ?_
  | with_reducible refine Fr.get0 (by assumption) ?_
  | with_reducible refine Fr.get (by assumption) ?_ (by assumption)
  | with_reducible refine Fr.tup (by assumption) ?_)
local macro_rules | `(tactic| walk_at "fr") => `(tactic| repeat first
  | assumption
  | exact Fr.refl _ _
  | with_reducible refine Fr.trans ?_ (Fr.new (by assumption))
  | with_reducible refine Fr.trans ?_ (Fr.nil (by assumption))
  | with_reducible refine Fr.trans ?_ (by assumption))
local macro_rules | `(tactic| walk_at "gn") => `(tactic| repeat first
  | assumption
  | with_reducible refine Gn.fr0 ?_ (Fr.new (by assumption))
  | with_reducible refine Gn.fr0 ?_ (by assumption))
local macro_rules | `(tactic| walk_at "bt") => `(tactic| repeat first
  | assumption
  | with_reducible refine BAt.up (Fr.new (W := []) (by assumption)).1 _ _ ?_
  | with_reducible refine SAt.up (Fr.new (W := []) (by assumption)).1 _ _ ?_
  | with_reducible refine BAt.up (Fr.tupLe (by assumption)) _ _ ?_
  | with_reducible refine SAt.up (Fr.tupLe (by assumption)) _ _ ?_)
theorem str_app (a b : Str) : (a ++ b).cps = a.cps ++ b.cps := rfl
theorem str_len (a b : Str) : (a ++ b).length = a.length + b.length := by show (a.cps ++ b.cps).size = _; rw [Array.size_append]; rfl
theorem join_len : ∀ ys : List Str, (Str.join Str.empty ys).length ≤ (ys.map (·.length)).sum
  | [] => Nat.le_refl _
  | [x] => by show x.length ≤ _; simp
  | x :: z :: r => by
    have ih := join_len (z :: r)
    show (x ++ Str.empty ++ Str.join Str.empty (z :: r)).length ≤ _
    rw [str_len, str_len, List.map_cons, List.sum_cons]
    have : Str.empty.length = 0 := rfl
    omega
def wdF (A B : Str) (t : Int) (k : Nat) : Str := A ++ ⟨#[97 + ((t + (k : Int)) % 26).toNat]⟩ ++ B
def wdG (q : Str → Bool) (z : Str) : Str := z ++ if q z = true then ("q" : Str) else Str.empty
theorem words_nd (A B : Str) (t : Int) (q : Str → Bool) {many : Nat} (hm : many ≤ 26) : ((List.range many).map fun k => wdG q (wdF A B t k)).Nodup := by
  rw [List.nodup_iff_pairwise_ne, List.pairwise_map]
  refine List.Pairwise.imp_of_mem (R := (· < ·)) (fun {i j} hi hj hij e => ?_) List.pairwise_lt_range
  have hi := List.mem_range.mp hi
  have hj := List.mem_range.mp hj
  have e := congrArg (fun z : Str => z.cps.toList) e
  unfold wdG wdF at e
  simp only [str_app, Array.toList_append] at e
  rw [List.append_assoc, List.append_assoc] at e
  have e := List.append_cancel_left (List.append_assoc .. ▸ List.append_assoc .. ▸ e)
  have e : (97 + ((t + (i : Int)) % 26).toNat) = (97 + ((t + (j : Int)) % 26).toNat) := by
    have := congrArg List.head? e
    simpa using this
  omega
def fW (A B : Str) (t : Int) : V → Option V
  | .int k => some (.str (wdF A B t k.toNat))
  | _ => none
def fG (q : Str → Bool) : V → Option V
  | .str z => some (.str (wdG q z))
  | _ => none
theorem fm_W {A B : Str} {t : Int} {n : Nat} : (rngV n).filterMap (fW A B t) = ((List.range n).map fun k => wdF A B t k).map V.str := by
  unfold rngV
  rw [List.filterMap_map, List.map_map, ← List.filterMap_eq_map]
  rfl
theorem fm_G {q : Str → Bool} {l : List Str} : (l.map V.str).filterMap (fG q) = (l.map (wdG q)).map V.str := by
  rw [List.filterMap_map, List.map_map, ← List.filterMap_eq_map]
  congr 1
theorem wdF_len {A B : Str} {t : Int} {k : Nat} : (wdF A B t k).length = A.length + 1 + B.length := by unfold wdF; rw [str_len, str_len]; rfl
/-- words(deal, many) -/
def spWords : Sp := fun vs H Q _ => ∃ (d l : Addr) (many : Int), vs = [.ref d, .int many] ∧ DealAt H d l ∧ 0 ≤ many ∧ many ≤ 26 ∧
  ∀ (H' : Hp) (p : Addr) (names : List Str), DealAt H' d l → Fr [d, l] H H' → H p = none → H' p = some (.lst (names.map V.str)) → names.Nodup → (names.length : Int) = many → Q (.ref p) H'
theorem dl_ne {H : Hp} {d l p : Addr} (h : DealAt H d l) (hp : H p = none) : p ∉ [d, l] := fun q => by
  obtain ⟨_, _, _, h1, h2⟩ := h
  simp only [List.mem_cons, List.not_mem_nil, or_false] at q
  rcases q with q | q
  · rw [q, h1] at hp; cases hp
  · rw [q, h2] at hp; cases hp
theorem letters : ∀ i : Nat, i < 26 → atI (("abcdefghijklmnopqrstuvwxyz" : Str).cps.toList) (i : Int) = some (97 + i) := by
  intro i hi
  have e : ("abcdefghijklmnopqrstuvwxyz" : Str).cps.toList = (List.range 26).map (97 + ·) := by kernel_rfl
  rw [e, atI_nat (by omega) (by simp; omega)]
  simp
section
variable {P : Program} {w : World} {K : PySem.W.Frag} {mg : Str → Option Value} {base : Heap}
theorem sc_law_words : FnScope ["_law_deal_here", "_law_many", "_law_letters", "_law_k", "_law_stem", "_law_at", "_law_turn", "_law_found", "_law_taken", "_law_name"] ["_law_deal_here", "_law_many"] (defScope (topS 14)) := ⟨rfl, rfl, rfl, by decide +kernel, rfl, by decide +kernel, by decide +kernel⟩
theorem ok_words (A : All K mg) : Ok P w K mg base CX0 2 "_law_words" ["_law_deal_here", "_law_many"] spWords := by
  have O_draw : Ok P w K mg base CX0 1 "_law_draw" ["_law_deal_here", "_law_many"] spDraw := ok_draw A
  refine ok_of0 A.words sc_law_words (fun _ _ _ _ _ _ us hl => match us, hl with | [_, _], _ => rfl) (fun vs H Q E h => ?_) (fun f cdv Ar outer s H vs Q E hr h => ?_)
  · obtain ⟨_, _, _, rfl, _⟩ := h; rfl
  · obtain ⟨d, l, many, rfl, dl, m0, m1, q⟩ := h
    refine ⟨_, (pss_cons (ps_set (i := 2) sc_law_words.nd rfl (Or.inr rfl) pe_str)
    (pss_cons (ps_set (i := 4) sc_law_words.nd rfl (Or.inr rfl) (pe_join pe_str (pe_lc (own := [("_law_k", 3)]) (g := gName 3) (by rfl) sc_law_words.nd (pi_range1 (by rfl) A.range (pa_cons (pe_ok O_draw (hr.mono (by omega)) (pa_cons (pv 0) (pa_cons pe_int pa_nil))) pa_nil)) (blkOk_by (own := [("_law_k", 3)]) (N := ["_law_deal_here", "_law_many", "_law_letters", "_law_k", "_law_stem", "_law_at", "_law_turn", "_law_found", "_law_taken", "_law_name"]) (sc := defScope (topS 14)) (by decide +kernel)) (fun _ _ _ _ _ => (pg_nameL (i := 3) sc_law_words.nd rfl rfl)) (fun _ _ _ _ _ => pts_nil) (fun _ _ _ _ _ => (pe_ix ix_str (pv 2) (pe_ok O_draw (hr.mono (by omega)) (pa_cons (pv 0) (pa_cons pe_int pa_nil))) (fun _ _ => rfl))))))
    (pss_cons (ps_asg (pe_tup (pa_cons (pe_ok O_draw (hr.mono (by omega)) (pa_cons (pv 0) (pa_cons (pe_op op_add (pe_callB call_len_str (by rfl) A.len boot_len (pa_cons (pv 4) pa_nil)) pe_int) pa_nil))) (pa_cons (pe_ok O_draw (hr.mono (by omega)) (pa_cons (pv 0) (pa_cons pe_int pa_nil))) pa_nil))) (pg_tupK (K := K) (n := 2) rfl (pgs_cons (pg_name (i := 5) sc_law_words.nd rfl (Or.inr rfl)) (pgs_cons (pg_name (i := 6) sc_law_words.nd rfl (Or.inr rfl)) pgs_nil))))
    (pss_cons (ps_setLc (i := 7) (own := [("_law_k", 3)]) (g := gName 3) (by rfl) sc_law_words.nd rfl rfl (sw_true rfl rfl rfl (by decide +kernel)) (pi_range1 (by rfl) A.range (pa_cons (pv 1) pa_nil)) (blkOk_by (own := [("_law_k", 3)]) (N := ["_law_deal_here", "_law_many", "_law_letters", "_law_k", "_law_stem", "_law_at", "_law_turn", "_law_found", "_law_taken", "_law_name"]) (sc := defScope (topS 14)) (by decide +kernel)) (fun _ _ _ _ _ => (pg_nameL (i := 3) sc_law_words.nd rfl rfl)) (fun _ _ _ _ _ => pts_nil) (fun _ _ _ _ _ => (pe_op op_add_str (pe_op op_add_str (pe_slice sl_str (pv 4) po_none (po_some (pv 5))) (pe_ix ix_str (pv 2) (pe_op op_mod (pe_op op_add (pv 6) (pv 3)) pe_int) (fun _ _ => rfl))) (pe_slice sl_str (pv 4) (po_some (pv 5)) po_none))))
    (pss_cons (ps_set (i := 8) sc_law_words.nd rfl (Or.inr rfl) (pe_split pe_str pe_str))
    (pss_one (ps_ret (pe_lc (own := [("_law_name", 9)]) (g := gName 9) (by rfl) sc_law_words.nd (pi_list (pv 7)) (blkOk_by (own := [("_law_name", 9)]) (N := ["_law_deal_here", "_law_many", "_law_letters", "_law_k", "_law_stem", "_law_at", "_law_turn", "_law_found", "_law_taken", "_law_name"]) (sc := defScope (topS 14)) (by decide +kernel)) (fun _ _ _ _ _ => (pg_nameL (i := 9) sc_law_words.nd rfl rfl)) (fun _ _ _ _ _ => pts_nil) (fun _ _ _ _ _ => (pe_op op_add_str (pv 9) (pe_op op_repS pe_str (pe_callTy call_int1 (by rfl) A.int (by decide +kernel) (pa_cons (pe_cmpR (op_inK (K := K)) (pv 9) (pv 8) rfl) pa_nil))))))))))))), ?_⟩
    have ll : ("abcdefghijklmnopqrstuvwxyz" : Str).length ≤ sizeLine := by decide +kernel
    walk_at "go"
    refine ⟨⟨_, rfl⟩, ?_⟩
    walk_at "go"
    refine ⟨d, l, _, rfl, dl, by decide, by decide, fun n H1 n0 n1 dl1 f1 => ?_⟩
    walk_at "go"
    refine ⟨_, rfl, by omega, by omega, ?_⟩
    refine lc_rng (fun D i H' => ∃ zs : List Str, zs.length = i ∧ (∀ z ∈ zs, z.length = 1) ∧ DealAt H' d l ∧ Fr [d, l] H1 H' ∧ H' D = some (.lst (zs.map V.str)))
      (fun D hD => ⟨[], rfl, by simp, dl1.fr0 (Fr.new hD), Fr.new hD, upd_same⟩) (fun D H2 hD ⟨zs, zl, zc, dl2, f2, e2⟩ => ?_) (fun D i H2 hD hi ⟨zs, zl, zc, dl2, f2, e2⟩ => ?_)
    rotate_left
    · walk_at "go"
      refine ⟨rfl, ?_⟩
      walk_at "go"
      refine i_t rfl ?_
      walk_at "go"
      refine ⟨d, l, _, rfl, dl2, by decide, by decide, fun j H3 j0 j1 dl3 f3 => ?_⟩
      obtain ⟨jn, rfl⟩ : ∃ jn : Nat, j = (jn : Int) := ⟨j.toNat, by omega⟩
      refine ⟨_, _, _, rfl, rfl, ll, letters jn (by omega), ?_⟩
      have e3 := f3.get e2 (dl_ne dl1 hD)
      have fp : Fr [D] H3 (upd H3 D (.lst (zs.map V.str ++ [.str ⟨#[97 + jn]⟩]))) := Fr.put e3 (by intro xs q; cases q) (by simp)
      have hD1 := dl_ne dl1 hD
      refine ⟨_, e3, small_lt (by simp; omega), zs ++ [⟨#[97 + jn]⟩], by simp [zl], fun z hz => ?_, dl3.fr fp (fun z => hD1 (by simp at z; simp [z])) (fun z => hD1 (by simp at z; simp [z])), (f2.trans f3).mut hD, by rw [upd_same]; simp⟩
      rcases List.mem_append.mp hz with h | h
      · exact zc z h
      · rw [List.mem_singleton.mp h]; rfl
    · walk_at "go"
      have hsum : (zs.map (·.length)).sum = zs.length := by
        clear zl e2
        induction zs with
        | nil => rfl
        | cons z zs ih => rw [List.map_cons, List.sum_cons, ih (fun y hy => zc y (by simp [hy])), zc z (by simp), List.length_cons]; omega
      have em : (Str.ofString "") = Str.empty := by decide +kernel
      refine ⟨_, D, zs, rfl, rfl, .inl (.inl (.of e2)), ?_, ?_⟩
      · rw [hsum, em, show Str.empty.length = 0 from rfl]; omega
      have hst : (Txt.join (Str.ofString "") zs).length ≤ 4 := by
        rw [em, TL.join_eq]
        have := join_len zs
        rw [hsum] at this
        omega
      generalize Txt.join (Str.ofString "") zs = stem at *
      walk_at "go"
      have hsz : stem.length ≤ sizeLine := small_of (by omega)
      refine ⟨_, rfl, hsz, ?_⟩
      walk_at "go"
      refine ⟨d, l, _, rfl, dl2, by omega, by omega, fun at_ H3 a0 a1 dl3 f3 => ?_⟩
      walk_at "go"
      refine ⟨d, l, _, rfl, dl3, by decide, by decide, fun tn H4 t0 t1 dl4 f4 => ?_⟩
      walk_at "go"
      refine ⟨small_of (by simp), fun p5 n5 => ?_⟩
      refine g_gtup upd_same rfl ?_
      walk_at "go"
      refine ⟨_, rfl, by omega, by omega, ?_⟩
      have lA : (cutS stem none (some at_)).length ≤ 4 := by
        unfold cutS Str.length; simp; unfold Str.length at hst; omega
      have lB : (cutS stem (some at_) none).length ≤ 4 := by
        unfold cutS Str.length; simp; unfold Str.length at hst; omega
      have hmany : many.toNat ≤ 26 := by omega
      have hq : ∀ b : Bool, (if b = true then ("q" : Str) else Str.empty).length ≤ 1 := by intro b; cases b <;> decide +kernel
      refine lc_rngP (fW (cutS stem none (some at_)) (cutS stem (some at_) none) tn) (fun p6 n6 => ?_) (fun D i hD hi => ?_)
      rotate_left
      · walk_at "go"
        refine ⟨rfl, ?_⟩
        walk_at "go"
        refine i_t rfl ?_
        walk_at "go"
        refine ⟨stem, rfl, hsz, ?_⟩
        walk_at "go"
        refine g_I (by decide) ?_
        have hm := letters ((tn + (i : Int)) % 26).toNat (by omega)
        rw [Int.toNat_of_nonneg (by omega)] at hm
        refine ⟨_, _, _, rfl, rfl, ll, by rw [Int.zero_add]; exact hm, ?_⟩
        refine ⟨_, _, rfl, rfl, small_of (by show (cutS stem none (some at_)).length + 1 ≤ _; omega), ?_⟩
        walk_at "go"
        refine ⟨stem, rfl, hsz, ?_⟩
        refine ⟨_, _, rfl, rfl, small_of (by rw [str_len]; show (cutS stem none (some at_)).length + 1 + _ ≤ _; omega), ?_⟩
        exact pu_yes (small_lt (by rw [rng_len]; omega)) (rng_at hi) rfl
      walk_at "go"
      refine ⟨⟨_, rfl⟩, ?_⟩
      walk_at "go"
      refine ⟨_, _, rfl, rfl, by decide +kernel, small_of (by decide +kernel), fun p7 n7 => ?_⟩
      walk_at "go"
      have e6 : (upd (upd (upd H4 p5 (.tup [.int at_, .int tn])) p6 (.lst ((rngV many.toNat).filterMap (fW (cutS stem none (some at_)) (cutS stem (some at_) none) tn)))) p7 (.lst ((Txt.split (Str.ofString "let fn call set tell if else while times own one give end") (Str.ofString " ")).map V.str))) p6 = some (.lst (((List.range many.toNat).map fun k => wdF (cutS stem none (some at_)) (cutS stem (some at_) none) tn k).map V.str)) := by
        rw [keep n7 upd_same, fm_W]
      have e7 : (upd (upd (upd H4 p5 (.tup [.int at_, .int tn])) p6 (.lst ((rngV many.toNat).filterMap (fW (cutS stem none (some at_)) (cutS stem (some at_) none) tn)))) p7 (.lst ((Txt.split (Str.ofString "let fn call set tell if else while times own one give end") (Str.ofString " ")).map V.str))) p7 = some (.lst ((Txt.split (Str.ofString "let fn call set tell if else while times own one give end") (Str.ofString " ")).map V.str)) := upd_same
      have f7 : Fr [] H4 (upd (upd (upd H4 p5 (.tup [.int at_, .int tn])) p6 (.lst ((rngV many.toNat).filterMap (fW (cutS stem none (some at_)) (cutS stem (some at_) none) tn)))) p7 (.lst ((Txt.split (Str.ofString "let fn call set tell if else while times own one give end") (Str.ofString " ")).map V.str))) := by walk_at "fr"
      generalize upd (upd (upd H4 p5 (.tup [.int at_, .int tn])) p6 (.lst ((rngV many.toNat).filterMap (fW (cutS stem none (some at_)) (cutS stem (some at_) none) tn)))) p7 (.lst ((Txt.split (Str.ofString "let fn call set tell if else while times own one give end") (Str.ofString " ")).map V.str)) = H7 at *
      generalize Txt.split (Str.ofString "let fn call set tell if else while times own one give end") (Str.ofString " ") = taken at *
      have dl7 := dl4.fr0 f7
      have f07 : Fr [d, l] H H7 := (((f1.trans f2).trans f3).trans f4).trans f7.nil
      refine lc_listP (fG fun z => decide (z ∈ taken)) e6 (fun p8 n8 => ?_) (fun D i x hD hx => ?_)
      · rw [fm_G, show ∀ l : List Nat, (l.map fun k => wdF (cutS stem none (some at_)) (cutS stem (some at_) none) tn k).map (wdG fun z => decide (z ∈ taken)) = l.map (wdG (fun z => decide (z ∈ taken)) ∘ fun k => wdF (cutS stem none (some at_)) (cutS stem (some at_) none) tn k) from fun l => by rw [List.map_map]]
        have f8 : Fr [] H7 (upd H7 p8 (.lst (((List.range many.toNat).map (wdG (fun z => decide (z ∈ taken)) ∘ fun k => wdF (cutS stem none (some at_)) (cutS stem (some at_) none) tn k)).map V.str))) := Fr.new n8
        refine q _ p8 _ (dl7.fr0 f8) (f07.trans f8.nil) ?_ upd_same (words_nd _ _ _ _ hmany) (by simp; omega)
        cases eh : H p8 with
        | none => rfl
        | some o => rw [f07.get eh (dl_ne dl7 n8)] at n8; cases n8
      · obtain ⟨z, hz, rfl⟩ := map_at hx
        obtain ⟨k, hk, rfl⟩ := map_at hz
        walk_at "go"
        refine ⟨rfl, ?_⟩
        walk_at "go"
        refine i_t rfl ?_
        walk_at "go"
        refine g_inL (keep hD e7) rfl (flat_strs _) ?_
        rw [inV_str]
        walk_at "go"
        refine ⟨_, _, rfl, rfl, ?_⟩
        refine ⟨_, _, rfl, rfl, small_of ?_, ?_⟩
        · rw [wdF_len]
          exact Nat.le_trans (Nat.add_le_add_left (hq _) _) (by omega)
        exact pu_yes (small_lt (by simp; omega)) hx rfl
end
end Fb
set_option Elab.async false
set_option linter.all false
set_option maxRecDepth 100000
set_option maxHeartbeats 4000000
namespace Fb
open PySem PySem.Spec PyProof.Rows L2
local macro_rules | `(tactic| walk_at "go1") => `(tactic| first
  | with_reducible refine g_seq ?_
  | with_reducible refine g_asg ?_
  | with_reducible refine g_name ?_
  | ((with_reducible refine' g_var ?h1 ?_); (case h1 => rfl))
  | with_reducible refine g_c ?_
  | with_reducible refine g_op ?_
  | with_reducible refine g_un ?_
  | with_reducible refine g_rU ?_
  | with_reducible refine g_yes ?_
  | with_reducible refine g_isN ?_
  | with_reducible refine g_notN ?_
  | with_reducible refine g_int1 ?_
  | with_reducible refine g_I0 ?_
  | ((with_reducible refine' g_eq ?h1 ?_); (case h1 => rfl))
  | ((with_reducible refine' g_ne ?h1 ?_); (case h1 => rfl))
  | with_reducible refine g_test ?_
  | with_reducible refine g_tb ?_
  | with_reducible refine g_bl ?_
  | with_reducible refine g_drop ?_
  | with_reducible refine g_ret ?_
  | with_reducible refine g_if ?_
  | with_reducible refine g_ife ?_
  | with_reducible refine g_and ?_
  | with_reducible refine g_or ?_
  | with_reducible refine g_not ?_
  | with_reducible refine g_next ?_
  | with_reducible refine g_nil ?_
  | with_reducible refine g_cons ?_
  | with_reducible refine g_cb ?_
  | with_reducible refine g_call ?_
  | with_reducible refine g_tup ?_
  | with_reducible refine g_lst ?_
  | with_reducible refine g_dget ?_
  | with_reducible refine g_dput ?_
  | with_reducible refine g_bm ?_
  | with_reducible refine g_lc ?_
  | with_reducible refine g_for ?_
  | with_reducible refine g_il ?_
  | with_reducible refine g_rng1 ?_
  | with_reducible refine g_gsub ?_
  | with_reducible refine g_din ?_
  | with_reducible refine g_disp ?_
  | with_reducible refine g_pairs ?_
  | with_reducible refine g_pairs0 ?_
  | with_reducible refine g_sl ?_
  | with_reducible refine g_part ?_
  | with_reducible refine g_part1 ?_
  | with_reducible refine g_nopart ?_
  | with_reducible refine g_andV ?_
  | with_reducible refine g_orV ?_
  | with_reducible refine g_notV ?_
  | with_reducible refine g_itp ?_
  | with_reducible refine g_par ?_
  | with_reducible refine g_par1 ?_
  | with_reducible refine g_par3 ?_
  | with_reducible refine g_par31 ?_
  | with_reducible refine g_gname ?_
  | with_reducible refine g_gcons ?_
  | with_reducible refine g_gnil ?_
  | with_reducible refine g_bm0 ?_)
local macro_rules | `(tactic| walk_at "go") => `(tactic| repeat walk_at "go1")
local macro_rules | `(tactic| walk_at "at") => `(tactic| repeat first
  | assumption
  | exact upd_same
  | with_reducible refine keep (by assumption) ?_
  | with_reducible refine keep_ne (by assumption) ?_
  | with_reducible refine Fr.get0 (by assumption) ?_
  | with_reducible refine Fr.get (by assumption) ?_ (by assumption)
  | with_reducible refine Fr.tup (by assumption) ?_)
local macro_rules | `(tactic| walk_at "fr") => `(tactic| repeat first
  | assumption
  | exact Fr.refl _ _
  | with_reducible refine Fr.trans ?_ (Fr.new (by assumption))
  | with_reducible refine Fr.trans ?_ (Fr.nil (by assumption))
  | with_reducible refine Fr.trans ?_ (by assumption))
local macro_rules | `(tactic| walk_at "gn") => `(tactic| repeat first
  | assumption
  | with_reducible refine Gn.fr0 ?_ (Fr.new (by assumption))
  | with_reducible refine Gn.fr0 ?_ (by assumption))
local macro_rules | `(tactic| walk_at "bt") => `(tactic| repeat first
  | assumption
  | with_reducible refine BAt.up (Fr.new (W := []) (by assumption)).1 _ _ ?_
  | with_reducible refine SAt.up (Fr.new (W := []) (by assumption)).1 _ _ ?_
  | with_reducible refine BAt.up (Fr.tupLe (by assumption)) _ _ ?_
  | with_reducible refine SAt.up (Fr.tupLe (by assumption)) _ _ ?_)
section
variable {H H' H2 : Hp} {C : GC} {lf lf' : Int} {tp tp2 : List (Str × Int)} {k : Int} {Q : VK} {E : XK}
theorem g_named1 (G : Gn H C lf tp) (hl : tp.length < C.names.length) (k0 : 0 ≤ k) (k4 : k ≤ 4) (h1 : ∀ H' x, x ∈ C.names → x ∉ tp.map (·.1) → Gn H' C lf (tp ++ [(x, k)]) → Fr C.fp H H' → Q (.str x) H') : spNamed [.ref C.d, .ref C.w, .ref C.ar, .int k] H Q E :=
  ⟨C, lf, tp, k, rfl, G, k0, k4, fun h => absurd (nodup_le G.nn h) (by rw [List.length_map]; omega), h1⟩
/-- the inner block under way -/
structure Inn (C : GC) (tp : List (Str × Int)) (pf : Addr) (w d : Nat) (H : Hp) (p : Addr) : Prop where
  np : p ∉ C.all
  nf : p ≠ pf
  it : ∃ ws b nb, H p = some (.lst ws) ∧ BAt H b ws ∧ Good C.names (C.vis tp) b nb ∧ wB b ≤ w ∧ depB b ≤ d
theorem Inn.fr {W : List Addr} {p pf : Addr} {w d w2 d2 : Nat} (i : Inn C tp pf w d H p) (f : Fr W H H') (hp : p ∉ W) (hv : ∀ x ∈ C.vis tp, x ∈ C.vis tp2) (hw : w ≤ w2) (hd : d ≤ d2) : Inn C tp2 pf w2 d2 H' p := by
  obtain ⟨ws, b, nb, e, bt, g, h1, h2⟩ := i.it
  exact ⟨i.np, i.nf, ws, b, nb, f.get e hp, bt.up f.tupLe, g.mono hv, by omega, by omega⟩
end
theorem bat_if {H : Hp} {c : Bool} {st : Stm} {v : V} (s : SAt H st v) : BAt H (if c = true then [st] else []) (if c = true then [v] else []) := by
  cases c
  · exact BAt_nil.mpr rfl
  · exact BAt.one s
def spPlanted : Sp := fun vs H Q _ => ∃ (C : GC) (lf : Int), vs = [.ref C.d, .ref C.w, .ref C.ar] ∧ Gn H C lf [] ∧ 8 ≤ C.names.length ∧ Made C lf [] H 400 7 Q
section
variable {P : Program} {w : World} {K : PySem.W.Frag} {mg : Str → Option Value} {base : Heap}
theorem sc_law_planted : FnScope ["_law_deal_here", "_law_world", "_law_around", "_law_m", "_law_last", "_law_within", "_law_found", "_law_inner", "_law_k", "_law_name", "_law_some", "_law_y", "_law_z", "_law_turn"] ["_law_deal_here", "_law_world", "_law_around"] (defScope (topS 23)) := ⟨rfl, rfl, rfl, by decide +kernel, rfl, by decide +kernel, by decide +kernel⟩
theorem ok_planted (A : All K mg) : Ok P w K mg base CX0 3 "_law_planted" ["_law_deal_here", "_law_world", "_law_around"] spPlanted := by
  have O_draw : Ok P w K mg base CX0 1 "_law_draw" ["_law_deal_here", "_law_many"] spDraw := ok_draw A
  have O_named : Ok P w K mg base CX0 2 "_law_named" ["_law_deal_here", "_law_world", "_law_around", "_law_kind"] spNamed := ok_named A
  refine ok_of0 A.planted sc_law_planted (fun _ _ _ _ _ _ us hl => match us, hl with | [_, _, _], _ => rfl) (fun vs H Q E h => ?_) (fun f cdv Ar outer s H vs Q E hr h => ?_)
  · obtain ⟨_, _, rfl, _⟩ := h; rfl
  · obtain ⟨C, lf, rfl, G, n8, mk⟩ := h
    refine ⟨_, (pss_cons (ps_asg (pe_tup (pa_cons (pe_ok O_named (hr.mono (by omega)) (pa_cons (pv 0) (pa_cons (pv 1) (pa_cons (pv 2) (pa_cons pe_int pa_nil))))) (pa_cons pe_non (pa_cons (pe_ok O_draw (hr.mono (by omega)) (pa_cons (pv 0) (pa_cons pe_int pa_nil))) pa_nil)))) (pg_tupK (K := K) (n := 3) rfl (pgs_cons (pg_name (i := 3) sc_law_planted.nd rfl (Or.inr rfl)) (pgs_cons (pg_name (i := 4) sc_law_planted.nd rfl (Or.inr rfl)) (pgs_cons (pg_name (i := 5) sc_law_planted.nd rfl (Or.inl rfl)) pgs_nil)))))
    (pss_cons (ps_par (i := 6) (j := 7) rfl sc_law_planted.nd rfl rfl (by decide) rfl rfl (pa_cons (pe_lst (pa_cons (pe_tup (pa_cons pe_str (pa_cons (pv 3) (pa_cons (pe_ok O_draw (hr.mono (by omega)) (pa_cons (pv 0) (pa_cons pe_int pa_nil))) pa_nil)))) pa_nil)) (pa_cons (pe_lst (pa_cons (pe_tup (pa_cons pe_str (pa_cons (pv 3) pa_nil))) pa_nil)) pa_nil)) (by rfl))
    (Evl.pss_cut (ps_for PassesOwn.never rfl (pi_range1 (by rfl) A.range (pa_cons (pe_op op_add pe_int (pe_ok O_draw (hr.mono (by omega)) (pa_cons (pv 0) (pa_cons pe_int pa_nil)))) pa_nil)) (pg_name (i := 8) sc_law_planted.nd rfl (Or.inl rfl)) (pss_cons (ps_setLc (i := 10) (own := [("_law_name", 9)]) (g := gName 9) (by rfl) sc_law_planted.nd rfl rfl (sw_true rfl rfl rfl (by decide +kernel)) (pi_list (pe_dget (hu_of hr) (pv 1) pe_str (fun _ _ => rfl))) (blkOk_by (own := [("_law_name", 9)]) (N := ["_law_deal_here", "_law_world", "_law_around", "_law_m", "_law_last", "_law_within", "_law_found", "_law_inner", "_law_k", "_law_name", "_law_some", "_law_y", "_law_z", "_law_turn"]) (sc := defScope (topS 23)) (by decide +kernel)) (fun _ _ _ _ _ => (pg_nameL (i := 9) sc_law_planted.nd rfl rfl)) (fun _ _ _ _ _ => (pts_one (pt_cmpR (op_notInK (K := K)) (pv 9) (pe_tup (pa_cons (pv 3) (pa_cons (pv 4) pa_nil))) rfl))) (fun _ _ _ _ _ => (pv 9)))
    (pss_cons (ps_par (i := 11) (j := 12) rfl sc_law_planted.nd rfl rfl (by decide) rfl rfl (pa_cons (pe_ix (ix_listK (K := K)) (pv 10) (pe_ok O_draw (hr.mono (by omega)) (pa_cons (pv 0) (pa_cons (pe_callB call_len_seq (by rfl) A.len boot_len (pa_cons (pv 10) pa_nil)) pa_nil))) (fun _ _ => rfl)) (pa_cons (pe_ix (ix_listK (K := K)) (pv 10) (pe_ok O_draw (hr.mono (by omega)) (pa_cons (pv 0) (pa_cons (pe_callB call_len_seq (by rfl) A.len boot_len (pa_cons (pv 10) pa_nil)) pa_nil))) (fun _ _ => rfl)) pa_nil)) (by rfl))
    (Evl.pss_cut (ps_if (pt_cmpR op_notN1 (pv 4) pe_non (nomark _)) (pss_one (ps_set (i := 7) sc_law_planted.nd rfl (Or.inl rfl) (pe_lst (pa_cons (pe_tup (pa_cons pe_str (pa_cons (pv 11) (pa_cons (pv 4) (pa_cons (pe_tup pa_nil) pa_nil))))) pa_nil)))) pss_nil)
    (Evl.pss_cut (ps_if (pw_or (pt_cmpR op_eq (pv 5) pe_int (nomark _)) (pw_or1 (pt_cmpR op_eq (pe_ok O_draw (hr.mono (by omega)) (pa_cons (pv 0) (pa_cons pe_int pa_nil))) pe_int (nomark _)))).pt (pss_one (ps_set (i := 7) sc_law_planted.nd rfl (Or.inl rfl) (pe_op op_cat (pe_lst (pa_cons (pe_tup (pa_cons pe_str (pa_cons (pv 12) (pa_cons (pe_tup pa_nil) (pa_cons (pe_callTy (call_tuple_ofK (K := K)) (by rfl) A.tuple (by decide +kernel) (pa_cons (pv 7) pa_nil)) pa_nil))))) pa_nil)) (pe_op op_rep (pe_lst (pa_cons (pe_tup (pa_cons pe_str (pa_cons (pv 11) (pa_cons (pv 12) (pa_cons (pe_tup pa_nil) pa_nil))))) pa_nil)) (pe_callTy call_int1 (by rfl) A.int (by decide +kernel) (pa_cons (pe_cmpR op_ne (pv 11) (pv 12) (nomark _)) pa_nil)))))) pss_nil)
    (pss_one (ps_if (pt_cmpR op_eq (pv 5) pe_int (nomark _)) (pss_cons (ps_set (i := 4) sc_law_planted.nd rfl (Or.inr rfl) (pe_ok O_named (hr.mono (by omega)) (pa_cons (pv 0) (pa_cons (pv 1) (pa_cons (pv 2) (pa_cons pe_int pa_nil))))))
    (pss_one (ps_expr (pe_bm PySem.F.plainAttrs_list PySem.F.slot_list_append PySem.F.type_list_append mt_append (pv 6) (pa_cons (pe_tup (pa_cons pe_str (pa_cons (pv 4) (pa_cons (pe_tup pa_nil) (pa_cons (pe_callTy (call_tuple_ofK (K := K)) (by rfl) A.tuple (by decide +kernel) (pa_cons (pv 7) pa_nil)) pa_nil))))) pa_nil))))) pss_nil)))))))
    (Evl.pss_cut (ps_if (pt_cmpR op_eq (pv 5) pe_int (nomark _)) (pss_cons (ps_set (i := 4) sc_law_planted.nd rfl (Or.inr rfl) (pe_ok O_named (hr.mono (by omega)) (pa_cons (pv 0) (pa_cons (pv 1) (pa_cons (pv 2) (pa_cons pe_int pa_nil))))))
    (pss_one (ps_expr (pe_bm PySem.F.plainAttrs_list PySem.F.slot_list_append PySem.F.type_list_append mt_append (pv 6) (pa_cons (pe_tup (pa_cons pe_str (pa_cons (pv 4) (pa_cons (pe_tup pa_nil) (pa_cons (pe_callTy (call_tuple_ofK (K := K)) (by rfl) A.tuple (by decide +kernel) (pa_cons (pv 7) pa_nil)) pa_nil))))) pa_nil))))) pss_nil)
    (Evl.pss_cut (ps_for PassesOwn.never rfl (pi_range1 (by rfl) A.range (pa_cons (pe_ok O_draw (hr.mono (by omega)) (pa_cons (pv 0) (pa_cons pe_int pa_nil))) pa_nil)) (pg_name (i := 13) sc_law_planted.nd rfl (Or.inl rfl)) (pss_cons (ps_expr (pe_bm PySem.F.plainAttrs_list PySem.F.slot_list_append PySem.F.type_list_append mt_append (pv 6) (pa_cons (pe_tup (pa_cons pe_str (pa_cons (pe_ok O_named (hr.mono (by omega)) (pa_cons (pv 0) (pa_cons (pv 1) (pa_cons (pv 2) (pa_cons pe_int pa_nil))))) (pa_cons (pv 4) (pa_cons (pe_tup pa_nil) pa_nil))))) pa_nil)))
    (pss_one (ps_expr (pe_bm PySem.F.plainAttrs_list PySem.F.slot_list_append PySem.F.type_list_append mt_append (pv 6) (pa_cons (pe_tup (pa_cons pe_str (pa_cons (pv 3) (pa_cons (pe_op op_sub pe_int (pv 13)) pa_nil)))) pa_nil))))))
    (pss_one (ps_ret (pv 6)))))))), ?_⟩
    have one : ∀ {n : Nat}, n ≤ 10 → n ≤ sizeLine := fun h => small_of (by omega)
    have hnz := G.nz
    walk_at "go"
    refine g_named1 G (by simp; omega) (by decide) (by decide) (fun H1 m hm nm G1 f1 => ?_)
    walk_at "go"
    refine g_draw G1 (by decide) (by decide) (fun wi H2 i0 i1 G2 f2 => ?_)
    walk_at "go"
    refine ⟨one (by simp), fun p0 n0 => ?_⟩
    refine g_gtup upd_same rfl ?_
    walk_at "go"
    have f3 : Fr [] H2 (upd H2 p0 (.tup [.str m, .non, .int wi])) := Fr.new n0
    have G3 := G2.fr0 f3
    have f03 := (f1.trans (G1.fpd f2)).trans f3.nil
    generalize upd H2 p0 (.tup [.str m, .non, .int wi]) = H3 at *
    refine g_draw G3 (by decide) (by decide) (fun j H4 j0 j1 G4 f4 => ?_)
    have f04 := f03.trans (G3.fpd f4)
    walk_at "go"
    refine ⟨one (by simp), fun p5 n5 => ?_⟩
    walk_at "go"
    refine ⟨one (by simp), fun pf nf => ?_⟩
    walk_at "go"
    refine ⟨one (by simp), fun p6 n6 => ?_⟩
    walk_at "go"
    refine ⟨one (by simp), fun p7 n7 => ?_⟩
    walk_at "go"
    have hwl := wB_let m (.num j)
    have hwt := wB_tell (.nm m)
    have f57 : Fr [] H4 (upd (upd (upd (upd H4 p5 (.tup [.str "let", .str m, .int j])) pf (.lst [.ref p5])) p6 (.tup [.str "tell", .str m])) p7 (.lst [.ref p6])) := by walk_at "fr"
    have hn : H pf = none := G.none f04 (Fr.none (Fr.new n5) nf) ⟨_, _, G4⟩
    have a : Acc C lf [] H 4 7 pf (upd (upd (upd (upd H4 p5 (.tup [.str "let", .str m, .int j])) pf (.lst [.ref p5])) p6 (.tup [.str "tell", .str m])) p7 (.lst [.ref p6])) [.ref p5] [.let_ m (.num j)] [(m, 0)] lf :=
      ⟨G4.fr0 f57, f04.trans f57.nil, by walk_at "at", BAt.one (by simp only [SAt]; exact ⟨p5, rfl, by walk_at "at"⟩), Good.make (hx := hm) (us := []) (by simp only [opsS, Atm.nms]) (by simp), by omega, Int.le_refl _, id, by simp only [depB, depS]; decide⟩
    have nn : Inn C ([] ++ [(m, 0)]) pf 3 1 (upd (upd (upd (upd H4 p5 (.tup [.str "let", .str m, .int j])) pf (.lst [.ref p5])) p6 (.tup [.str "tell", .str m])) p7 (.lst [.ref p6])) p7 :=
      ⟨(((G4.fr0 (Fr.new n5)).fr0 (Fr.new nf)).fr0 (Fr.new n6)).nin n7, Ne.symm (ne_of_none (keep n6 upd_same) n7), [.ref p6], [.tell (.nm m)], [], upd_same, BAt.one (by simp only [SAt]; exact ⟨p6, rfl, by walk_at "at"⟩), Good.use (us := [m]) (by simp only [opsS, Atm.nms]) (by intro x hx; simp at hx; rw [hx]; exact vis_new (by simp)), hwt, by simp only [depB, depS]; decide⟩
    generalize upd (upd (upd (upd H4 p5 (.tup [.str "let", .str m, .int j])) pf (.lst [.ref p5])) p6 (.tup [.str "tell", .str m])) p7 (.lst [.ref p6]) = H7 at *
    clear f57 n7 n6 nf n5 f04 G4 f4 G3 f3 n0 G2 f2 G1 f1 hwl hwt f03
    refine ⟨fun σ' H' => ∃ (n : Nat) (lv : V) (pi : Addr) (u8 u10 u11 u12 : Option V) (vs : List V) (b : List Stm) (nw : List (Str × Int)), σ' = [some (.ref C.d), some (.ref C.w), some (.ref C.ar), some (.str m), some lv, some (.int wi), some (.ref pf), some (.ref pi), u8, none, u10, u11, u12, none] ∧ n ≤ 5 ∧
      Acc C lf [] H (4 + 50 * n) 7 pf H' vs b nw lf ∧ Inn C ([] ++ nw) pf (4 + 8 * n) (1 + n) H' pi ∧ nw.length ≤ 1 + n ∧ (wi = 1 → nw.length ≤ 1) ∧ m ∈ nw.map (·.1) ∧ (wi = 0 → ∃ x, lv = .str x ∧ x ∈ nw.map (·.1)), ?_, ?_⟩
    · walk_at "go"
      refine g_draw a.G (by decide) (by decide) (fun q H8 q0 q1 G8 f8 => ?_)
      have a := a.same G hn G8 (a.G.fpd f8)
      have nn := nn.fr f8 (fun z => nn.np (by unfold GC.all; simp at z ⊢; rcases z with z | z <;> simp [z])) (fun x hx => hx) (show 3 ≤ 4 + 8 * 0 by decide) (show 1 ≤ 1 + 0 by decide)
      walk_at "go"
      refine ⟨_, rfl, by omega, by omega, ?_⟩
      refine for_rng (fun i σ' H' => ∃ (lv : V) (pi : Addr) (u8 u10 u11 u12 : Option V) (vs : List V) (b : List Stm) (nw : List (Str × Int)), σ' = [some (.ref C.d), some (.ref C.w), some (.ref C.ar), some (.str m), some lv, some (.int wi), some (.ref pf), some (.ref pi), u8, none, u10, u11, u12, none] ∧
        Acc C lf [] H (4 + 50 * i) 7 pf H' vs b nw lf ∧ Inn C ([] ++ nw) pf (4 + 8 * i) (1 + i) H' pi ∧ nw.length ≤ 1 + i ∧ (wi = 1 → nw.length ≤ 1) ∧ m ∈ nw.map (·.1) ∧ (lv = .non ∨ ∃ x, lv = .str x ∧ x ∈ nw.map (·.1)) ∧ (wi = 0 → 1 ≤ i → lv ≠ .non))
        ⟨_, _, _, _, _, _, _, _, _, rfl, a.more (by omega), nn, by simp, by simp, by simp, .inl rfl, by omega⟩ (fun σ' H' p => ?_) (fun i σ' H' hi p => ?_)
      · obtain ⟨lv, pi, u8, u10, u11, u12, vs, b, nw, rfl, a, nn, h1, h2, h3, h4, h5⟩ := p
        exact ⟨_, lv, pi, u8, u10, u11, u12, vs, b, nw, rfl, by omega, a, nn, h1, h2, h3, fun z => h4.resolve_left (h5 z (by omega))⟩
      · obtain ⟨lv, pi, u8, u10, u11, u12, vs, b, nw, rfl, a, nn, h1, h2, h3, h4, h5⟩ := p
        walk_at "go"
        refine ⟨_, _, rfl, kvl a.G.wd (wkv_names _ _), ?_⟩
        have lvf : flatV lv = true := by rcases h4 with rfl | ⟨x, rfl, _⟩ <;> rfl
        have nl := a.G.nm
        have G0 := a.G
        refine lc_list (fun D i H9 => Fr [] H' H9 ∧ H9 D = some (.lst (((C.names.map V.str).take i).filterMap (selV fun x => !inV (.str x) [.str m, lv])))) nl (fun D hD => ⟨Fr.new hD, upd_same⟩) (fun D i H9 hD p => p.1.get0 nl) (fun D H9 hD p => ?_) (fun D i x H9 hD hx p => ?_)
        rotate_left
        · obtain ⟨f9, e9⟩ := p
          obtain ⟨y, hy, rfl⟩ := map_at hx
          walk_at "go"
          refine ⟨rfl, ?_⟩
          walk_at "go"
          refine ⟨one (by simp), fun p1 n1 => ?_⟩
          refine g_inT upd_same rfl (by rw [List.all_cons, List.all_cons, lvf]; rfl) ?_
          walk_at "go"
          have f10 : Fr [] H9 (upd H9 p1 (.tup [.str m, lv])) := Fr.new n1
          refine i_bool (fun e => ?_) (fun e => ?_)
          · walk_at "go"
            refine ⟨_, f10.get0 e9, small_lt ?_, (f9.trans f10).mut hD, ?_⟩
            · refine Nat.lt_of_le_of_lt (List.length_filterMap_le _ _) ?_
              simp; omega
            · rw [upd_same, take_fm hx, sel_yes (by simpa using e)]; rfl
          · refine ⟨f9.trans f10, ?_⟩
            rw [take_fm hx, sel_no (by simpa using e)]
            simpa using f10.get0 e9
        obtain ⟨f9, e9⟩ := p
        rw [List.take_length, fm_filter] at e9
        generalize hsome : C.names.filter (fun x => !inV (.str x) [.str m, lv]) = some_ at *
        have hsm : ∀ x ∈ some_, x ∈ C.names := fun x hx => by rw [← hsome] at hx; exact (List.mem_filter.mp hx).1
        have hpos : 1 ≤ some_.length ∧ some_.length ≤ 17 := by
          constructor
          · have hsub : ∀ x ∈ C.names, x ∈ some_ ++ [m, (match lv with | .str y => y | _ => m)] := fun x hx => by
              by_cases hc : (!inV (.str x) [.str m, lv]) = true
              · rw [← hsome]; exact List.mem_append_left _ (List.mem_filter.mpr ⟨hx, hc⟩)
              · refine List.mem_append_right _ ?_
                have hc : inV (.str x) [.str m, lv] = true := by simpa using hc
                rcases h4 with rfl | ⟨y, rfl, _⟩
                · simp only [inV, List.any_cons, List.any_nil, eqV, Bool.or_false] at hc
                  simp at hc; simp [hc]
                · simp only [inV, List.any_cons, List.any_nil, eqV, Bool.or_false] at hc
                  simp at hc
                  rcases hc with hc | hc <;> simp [hc]
            have := nodup_le G.nn hsub
            simp at this
            omega
          · rw [← hsome]
            have := List.length_filter_le (fun x => !inV (.str x) [.str m, lv]) C.names
            omega
        have a := a.same G hn (a.G.fr0 f9) f9.nil
        have nn := nn.fr f9 (by simp) (fun x hx => hx) (Nat.le_refl _) (Nat.le_refl _)
        have hDf : D ∉ [C.d, C.l] := G0.dl hD
        have pick : ∀ (i : Int), 0 ≤ i → i < ((some_.map V.str).length : Int) → ∃ x, x ∈ some_ ∧ atI (some_.map V.str) i = some (.str x) := fun i i0 i1 =>
          ⟨some_[i.toNat]'(by simp at i1; omega), List.getElem_mem _, by rw [atI_nat i0 i1]; simp⟩
        walk_at "go"
        refine g_len e9 ?_
        walk_at "go"
        refine g_draw a.G (by simp; omega) (by simp; omega) (fun jy H10 y0 y1 G10 f10 => ?_)
        obtain ⟨y, hy, hat⟩ := pick jy y0 y1
        have e10 := f10.get e9 hDf
        refine g_ixL e10 hat ?_
        walk_at "go"
        refine g_len e10 ?_
        walk_at "go"
        refine g_draw G10 (by simp; omega) (by simp; omega) (fun jz H11 z0 z1 G11 f11 => ?_)
        obtain ⟨z, hz, hat2⟩ := pick jz z0 z1
        refine g_ixL (f11.get e10 hDf) hat2 ?_
        walk_at "go"
        have fy := (G10.fpd f11)
        have a := (a.same G hn G10 (a.G.fpd f10)).same G hn G11 (G10.fpd f11)
        have nn := nn.fr (f10.trans f11) (fun z => nn.np (by unfold GC.all; simp at z ⊢; rcases z with z | z <;> simp [z])) (fun x hx => hx) (Nat.le_refl _) (Nat.le_refl _)
        clear fy hat hat2 G10 f10 e10 f9 e9 G11 f11 hD hDf
        have hyv : y ∈ C.names := hsm y hy
        refine ⟨fun σ' H' => ∃ (pi : Addr) (u8 u10 : Option V), σ' = [some (.ref C.d), some (.ref C.w), some (.ref C.ar), some (.str m), some lv, some (.int wi), some (.ref pf), some (.ref pi), u8, none, u10, some (.str y), some (.str z), none] ∧
          Acc C lf [] H (4 + 50 * i) 7 pf H' vs b nw lf ∧ Inn C ([] ++ nw) pf (4 + 8 * i) (1 + i) H' pi, ?_, ?_⟩
        · walk_at "go"
          rcases h4 with rfl | ⟨x, rfl, hx⟩
          · refine i_f (by simp) ?_
            walk_at "go"
            exact ⟨pi, _, _, rfl, a, nn.fr (Fr.refl [] _) (by simp) (fun x hx => hx) (by omega) (Nat.le_refl _)⟩
          · refine i_t (by simp) ?_
            walk_at "go"
            refine ⟨one (by simp), fun q1 m1 => ?_⟩
            walk_at "go"
            refine ⟨one (by simp), fun q2 m2 => ?_⟩
            walk_at "go"
            refine ⟨one (by simp), fun q3 m3 => ?_⟩
            walk_at "go"
            have fq : Fr [] H11 (upd (upd (upd H11 q1 (.tup [])) q2 (.tup [.str "call", .str y, .str x, .ref q1])) q3 (.lst [.ref q2])) := by walk_at "fr"
            have hw := wB_call y x []
            exact ⟨q3, _, _, rfl, a.same G hn (a.G.fr0 fq) fq.nil, ((a.G.fr0 (Fr.new m1)).fr0 (Fr.new m2)).nin m3, Ne.symm (ne_of_none (keep m2 (keep m1 a.e)) m3), [.ref q2], [.call y x []], [y], upd_same, BAt.one (by simp only [SAt]; exact ⟨q2, q1, rfl, by walk_at "at", by walk_at "at"⟩), Good.make (hx := hyv) (us := [x]) (by simp only [opsS, List.flatMap_nil]) (by intro v hv; simp at hv; rw [hv]; exact vis_new hx), by simp at hw; omega, by simp only [depB, depS]; exact Nat.le_trans (show _ ≤ 1 by decide) (by omega)⟩
        · clear a nn
          rintro σ' H12 ⟨pi, u8, u10, rfl, a, nn⟩
          refine ⟨fun σ' H' => ∃ (pi : Addr) (u8 u10 : Option V), σ' = [some (.ref C.d), some (.ref C.w), some (.ref C.ar), some (.str m), some lv, some (.int wi), some (.ref pf), some (.ref pi), u8, none, u10, some (.str y), some (.str z), none] ∧
            Acc C lf [] H (4 + 50 * i) 7 pf H' vs b nw lf ∧ Inn C ([] ++ nw) pf (4 + 8 * (i + 1)) (1 + (i + 1)) H' pi, ?_, ?_⟩
          · walk_at "go"
            refine i_dec (fun e => ?a1) (fun e => ?a2)
            case' a1 => refine i_t (by rfl) ?_
            case' a2 =>
              walk_at "go"
              refine g_draw a.G (by decide) (by decide) (fun q H14 _ _ G14 f14 => ?_)
              have a := a.same G hn G14 (a.G.fpd f14)
              have nn := nn.fr f14 (fun z => nn.np (by unfold GC.all; simp at z ⊢; rcases z with z | z <;> simp [z])) (fun x hx => hx) (Nat.le_refl _) (Nat.le_refl _)
              walk_at "go"
              refine i_dec (fun e => ?_) (fun e => ?b2)
              case' b2 =>
                walk_at "go"
                exact ⟨pi, _, _, rfl, a, nn.fr (Fr.refl [] _) (by simp) (fun x hx => hx) (by omega) (by omega)⟩
            all_goals
              walk_at "go"
              obtain ⟨ws, ib, inb, ie, ibt, igd, iw, idp⟩ := nn.it
              refine ⟨one (by simp), fun q1 m1 => ?_⟩
              walk_at "go"
              refine g_tupof (keep m1 ie) (fun q2 m2 => ?_)
              walk_at "go"
              refine ⟨one (by simp), fun q3 m3 => ?_⟩
              walk_at "go"
              refine ⟨one (by simp), fun q4 m4 => ?_⟩
              walk_at "go"
              refine ⟨one (by simp), fun q5 m5 => ?_⟩
              walk_at "go"
              refine ⟨one (by simp), fun q6 m6 => ?_⟩
              walk_at "go"
              refine ⟨one (by simp), fun q7 m7 => ?_⟩
              walk_at "go"
              refine g_rep upd_same (one (by simp)) (fun q8 m8 => ?_)
              refine g_cat (by walk_at "at") upd_same (small_of (by split <;> simp)) (fun q9 m9 => ?_)
              walk_at "go"
              have igd2 : Good C.names (C.vis ([] ++ nw)) [.fn z [] ib] [z] := Good.fn (hx := hsm z hz) (hp := by simp) (nb := inb) (igd.mono (fun v hv => List.mem_append_left _ (List.mem_append_left _ hv))) (by simp) (by simp)
              have hw1 := wB_fn z [] ib
              have hw2 := wB_call y z []
              simp only [List.length_nil] at hw1 hw2
              refine ⟨q9, _, _, rfl, a.same G hn (a.G.fr0 (by walk_at "fr")) (Fr.nil (by walk_at "fr")), ?_, ?_, _, [.fn z [] ib] ++ (if (!decide (V.str y = V.str z)) = true then [.call y z []] else []), [z] ++ (if (!decide (V.str y = V.str z)) = true then [y] else []), upd_same, ?_, ?_, ?_, ?_⟩
              · exact ((((((((a.G.fr0 (Fr.new m1)).fr0 (Fr.new m2)).fr0 (Fr.new m3)).fr0 (Fr.new m4)).fr0 (Fr.new m5)).fr0 (Fr.new m6)).fr0 (Fr.new m7)).fr0 (Fr.new m8)).nin m9
              · exact Ne.symm (ne_of_none (keep m8 (keep m7 (keep m6 (keep m5 (keep m4 (keep m3 (keep m2 (keep m1 a.e)))))))) m9)
              · refine BAt.append (BAt.one ?_) ?_
                · simp only [SAt]
                  exact ⟨q3, q1, q2, ws, rfl, by walk_at "at", by walk_at "at", by walk_at "at", ibt.up (Fr.tupLe (W := []) (by walk_at "fr"))⟩
                · exact bat_if (by simp only [SAt]; exact ⟨q6, q5, rfl, by walk_at "at", by walk_at "at"⟩)
              · refine igd2.append ?_ ?_
                · split
                  · exact Good.make (hx := hyv) (us := [z]) (by simp only [opsS, List.flatMap_nil]) (by simp)
                  · exact Good.nil
                · split
                  · rename_i hyz
                    intro v hv hv2
                    simp at hv hv2 hyz
                    exact hyz (by rw [← hv, ← hv2])
                  · simp
              · rw [wB_append]
                split
                · omega
                · rw [wB_nil]; omega
              · refine depB_append (depB_one (by simp only [depS]; omega)) ?_
                split
                · exact depB_one (by simp only [depS, List.length_nil]; omega)
                · simp only [depB]; omega
          · clear a nn
            rintro σ' H13 ⟨pi, u8, u10, rfl, a, nn⟩
            walk_at "go"
            refine i_dec (fun e => ?_) (fun e => ?_)
            · have e0 : wi = 0 := V.int.inj e
              walk_at "go"
              refine g_named1 a.G (by simp; omega) (by decide) (by decide) (fun H14 x hx nx G14 f14 => ?_)
              have i14 := nn.fr f14 (fun q => nn.np (fp_all C _ q)) (fun v hv => vis_old (nw := [(x, 1)]) hv) (Nat.le_refl _) (Nat.le_refl _)
              walk_at "go"
              refine ⟨ty_l (f14.get a.e (fun q => (G.nin hn) (fp_all C _ q))), ?_⟩
              walk_at "go"
              refine ⟨one (by simp), fun q1 m1 => ?_⟩
              walk_at "go"
              obtain ⟨ws, ib, inb, ie, ibt, igd, iw, idp⟩ := i14.it
              refine g_tupof (keep m1 ie) (fun q2 m2 => ?_)
              walk_at "go"
              refine ⟨one (by simp), fun q3 m3 => ?_⟩
              walk_at "go"
              have f15 : Fr [] H14 (upd (upd (upd H14 q1 (.tup [])) q2 (.tup ws)) q3 (.tup [.str "fn", .str x, .ref q1, .ref q2])) := by walk_at "fr"
              have hw1 := wB_fn x [] ib
              simp only [List.length_nil] at hw1
              obtain ⟨ws0, ib0, inb0, ie0, ibt0, igd0, iw0, idp0⟩ := nn.it
              have hge : Good C.names (C.vis ([] ++ nw)) [.fn x [] ib] ([(x, (1 : Int))].map (·.1)) := Good.fn (hx := hx) (hp := by simp) (nb := inb) (igd.mono (by
                intro v hv
                have := vis_app hv
                simpa using this)) (by simp) (by simp)
              obtain ⟨ee, a2⟩ := a.add (st := .fn x [] ib) (v := .ref q3) (nw2 := [(x, 1)]) (cst2 := 50) (lf2 := lf) G hn (G14.fr0 f15) (f14.trans f15.nil) (by simp only [SAt]; exact ⟨q3, q1, q2, ws, rfl, upd_same, by walk_at "at", by walk_at "at", ibt.up f15.tupLe⟩) hge (by omega) (Int.le_refl _) id (by simp only [depS]; omega)
              have np := G.nin hn
              refine g_append ee (small_lt ?_) ?_
              · have := a2.len (by omega)
                simp only [List.length_append, List.length_cons, List.length_nil] at this ⊢; omega
              walk_at "go"
              have ecst : ((4 : Int) + 50 * (i : Int) + 50) = 4 + 50 * ((i + 1 : Nat) : Int) := by push_cast; omega
              rw [ecst] at a2
              have f16 := Fr.put (W := [pf]) (o' := .lst (vs ++ [.ref q3])) ee (by intro xs q; cases q) (by simp)
              refine ⟨.str x, pi, _, _, _, _, _, _, nw ++ [(x, 1)], rfl, a2, ?_, by simp; omega, by omega, by simp at h3 ⊢; exact .inl h3, .inr ⟨x, rfl, by simp⟩, fun _ _ => by intro h; cases h⟩
              have i15 := i14.fr f15 (by simp) (fun v hv => hv) (Nat.le_refl _) (Nat.le_refl _)
              exact i15.fr f16 (by simp; exact i15.nf) (fun v hv => by rw [← List.append_assoc]; exact hv) (Nat.le_refl _) (Nat.le_refl _)
            · walk_at "go"
              exact ⟨lv, pi, _, _, _, _, _, _, nw, rfl, a.more (by push_cast; omega), nn, by omega, h2, h3, h4, fun z => absurd (by rw [z]) e⟩
    · rintro σ' H8 ⟨n, lv, pi, u8, u10, u11, u12, vs, b, nw, rfl, n5, a, nn, h1, h2, h3, h4⟩
      refine ⟨fun σ' H' => ∃ (x : Str) (vs : List V) (b : List Stm) (nw : List (Str × Int)), σ' = [some (.ref C.d), some (.ref C.w), some (.ref C.ar), some (.str m), some (.str x), some (.int wi), some (.ref pf), some (.ref pi), u8, none, u10, u11, u12, none] ∧
        Acc C lf [] H (4 + 50 * n + 50) 7 pf H' vs b nw lf ∧ nw.length ≤ 6 ∧ m ∈ nw.map (·.1) ∧ x ∈ nw.map (·.1), ?_, ?_⟩
      · walk_at "go"
        refine i_dec (fun e => ?_) (fun e => ?_)
        · have e0 : wi = 1 := V.int.inj e
          have h2 := h2 e0
          walk_at "go"
          refine g_named1 a.G (by simp; omega) (by decide) (by decide) (fun H14 x hx nx G14 f14 => ?_)
          have i14 := nn.fr f14 (fun q => nn.np (fp_all C _ q)) (fun v hv => vis_old (nw := [(x, 1)]) hv) (Nat.le_refl _) (Nat.le_refl _)
          walk_at "go"
          refine ⟨ty_l (f14.get a.e (fun q => (G.nin hn) (fp_all C _ q))), ?_⟩
          walk_at "go"
          refine ⟨one (by simp), fun q1 m1 => ?_⟩
          walk_at "go"
          obtain ⟨ws, ib, inb, ie, ibt, igd, iw, idp⟩ := i14.it
          refine g_tupof (keep m1 ie) (fun q2 m2 => ?_)
          walk_at "go"
          refine ⟨one (by simp), fun q3 m3 => ?_⟩
          walk_at "go"
          have f15 : Fr [] H14 (upd (upd (upd H14 q1 (.tup [])) q2 (.tup ws)) q3 (.tup [.str "fn", .str x, .ref q1, .ref q2])) := by walk_at "fr"
          have hw1 := wB_fn x [] ib
          simp only [List.length_nil] at hw1
          obtain ⟨ws0, ib0, inb0, ie0, ibt0, igd0, iw0, idp0⟩ := nn.it
          have hge : Good C.names (C.vis ([] ++ nw)) [.fn x [] ib] ([(x, (1 : Int))].map (·.1)) := Good.fn (hx := hx) (hp := by simp) (nb := inb) (igd.mono (by
            intro v hv
            have := vis_app hv
            simpa using this)) (by simp) (by simp)
          obtain ⟨ee, a2⟩ := a.add (st := .fn x [] ib) (v := .ref q3) (nw2 := [(x, 1)]) (cst2 := 50) (lf2 := lf) G hn (G14.fr0 f15) (f14.trans f15.nil) (by simp only [SAt]; exact ⟨q3, q1, q2, ws, rfl, upd_same, by walk_at "at", by walk_at "at", ibt.up f15.tupLe⟩) hge (by omega) (Int.le_refl _) id (by simp only [depS]; omega)
          have np := G.nin hn
          refine g_append ee (small_lt ?_) ?_
          · have := a2.len (by omega)
            simp only [List.length_append, List.length_cons, List.length_nil] at this ⊢; omega
          walk_at "go"
          exact ⟨x, _, _, nw ++ [(x, 1)], rfl, a2, by simp; omega, by simp at h3 ⊢; exact .inl h3, by simp⟩
        · have e0 : wi ≠ 1 := fun z => e (by rw [z])
          obtain ⟨x, rfl, hx⟩ := h4 (by omega)
          walk_at "go"
          exact ⟨x, vs, b, nw, rfl, a.more (by omega), by omega, h3, hx⟩
      · clear a nn h1 h2 h3 h4
        rintro σ' H9 ⟨x, vs, b, nw, rfl, a, h1, h3, h4⟩
        refine ⟨fun σ' H' => ∃ (u13 : Option V) (vs : List V) (b : List Stm) (nw : List (Str × Int)), σ' = [some (.ref C.d), some (.ref C.w), some (.ref C.ar), some (.str m), some (.str x), some (.int wi), some (.ref pf), some (.ref pi), u8, none, u10, u11, u12, u13] ∧ Acc C lf [] H 400 7 pf H' vs b nw lf, ?_, ?_⟩
        · walk_at "go"
          refine g_draw a.G (by decide) (by decide) (fun q H10 q0 q1 G10 f10 => ?_)
          have a := a.same G hn G10 (a.G.fpd f10)
          walk_at "go"
          refine ⟨_, rfl, by omega, by omega, ?_⟩
          refine for_rng (fun i σ' H' => ∃ (u13 : Option V) (vs : List V) (b : List Stm) (nw : List (Str × Int)), σ' = [some (.ref C.d), some (.ref C.w), some (.ref C.ar), some (.str m), some (.str x), some (.int wi), some (.ref pf), some (.ref pi), u8, none, u10, u11, u12, u13] ∧
            Acc C lf [] H (304 + 8 * i) 7 pf H' vs b nw lf ∧ nw.length ≤ 6 + i ∧ m ∈ nw.map (·.1) ∧ x ∈ nw.map (·.1))
            ⟨_, _, _, _, rfl, a.more (by omega), by omega, h3, h4⟩ (fun σ' H' p => ?_) (fun i σ' H' hi p => ?_)
          · obtain ⟨u13, vs, b, nw, rfl, a, _⟩ := p
            exact ⟨u13, vs, b, nw, rfl, a.more (by omega)⟩
          · obtain ⟨u13, vs, b, nw, rfl, a, h1, h3, h4⟩ := p
            walk_at "go"
            refine ⟨ty_l a.e, ?_⟩
            walk_at "go"
            refine g_named1 a.G (by simp; omega) (by decide) (by decide) (fun H14 y hy ny G14 f14 => ?_)
            walk_at "go"
            refine ⟨one (by simp), fun q1 m1 => ?_⟩
            walk_at "go"
            refine ⟨one (by simp), fun q2 m2 => ?_⟩
            walk_at "go"
            have f15 : Fr [] H14 (upd (upd H14 q1 (.tup [])) q2 (.tup [.str "call", .str y, .str x, .ref q1])) := by walk_at "fr"
            have hw := wB_call y x []
            simp only [List.length_nil] at hw
            obtain ⟨ee, a2⟩ := a.add (st := .call y x []) (v := .ref q2) (nw2 := [(y, 0)]) (cst2 := 4) (lf2 := lf) G hn (G14.fr0 f15) (f14.trans f15.nil) (by simp only [SAt]; exact ⟨q2, q1, rfl, upd_same, by walk_at "at"⟩) (Good.make (hx := hy) (us := [x]) (by simp only [opsS, List.flatMap_nil]) (by intro v hv; simp at hv; rw [hv]; exact vis_new h4)) (by omega) (Int.le_refl _) id (by simp only [depS, List.length_nil]; omega)
            refine g_append ee (small_lt ?_) ?_
            · have := a2.len (by omega)
              simp only [List.length_append, List.length_cons, List.length_nil] at this ⊢; omega
            walk_at "go"
            refine ⟨ty_l a2.e, ?_⟩
            walk_at "go"
            refine ⟨one (by simp), fun q3 m3 => ?_⟩
            walk_at "go"
            have hw2 := wB_set m (.num (9 - (0 + (i : Int))))
            obtain ⟨ee3, a3⟩ := a2.add0 (st := .set m (.num (9 - (0 + (i : Int))))) (v := .ref q3) (cst2 := 4) G hn (Fr.new m3) (a2.G.fr0 (Fr.new m3)) (by simp only [SAt]; exact ⟨q3, rfl, upd_same⟩) (Good.use (us := [m]) (by simp only [opsS, Atm.nms]) (by intro v hv; simp at hv; rw [hv]; exact vis_new (by simp at h3 ⊢; exact .inl h3))) (by omega) (by simp only [depS]; omega)
            refine g_append ee3 (small_lt ?_) ?_
            · have := a3.len (by omega)
              simp only [List.length_append, List.length_cons, List.length_nil] at this ⊢; omega
            walk_at "go"
            have ecst : ((304 : Int) + 8 * (i : Int) + 4 + 4) = 304 + 8 * ((i + 1 : Nat) : Int) := by push_cast; omega
            rw [ecst] at a3
            exact ⟨_, _, _, nw ++ [(y, 0)], rfl, a3, by simp; omega, by simp at h3 ⊢; exact .inl h3, by simp at h4 ⊢; exact .inl h4⟩
        · rintro σ' H10 ⟨u13, vs, b, nw, rfl, a⟩
          walk_at "go"
          exact mk H10 pf vs b nw lf a.G a.fr hn a.e a.bt a.good a.w a.l a.l4 a.dep
end
end Fb
set_option Elab.async false
set_option linter.all false
set_option maxRecDepth 100000
set_option maxHeartbeats 4000000
namespace Fb
open PySem PySem.Spec PyProof.Rows L2
local macro_rules | `(tactic| walk_at "go1") => `(tactic| first
  | with_reducible refine g_seq ?_
  | with_reducible refine g_asg ?_
  | with_reducible refine g_name ?_
  | ((with_reducible refine' g_var ?h1 ?_); (case h1 => rfl))
  | with_reducible refine g_c ?_
  | with_reducible refine g_op ?_
  | with_reducible refine g_un ?_
  | with_reducible refine g_rU ?_
  | with_reducible refine g_yes ?_
  | with_reducible refine g_isN ?_
  | with_reducible refine g_notN ?_
  | with_reducible refine g_int1 ?_
  | with_reducible refine g_I0 ?_
  | ((with_reducible refine' g_eq ?h1 ?_); (case h1 => rfl))
  | ((with_reducible refine' g_ne ?h1 ?_); (case h1 => rfl))
  | with_reducible refine g_test ?_
  | with_reducible refine g_tb ?_
  | with_reducible refine g_bl ?_
  | with_reducible refine g_drop ?_
  | with_reducible refine g_ret ?_
  | with_reducible refine g_if ?_
  | with_reducible refine g_ife ?_
  | with_reducible refine g_and ?_
  | with_reducible refine g_or ?_
  | with_reducible refine g_not ?_
  | with_reducible refine g_next ?_
  | with_reducible refine g_nil ?_
  | with_reducible refine g_cons ?_
  | with_reducible refine g_cb ?_
  | with_reducible refine g_call ?_
  | with_reducible refine g_tup ?_
  | with_reducible refine g_lst ?_
  | with_reducible refine g_dget ?_
  | with_reducible refine g_dput ?_
  | with_reducible refine g_bm ?_
  | with_reducible refine g_lc ?_
  | with_reducible refine g_for ?_
  | with_reducible refine g_il ?_
  | with_reducible refine g_rng1 ?_
  | with_reducible refine g_gsub ?_
  | with_reducible refine g_din ?_
  | with_reducible refine g_disp ?_
  | with_reducible refine g_pairs ?_
  | with_reducible refine g_pairs0 ?_
  | with_reducible refine g_sl ?_
  | with_reducible refine g_part ?_
  | with_reducible refine g_part1 ?_
  | with_reducible refine g_nopart ?_
  | with_reducible refine g_andV ?_
  | with_reducible refine g_orV ?_
  | with_reducible refine g_notV ?_
  | with_reducible refine g_itp ?_
  | with_reducible refine g_par ?_
  | with_reducible refine g_par1 ?_
  | with_reducible refine g_par3 ?_
  | with_reducible refine g_par31 ?_
  | with_reducible refine g_gname ?_
  | with_reducible refine g_gcons ?_
  | with_reducible refine g_gnil ?_
  | with_reducible refine g_bm0 ?_)
local macro_rules | `(tactic| walk_at "go") => `(tactic| repeat walk_at "go1")
local macro_rules | `(tactic| walk_at "at") => `(tactic| repeat first
  | assumption
  | exact upd_same
  | with_reducible refine keep (by assumption) ?_
  | with_reducible refine keep_ne (by assumption) ?_
  | with_reducible refine Fr.get0 (by assumption) ?_
  | with_reducible refine Fr.get (by assumption) ?_ (by assumption)
  | with_reducible refine Fr.tup (by assumption) ?_)
local macro_rules | `(tactic| walk_at "fr") => `(tactic| repeat first
  | assumption
  | exact Fr.refl _ _
  | with_reducible refine Fr.trans ?_ (Fr.new (by assumption))
  | with_reducible refine Fr.trans ?_ (Fr.nil (by assumption))
  | with_reducible refine Fr.trans ?_ (by assumption))
local macro_rules | `(tactic| walk_at "gn") => `(tactic| repeat first
  | assumption
  | with_reducible refine Gn.fr0 ?_ (Fr.new (by assumption))
  | with_reducible refine Gn.fr0 ?_ (by assumption))
local macro_rules | `(tactic| walk_at "bt") => `(tactic| repeat first
  | assumption
  | with_reducible refine BAt.up (Fr.new (W := []) (by assumption)).1 _ _ ?_
  | with_reducible refine SAt.up (Fr.new (W := []) (by assumption)).1 _ _ ?_
  | with_reducible refine BAt.up (Fr.tupLe (by assumption)) _ _ ?_
  | with_reducible refine SAt.up (Fr.tupLe (by assumption)) _ _ ?_)
theorem fr_cut {W W0 : List Addr} {H H1 H2 : Hp} (f : Fr W H1 H2) (f0 : Fr W0 H H1) (h : ∀ a ∈ W, a ∈ W0 ∨ H a = none) : Fr W0 H H2 :=
  ⟨fun b xs e => f.1 b xs (f0.1 b xs e), fun b o e n => f.2 b o (f0.2 b o e n) fun q => (h b q).elim n fun z => by rw [e] at z; cases z⟩
/-- few, program, let_by (deal, size) -/
def spProg : Sp := fun vs H Q _ => ∃ (d l : Addr) (size : Int), vs = [.ref d, .int size] ∧ DealAt H d l ∧ 1 ≤ size ∧ size ≤ 16 ∧
  ∀ (H' : Hp) (p : Addr) (vs : List V) (b : List Stm) (names : List Str), DealAt H' d l → Fr [d, l] H H' → H' p = some (.tup vs) → BAt H' b vs → (look0 b).am = [] → names.length ≤ 17 → (∀ x, Op.M x ∈ ops b → x ∈ names) → wB b ≤ 2500 → depB b ≤ 7 → Q (.ref p) H'
section
variable {P : Program} {w : World} {K : PySem.W.Frag} {mg : Str → Option Value} {base : Heap}
theorem sc_law_few : FnScope ["_law_deal_here", "_law_size", "_law_world", "_law_around", "_law_found"] ["_law_deal_here", "_law_size"] (defScope (topS 32)) := ⟨rfl, rfl, rfl, by decide +kernel, rfl, by decide +kernel, by decide +kernel⟩
theorem ok_few (A : All K mg) : Ok P w K mg base CX0 18 "_law_few" ["_law_deal_here", "_law_size"] spProg := by
  have O_draw : Ok P w K mg base CX0 1 "_law_draw" ["_law_deal_here", "_law_many"] spDraw := ok_draw A
  have O_words : Ok P w K mg base CX0 2 "_law_words" ["_law_deal_here", "_law_many"] spWords := ok_words A
  have O_piece : Ok P w K mg base CX0 17 "_law_piece" ["_law_deal_here", "_law_world", "_law_around", "_law_deep"] (spPiece 4) := ok_piece_all A 4
  refine ok_of0 A.few sc_law_few (fun _ _ _ _ _ _ us hl => match us, hl with | [_, _], _ => rfl) (fun vs H Q E h => ?_) (fun f cdv Ar outer s H vs Q E hr h => ?_)
  · obtain ⟨_, _, _, rfl, _⟩ := h; rfl
  · obtain ⟨d, l, size, rfl, dl, s1, s2, q⟩ := h
    refine ⟨_, (pss_cons (ps_set (i := 2) sc_law_few.nd rfl (Or.inl rfl) (pe_disp (pps_cons pe_str (pe_ok O_words (hr.mono (by omega)) (pa_cons (pv 0) (pa_cons (pe_op op_add pe_int (pe_ok O_draw (hr.mono (by omega)) (pa_cons (pv 0) (pa_cons pe_int pa_nil)))) pa_nil))) (pps_cons pe_str (pv 1) pps_nil)) (by rfl) (by rfl) (fun z => by cases z) (by decide)))
    (pss_cons (ps_par (i := 3) (j := 4) rfl sc_law_few.nd rfl rfl (by decide) rfl rfl (pa_cons (pe_lst (pa_cons (pe_lst pa_nil) pa_nil)) (pa_cons (pe_lst pa_nil) pa_nil)) (by rfl))
    (Evl.pss_cut (ps_while PassesOwn.never (pt_cmpR op_gt (pe_dget (hu_of hr) (pv 2) pe_str (fun _ _ => rfl)) pe_int (nomark _)) (pss_one (ps_expr (pe_bm PySem.F.plainAttrs_list PySem.F.slot_list_extend PySem.F.type_list_extend mt_extend (pv 4) (pa_cons (pe_ok O_piece (hr.mono (by omega)) (pa_cons (pv 0) (pa_cons (pv 2) (pa_cons (pv 3) (pa_cons pe_int pa_nil))))) pa_nil)))))
    (pss_one (ps_ret (pe_callTy (call_tuple_ofK (K := K)) (by rfl) A.tuple (by decide +kernel) (pa_cons (pv 4) pa_nil))))))), ?_⟩
    walk_at "go"
    intro pw hpw
    walk_at "go"
    have dl1 := dl.fr0 (Fr.new (o := .dK []) hpw)
    refine ⟨d, l, _, rfl, dl1, by decide, by decide, fun n H1 n0 n1 dl1 f1 => ?_⟩
    walk_at "go"
    refine ⟨d, l, _, rfl, dl1, by omega, by omega, fun H2 nl names dl2 f2 hnl e2 nd hlen => ?_⟩
    walk_at "go"
    have npw : pw ∉ [d, l] := dl_ne dl hpw
    have ew2 : H2 pw = some (.dK []) := f2.get (f1.get upd_same npw) npw
    refine ⟨ew2, [(Sum.inr "names", .ref nl), (Sum.inr "left", .int size)], rfl, by simp, ?_⟩
    rw [show mergeK [] [(Sum.inr "names", .ref nl), (Sum.inr "left", .int size)] = wkv nl size by kernel_rfl]
    have nlw : nl ≠ pw := Ne.symm (ne_of_none (f1.get upd_same npw) hnl)
    have f02 : Fr [d, l] H (upd H2 pw (.dK (wkv nl size))) := (((Fr.new hpw).trans f1).trans f2).mut hpw
    have dl3 : DealAt (upd H2 pw (.dK (wkv nl size))) d l := by
      have fp : Fr [pw] H2 (upd H2 pw (.dK (wkv nl size))) := Fr.put ew2 (by intro xs q; cases q) (by simp)
      exact dl2.fr fp (fun z => npw (by simp at z; simp [z])) (fun z => npw (by simp at z; simp [z]))
    have e3w : (upd H2 pw (.dK (wkv nl size))) pw = some (.dK (wkv nl size)) := upd_same
    have e3n : (upd H2 pw (.dK (wkv nl size))) nl = some (.lst (names.map V.str)) := keep_ne nlw e2
    have nnl : nl ∉ [d, l] := dl_ne dl1 hnl
    generalize upd H2 pw (.dK (wkv nl size)) = H3 at *
    walk_at "go"
    refine ⟨small_of (by simp), fun g hg => ?_⟩
    walk_at "go"
    refine ⟨small_of (by simp), fun ar har => ?_⟩
    walk_at "go"
    have dlA := dl3.fr0 (Fr.new (o := .lst []) hg)
    have fS : Fr [] H3 (upd (upd H3 g (.lst [])) ar (.lst [.ref g])) := by walk_at "fr"
    have hg0 : H g = none := by
      cases eh : H g with
      | none => rfl
      | some o => rw [f02.get eh (dl_ne dl3 hg)] at hg; cases hg
    have GS : Gn (upd (upd H3 g (.lst [])) ar (.lst [.ref g])) ⟨d, l, pw, nl, names, ar, [], g, []⟩ size [] := by
      refine ⟨dl3.fr0 fS, fS.get0 e3w, fS.get0 e3n, upd_same, .nil, ⟨[], by walk_at "at", .nil⟩, ?_, nd, ⟨show 4 ≤ names.length by omega, show names.length ≤ 17 by omega⟩, by simp, ⟨by simp, by simp⟩⟩
      have n1 := dl_ne dl3 hg
      have n2 := dl_ne dlA har
      have n3 : pw ≠ g := ne_of_none e3w hg
      have n4 : nl ≠ g := ne_of_none e3n hg
      have n5 : pw ≠ ar := ne_of_none (keep hg e3w) har
      have n6 : nl ≠ ar := ne_of_none (keep hg e3n) har
      have n7 : g ≠ ar := ne_of_none (upd_same (H := H3) (o := .lst [])) har
      have n8 : d ≠ l := by
        obtain ⟨_, _, _, h1, h2⟩ := dl
        exact ne_of h1 h2 (by intro q; cases q)
      unfold GC.all
      simp only [List.mem_cons, List.not_mem_nil, or_false, not_or] at npw nnl n1 n2
      simp only [List.nodup_cons, List.mem_cons, List.not_mem_nil, or_false, not_or, List.nodup_nil, and_true, not_false_eq_true]
      exact ⟨⟨n8, Ne.symm npw.1, Ne.symm nnl.1, Ne.symm n2.1, Ne.symm n1.1⟩, ⟨Ne.symm npw.2, Ne.symm nnl.2, Ne.symm n2.2, Ne.symm n1.2⟩, ⟨Ne.symm nlw, n5, n3⟩, ⟨n6, n4⟩, Ne.symm n7⟩
    have f0S : Fr [d, l] H (upd (upd H3 g (.lst [])) ar (.lst [.ref g])) := f02.trans fS.nil
    generalize upd (upd H3 g (.lst [])) ar (.lst [.ref g]) = HS at *
    refine ⟨small_of (by simp), fun pf hS => ?_⟩
    walk_at "go"
    have a := (Acc.zero (dep := 7) (cst := 1500) GS hS (by decide) (by decide))
    obtain ⟨lfs, hlfs, ls1, ls2⟩ : ∃ lfs, size = lfs ∧ 1 ≤ lfs ∧ lfs ≤ 16 := ⟨size, rfl, s1, s2⟩
    rw [hlfs] at a GS
    refine ⟨fun σ' H' => ∃ (pf : Addr) (vs : List V) (b : List Stm) (nw : List (Str × Int)) (lf' : Int), σ' = [some (.ref d), some (.int size), some (.ref pw), some (.ref ar), some (.ref pf)] ∧ HS pf = none ∧ Acc  ⟨d, l, pw, nl, names, ar, [], g, []⟩ lfs [] HS 1500 7 pf H' vs b nw lf', ?_, ?_⟩
    · refine ⟨fun m σ' H' => ∃ (vs : List V) (b : List Stm) (nw : List (Str × Int)) (lf' : Int), σ' = [some (.ref d), some (.int size), some (.ref pw), some (.ref ar), some (.ref pf)] ∧ Acc  ⟨d, l, pw, nl, names, ar, [], g, []⟩ lfs [] HS 1500 7 pf H' vs b nw lf' ∧ m = (lf' + 4).toNat ∧ -4 ≤ lf', ⟨_, _, _, _, _, rfl, a, rfl, by omega⟩, ?_⟩
      rintro m σ' H' ⟨vs, b, nw, lf', rfl, a, rfl, l4⟩
      have al := a.l
      walk_at "go"
      refine ⟨_, _, rfl, kvl a.G.wd (wkv_left _ _), ?_⟩
      walk_at "go"
      refine i_dec (fun e => ?_) (fun e => ?_)
      · refine ⟨_, fun _ _ h => h, ?_⟩
        walk_at "go"
        refine ⟨ty_l a.e, ?_⟩
        walk_at "go"
        refine ⟨⟨d, l, pw, nl, names, ar, [], g, []⟩, lf', [] ++ nw, rfl, by show 0 + 2 * 4 ≤ 20; decide, a.G, by omega, by omega, fun H2 p ws c nw2 lf2 G2 f2 hp e2 bt2 g2 w2 l2 l42 d2 => ?_⟩
        obtain ⟨ee, a2⟩ := a.ext (cst2 := 0) GS hS G2 f2 bt2 g2 (by omega) (by omega) (by omega) (Nat.le_trans d2 (by decide))
        walk_at "go"
        refine g_extend ee e2 (small_of ?_) ?_
        · have := a2.len (by have := a2.l; omega)
          rw [List.length_append] at this; omega
        · walk_at "go"
          exact ⟨(lf2 + 4).toNat, by omega, _, _, _, lf2, rfl, a2, rfl, l42 (by omega)⟩
      · exact ⟨pf, vs, b, nw, lf', rfl, hS, a⟩
    · clear a
      rintro σ' H' ⟨pf, vs, b, nw, lf', rfl, hS, a⟩
      walk_at "go"
      refine g_tupof a.e (fun p hp => ?_)
      have f := Fr.new (W := []) (o := .tup vs) hp
      have al := a.l
      have al4 := a.l4 (by omega)
      have aw := a.w
      refine q _ p vs b names (a.G.deal.fr0 f) ((fr_cut a.fr f0S ?_).trans f.nil) upd_same (a.bt.up f.tupLe) (Goo.whole (a.good.1.mono (vs' := []) (fun x hx => hx))) (by omega) a.good.2 (by omega) a.dep
      intro x hx
      unfold GC.fp at hx
      simp only [List.mem_cons, List.not_mem_nil, or_false] at hx ⊢
      rcases hx with h | h | h | h
      · exact .inl (.inl h)
      · exact .inl (.inr h)
      · exact .inr (by rw [h]; exact hpw)
      · exact .inr (by rw [h]; exact hg0)
theorem sc_law_program : FnScope ["_law_deal_here", "_law_size", "_law_world", "_law_around", "_law_found"] ["_law_deal_here", "_law_size"] (defScope (topS 24)) := ⟨rfl, rfl, rfl, by decide +kernel, rfl, by decide +kernel, by decide +kernel⟩
theorem ok_program (A : All K mg) : Ok P w K mg base CX0 18 "_law_program" ["_law_deal_here", "_law_size"] spProg := by
  have O_draw : Ok P w K mg base CX0 1 "_law_draw" ["_law_deal_here", "_law_many"] spDraw := ok_draw A
  have O_words : Ok P w K mg base CX0 2 "_law_words" ["_law_deal_here", "_law_many"] spWords := ok_words A
  have O_planted : Ok P w K mg base CX0 3 "_law_planted" ["_law_deal_here", "_law_world", "_law_around"] spPlanted := ok_planted A
  have O_piece : Ok P w K mg base CX0 17 "_law_piece" ["_law_deal_here", "_law_world", "_law_around", "_law_deep"] (spPiece 4) := ok_piece_all A 4
  refine ok_of0 A.program sc_law_program (fun _ _ _ _ _ _ us hl => match us, hl with | [_, _], _ => rfl) (fun vs H Q E h => ?_) (fun f cdv Ar outer s H vs Q E hr h => ?_)
  · obtain ⟨_, _, _, rfl, _⟩ := h; rfl
  · obtain ⟨d, l, size, rfl, dl, s1, s2, q⟩ := h
    refine ⟨_, (pss_cons (ps_set (i := 2) sc_law_program.nd rfl (Or.inl rfl) (pe_disp (pps_cons pe_str (pe_ok O_words (hr.mono (by omega)) (pa_cons (pv 0) (pa_cons (pe_op op_add pe_int (pe_ok O_draw (hr.mono (by omega)) (pa_cons (pv 0) (pa_cons pe_int pa_nil)))) pa_nil))) (pps_cons pe_str (pv 1) pps_nil)) (by rfl) (by rfl) (fun z => by cases z) (by decide)))
    (pss_cons (ps_par (i := 3) (j := 4) rfl sc_law_program.nd rfl rfl (by decide) rfl rfl (pa_cons (pe_lst (pa_cons (pe_lst pa_nil) pa_nil)) (pa_cons (pe_lst pa_nil) pa_nil)) (by rfl))
    (Evl.pss_cut (ps_if (pt_cmpR op_eq (pe_ok O_draw (hr.mono (by omega)) (pa_cons (pv 0) (pa_cons pe_int pa_nil))) pe_int (nomark _)) (pss_cons (ps_set (i := 4) sc_law_program.nd rfl (Or.inl rfl) (pe_ok O_planted (hr.mono (by omega)) (pa_cons (pv 0) (pa_cons (pv 2) (pa_cons (pv 3) pa_nil)))))
    (pss_one (ps_dput (hu_of hr) (pv 2) pe_str (pe_callB (call_max2 rfl) (by rfl) A.max (by decide +kernel) (pa_cons pe_int (pa_cons (pe_op op_sub (pv 1) pe_int) pa_nil))) rfl))) pss_nil)
    (Evl.pss_cut (ps_while PassesOwn.never (pt_cmpR op_gt (pe_dget (hu_of hr) (pv 2) pe_str (fun _ _ => rfl)) pe_int (nomark _)) (pss_one (ps_expr (pe_bm PySem.F.plainAttrs_list PySem.F.slot_list_extend PySem.F.type_list_extend mt_extend (pv 4) (pa_cons (pe_ok O_piece (hr.mono (by omega)) (pa_cons (pv 0) (pa_cons (pv 2) (pa_cons (pv 3) (pa_cons pe_int pa_nil))))) pa_nil)))))
    (pss_one (ps_ret (pe_callTy (call_tuple_ofK (K := K)) (by rfl) A.tuple (by decide +kernel) (pa_cons (pv 4) pa_nil)))))))), ?_⟩
    walk_at "go"
    intro pw hpw
    walk_at "go"
    have dl1 := dl.fr0 (Fr.new (o := .dK []) hpw)
    refine ⟨d, l, _, rfl, dl1, by decide, by decide, fun n H1 n0 n1 dl1 f1 => ?_⟩
    walk_at "go"
    refine ⟨d, l, _, rfl, dl1, by omega, by omega, fun H2 nl names dl2 f2 hnl e2 nd hlen => ?_⟩
    walk_at "go"
    have npw : pw ∉ [d, l] := dl_ne dl hpw
    have ew2 : H2 pw = some (.dK []) := f2.get (f1.get upd_same npw) npw
    refine ⟨ew2, [(Sum.inr "names", .ref nl), (Sum.inr "left", .int size)], rfl, by simp, ?_⟩
    rw [show mergeK [] [(Sum.inr "names", .ref nl), (Sum.inr "left", .int size)] = wkv nl size by kernel_rfl]
    have nlw : nl ≠ pw := Ne.symm (ne_of_none (f1.get upd_same npw) hnl)
    have f02 : Fr [d, l] H (upd H2 pw (.dK (wkv nl size))) := (((Fr.new hpw).trans f1).trans f2).mut hpw
    have dl3 : DealAt (upd H2 pw (.dK (wkv nl size))) d l := by
      have fp : Fr [pw] H2 (upd H2 pw (.dK (wkv nl size))) := Fr.put ew2 (by intro xs q; cases q) (by simp)
      exact dl2.fr fp (fun z => npw (by simp at z; simp [z])) (fun z => npw (by simp at z; simp [z]))
    have e3w : (upd H2 pw (.dK (wkv nl size))) pw = some (.dK (wkv nl size)) := upd_same
    have e3n : (upd H2 pw (.dK (wkv nl size))) nl = some (.lst (names.map V.str)) := keep_ne nlw e2
    have nnl : nl ∉ [d, l] := dl_ne dl1 hnl
    generalize upd H2 pw (.dK (wkv nl size)) = H3 at *
    walk_at "go"
    refine ⟨small_of (by simp), fun g hg => ?_⟩
    walk_at "go"
    refine ⟨small_of (by simp), fun ar har => ?_⟩
    walk_at "go"
    have dlA := dl3.fr0 (Fr.new (o := .lst []) hg)
    have fS : Fr [] H3 (upd (upd H3 g (.lst [])) ar (.lst [.ref g])) := by walk_at "fr"
    have hg0 : H g = none := by
      cases eh : H g with
      | none => rfl
      | some o => rw [f02.get eh (dl_ne dl3 hg)] at hg; cases hg
    have GS : Gn (upd (upd H3 g (.lst [])) ar (.lst [.ref g])) ⟨d, l, pw, nl, names, ar, [], g, []⟩ size [] := by
      refine ⟨dl3.fr0 fS, fS.get0 e3w, fS.get0 e3n, upd_same, .nil, ⟨[], by walk_at "at", .nil⟩, ?_, nd, ⟨show 4 ≤ names.length by omega, show names.length ≤ 17 by omega⟩, by simp, ⟨by simp, by simp⟩⟩
      have n1 := dl_ne dl3 hg
      have n2 := dl_ne dlA har
      have n3 : pw ≠ g := ne_of_none e3w hg
      have n4 : nl ≠ g := ne_of_none e3n hg
      have n5 : pw ≠ ar := ne_of_none (keep hg e3w) har
      have n6 : nl ≠ ar := ne_of_none (keep hg e3n) har
      have n7 : g ≠ ar := ne_of_none (upd_same (H := H3) (o := .lst [])) har
      have n8 : d ≠ l := by
        obtain ⟨_, _, _, h1, h2⟩ := dl
        exact ne_of h1 h2 (by intro q; cases q)
      unfold GC.all
      simp only [List.mem_cons, List.not_mem_nil, or_false, not_or] at npw nnl n1 n2
      simp only [List.nodup_cons, List.mem_cons, List.not_mem_nil, or_false, not_or, List.nodup_nil, and_true, not_false_eq_true]
      exact ⟨⟨n8, Ne.symm npw.1, Ne.symm nnl.1, Ne.symm n2.1, Ne.symm n1.1⟩, ⟨Ne.symm npw.2, Ne.symm nnl.2, Ne.symm n2.2, Ne.symm n1.2⟩, ⟨Ne.symm nlw, n5, n3⟩, ⟨n6, n4⟩, Ne.symm n7⟩
    have f0S : Fr [d, l] H (upd (upd H3 g (.lst [])) ar (.lst [.ref g])) := f02.trans fS.nil
    generalize upd (upd H3 g (.lst [])) ar (.lst [.ref g]) = HS at *
    refine ⟨small_of (by simp), fun pf hS => ?_⟩
    walk_at "go"
    refine ⟨fun σ' H' => ∃ (pf : Addr) (lfs : Int) (vs : List V) (b : List Stm) (nw : List (Str × Int)), σ' = [some (.ref d), some (.int size), some (.ref pw), some (.ref ar), some (.ref pf)] ∧ 1 ≤ lfs ∧ lfs ≤ 16 ∧ HS pf = none ∧ Acc ⟨d, l, pw, nl, names, ar, [], g, []⟩ lfs [] HS 1500 7 pf H' vs b nw lfs, ?_, ?_⟩
    · have a := (Acc.zero (dep := 7) (cst := 1500) GS hS (by decide) (by decide))
      walk_at "go"
      refine g_draw a.G (by decide) (by decide) (fun j H5 j0 j1 G5 f5 => ?_)
      have a := a.same GS hS G5 (a.G.fpd f5)
      walk_at "go"
      refine i_dec (fun e => ?_) (fun e => ?_)
      · walk_at "go"
        refine ⟨⟨d, l, pw, nl, names, ar, [], g, []⟩, size, rfl, G5, by show 8 ≤ names.length; omega, fun H6 p vs b nw lf' G6 f6 hp e6 bt gd w6 l6 l64 d6 => ?_⟩
        have fS5 : Fr (GC.fp ⟨d, l, pw, nl, names, ar, [], g, []⟩) HS H5 := a.fr
        have hSp : HS p = none := GS.none fS5 hp ⟨_, _, G5⟩
        walk_at "go"
        refine ⟨_, _, rfl, ?_⟩
        walk_at "go"
        rw [show (if size - 16 > 2 then size - 16 else 2) = 2 by rw [if_neg (by omega)]]
        refine ⟨_, _, rfl, kvp G6.wd (by show 2 < sizeLine; decide), ?_⟩
        rw [wkv_pleft]
        obtain ⟨G7, f7⟩ := G6.setLeft 2
        have l66 : lf' = size ∨ lf' < size := by omega
        exact ⟨p, 2, vs, b, nw, rfl, by decide, by decide, hSp, G7, (fS5.trans f6).trans f7, f7.get e6 (G5.nfp hp), bt.up f7.tupLe, gd, by omega, Int.le_refl _, id, d6⟩
      · walk_at "go"
        exact ⟨pf, size, _, _, _, rfl, s1, s2, hS, a⟩
    · clear hS
      rintro σ' H5 ⟨pf, lfs, vs0, b0, nw0, rfl, ls1, ls2, hS, a⟩
      refine ⟨fun σ' H' => ∃ (pf : Addr) (vs : List V) (b : List Stm) (nw : List (Str × Int)) (lf' : Int), σ' = [some (.ref d), some (.int size), some (.ref pw), some (.ref ar), some (.ref pf)] ∧ HS pf = none ∧ Acc  ⟨d, l, pw, nl, names, ar, [], g, []⟩ lfs [] HS 1500 7 pf H' vs b nw lf', ?_, ?_⟩
      · refine ⟨fun m σ' H' => ∃ (vs : List V) (b : List Stm) (nw : List (Str × Int)) (lf' : Int), σ' = [some (.ref d), some (.int size), some (.ref pw), some (.ref ar), some (.ref pf)] ∧ Acc  ⟨d, l, pw, nl, names, ar, [], g, []⟩ lfs [] HS 1500 7 pf H' vs b nw lf' ∧ m = (lf' + 4).toNat ∧ -4 ≤ lf', ⟨_, _, _, _, _, rfl, a, rfl, by omega⟩, ?_⟩
        rintro m σ' H' ⟨vs, b, nw, lf', rfl, a, rfl, l4⟩
        have al := a.l
        walk_at "go"
        refine ⟨_, _, rfl, kvl a.G.wd (wkv_left _ _), ?_⟩
        walk_at "go"
        refine i_dec (fun e => ?_) (fun e => ?_)
        · refine ⟨_, fun _ _ h => h, ?_⟩
          walk_at "go"
          refine ⟨ty_l a.e, ?_⟩
          walk_at "go"
          refine ⟨⟨d, l, pw, nl, names, ar, [], g, []⟩, lf', [] ++ nw, rfl, by show 0 + 2 * 4 ≤ 20; decide, a.G, by omega, by omega, fun H2 p ws c nw2 lf2 G2 f2 hp e2 bt2 g2 w2 l2 l42 d2 => ?_⟩
          obtain ⟨ee, a2⟩ := a.ext (cst2 := 0) GS hS G2 f2 bt2 g2 (by omega) (by omega) (by omega) (Nat.le_trans d2 (by decide))
          walk_at "go"
          refine g_extend ee e2 (small_of ?_) ?_
          · have := a2.len (by have := a2.l; omega)
            rw [List.length_append] at this; omega
          · walk_at "go"
            exact ⟨(lf2 + 4).toNat, by omega, _, _, _, lf2, rfl, a2, rfl, l42 (by omega)⟩
        · exact ⟨pf, vs, b, nw, lf', rfl, hS, a⟩
      · clear a
        rintro σ' H' ⟨pf, vs, b, nw, lf', rfl, hS, a⟩
        walk_at "go"
        refine g_tupof a.e (fun p hp => ?_)
        have f := Fr.new (W := []) (o := .tup vs) hp
        have al := a.l
        have al4 := a.l4 (by omega)
        have aw := a.w
        refine q _ p vs b names (a.G.deal.fr0 f) ((fr_cut a.fr f0S ?_).trans f.nil) upd_same (a.bt.up f.tupLe) (Goo.whole (a.good.1.mono (vs' := []) (fun x hx => hx))) (by omega) a.good.2 (by omega) a.dep
        intro x hx
        unfold GC.fp at hx
        simp only [List.mem_cons, List.not_mem_nil, or_false] at hx ⊢
        rcases hx with h | h | h | h
        · exact .inl (.inl h)
        · exact .inl (.inr h)
        · exact .inr (by rw [h]; exact hpw)
        · exact .inr (by rw [h]; exact hg0)
theorem sc_law_let_by : FnScope ["_law_deal_here", "_law_size"] ["_law_deal_here", "_law_size"] (defScope (topS 33)) := ⟨rfl, rfl, rfl, by decide +kernel, rfl, by decide +kernel, by decide +kernel⟩
theorem ok_let_by (A : All K mg) : Ok P w K mg base CX0 19 "_law_let_by" ["_law_deal_here", "_law_size"] spProg := by
  have O_draw : Ok P w K mg base CX0 1 "_law_draw" ["_law_deal_here", "_law_many"] spDraw := ok_draw A
  have O_few : Ok P w K mg base CX0 18 "_law_few" ["_law_deal_here", "_law_size"] spProg := ok_few A
  have O_program : Ok P w K mg base CX0 18 "_law_program" ["_law_deal_here", "_law_size"] spProg := ok_program A
  refine ok_of0 A.let_by sc_law_let_by (fun _ _ _ _ _ _ us hl => match us, hl with | [_, _], _ => rfl) (fun vs H Q E h => ?_) (fun f cdv Ar outer s H vs Q E hr h => ?_)
  · obtain ⟨_, _, _, rfl, _⟩ := h; rfl
  · obtain ⟨d, l, size, rfl, dl, s1, s2, q⟩ := h
    refine ⟨_, (pss_cons (ps_if (pt_cmpR op_eq (pe_ok O_draw (hr.mono (by omega)) (pa_cons (pv 0) (pa_cons pe_int pa_nil))) pe_int (nomark _)) (pss_one (ps_ret (pe_ok O_few (hr.mono (by omega)) (pa_cons (pv 0) (pa_cons (pv 1) pa_nil))))) pss_nil)
    (pss_one (ps_ret (pe_ok O_program (hr.mono (by omega)) (pa_cons (pv 0) (pa_cons (pv 1) pa_nil)))))), ?_⟩
    walk_at "go"
    refine ⟨d, l, _, rfl, dl, by decide, by decide, fun n H1 n0 n1 dl1 f1 => ?_⟩
    walk_at "go"
    refine i_dec (fun e => ?_) (fun e => ?_)
    · walk_at "go"
      exact ⟨d, l, size, rfl, dl1, s1, s2, fun H' p vs b names a1 a2 => q H' p vs b names a1 (f1.trans a2)⟩
    · walk_at "go"
      exact ⟨d, l, size, rfl, dl1, s1, s2, fun H' p vs b names a1 a2 => q H' p vs b names a1 (f1.trans a2)⟩
end
end Fb
set_option Elab.async false
set_option linter.all false
set_option maxRecDepth 100000
set_option maxHeartbeats 4000000
namespace Fb
open PySem PySem.Spec PyProof.Rows L2
local macro_rules | `(tactic| walk_at "go1") => `(tactic| first
  | with_reducible refine g_seq ?_
  | with_reducible refine g_asg ?_
  | with_reducible refine g_name ?_
  | ((with_reducible refine' g_var ?h1 ?_); (case h1 => rfl))
  | with_reducible refine g_c ?_
  | with_reducible refine g_op ?_
  | with_reducible refine g_un ?_
  | with_reducible refine g_rU ?_
  | with_reducible refine g_yes ?_
  | with_reducible refine g_isN ?_
  | with_reducible refine g_notN ?_
  | with_reducible refine g_int1 ?_
  | with_reducible refine g_I0 ?_
  | ((with_reducible refine' g_eq ?h1 ?_); (case h1 => rfl))
  | ((with_reducible refine' g_ne ?h1 ?_); (case h1 => rfl))
  | with_reducible refine g_test ?_
  | with_reducible refine g_tb ?_
  | with_reducible refine g_bl ?_
  | with_reducible refine g_drop ?_
  | with_reducible refine g_ret ?_
  | with_reducible refine g_if ?_
  | with_reducible refine g_ife ?_
  | with_reducible refine g_and ?_
  | with_reducible refine g_or ?_
  | with_reducible refine g_not ?_
  | with_reducible refine g_next ?_
  | with_reducible refine g_nil ?_
  | with_reducible refine g_cons ?_
  | with_reducible refine g_cb ?_
  | with_reducible refine g_call ?_
  | with_reducible refine g_tup ?_
  | with_reducible refine g_lst ?_
  | with_reducible refine g_dget ?_
  | with_reducible refine g_dput ?_
  | with_reducible refine g_bm ?_
  | with_reducible refine g_lc ?_
  | with_reducible refine g_for ?_
  | with_reducible refine g_il ?_
  | with_reducible refine g_rng1 ?_
  | with_reducible refine g_gsub ?_
  | with_reducible refine g_din ?_
  | with_reducible refine g_disp ?_
  | with_reducible refine g_pairs ?_
  | with_reducible refine g_pairs0 ?_
  | with_reducible refine g_sl ?_
  | with_reducible refine g_part ?_
  | with_reducible refine g_part1 ?_
  | with_reducible refine g_nopart ?_
  | with_reducible refine g_andV ?_
  | with_reducible refine g_orV ?_
  | with_reducible refine g_notV ?_
  | with_reducible refine g_itp ?_
  | with_reducible refine g_par ?_
  | with_reducible refine g_par1 ?_
  | with_reducible refine g_par3 ?_
  | with_reducible refine g_par31 ?_
  | with_reducible refine g_gname ?_
  | with_reducible refine g_gcons ?_
  | with_reducible refine g_gnil ?_
  | with_reducible refine g_bm0 ?_)
local macro_rules | `(tactic| walk_at "go") => `(tactic| repeat walk_at "go1")
local macro_rules | `(tactic| walk_at "at") => `(tactic| repeat first
  | assumption
  | exact upd_same
  | with_reducible refine keep (by assumption) ?_
  | with_reducible refine keep_ne (by assumption) ?_
  | with_reducible refine Fr.get0 (by assumption) ?_
  | with_reducible refine Fr.get (by assumption) ?_ (by assumption)
  | with_reducible refine Fr.tup (by assumption) ?_)
local macro_rules | `(tactic| walk_at "fr") => `(tactic| repeat first
  | assumption
  | exact Fr.refl _ _
  | with_reducible refine Fr.trans ?_ (Fr.new (by assumption))
  | with_reducible refine Fr.trans ?_ (Fr.nil (by assumption))
  | with_reducible refine Fr.trans ?_ (by assumption))
local macro_rules | `(tactic| walk_at "gn") => `(tactic| repeat first
  | assumption
  | with_reducible refine Gn.fr0 ?_ (Fr.new (by assumption))
  | with_reducible refine Gn.fr0 ?_ (by assumption))
local macro_rules | `(tactic| walk_at "bt") => `(tactic| repeat first
  | assumption
  | with_reducible refine BAt.up (Fr.new (W := []) (by assumption)).1 _ _ ?_
  | with_reducible refine SAt.up (Fr.new (W := []) (by assumption)).1 _ _ ?_
  | with_reducible refine BAt.up (Fr.tupLe (by assumption)) _ _ ?_
  | with_reducible refine SAt.up (Fr.tupLe (by assumption)) _ _ ?_)
def fI (g : Int → Option Int) : V → Option V
  | .int n => (g n).map V.int
  | _ => none
theorem fm_I {g : Int → Option Int} : ∀ ns : List Int, (ns.map V.int).filterMap (fI g) = (ns.filterMap g).map V.int
  | [] => rfl
  | n :: ns => by
    rw [List.map_cons, List.filterMap_cons, List.filterMap_cons, fm_I ns]
    cases e : g n <;> simp [fI, e]
def spDeal (K : PySem.W.Frag) : Sp := fun vs H Q _ => ∃ (a : Addr) (ns : List Int), vs = [.ref a] ∧ SqL K H a (ns.map V.int) ∧ ∀ (H' : Hp) (d l : Addr), Fr [] H H' → DealAt H' d l → Q (.ref d) H'
section
variable {P : Program} {w : World} {K : PySem.W.Frag} {mg : Str → Option Value} {base : Heap}
theorem sc_law_deal : FnScope ["_law_script", "_law_one", "_law_some", "_law_number"] ["_law_script"] (defScope (topS 12)) := ⟨rfl, rfl, rfl, by decide +kernel, rfl, by decide +kernel, by decide +kernel⟩
theorem ok_deal (A : All K mg) : Ok P w K mg base CX0 1 "_law_deal" ["_law_script"] (spDeal K) := by
  refine ok_of0 A.deal sc_law_deal (fun _ _ _ _ _ _ us hl => match us, hl with | [_], _ => rfl) (fun vs H Q E h => ?_) (fun f cdv Ar outer s H vs Q E hr h => ?_)
  · obtain ⟨_, _, rfl, _⟩ := h; rfl
  · obtain ⟨a, ns, rfl, hs, q⟩ := h
    refine ⟨_, (pss_cons (ps_setLc (i := 2) (own := [("_law_one", 1)]) (g := gName 1) (by rfl) sc_law_deal.nd rfl rfl (sw_true rfl rfl rfl (by decide +kernel)) (pi_list (pe_slice sl_list (pv 0) po_none (po_some pe_int))) (blkOk_by (own := [("_law_one", 1)]) (N := ["_law_script", "_law_one", "_law_some", "_law_number"]) (sc := defScope (topS 12)) (by decide +kernel)) (fun _ _ _ _ _ => (pg_nameL (i := 1) sc_law_deal.nd rfl rfl)) (fun _ _ _ _ _ => pts_nil) (fun _ _ _ _ _ => (pe_callB (call_max2 rfl) (by rfl) A.max (by decide +kernel) (pa_cons (pv 1) (pa_cons (pe_op op_sub pe_int (pv 1)) pa_nil)))))
    (pss_cons (ps_set (i := 3) sc_law_deal.nd rfl (Or.inl rfl) pe_int)
    (Evl.pss_cut (ps_for PassesOwn.never rfl (pi_list (pv 2)) (pg_name (i := 1) sc_law_deal.nd rfl (Or.inl rfl)) (pss_one (ps_set (i := 3) sc_law_deal.nd rfl (Or.inl rfl) (pe_op op_mod (pe_op op_add (pe_op op_mul (pv 3) pe_int) (pe_op op_mod (pv 1) pe_int)) pe_int))))
    (pss_one (ps_ret (pe_disp (pps_cons pe_str (pv 3) (pps_cons pe_str pe_int (pps_cons pe_str (pe_listrev (K := K) (by rfl) A.list (by rfl) A.reversed (pe_lc (own := [("_law_one", 1)]) (g := gName 1) (by rfl) sc_law_deal.nd (pi_list (pv 2)) (blkOk_by (own := [("_law_one", 1)]) (N := ["_law_script", "_law_one", "_law_some", "_law_number"]) (sc := defScope (topS 12)) (by decide +kernel)) (fun _ _ _ _ _ => (pg_nameL (i := 1) sc_law_deal.nd rfl rfl)) (fun _ _ _ _ _ => (pts_one (pt_cmpR op_ge (pv 1) (pe_op op_pow pe_int pe_int) (nomark _)))) (fun _ _ _ _ _ => (pv 1)))) pps_nil))) (by rfl) (by rfl) (fun z => by cases z) (by decide))))))), ?_⟩
    walk_at "go"
    refine ⟨a, _, rfl, hs, fun p1 n1 => ?_⟩
    have hcut : cutV (ns.map V.int) none (some 60) = (ns.take 60).map V.int := by
      unfold cutV
      rw [show HT.sIx (ns.map V.int).length 0 none = 0 from rfl, show (some (60 : Int)) = some ((60 : Nat) : Int) from rfl, HT.sIx_nat, List.drop_zero, Nat.sub_zero, List.length_map, List.map_take]
      rw [Nat.min_def]
      split
      · rfl
      · rw [List.take_of_length_le (l := List.map V.int ns) (i := 60) (by simp; omega), List.take_of_length_le (by simp)]
    rw [hcut]
    have hl60 : (ns.take 60).length ≤ 60 := by simp; omega
    generalize ns.take 60 = ms at *
    refine lc_listP (fI fun n => some (if 0 - n > n then 0 - n else n)) upd_same (fun p2 n2 => ?_) (fun D i x hD hx => ?_)
    rotate_left
    · obtain ⟨n, hn, rfl⟩ := map_at hx
      walk_at "go"
      refine ⟨rfl, ?_⟩
      walk_at "go"
      refine i_t rfl ?_
      walk_at "go"
      refine ⟨_, _, rfl, ?_⟩
      exact pu_yes (small_lt (by simp; omega)) hx rfl
    rw [fm_I]
    have hl2 : (ms.filterMap fun n => some (if 0 - n > n then 0 - n else n)).length ≤ 60 := Nat.le_trans (List.length_filterMap_le _ _) hl60
    generalize ms.filterMap (fun n => some (if 0 - n > n then 0 - n else n)) = ks at *
    walk_at "go"
    refine ⟨fun σ' H' => ∃ u num, σ' = [some (.ref a), u, some (.ref p2), some (.int num)] ∧ H' = upd (upd H p1 (.lst (ms.map V.int))) p2 (.lst (ks.map V.int)), ?_, ?_⟩
    · walk_at "go"
      refine for_list (xs := ks.map V.int) (fun i σ' H' => ∃ u num, σ' = [some (.ref a), u, some (.ref p2), some (.int num)] ∧ H' = upd (upd H p1 (.lst (ms.map V.int))) p2 (.lst (ks.map V.int)))
        ⟨_, _, rfl, rfl⟩ (fun i σ' H' ⟨_, _, _, e⟩ => by rw [e]; exact upd_same) (fun σ' H' p => p) (fun i x σ' H' hx ⟨u, num, e1, e2⟩ => ?_)
      obtain ⟨n, hn, rfl⟩ := map_at hx
      subst e1; subst e2
      walk_at "go"
      refine g_I (.inr (by decide)) ?_
      walk_at "go"
      refine g_I (by decide) ?_
      walk_at "go"
      refine g_I (by decide) ?_
      walk_at "go"
      exact ⟨_, _, rfl, rfl⟩
    · rintro σ' H' ⟨u, num, rfl, rfl⟩
      walk_at "go"
      intro pd nd
      walk_at "go"
      have e2 : (upd (upd (upd H p1 (.lst (ms.map V.int))) p2 (.lst (ks.map V.int))) pd (.dK [])) p2 = some (.lst (ks.map V.int)) := keep nd upd_same
      refine lc_listP (fI fun n => if n ≥ 10 ^ 18 then some n else none) e2 (fun p3 n3 => ?_) (fun D i x hD hx => ?_)
      · rw [fm_I]
        refine ⟨p3, _, rfl, .inl (.of upd_same), fun H4 p4 k4 n4 e4 => ?_⟩
        walk_at "go"
        have f4 : Fr [] _ H4 := ⟨fun b xs h => k4 _ _ h, fun b o h _ => k4 _ _ h⟩
        have epd := f4.get0 (keep n3 (upd_same (H := upd (upd H p1 (.lst (ms.map V.int))) p2 (.lst (ks.map V.int))) (a := pd) (o := .dK [])))
        refine ⟨epd, [(Sum.inr "seed", .int num), (Sum.inr "number", .int 0), (Sum.inr "left", .ref p4)], rfl, by simp, ?_⟩
        rw [show mergeK [] [(Sum.inr "seed", .int num), (Sum.inr "number", .int 0), (Sum.inr "left", .ref p4)] = dkv num 0 p4 by kernel_rfl]
        have n4d : p4 ≠ pd := Ne.symm (ne_of_none (keep n3 upd_same) n4)
        refine q _ pd p4 ?_ ⟨num, 0, (ks.filterMap fun n => if n ≥ 10 ^ 18 then some n else none).reverse, upd_same, ?_⟩
        · exact Fr.mut (((((Fr.new n1).trans (Fr.new n2)).trans (Fr.new nd)).trans (Fr.new n3)).trans f4) (Fr.none ((Fr.new n1).trans (Fr.new n2)) nd)
        · rw [upd_ne n4d, e4, List.map_reverse]
      · obtain ⟨n, hn, rfl⟩ := map_at hx
        walk_at "go"
        refine ⟨rfl, ?_⟩
        walk_at "go"
        refine g_I ⟨by decide, by decide, by decide⟩ ?_
        walk_at "go"
        rw [show (18 : Int).toNat = 18 from rfl]
        refine i_dec (fun e => ?_) (fun e => ?_)
        · walk_at "go"
          exact pu_yes (small_lt (by simp; omega)) hx (by show (if n ≥ 10 ^ 18 then some n else none).map V.int = _; rw [if_pos e]; rfl)
        · exact pu_no hx (by show (if n ≥ 10 ^ 18 then some n else none).map V.int = _; rw [if_neg e]; rfl)
end
end Fb
set_option Elab.async false
set_option linter.all false
set_option maxRecDepth 100000
set_option maxHeartbeats 4000000
/-! The state that the reference lays. -/
namespace Fb
open PySem PySem.Spec PyProof.Rows L2
structure SA where
  (sd st wh me bo gr bd mkk am : Addr)
def SA.ls (S : SA) : List Addr := [S.st, S.wh, S.me, S.bo, S.gr, S.bd, S.mkk, S.am]
def stk (S : SA) : List (Key × V) := [(Sum.inr "statements", .ref S.st), (Sum.inr "where", .ref S.wh), (Sum.inr "means", .ref S.me), (Sum.inr "bodies", .ref S.bo), (Sum.inr "grounds", .ref S.gr), (Sum.inr "bodied", .ref S.bd), (Sum.inr "makings", .ref S.mkk), (Sum.inr "amiss", .ref S.am)]
theorem stk_st (S : SA) : valV (stk S) (Sum.inr "statements") = some (.ref S.st) := by kernel_rfl
theorem stk_wh (S : SA) : valV (stk S) (Sum.inr "where") = some (.ref S.wh) := by kernel_rfl
theorem stk_me (S : SA) : valV (stk S) (Sum.inr "means") = some (.ref S.me) := by kernel_rfl
theorem stk_bo (S : SA) : valV (stk S) (Sum.inr "bodies") = some (.ref S.bo) := by kernel_rfl
theorem stk_gr (S : SA) : valV (stk S) (Sum.inr "grounds") = some (.ref S.gr) := by kernel_rfl
theorem stk_bd (S : SA) : valV (stk S) (Sum.inr "bodied") = some (.ref S.bd) := by kernel_rfl
theorem stk_mk (S : SA) : valV (stk S) (Sum.inr "makings") = some (.ref S.mkk) := by kernel_rfl
theorem stk_am (S : SA) : valV (stk S) (Sum.inr "amiss") = some (.ref S.am) := by kernel_rfl
def onv : Option Nat → V
  | some n => .int (n : Int)
  | none => .non
structure StAt (H : Hp) (S : SA) (a b : Nat) (ms : List (List (Option Nat))) (mk : List Str) (am : List (Str × Nat × Str)) (n : Nat) : Prop where
  sd : H S.sd = some (.dK (stk S))
  st : ∃ vs : List V, H S.st = some (.lst vs) ∧ vs.length = a
  wh : ∃ vs : List V, H S.wh = some (.lst vs) ∧ vs.length = b ∧ ∀ v ∈ vs, ∃ (t : Addr) (x y : Int), v = .ref t ∧ H t = some (.tup [.int x, .int y])
  me : ∃ ts : List Addr, H S.me = some (.lst (ts.map V.ref)) ∧ Paired (fun t m => H t = some (.tup (m.map onv))) ts ms
  bo : ∃ vs : List V, H S.bo = some (.lst vs) ∧ vs.length ≤ n
  gr : ∃ vs : List V, H S.gr = some (.lst vs) ∧ vs.length ≤ n
  bd : ∃ vs : List V, H S.bd = some (.lst vs) ∧ vs.length ≤ n
  mkk : ∃ ts : List Addr, H S.mkk = some (.lst (ts.map V.ref)) ∧ Paired (fun t x => ∃ k g, H t = some (.tup [.str x, k, g])) ts mk
  amm : ∃ ts : List Addr, H S.am = some (.lst (ts.map V.ref)) ∧ Paired (fun t (e : Str × Nat × Str) => H t = some (.tup [.str e.1, .int (e.2.1 : Int), .str e.2.2])) ts am
  len : a ≤ n ∧ b ≤ n ∧ ms.length ≤ n ∧ mk.length ≤ n ∧ am.length ≤ n
  nd : (S.sd :: S.ls).Nodup
section
variable {K : PySem.W.Frag} {H H' : Hp} {S : SA} {a b n : Nat} {ms : List (List (Option Nat))} {mk : List Str} {am : List (Str × Nat × Str)} {W : List Addr} {p t : Addr}
theorem StAt.fr (h : StAt H S a b ms mk am n) (f : Fr W H H') (hW : ∀ x ∈ W, x ∉ S.sd :: S.ls) : StAt H' S a b ms mk am n := by
  have g : ∀ x, x = S.sd ∨ x = S.st ∨ x = S.wh ∨ x = S.me ∨ x = S.bo ∨ x = S.gr ∨ x = S.bd ∨ x = S.mkk ∨ x = S.am → x ∉ W := fun x hx q => hW x q (by unfold SA.ls; simpa using hx)
  obtain ⟨v1, e1, q1⟩ := h.st
  obtain ⟨v2, e2, q2, r2⟩ := h.wh
  obtain ⟨v3, e3, q3⟩ := h.me
  obtain ⟨v4, e4, q4⟩ := h.bo
  obtain ⟨v5, e5, q5⟩ := h.gr
  obtain ⟨v6, e6, q6⟩ := h.bd
  obtain ⟨v7, e7, q7⟩ := h.mkk
  obtain ⟨v8, e8, q8⟩ := h.amm
  exact ⟨f.get h.sd (g _ (by simp)), ⟨v1, f.get e1 (g _ (by simp)), q1⟩, ⟨v2, f.get e2 (g _ (by simp)), q2, fun v hv => by obtain ⟨t, x, y, e, ht⟩ := r2 v hv; exact ⟨t, x, y, e, f.tup ht⟩⟩, ⟨v3, f.get e3 (g _ (by simp)), Paired.imp' q3 fun _ _ _ z => f.tup z⟩, ⟨v4, f.get e4 (g _ (by simp)), q4⟩, ⟨v5, f.get e5 (g _ (by simp)), q5⟩, ⟨v6, f.get e6 (g _ (by simp)), q6⟩,
    ⟨v7, f.get e7 (g _ (by simp)), Paired.imp' q7 fun _ _ _ ⟨k, g, z⟩ => ⟨k, g, f.tup z⟩⟩, ⟨v8, f.get e8 (g _ (by simp)), Paired.imp' q8 fun _ _ _ z => f.tup z⟩, h.len, h.nd⟩
theorem StAt.fr0 (h : StAt H S a b ms mk am n) (f : Fr [] H H') : StAt H' S a b ms mk am n := h.fr f fun x hx => by cases hx
theorem StAt.more (h : StAt H S a b ms mk am n) {m : Nat} (hm : n ≤ m) : StAt H S a b ms mk am m := by
  obtain ⟨v4, e4, q4⟩ := h.bo
  obtain ⟨v5, e5, q5⟩ := h.gr
  obtain ⟨v6, e6, q6⟩ := h.bd
  have l := h.len
  exact ⟨h.sd, h.st, h.wh, h.me, ⟨v4, e4, by omega⟩, ⟨v5, e5, by omega⟩, ⟨v6, e6, by omega⟩, h.mkk, h.amm, by omega, h.nd⟩
theorem StAt.live (h : StAt H S a b ms mk am n) : ∀ x ∈ S.sd :: S.ls, ∃ o, H x = some o := fun x hx => by
  unfold SA.ls at hx
  simp only [List.mem_cons, List.not_mem_nil, or_false] at hx
  rcases hx with rfl | rfl | rfl | rfl | rfl | rfl | rfl | rfl | rfl
  · exact ⟨_, h.sd⟩
  · obtain ⟨_, e, _⟩ := h.st; exact ⟨_, e⟩
  · obtain ⟨_, e, _⟩ := h.wh; exact ⟨_, e⟩
  · obtain ⟨_, e, _⟩ := h.me; exact ⟨_, e⟩
  · obtain ⟨_, e, _⟩ := h.bo; exact ⟨_, e⟩
  · obtain ⟨_, e, _⟩ := h.gr; exact ⟨_, e⟩
  · obtain ⟨_, e, _⟩ := h.bd; exact ⟨_, e⟩
  · obtain ⟨_, e, _⟩ := h.mkk; exact ⟨_, e⟩
  · obtain ⟨_, e, _⟩ := h.amm; exact ⟨_, e⟩
theorem StAt.nin (h : StAt H S a b ms mk am n) (hp : H p = none) : p ∉ S.sd :: S.ls := fun q => by
  obtain ⟨o, e⟩ := h.live p q
  rw [hp] at e; cases e
/-- the other lists, when one changes -/
theorem SA.ne (S : SA) (nd : (S.sd :: S.ls).Nodup) (i j : Fin 9) (h : i ≠ j) : (S.sd :: S.ls)[i.1]'(by simp [SA.ls]) ∉ [(S.sd :: S.ls)[j.1]'(by simp [SA.ls])] := fun q => by
  have e := List.mem_singleton.mp q
  exact h (Fin.ext (List.getElem_inj nd |>.mp e))
theorem StAt.p_st {v : V} (h : StAt H S a b ms mk am n) {m : Nat} (hm : a + 1 ≤ m) (hn : n ≤ m) : ∃ vs : List V, H S.st = some (.lst vs) ∧ vs.length = a ∧ StAt (upd H S.st (.lst (vs ++ [v]))) S (a + 1) b ms mk am m := by
  obtain ⟨v1, e1, q1⟩ := h.st
  obtain ⟨v2, e2, q2, r2⟩ := h.wh
  obtain ⟨v3, e3, q3⟩ := h.me
  obtain ⟨v4, e4, q4⟩ := h.bo
  obtain ⟨v5, e5, q5⟩ := h.gr
  obtain ⟨v6, e6, q6⟩ := h.bd
  obtain ⟨v7, e7, q7⟩ := h.mkk
  obtain ⟨v8, e8, q8⟩ := h.amm
  have f : Fr [S.st] H (upd H S.st (.lst (v1 ++ [v]))) := Fr.put e1 (by intro xs q; cases q) (by simp)
  have ne := fun i hi => SA.ne S h.nd i 1 hi
  have l := h.len
  exact ⟨v1, e1, q1, f.get h.sd (ne 0 (by decide)), ⟨_, upd_same, by simp [q1]⟩, ⟨v2, f.get e2 (ne 2 (by decide)), q2, fun v hv => by obtain ⟨t, x, y, e, ht⟩ := r2 v hv; exact ⟨t, x, y, e, f.tup ht⟩⟩, ⟨v3, f.get e3 (ne 3 (by decide)), Paired.imp' q3 fun _ _ _ z => f.tup z⟩, ⟨v4, f.get e4 (ne 4 (by decide)), by omega⟩, ⟨v5, f.get e5 (ne 5 (by decide)), by omega⟩, ⟨v6, f.get e6 (ne 6 (by decide)), by omega⟩,
    ⟨v7, f.get e7 (ne 7 (by decide)), Paired.imp' q7 fun _ _ _ ⟨k, g, z⟩ => ⟨k, g, f.tup z⟩⟩, ⟨v8, f.get e8 (ne 8 (by decide)), Paired.imp' q8 fun _ _ _ z => f.tup z⟩, by omega, h.nd⟩
theorem StAt.p_wh (h : StAt H S a b ms mk am n) {x y : Int} (ht : H t = some (.tup [.int x, .int y])) {m : Nat} (hm : b + 1 ≤ m) (hn : n ≤ m) : ∃ vs : List V, H S.wh = some (.lst vs) ∧ vs.length = b ∧ StAt (upd H S.wh (.lst (vs ++ [.ref t]))) S a (b + 1) ms mk am m := by
  obtain ⟨v1, e1, q1⟩ := h.st
  obtain ⟨v2, e2, q2, r2⟩ := h.wh
  obtain ⟨v3, e3, q3⟩ := h.me
  obtain ⟨v4, e4, q4⟩ := h.bo
  obtain ⟨v5, e5, q5⟩ := h.gr
  obtain ⟨v6, e6, q6⟩ := h.bd
  obtain ⟨v7, e7, q7⟩ := h.mkk
  obtain ⟨v8, e8, q8⟩ := h.amm
  have f : Fr [S.wh] H (upd H S.wh (.lst (v2 ++ [.ref t]))) := Fr.put e2 (by intro xs q; cases q) (by simp)
  have ne := fun i hi => SA.ne S h.nd i 2 hi
  have l := h.len
  refine ⟨v2, e2, q2, f.get h.sd (ne 0 (by decide)), ⟨v1, f.get e1 (ne 1 (by decide)), q1⟩, ⟨_, upd_same, by simp [q2], fun v hv => ?_⟩, ⟨v3, f.get e3 (ne 3 (by decide)), Paired.imp' q3 fun _ _ _ z => f.tup z⟩, ⟨v4, f.get e4 (ne 4 (by decide)), by omega⟩, ⟨v5, f.get e5 (ne 5 (by decide)), by omega⟩, ⟨v6, f.get e6 (ne 6 (by decide)), by omega⟩,
    ⟨v7, f.get e7 (ne 7 (by decide)), Paired.imp' q7 fun _ _ _ ⟨k, g, z⟩ => ⟨k, g, f.tup z⟩⟩, ⟨v8, f.get e8 (ne 8 (by decide)), Paired.imp' q8 fun _ _ _ z => f.tup z⟩, by omega, h.nd⟩
  rcases List.mem_append.mp hv with hv | hv
  · obtain ⟨t, x, y, e, ht⟩ := r2 v hv; exact ⟨t, x, y, e, f.tup ht⟩
  · exact ⟨t, x, y, List.mem_singleton.mp hv, f.tup ht⟩
theorem StAt.p_me (h : StAt H S a b ms mk am n) {u : List (Option Nat)} (ht : H t = some (.tup (u.map onv))) {m : Nat} (hm : ms.length + 1 ≤ m) (hn : n ≤ m) : ∃ vs : List V, H S.me = some (.lst vs) ∧ vs.length = ms.length ∧ StAt (upd H S.me (.lst (vs ++ [.ref t]))) S a b (ms ++ [u]) mk am m := by
  obtain ⟨v1, e1, q1⟩ := h.st
  obtain ⟨v2, e2, q2, r2⟩ := h.wh
  obtain ⟨v3, e3, q3⟩ := h.me
  obtain ⟨v4, e4, q4⟩ := h.bo
  obtain ⟨v5, e5, q5⟩ := h.gr
  obtain ⟨v6, e6, q6⟩ := h.bd
  obtain ⟨v7, e7, q7⟩ := h.mkk
  obtain ⟨v8, e8, q8⟩ := h.amm
  have f : Fr [S.me] H (upd H S.me (.lst (v3.map V.ref ++ [.ref t]))) := Fr.put e3 (by intro xs q; cases q) (by simp)
  have ne := fun i hi => SA.ne S h.nd i 3 hi
  have l := h.len
  exact ⟨_, e3, by rw [List.length_map]; exact q3.length, f.get h.sd (ne 0 (by decide)), ⟨v1, f.get e1 (ne 1 (by decide)), q1⟩, ⟨v2, f.get e2 (ne 2 (by decide)), q2, fun v hv => by obtain ⟨t, x, y, e, ht⟩ := r2 v hv; exact ⟨t, x, y, e, f.tup ht⟩⟩, ⟨v3 ++ [t], by rw [upd_same]; simp, Paired.snoc (Paired.imp' q3 fun _ _ _ z => f.tup z) (f.tup ht)⟩, ⟨v4, f.get e4 (ne 4 (by decide)), by omega⟩, ⟨v5, f.get e5 (ne 5 (by decide)), by omega⟩, ⟨v6, f.get e6 (ne 6 (by decide)), by omega⟩,
    ⟨v7, f.get e7 (ne 7 (by decide)), Paired.imp' q7 fun _ _ _ ⟨k, g, z⟩ => ⟨k, g, f.tup z⟩⟩, ⟨v8, f.get e8 (ne 8 (by decide)), Paired.imp' q8 fun _ _ _ z => f.tup z⟩, by simp; omega, h.nd⟩
theorem StAt.p_bo {v : V} (h : StAt H S a b ms mk am n) {m : Nat} (hn : n + 1 ≤ m) : ∃ vs : List V, H S.bo = some (.lst vs) ∧ vs.length ≤ n ∧ StAt (upd H S.bo (.lst (vs ++ [v]))) S a b ms mk am m := by
  obtain ⟨v1, e1, q1⟩ := h.st
  obtain ⟨v2, e2, q2, r2⟩ := h.wh
  obtain ⟨v3, e3, q3⟩ := h.me
  obtain ⟨v4, e4, q4⟩ := h.bo
  obtain ⟨v5, e5, q5⟩ := h.gr
  obtain ⟨v6, e6, q6⟩ := h.bd
  obtain ⟨v7, e7, q7⟩ := h.mkk
  obtain ⟨v8, e8, q8⟩ := h.amm
  have f : Fr [S.bo] H (upd H S.bo (.lst (v4 ++ [v]))) := Fr.put e4 (by intro xs q; cases q) (by simp)
  have ne := fun i hi => SA.ne S h.nd i 4 hi
  have l := h.len
  exact ⟨v4, e4, q4, f.get h.sd (ne 0 (by decide)), ⟨v1, f.get e1 (ne 1 (by decide)), q1⟩, ⟨v2, f.get e2 (ne 2 (by decide)), q2, fun v hv => by obtain ⟨t, x, y, e, ht⟩ := r2 v hv; exact ⟨t, x, y, e, f.tup ht⟩⟩, ⟨v3, f.get e3 (ne 3 (by decide)), Paired.imp' q3 fun _ _ _ z => f.tup z⟩, ⟨_, upd_same, by simp; omega⟩, ⟨v5, f.get e5 (ne 5 (by decide)), by omega⟩, ⟨v6, f.get e6 (ne 6 (by decide)), by omega⟩,
    ⟨v7, f.get e7 (ne 7 (by decide)), Paired.imp' q7 fun _ _ _ ⟨k, g, z⟩ => ⟨k, g, f.tup z⟩⟩, ⟨v8, f.get e8 (ne 8 (by decide)), Paired.imp' q8 fun _ _ _ z => f.tup z⟩, by omega, h.nd⟩
theorem StAt.p_gr {v : V} (h : StAt H S a b ms mk am n) {m : Nat} (hn : n + 1 ≤ m) : ∃ vs : List V, H S.gr = some (.lst vs) ∧ vs.length ≤ n ∧ StAt (upd H S.gr (.lst (vs ++ [v]))) S a b ms mk am m := by
  obtain ⟨v1, e1, q1⟩ := h.st
  obtain ⟨v2, e2, q2, r2⟩ := h.wh
  obtain ⟨v3, e3, q3⟩ := h.me
  obtain ⟨v4, e4, q4⟩ := h.bo
  obtain ⟨v5, e5, q5⟩ := h.gr
  obtain ⟨v6, e6, q6⟩ := h.bd
  obtain ⟨v7, e7, q7⟩ := h.mkk
  obtain ⟨v8, e8, q8⟩ := h.amm
  have f : Fr [S.gr] H (upd H S.gr (.lst (v5 ++ [v]))) := Fr.put e5 (by intro xs q; cases q) (by simp)
  have ne := fun i hi => SA.ne S h.nd i 5 hi
  have l := h.len
  exact ⟨v5, e5, q5, f.get h.sd (ne 0 (by decide)), ⟨v1, f.get e1 (ne 1 (by decide)), q1⟩, ⟨v2, f.get e2 (ne 2 (by decide)), q2, fun v hv => by obtain ⟨t, x, y, e, ht⟩ := r2 v hv; exact ⟨t, x, y, e, f.tup ht⟩⟩, ⟨v3, f.get e3 (ne 3 (by decide)), Paired.imp' q3 fun _ _ _ z => f.tup z⟩, ⟨v4, f.get e4 (ne 4 (by decide)), by omega⟩, ⟨_, upd_same, by simp; omega⟩, ⟨v6, f.get e6 (ne 6 (by decide)), by omega⟩,
    ⟨v7, f.get e7 (ne 7 (by decide)), Paired.imp' q7 fun _ _ _ ⟨k, g, z⟩ => ⟨k, g, f.tup z⟩⟩, ⟨v8, f.get e8 (ne 8 (by decide)), Paired.imp' q8 fun _ _ _ z => f.tup z⟩, by omega, h.nd⟩
theorem StAt.p_bd {v : V} (h : StAt H S a b ms mk am n) {m : Nat} (hn : n + 1 ≤ m) : ∃ vs : List V, H S.bd = some (.lst vs) ∧ vs.length ≤ n ∧ StAt (upd H S.bd (.lst (vs ++ [v]))) S a b ms mk am m := by
  obtain ⟨v1, e1, q1⟩ := h.st
  obtain ⟨v2, e2, q2, r2⟩ := h.wh
  obtain ⟨v3, e3, q3⟩ := h.me
  obtain ⟨v4, e4, q4⟩ := h.bo
  obtain ⟨v5, e5, q5⟩ := h.gr
  obtain ⟨v6, e6, q6⟩ := h.bd
  obtain ⟨v7, e7, q7⟩ := h.mkk
  obtain ⟨v8, e8, q8⟩ := h.amm
  have f : Fr [S.bd] H (upd H S.bd (.lst (v6 ++ [v]))) := Fr.put e6 (by intro xs q; cases q) (by simp)
  have ne := fun i hi => SA.ne S h.nd i 6 hi
  have l := h.len
  exact ⟨v6, e6, q6, f.get h.sd (ne 0 (by decide)), ⟨v1, f.get e1 (ne 1 (by decide)), q1⟩, ⟨v2, f.get e2 (ne 2 (by decide)), q2, fun v hv => by obtain ⟨t, x, y, e, ht⟩ := r2 v hv; exact ⟨t, x, y, e, f.tup ht⟩⟩, ⟨v3, f.get e3 (ne 3 (by decide)), Paired.imp' q3 fun _ _ _ z => f.tup z⟩, ⟨v4, f.get e4 (ne 4 (by decide)), by omega⟩, ⟨v5, f.get e5 (ne 5 (by decide)), by omega⟩, ⟨_, upd_same, by simp; omega⟩,
    ⟨v7, f.get e7 (ne 7 (by decide)), Paired.imp' q7 fun _ _ _ ⟨k, g, z⟩ => ⟨k, g, f.tup z⟩⟩, ⟨v8, f.get e8 (ne 8 (by decide)), Paired.imp' q8 fun _ _ _ z => f.tup z⟩, by omega, h.nd⟩
theorem StAt.p_mk (h : StAt H S a b ms mk am n) {x : Str} {k g : V} (ht : H t = some (.tup [.str x, k, g])) {m : Nat} (hm : mk.length + 1 ≤ m) (hn : n ≤ m) : ∃ vs : List V, H S.mkk = some (.lst vs) ∧ vs.length = mk.length ∧ StAt (upd H S.mkk (.lst (vs ++ [.ref t]))) S a b ms (mk ++ [x]) am m := by
  obtain ⟨v1, e1, q1⟩ := h.st
  obtain ⟨v2, e2, q2, r2⟩ := h.wh
  obtain ⟨v3, e3, q3⟩ := h.me
  obtain ⟨v4, e4, q4⟩ := h.bo
  obtain ⟨v5, e5, q5⟩ := h.gr
  obtain ⟨v6, e6, q6⟩ := h.bd
  obtain ⟨v7, e7, q7⟩ := h.mkk
  obtain ⟨v8, e8, q8⟩ := h.amm
  have f : Fr [S.mkk] H (upd H S.mkk (.lst (v7.map V.ref ++ [.ref t]))) := Fr.put e7 (by intro xs q; cases q) (by simp)
  have ne := fun i hi => SA.ne S h.nd i 7 hi
  have l := h.len
  exact ⟨_, e7, by rw [List.length_map]; exact q7.length, f.get h.sd (ne 0 (by decide)), ⟨v1, f.get e1 (ne 1 (by decide)), q1⟩, ⟨v2, f.get e2 (ne 2 (by decide)), q2, fun v hv => by obtain ⟨t, x, y, e, ht⟩ := r2 v hv; exact ⟨t, x, y, e, f.tup ht⟩⟩, ⟨v3, f.get e3 (ne 3 (by decide)), Paired.imp' q3 fun _ _ _ z => f.tup z⟩, ⟨v4, f.get e4 (ne 4 (by decide)), by omega⟩, ⟨v5, f.get e5 (ne 5 (by decide)), by omega⟩, ⟨v6, f.get e6 (ne 6 (by decide)), by omega⟩,
    ⟨v7 ++ [t], by rw [upd_same]; simp, Paired.snoc (Paired.imp' q7 fun _ _ _ ⟨k, g, z⟩ => ⟨k, g, f.tup z⟩) ⟨k, g, f.tup ht⟩⟩, ⟨v8, f.get e8 (ne 8 (by decide)), Paired.imp' q8 fun _ _ _ z => f.tup z⟩, by simp; omega, h.nd⟩
theorem StAt.p_am (h : StAt H S a b ms mk am n) {e : Str × Nat × Str} (ht : H t = some (.tup [.str e.1, .int (e.2.1 : Int), .str e.2.2])) {m : Nat} (hm : am.length + 1 ≤ m) (hn : n ≤ m) : ∃ vs : List V, H S.am = some (.lst vs) ∧ vs.length = am.length ∧ StAt (upd H S.am (.lst (vs ++ [.ref t]))) S a b ms mk (am ++ [e]) m := by
  obtain ⟨v1, e1, q1⟩ := h.st
  obtain ⟨v2, e2, q2, r2⟩ := h.wh
  obtain ⟨v3, e3, q3⟩ := h.me
  obtain ⟨v4, e4, q4⟩ := h.bo
  obtain ⟨v5, e5, q5⟩ := h.gr
  obtain ⟨v6, e6, q6⟩ := h.bd
  obtain ⟨v7, e7, q7⟩ := h.mkk
  obtain ⟨v8, e8, q8⟩ := h.amm
  have f : Fr [S.am] H (upd H S.am (.lst (v8.map V.ref ++ [.ref t]))) := Fr.put e8 (by intro xs q; cases q) (by simp)
  have ne := fun i hi => SA.ne S h.nd i 8 hi
  have l := h.len
  exact ⟨_, e8, by rw [List.length_map]; exact q8.length, f.get h.sd (ne 0 (by decide)), ⟨v1, f.get e1 (ne 1 (by decide)), q1⟩, ⟨v2, f.get e2 (ne 2 (by decide)), q2, fun v hv => by obtain ⟨t, x, y, e, ht⟩ := r2 v hv; exact ⟨t, x, y, e, f.tup ht⟩⟩, ⟨v3, f.get e3 (ne 3 (by decide)), Paired.imp' q3 fun _ _ _ z => f.tup z⟩, ⟨v4, f.get e4 (ne 4 (by decide)), by omega⟩, ⟨v5, f.get e5 (ne 5 (by decide)), by omega⟩, ⟨v6, f.get e6 (ne 6 (by decide)), by omega⟩,
    ⟨v7, f.get e7 (ne 7 (by decide)), Paired.imp' q7 fun _ _ _ ⟨k, g, z⟩ => ⟨k, g, f.tup z⟩⟩, ⟨v8 ++ [t], by rw [upd_same]; simp, Paired.snoc (Paired.imp' q8 fun _ _ _ z => f.tup z) (f.tup ht)⟩, by simp; omega, h.nd⟩
/-! scopes -/
def ck (c : Scp) : List (Key × V) := c.map fun p => (Sum.inr p.1, .int (p.2 : Int))
theorem ck_len (c : Scp) : (ck c).length = c.length := by simp [ck]
theorem ck_val (c : Scp) (x : Str) : valV (ck c) (Sum.inr x) = (getS c x).map fun i => .int (i : Int) := by
  induction c with
  | nil => rfl
  | cons p c ih =>
    unfold ck getS valV at *
    rw [List.map_cons, List.find?_cons, List.find?_cons]
    by_cases h : p.1 = x
    · simp [h]
    · have : ¬ (Sum.inr p.1 : Key) = Sum.inr x := fun e => h (by cases e; rfl)
      simp only [h, this, decide_false]
      exact ih
theorem ck_put (c : Scp) (x : Str) (i : Nat) : putK (ck c) (Sum.inr x) (.int (i : Int)) = ck (putS c x i) := by
  unfold putK putS
  have e : ((ck c).any fun kv => decide (kv.1 = Sum.inr x)) = (c.any fun kv => decide (kv.1 = x)) := by
    unfold ck
    rw [List.any_map]
    congr 1
    funext p
    simp only [Function.comp]
    by_cases h : p.1 = x
    · simp [h]
    · have : ¬ (Sum.inr p.1 : Key) = Sum.inr x := fun e => h (by cases e; rfl)
      simp [h, this]
  rw [e]
  split
  · unfold ck
    rw [List.map_map, List.map_map]
    apply List.map_congr_left
    intro p _
    simp only [Function.comp]
    by_cases h : p.1 = x
    · simp [h]
    · have : ¬ (Sum.inr p.1 : Key) = Sum.inr x := fun e => h (by cases e; rfl)
      simp [h, this]
  · simp [ck]
theorem putS_len (c : Scp) (x : Str) (i : Nat) : (putS c x i).length ≤ c.length + 1 := by
  unfold putS
  split
  · simp
  · simp
end
section
variable {X : Cx} {K : PySem.W.Frag} {H : Hp} {Q : VK} {p : Addr} {xs : List V}
theorem op_eqDK (hu : X.A.units + 64 < cLine) (h : X.K = K := by rfl) : OpR X (compareOp .Eq) (rEqD K) := h ▸ op_eqD hu
theorem op_neDK (hu : X.A.units + 64 < cLine) (h : X.K = K := by rfl) : OpR X (compareOp .NotEq) (rNeD K) := h ▸ op_neD hu
theorem call_isiKK (h : X.K = K := by rfl) : CallR X (.builtin "isinstance") (rIsi K) := h ▸ call_isi
theorem call_isiTK (h : X.K = K := by rfl) : CallR X (.builtin "isinstance") (rIsiT K) := h ▸ call_isiT
def rListOf (K : PySem.W.Frag) : List V → Hp → VK → Prop := fun xs H Q => ∃ p ys, xs = [.ref p] ∧ (SqL K H p ys ∨ SqT K H p ys) ∧ ∀ l, H l = none → Q (.ref l) (upd H l (.lst ys))
theorem call_list_ofK (h : X.K = K := by rfl) : CallR X (.type "list") (rListOf K) := h ▸ call_list_of
theorem g_listT (h : H p = some (.tup xs)) (k : ∀ l, H l = none → Q (.ref l) (upd H l (.lst xs))) : rListOf K [.ref p] H Q := ⟨p, xs, rfl, .inr (.inl (.of h)), k⟩
theorem g_isi {x : V} {a n : String} {b : Bool} (ty : TyX K H x (.type a)) (h : kitB a n = some b) (q : Q (.bl b) H) : rIsi K [x, .ty n] H Q := ⟨x, .ty n, .type a, .type n, b, rfl, .ty n, ty, kit_ty h, q⟩
theorem g_din {σ : L2.St} {ty td : TE} (q : ty σ H fun y H1 => td σ H1 fun x H2 => ∃ a ov, x = .ref a ∧ DGet H2 a y ov ∧ Q (.bl ov.isSome) H2) : tDIn ty td σ H Q := q
theorem g_gsub {σ : L2.St} {to ti : TE} {t : TSet} {v : V} {R : L2.St → Hp → Prop} (q : to σ H fun o H1 => ti σ H1 fun i H2 => t o i v H2 fun H3 => R σ H3) : gSub to ti t v σ H R := q
theorem kvo {kvs : List (Key × V)} {k : Str} {H : Hp} {d : Addr} (h : H d = some (.dK kvs)) : DGet H d (.str k) (valV kvs (Sum.inr k)) := .inl ⟨kvs, Sum.inr k, .inl h, rfl, rfl⟩
theorem fr_one {W : List Addr} {H : Hp} {p : Addr} {o o' : HO} (h : H p = some o) (ht : ∀ xs, o ≠ .tup xs) (hw : p ∈ W) : Fr W H (upd H p o') := Fr.put h ht hw
end
end Fb
set_option Elab.async false
set_option linter.all false
set_option maxRecDepth 100000
set_option maxHeartbeats 4000000
namespace Fb
open PySem PySem.Spec PyProof.Rows L2
local macro_rules | `(tactic| walk_at "go1") => `(tactic| first
  | with_reducible refine g_seq ?_
  | with_reducible refine g_asg ?_
  | with_reducible refine g_name ?_
  | ((with_reducible refine' g_var ?h1 ?_); (case h1 => rfl))
  | with_reducible refine g_c ?_
  | with_reducible refine g_op ?_
  | with_reducible refine g_un ?_
  | with_reducible refine g_rU ?_
  | with_reducible refine g_yes ?_
  | with_reducible refine g_isN ?_
  | with_reducible refine g_notN ?_
  | with_reducible refine g_int1 ?_
  | with_reducible refine g_I0 ?_
  | ((with_reducible refine' g_eq ?h1 ?_); (case h1 => rfl))
  | ((with_reducible refine' g_ne ?h1 ?_); (case h1 => rfl))
  | with_reducible refine g_test ?_
  | with_reducible refine g_tb ?_
  | with_reducible refine g_bl ?_
  | with_reducible refine g_drop ?_
  | with_reducible refine g_ret ?_
  | with_reducible refine g_if ?_
  | with_reducible refine g_ife ?_
  | with_reducible refine g_and ?_
  | with_reducible refine g_or ?_
  | with_reducible refine g_not ?_
  | with_reducible refine g_next ?_
  | with_reducible refine g_nil ?_
  | with_reducible refine g_cons ?_
  | with_reducible refine g_cb ?_
  | with_reducible refine g_call ?_
  | with_reducible refine g_tup ?_
  | with_reducible refine g_lst ?_
  | with_reducible refine g_dget ?_
  | with_reducible refine g_dput ?_
  | with_reducible refine g_bm ?_
  | with_reducible refine g_lc ?_
  | with_reducible refine g_for ?_
  | with_reducible refine g_il ?_
  | with_reducible refine g_rng1 ?_
  | with_reducible refine g_gsub ?_
  | with_reducible refine g_din ?_
  | with_reducible refine g_disp ?_
  | with_reducible refine g_pairs ?_
  | with_reducible refine g_pairs0 ?_
  | with_reducible refine g_sl ?_
  | with_reducible refine g_part ?_
  | with_reducible refine g_part1 ?_
  | with_reducible refine g_nopart ?_
  | with_reducible refine g_andV ?_
  | with_reducible refine g_orV ?_
  | with_reducible refine g_notV ?_
  | with_reducible refine g_itp ?_
  | with_reducible refine g_par ?_
  | with_reducible refine g_par1 ?_
  | with_reducible refine g_par3 ?_
  | with_reducible refine g_par31 ?_
  | with_reducible refine g_gname ?_
  | with_reducible refine g_gcons ?_
  | with_reducible refine g_gnil ?_
  | with_reducible refine g_bm0 ?_)
local macro_rules | `(tactic| walk_at "go") => `(tactic| repeat walk_at "go1")
local macro_rules | `(tactic| walk_at "at") => `(tactic| repeat first
  | assumption
  | exact upd_same
  | with_reducible refine keep (by assumption) ?_
  | with_reducible refine keep_ne (by assumption) ?_
  | with_reducible refine Fr.get0 (by assumption) ?_
  | with_reducible refine Fr.get (by assumption) ?_ (by assumption)
  | with_reducible refine Fr.tup (by assumption) ?_)
local macro_rules | `(tactic| walk_at "fr") => `(tactic| repeat first
  | assumption
  | exact Fr.refl _ _
  | with_reducible refine Fr.trans ?_ (Fr.new (by assumption))
  | with_reducible refine Fr.trans ?_ (Fr.nil (by assumption))
  | with_reducible refine Fr.trans ?_ (by assumption))
local macro_rules | `(tactic| walk_at "gn") => `(tactic| repeat first
  | assumption
  | with_reducible refine Gn.fr0 ?_ (Fr.new (by assumption))
  | with_reducible refine Gn.fr0 ?_ (by assumption))
local macro_rules | `(tactic| walk_at "bt") => `(tactic| repeat first
  | assumption
  | with_reducible refine BAt.up (Fr.new (W := []) (by assumption)).1 _ _ ?_
  | with_reducible refine SAt.up (Fr.new (W := []) (by assumption)).1 _ _ ?_
  | with_reducible refine BAt.up (Fr.tupLe (by assumption)) _ _ ?_
  | with_reducible refine SAt.up (Fr.tupLe (by assumption)) _ _ ?_)
def strF : V → Option V
  | .str x => some (.str x)
  | _ => none
theorem strF1 (a : Atm) : [a.v].filterMap strF = a.nms.map V.str := by cases a <;> rfl
theorem strFs : ∀ as : List Atm, (as.map Atm.v).filterMap strF = (as.flatMap Atm.nms).map V.str
  | [] => rfl
  | a :: as => by
    rw [List.map_cons, List.flatMap_cons, List.map_append, ← strFs as, ← strF1, ← List.filterMap_append]; rfl
theorem atmF (a : Atm) : (∃ z, a.v = .str z) ∨ ∃ n, a.v = .int n := by cases a with
  | nm x => exact .inl ⟨x, rfl⟩
  | num n => exact .inr ⟨n, rfl⟩
/-- used(statement) -/
def spUsed : Sp := fun vs H Q _ => ∃ (st : Stm) (v : V), vs = [v] ∧ SAt H st v ∧ 1 + depS st ≤ 1000 ∧ ∀ (H' : Hp) (p : Addr), Fr [] H H' → H' p = some (.lst (st.uses.map V.str)) → Q (.ref p) H'
section
variable {P : Program} {w : World} {K : PySem.W.Frag} {mg : Str → Option Value} {base : Heap}
theorem sc_law_used : FnScope ["_law_statement", "_law_word", "_law_atoms", "_law_atom_here"] ["_law_statement"] (defScope (topS 26)) := ⟨rfl, rfl, rfl, by decide +kernel, rfl, by decide +kernel, by decide +kernel⟩
theorem ok_used (A : All K mg) : Ok P w K mg base CX0 1 "_law_used" ["_law_statement"] spUsed := by
  refine ok_of0 A.used sc_law_used (fun _ _ _ _ _ _ us hl => match us, hl with | [_], _ => rfl) (fun vs H Q E h => ?_) (fun f cdv Ar outer s H vs Q E hr h => ?_)
  · obtain ⟨_, _, rfl, _⟩ := h; rfl
  · obtain ⟨st, v, rfl, hs, hdp, q⟩ := h
    refine ⟨_, (pss_cons (ps_set (i := 1) sc_law_used.nd rfl (Or.inl rfl) (pe_ix (ix_tupK (K := K)) (pv 0) pe_int (fun _ _ => rfl)))
    (pss_cons (ps_set (i := 2) sc_law_used.nd rfl (Or.inl rfl) (pe_lst (pa_cons (pe_ix (ix_tupK (K := K)) (pv 0) pe_int (fun _ _ => rfl)) pa_nil)))
    (pss_cons (ps_if (pt_cmpR op_eq (pv 1) pe_str (nomark _)) (pss_one (ps_set (i := 2) sc_law_used.nd rfl (Or.inl rfl) (pe_lst pa_nil))) pss_nil)
    (pss_cons (ps_if (pt_cmpR op_eq (pv 1) pe_str (nomark _)) (pss_one (ps_set (i := 2) sc_law_used.nd rfl (Or.inl rfl) (pe_lst (pa_cons (pe_ix (ix_tupK (K := K)) (pv 0) pe_int (fun _ _ => rfl)) pa_nil)))) pss_nil)
    (pss_cons (ps_if (pt_cmpR op_eq (pv 1) pe_str (nomark _)) (pss_one (ps_set (i := 2) sc_law_used.nd rfl (Or.inl rfl) (pe_lst (pa_cons (pe_ix (ix_tupK (K := K)) (pv 0) pe_int (fun _ _ => rfl)) (pa_cons (pe_ix (ix_tupK (K := K)) (pv 0) pe_int (fun _ _ => rfl)) pa_nil))))) pss_nil)
    (pss_cons (ps_if (pt_cmpR op_eq (pv 1) pe_str (nomark _)) (pss_one (ps_set (i := 2) sc_law_used.nd rfl (Or.inl rfl) (pe_op op_cat (pe_lst (pa_cons (pe_ix (ix_tupK (K := K)) (pv 0) pe_int (fun _ _ => rfl)) pa_nil)) (pe_callTy (call_list_ofK (K := K)) (by rfl) A.list (by decide +kernel) (pa_cons (pe_ix (ix_tupK (K := K)) (pv 0) pe_int (fun _ _ => rfl)) pa_nil))))) pss_nil)
    (pss_cons (ps_if (pt_cmpR op_eq (pv 1) pe_str (nomark _)) (pss_one (ps_set (i := 2) sc_law_used.nd rfl (Or.inl rfl) (pe_lst (pa_cons (pe_ix (ix_tupK (K := K)) (pv 0) pe_int (fun _ _ => rfl)) (pa_cons (pe_ix (ix_tupK (K := K)) (pv 0) pe_int (fun _ _ => rfl)) pa_nil))))) pss_nil)
    (Evl.pss_cut (ps_if (pt_cmpR op_eq (pv 1) pe_str (nomark _)) (pss_one (ps_set (i := 2) sc_law_used.nd rfl (Or.inl rfl) (pe_lst (pa_cons (pe_ix (ix_tupK (K := K)) (pv 0) pe_int (fun _ _ => rfl)) pa_nil)))) pss_nil)
    (pss_one (ps_ret (pe_lc (own := [("_law_atom_here", 3)]) (g := gName 3) (by rfl) sc_law_used.nd (pi_list (pv 2)) (blkOk_by (own := [("_law_atom_here", 3)]) (N := ["_law_statement", "_law_word", "_law_atoms", "_law_atom_here"]) (sc := defScope (topS 26)) (by decide +kernel)) (fun _ _ _ _ _ => (pg_nameL (i := 3) sc_law_used.nd rfl rfl)) (fun _ _ _ _ _ => (pts_one (pt_val (pe_callB (call_isiKK (K := K)) (by rfl) A.isinstance (by decide +kernel) (pa_cons (pv 3) (pa_cons (pe_bltn (v := .ty "str") (by rfl) A.str (by decide +kernel) rfl) pa_nil)))))) (fun _ _ _ _ _ => (pv 3))))))))))))), ?_⟩
    have one : ∀ {n : Nat}, n ≤ 10 → n ≤ sizeLine := fun h => small_of (by omega)
    walk_at "go"
    have fin : ∀ (p : Addr) (w : Str) (pl : Addr) (L : List V) (H' : Hp), Fr [] H H' → H' pl = some (.lst L) → L.filterMap strF = st.uses.map V.str → (∀ v ∈ L, (∃ z, v = .str z) ∨ ∃ n, v = .int n) → L.length ≤ 5000 →
        tRet (tLc (iList K (tVar 2)) (gName 3) (tTest (tCB (rIsi K) (tCons (tVar 3) (tCons (tC (.ty "str")) tNil)))) (tVar 3) (List.map (fun x => x.snd) [(("_law_atom_here" : Str), 3)])) { nx := fun _ H' => Q .non H', rt := Q } [some (.ref p), some (.str w), some (.ref pl), none] H' := fun p w pl L H' f hl e1 e2 e3 => by
      walk_at "go"
      refine lc_listP strF hl (fun p2 n2 => ?_) (fun D i x hD hx => ?_)
      · rw [e1]
        exact q _ p2 (f.trans (Fr.new n2)) upd_same
      · walk_at "go"
        refine ⟨rfl, ?_⟩
        walk_at "go"
        rcases e2 x (List.mem_of_getElem? hx) with ⟨z, rfl⟩ | ⟨n, rfl⟩
        · refine g_isi (.base (.str z)) (b := true) (by decide +kernel) ?_
          walk_at "go"
          refine i_t rfl ?_
          walk_at "go"
          exact pu_yes (small_lt (by omega)) hx rfl
        · refine g_isi (.base (.int n)) (b := false) (by decide +kernel) ?_
          walk_at "go"
          refine i_f rfl ?_
          exact pu_no hx rfl
    cases st with
    | let_ x a =>
      simp only [SAt] at hs
      obtain ⟨p, rfl, hp⟩ := hs
      refine g_ixT hp (by rfl) ?_
      walk_at "go"
      refine g_ixT hp (by rfl) ?_
      walk_at "go"
      refine ⟨one (by simp), fun p1 n1 => ?_⟩
      walk_at "go"
      refine i_f (by rfl) ?_
      walk_at "go"
      refine i_t (by rfl) ?_
      walk_at "go"
      refine g_ixT (keep n1 hp) (by rfl) ?_
      walk_at "go"
      refine ⟨one (by simp), fun p2 n2 => ?_⟩
      walk_at "go"
      refine i_f (by rfl) ?_
      walk_at "go"
      refine i_f (by rfl) ?_
      walk_at "go"
      refine i_f (by rfl) ?_
      walk_at "go"
      refine ⟨fun σ' H' => ∃ (pl : Addr) (L : List V), σ' = [some (.ref p), some (.str "let"), some (.ref pl), none] ∧ Fr [] H H' ∧ H' pl = some (.lst L) ∧ L.filterMap strF = (Stm.uses (.let_ x a)).map V.str ∧ (∀ v ∈ L, (∃ z, v = .str z) ∨ ∃ n, v = .int n) ∧ L.length ≤ 5000, ?_, ?_⟩
      · walk_at "go"
        refine i_f (by rfl) ?_
        walk_at "go"
        exact ⟨p2, [a.v], rfl, by walk_at "fr", by walk_at "at", strF1 a, by intro v hv; rw [List.mem_singleton.mp hv]; exact atmF a, by simp⟩
      · rintro σ' H' ⟨pl, L, rfl, f, hl, e1, e2, e3⟩
        exact fin _ _ _ _ _ f hl e1 e2 e3
    | sum x s a b =>
      simp only [SAt] at hs
      obtain ⟨p, rfl, hp⟩ := hs
      refine g_ixT hp (by rfl) ?_
      walk_at "go"
      refine g_ixT hp (by rfl) ?_
      walk_at "go"
      refine ⟨one (by simp), fun p1 n1 => ?_⟩
      walk_at "go"
      refine i_f (by rfl) ?_
      walk_at "go"
      refine i_f (by rfl) ?_
      walk_at "go"
      refine i_t (by rfl) ?_
      walk_at "go"
      refine g_ixT (keep n1 hp) (by rfl) ?_
      walk_at "go"
      refine g_ixT (keep n1 hp) (by rfl) ?_
      walk_at "go"
      refine ⟨one (by simp), fun p2 n2 => ?_⟩
      walk_at "go"
      refine i_f (by rfl) ?_
      walk_at "go"
      refine i_f (by rfl) ?_
      walk_at "go"
      refine ⟨fun σ' H' => ∃ (pl : Addr) (L : List V), σ' = [some (.ref p), some (.str "sum"), some (.ref pl), none] ∧ Fr [] H H' ∧ H' pl = some (.lst L) ∧ L.filterMap strF = (Stm.uses (.sum x s a b)).map V.str ∧ (∀ v ∈ L, (∃ z, v = .str z) ∨ ∃ n, v = .int n) ∧ L.length ≤ 5000, ?_, ?_⟩
      · walk_at "go"
        refine i_f (by rfl) ?_
        walk_at "go"
        exact ⟨p2, [a.v, b.v], rfl, by walk_at "fr", by walk_at "at", by rw [show [a.v, b.v] = [a.v] ++ [b.v] from rfl, List.filterMap_append, strF1, strF1]; simp [Stm.uses], by intro v hv; simp at hv; rcases hv with rfl | rfl; exact atmF a; exact atmF b, by simp⟩
      · rintro σ' H' ⟨pl, L, rfl, f, hl, e1, e2, e3⟩
        exact fin _ _ _ _ _ f hl e1 e2 e3
    | fn x ps b =>
      simp only [SAt] at hs
      obtain ⟨p, q, r, vs, rfl, hp, _⟩ := hs
      refine g_ixT hp (by rfl) ?_
      walk_at "go"
      refine g_ixT hp (by rfl) ?_
      walk_at "go"
      refine ⟨one (by simp), fun p1 n1 => ?_⟩
      walk_at "go"
      refine i_t (by rfl) ?_
      walk_at "go"
      refine ⟨one (by simp), fun p2 n2 => ?_⟩
      walk_at "go"
      refine i_f (by rfl) ?_
      walk_at "go"
      refine i_f (by rfl) ?_
      walk_at "go"
      refine i_f (by rfl) ?_
      walk_at "go"
      refine i_f (by rfl) ?_
      walk_at "go"
      refine ⟨fun σ' H' => ∃ (pl : Addr) (L : List V), σ' = [some (.ref p), some (.str "fn"), some (.ref pl), none] ∧ Fr [] H H' ∧ H' pl = some (.lst L) ∧ L.filterMap strF = (Stm.uses (.fn x ps b)).map V.str ∧ (∀ v ∈ L, (∃ z, v = .str z) ∨ ∃ n, v = .int n) ∧ L.length ≤ 5000, ?_, ?_⟩
      · walk_at "go"
        refine i_f (by rfl) ?_
        walk_at "go"
        exact ⟨p2, [], rfl, by walk_at "fr", by walk_at "at", rfl, by simp, by simp⟩
      · rintro σ' H' ⟨pl, L, rfl, f, hl, e1, e2, e3⟩
        exact fin _ _ _ _ _ f hl e1 e2 e3
    | call x f as =>
      have harg : as.length ≤ 4000 := by simp only [depS] at hdp; omega
      simp only [SAt] at hs
      obtain ⟨p, q, rfl, hp, hq⟩ := hs
      refine g_ixT hp (by rfl) ?_
      walk_at "go"
      refine g_ixT hp (by rfl) ?_
      walk_at "go"
      refine ⟨one (by simp), fun p1 n1 => ?_⟩
      walk_at "go"
      refine i_f (by rfl) ?_
      walk_at "go"
      refine i_f (by rfl) ?_
      walk_at "go"
      refine i_f (by rfl) ?_
      walk_at "go"
      refine i_t (by rfl) ?_
      walk_at "go"
      refine g_ixT (keep n1 hp) (by rfl) ?_
      walk_at "go"
      refine ⟨one (by simp), fun p2 n2 => ?_⟩
      walk_at "go"
      refine g_ixT (keep n2 (keep n1 hp)) (by rfl) ?_
      walk_at "go"
      refine g_listT (keep n2 (keep n1 hq)) (fun p3 n3 => ?_)
      refine g_cat (keep n3 upd_same) upd_same (small_of (by simp; omega)) (fun p4 n4 => ?_)
      walk_at "go"
      refine i_f (by rfl) ?_
      walk_at "go"
      refine ⟨fun σ' H' => ∃ (pl : Addr) (L : List V), σ' = [some (.ref p), some (.str "call"), some (.ref pl), none] ∧ Fr [] H H' ∧ H' pl = some (.lst L) ∧ L.filterMap strF = (Stm.uses (.call x f as)).map V.str ∧ (∀ v ∈ L, (∃ z, v = .str z) ∨ ∃ n, v = .int n) ∧ L.length ≤ 5000, ?_, ?_⟩
      · walk_at "go"
        refine i_f (by rfl) ?_
        walk_at "go"
        exact ⟨p4, ([.str f] ++ as.map Atm.v), rfl, by walk_at "fr", by walk_at "at", by rw [List.filterMap_append, strFs]; simp [Stm.uses, strF], by intro v hv; rcases List.mem_append.mp hv with h | h; exact .inl ⟨f, List.mem_singleton.mp h⟩; obtain ⟨a, _, rfl⟩ := List.mem_map.mp h; exact atmF a, by simp; omega⟩
      · rintro σ' H' ⟨pl, L, rfl, f, hl, e1, e2, e3⟩
        exact fin _ _ _ _ _ f hl e1 e2 e3
    | set x a =>
      simp only [SAt] at hs
      obtain ⟨p, rfl, hp⟩ := hs
      refine g_ixT hp (by rfl) ?_
      walk_at "go"
      refine g_ixT hp (by rfl) ?_
      walk_at "go"
      refine ⟨one (by simp), fun p1 n1 => ?_⟩
      walk_at "go"
      refine i_f (by rfl) ?_
      walk_at "go"
      refine i_f (by rfl) ?_
      walk_at "go"
      refine i_f (by rfl) ?_
      walk_at "go"
      refine i_f (by rfl) ?_
      walk_at "go"
      refine i_t (by rfl) ?_
      walk_at "go"
      refine g_ixT (keep n1 hp) (by rfl) ?_
      walk_at "go"
      refine g_ixT (keep n1 hp) (by rfl) ?_
      walk_at "go"
      refine ⟨one (by simp), fun p2 n2 => ?_⟩
      walk_at "go"
      refine ⟨fun σ' H' => ∃ (pl : Addr) (L : List V), σ' = [some (.ref p), some (.str "set"), some (.ref pl), none] ∧ Fr [] H H' ∧ H' pl = some (.lst L) ∧ L.filterMap strF = (Stm.uses (.set x a)).map V.str ∧ (∀ v ∈ L, (∃ z, v = .str z) ∨ ∃ n, v = .int n) ∧ L.length ≤ 5000, ?_, ?_⟩
      · walk_at "go"
        refine i_f (by rfl) ?_
        walk_at "go"
        exact ⟨p2, [.str x, a.v], rfl, by walk_at "fr", by walk_at "at", by rw [show [V.str x, a.v] = [V.str x] ++ [a.v] from rfl, List.filterMap_append, strF1]; simp [Stm.uses, strF], by intro v hv; simp at hv; rcases hv with rfl | rfl; exact .inl ⟨x, rfl⟩; exact atmF a, by simp⟩
      · rintro σ' H' ⟨pl, L, rfl, f, hl, e1, e2, e3⟩
        exact fin _ _ _ _ _ f hl e1 e2 e3
    | tell a =>
      simp only [SAt] at hs
      obtain ⟨p, rfl, hp⟩ := hs
      refine g_ixT hp (by rfl) ?_
      walk_at "go"
      refine g_ixT hp (by rfl) ?_
      walk_at "go"
      refine ⟨one (by simp), fun p1 n1 => ?_⟩
      walk_at "go"
      refine i_f (by rfl) ?_
      walk_at "go"
      refine i_f (by rfl) ?_
      walk_at "go"
      refine i_f (by rfl) ?_
      walk_at "go"
      refine i_f (by rfl) ?_
      walk_at "go"
      refine i_f (by rfl) ?_
      walk_at "go"
      refine ⟨fun σ' H' => ∃ (pl : Addr) (L : List V), σ' = [some (.ref p), some (.str "tell"), some (.ref pl), none] ∧ Fr [] H H' ∧ H' pl = some (.lst L) ∧ L.filterMap strF = (Stm.uses (.tell a)).map V.str ∧ (∀ v ∈ L, (∃ z, v = .str z) ∨ ∃ n, v = .int n) ∧ L.length ≤ 5000, ?_, ?_⟩
      · walk_at "go"
        refine i_f (by rfl) ?_
        walk_at "go"
        exact ⟨p1, [a.v], rfl, by walk_at "fr", by walk_at "at", strF1 a, by intro v hv; rw [List.mem_singleton.mp hv]; exact atmF a, by simp⟩
      · rintro σ' H' ⟨pl, L, rfl, f, hl, e1, e2, e3⟩
        exact fin _ _ _ _ _ f hl e1 e2 e3
    | give a =>
      simp only [SAt] at hs
      obtain ⟨p, rfl, hp⟩ := hs
      refine g_ixT hp (by rfl) ?_
      walk_at "go"
      refine g_ixT hp (by rfl) ?_
      walk_at "go"
      refine ⟨one (by simp), fun p1 n1 => ?_⟩
      walk_at "go"
      refine i_f (by rfl) ?_
      walk_at "go"
      refine i_f (by rfl) ?_
      walk_at "go"
      refine i_f (by rfl) ?_
      walk_at "go"
      refine i_f (by rfl) ?_
      walk_at "go"
      refine i_f (by rfl) ?_
      walk_at "go"
      refine ⟨fun σ' H' => ∃ (pl : Addr) (L : List V), σ' = [some (.ref p), some (.str "give"), some (.ref pl), none] ∧ Fr [] H H' ∧ H' pl = some (.lst L) ∧ L.filterMap strF = (Stm.uses (.give a)).map V.str ∧ (∀ v ∈ L, (∃ z, v = .str z) ∨ ∃ n, v = .int n) ∧ L.length ≤ 5000, ?_, ?_⟩
      · walk_at "go"
        refine i_f (by rfl) ?_
        walk_at "go"
        exact ⟨p1, [a.v], rfl, by walk_at "fr", by walk_at "at", strF1 a, by intro v hv; rw [List.mem_singleton.mp hv]; exact atmF a, by simp⟩
      · rintro σ' H' ⟨pl, L, rfl, f, hl, e1, e2, e3⟩
        exact fin _ _ _ _ _ f hl e1 e2 e3
    | ite a b c =>
      simp only [SAt] at hs
      obtain ⟨p, q, r, vs, ws, rfl, hp, _⟩ := hs
      refine g_ixT hp (by rfl) ?_
      walk_at "go"
      refine g_ixT hp (by rfl) ?_
      walk_at "go"
      refine ⟨one (by simp), fun p1 n1 => ?_⟩
      walk_at "go"
      refine i_f (by rfl) ?_
      walk_at "go"
      refine i_f (by rfl) ?_
      walk_at "go"
      refine i_f (by rfl) ?_
      walk_at "go"
      refine i_f (by rfl) ?_
      walk_at "go"
      refine i_f (by rfl) ?_
      walk_at "go"
      refine ⟨fun σ' H' => ∃ (pl : Addr) (L : List V), σ' = [some (.ref p), some (.str "if"), some (.ref pl), none] ∧ Fr [] H H' ∧ H' pl = some (.lst L) ∧ L.filterMap strF = (Stm.uses (.ite a b c)).map V.str ∧ (∀ v ∈ L, (∃ z, v = .str z) ∨ ∃ n, v = .int n) ∧ L.length ≤ 5000, ?_, ?_⟩
      · walk_at "go"
        refine i_f (by rfl) ?_
        walk_at "go"
        exact ⟨p1, [a.v], rfl, by walk_at "fr", by walk_at "at", strF1 a, by intro v hv; rw [List.mem_singleton.mp hv]; exact atmF a, by simp⟩
      · rintro σ' H' ⟨pl, L, rfl, f, hl, e1, e2, e3⟩
        exact fin _ _ _ _ _ f hl e1 e2 e3
    | «while» a b =>
      simp only [SAt] at hs
      obtain ⟨p, q, vs, rfl, hp, _⟩ := hs
      refine g_ixT hp (by rfl) ?_
      walk_at "go"
      refine g_ixT hp (by rfl) ?_
      walk_at "go"
      refine ⟨one (by simp), fun p1 n1 => ?_⟩
      walk_at "go"
      refine i_f (by rfl) ?_
      walk_at "go"
      refine i_f (by rfl) ?_
      walk_at "go"
      refine i_f (by rfl) ?_
      walk_at "go"
      refine i_f (by rfl) ?_
      walk_at "go"
      refine i_f (by rfl) ?_
      walk_at "go"
      refine ⟨fun σ' H' => ∃ (pl : Addr) (L : List V), σ' = [some (.ref p), some (.str "while"), some (.ref pl), none] ∧ Fr [] H H' ∧ H' pl = some (.lst L) ∧ L.filterMap strF = (Stm.uses (.while a b)).map V.str ∧ (∀ v ∈ L, (∃ z, v = .str z) ∨ ∃ n, v = .int n) ∧ L.length ≤ 5000, ?_, ?_⟩
      · walk_at "go"
        refine i_f (by rfl) ?_
        walk_at "go"
        exact ⟨p1, [a.v], rfl, by walk_at "fr", by walk_at "at", strF1 a, by intro v hv; rw [List.mem_singleton.mp hv]; exact atmF a, by simp⟩
      · rintro σ' H' ⟨pl, L, rfl, f, hl, e1, e2, e3⟩
        exact fin _ _ _ _ _ f hl e1 e2 e3
    | times o x a b =>
      simp only [SAt] at hs
      obtain ⟨p, q, vs, rfl, hp, _⟩ := hs
      refine g_ixT hp (by rfl) ?_
      walk_at "go"
      refine g_ixT hp (by rfl) ?_
      walk_at "go"
      refine ⟨one (by simp), fun p1 n1 => ?_⟩
      walk_at "go"
      refine i_f (by rfl) ?_
      walk_at "go"
      refine i_f (by rfl) ?_
      walk_at "go"
      refine i_f (by rfl) ?_
      walk_at "go"
      refine i_f (by rfl) ?_
      walk_at "go"
      refine i_f (by rfl) ?_
      walk_at "go"
      refine ⟨fun σ' H' => ∃ (pl : Addr) (L : List V), σ' = [some (.ref p), some (.str "times"), some (.ref pl), none] ∧ Fr [] H H' ∧ H' pl = some (.lst L) ∧ L.filterMap strF = (Stm.uses (.times o x a b)).map V.str ∧ (∀ v ∈ L, (∃ z, v = .str z) ∨ ∃ n, v = .int n) ∧ L.length ≤ 5000, ?_, ?_⟩
      · walk_at "go"
        refine i_t (by rfl) ?_
        walk_at "go"
        refine g_ixT (keep n1 hp) (by rfl) ?_
        walk_at "go"
        refine ⟨one (by simp), fun p2 n2 => ?_⟩
        walk_at "go"
        exact ⟨p2, [a.v], rfl, by walk_at "fr", by walk_at "at", strF1 a, by intro v hv; rw [List.mem_singleton.mp hv]; exact atmF a, by simp⟩
      · rintro σ' H' ⟨pl, L, rfl, f, hl, e1, e2, e3⟩
        exact fin _ _ _ _ _ f hl e1 e2 e3
end
end Fb
set_option Elab.async false
set_option linter.all false
set_option maxRecDepth 100000
set_option maxHeartbeats 4000000
namespace Fb
open PySem PySem.Spec PyProof.Rows L2
local macro_rules | `(tactic| walk_at "go1") => `(tactic| first
  | with_reducible refine g_seq ?_
  | with_reducible refine g_asg ?_
  | with_reducible refine g_name ?_
  | ((with_reducible refine' g_var ?h1 ?_); (case h1 => rfl))
  | with_reducible refine g_c ?_
  | with_reducible refine g_op ?_
  | with_reducible refine g_un ?_
  | with_reducible refine g_rU ?_
  | with_reducible refine g_yes ?_
  | with_reducible refine g_isN ?_
  | with_reducible refine g_notN ?_
  | with_reducible refine g_int1 ?_
  | with_reducible refine g_I0 ?_
  | ((with_reducible refine' g_eq ?h1 ?_); (case h1 => rfl))
  | ((with_reducible refine' g_ne ?h1 ?_); (case h1 => rfl))
  | with_reducible refine g_test ?_
  | with_reducible refine g_tb ?_
  | with_reducible refine g_bl ?_
  | with_reducible refine g_drop ?_
  | with_reducible refine g_ret ?_
  | with_reducible refine g_if ?_
  | with_reducible refine g_ife ?_
  | with_reducible refine g_and ?_
  | with_reducible refine g_or ?_
  | with_reducible refine g_not ?_
  | with_reducible refine g_next ?_
  | with_reducible refine g_nil ?_
  | with_reducible refine g_cons ?_
  | with_reducible refine g_cb ?_
  | with_reducible refine g_call ?_
  | with_reducible refine g_tup ?_
  | with_reducible refine g_lst ?_
  | with_reducible refine g_dget ?_
  | with_reducible refine g_dput ?_
  | with_reducible refine g_bm ?_
  | with_reducible refine g_lc ?_
  | with_reducible refine g_for ?_
  | with_reducible refine g_il ?_
  | with_reducible refine g_rng1 ?_
  | with_reducible refine g_gsub ?_
  | with_reducible refine g_din ?_
  | with_reducible refine g_disp ?_
  | with_reducible refine g_pairs ?_
  | with_reducible refine g_pairs0 ?_
  | with_reducible refine g_sl ?_
  | with_reducible refine g_part ?_
  | with_reducible refine g_part1 ?_
  | with_reducible refine g_nopart ?_
  | with_reducible refine g_andV ?_
  | with_reducible refine g_orV ?_
  | with_reducible refine g_notV ?_
  | with_reducible refine g_itp ?_
  | with_reducible refine g_par ?_
  | with_reducible refine g_par1 ?_
  | with_reducible refine g_par3 ?_
  | with_reducible refine g_par31 ?_
  | with_reducible refine g_gname ?_
  | with_reducible refine g_gcons ?_
  | with_reducible refine g_gnil ?_
  | with_reducible refine g_bm0 ?_)
local macro_rules | `(tactic| walk_at "go") => `(tactic| repeat walk_at "go1")
local macro_rules | `(tactic| walk_at "at") => `(tactic| repeat first
  | assumption
  | exact upd_same
  | with_reducible refine keep (by assumption) ?_
  | with_reducible refine keep_ne (by assumption) ?_
  | with_reducible refine Fr.get0 (by assumption) ?_
  | with_reducible refine Fr.get (by assumption) ?_ (by assumption)
  | with_reducible refine Fr.tup (by assumption) ?_)
local macro_rules | `(tactic| walk_at "fr") => `(tactic| repeat first
  | assumption
  | exact Fr.refl _ _
  | with_reducible refine Fr.trans ?_ (Fr.new (by assumption))
  | with_reducible refine Fr.trans ?_ (Fr.nil (by assumption))
  | with_reducible refine Fr.trans ?_ (by assumption))
local macro_rules | `(tactic| walk_at "gn") => `(tactic| repeat first
  | assumption
  | with_reducible refine Gn.fr0 ?_ (Fr.new (by assumption))
  | with_reducible refine Gn.fr0 ?_ (by assumption))
local macro_rules | `(tactic| walk_at "bt") => `(tactic| repeat first
  | assumption
  | with_reducible refine BAt.up (Fr.new (W := []) (by assumption)).1 _ _ ?_
  | with_reducible refine SAt.up (Fr.new (W := []) (by assumption)).1 _ _ ?_
  | with_reducible refine BAt.up (Fr.tupLe (by assumption)) _ _ ?_
  | with_reducible refine SAt.up (Fr.tupLe (by assumption)) _ _ ?_)
def spMake : Sp := fun vs H Q _ => ∃ (S : SA) (a b : Nat) (ms : List (List (Option Nat))) (mk : List Str) (am : List (Str × Nat × Str)) (n : Nat) (c : Scp) (x : Str) (k : Nat) (gv : V) (sc : Addr), vs = [.ref S.sd, .str x, .int (k : Int), gv, .ref sc] ∧
  StAt H S a b ms mk am n ∧ H sc = some (.dK (ck c)) ∧ sc ∉ S.sd :: S.ls ∧ n + 1 ≤ 90000 ∧ c.length ≤ 90000 ∧
  ∀ H', StAt H' S a b ms (mk ++ [x]) (am ++ if (getS c x).isSome then [(("twice" : Str), k, x)] else []) (n + 1) → H' sc = some (.dK (ck (putS c x mk.length))) → Fr [S.am, S.mkk, sc] H H' → Q .non H'
def spGround : Sp := fun vs H Q _ => ∃ (S : SA) (a b : Nat) (ms : List (List (Option Nat))) (mk : List Str) (am : List (Str × Nat × Str)) (n : Nat) (so k ar bo : V), vs = [.ref S.sd, so, k, ar, bo] ∧ StAt H S a b ms mk am n ∧ n + 2 ≤ 90000 ∧
  ∀ H' (j : Int), StAt H' S a b ms mk am (n + 2) → Fr [S.gr, S.bd] H H' → Q (.int j) H'
section
variable {P : Program} {w : World} {K : PySem.W.Frag} {mg : Str → Option Value} {base : Heap}
theorem sc_law_make : FnScope ["_law_state", "_law_name", "_law_k", "_law_ground_here", "_law_scope"] ["_law_state", "_law_name", "_law_k", "_law_ground_here", "_law_scope"] (defScope (topS 27)) := ⟨rfl, rfl, rfl, by decide +kernel, rfl, by decide +kernel, by decide +kernel⟩
theorem ok_make (A : All K mg) : Ok P w K mg base CX0 1 "_law_make" ["_law_state", "_law_name", "_law_k", "_law_ground_here", "_law_scope"] spMake := by
  refine ok_of0 A.make sc_law_make (fun _ _ _ _ _ _ us hl => match us, hl with | [_, _, _, _, _], _ => rfl) (fun vs H Q E h => ?_) (fun f cdv Ar outer s H vs Q E hr h => ?_)
  · obtain ⟨_, _, _, _, _, _, _, _, _, _, _, _, rfl, _⟩ := h; rfl
  · obtain ⟨S, a, b, ms, mk, am, n, c, x, k, gv, sc, rfl, hst, hc, hns, hn, hcl, q⟩ := h
    refine ⟨_, (Evl.pss_cut (ps_if (pt_cmp (pc_din (hu_of hr) (pv 1) (pv 4))) (pss_one (ps_expr (pe_bm PySem.F.plainAttrs_list PySem.F.slot_list_append PySem.F.type_list_append mt_append (pe_dget (hu_of hr) (pv 0) pe_str (fun _ _ => rfl)) (pa_cons (pe_tup (pa_cons pe_str (pa_cons (pv 2) (pa_cons (pv 1) pa_nil)))) pa_nil)))) pss_nil)
    (pss_cons (ps_dput (hu_of hr) (pv 4) (pv 1) (pe_callB call_len_seq (by rfl) A.len boot_len (pa_cons (pe_dget (hu_of hr) (pv 0) pe_str (fun _ _ => rfl)) pa_nil)) rfl)
    (pss_one (ps_expr (pe_bm PySem.F.plainAttrs_list PySem.F.slot_list_append PySem.F.type_list_append mt_append (pe_dget (hu_of hr) (pv 0) pe_str (fun _ _ => rfl)) (pa_cons (pe_tup (pa_cons (pv 1) (pa_cons (pv 2) (pa_cons (pv 3) pa_nil)))) pa_nil)))))), ?_⟩
    have one : ∀ {n : Nat}, n ≤ 10 → n ≤ sizeLine := fun h => small_of (by omega)
    refine ⟨fun σ' H' => σ' = [some (.ref S.sd), some (.str x), some (.int (k : Int)), some gv, some (.ref sc)] ∧ StAt H' S a b ms mk (am ++ if (getS c x).isSome then [(("twice" : Str), k, x)] else []) (n + 1) ∧ Fr [S.am] H H' ∧ H' sc = some (.dK (ck c)), ?_, ?_⟩
    · walk_at "go"
      refine ⟨sc, _, rfl, kvo hc, ?_⟩
      rw [ck_val, Option.isSome_map]
      refine ⟨_, rfl, ?_⟩
      refine i_bool (fun e => ?_) (fun e => ?_)
      · rw [e]
        walk_at "go"
        refine ⟨_, _, rfl, kvl hst.sd (stk_am S), ?_⟩
        obtain ⟨ts, e8, _⟩ := hst.amm
        refine ⟨ty_l e8, ?_⟩
        walk_at "go"
        refine ⟨one (by simp), fun p1 n1 => ?_⟩
        have h1 := hst.fr0 (Fr.new (o := .tup [.str "twice", .int (k : Int), .str x]) n1)
        obtain ⟨vs, e1, e2, h2⟩ := h1.p_am (e := ("twice", k, x)) (t := p1) upd_same (m := n + 1) (by have := hst.len; omega) (by omega)
        walk_at "go"
        refine g_append e1 (small_lt (by have := hst.len; omega)) ?_
        walk_at "go"
        refine ⟨rfl, h2, (Fr.new n1).trans (Fr.put e1 (by intro xs q; cases q) (by simp)), ?_⟩
        refine keep_ne ?_ (keep n1 hc)
        intro z; exact hns (by rw [z]; simp [SA.ls])
      · rw [e]
        walk_at "go"
        exact ⟨rfl, by simpa using hst.more (Nat.le_succ n), Fr.refl _ _, hc⟩
    · rintro σ' H' ⟨rfl, h2, f2, hc2⟩
      walk_at "go"
      refine ⟨_, _, rfl, kvl h2.sd (stk_mk S), ?_⟩
      obtain ⟨ts, e7, q7⟩ := h2.mkk
      have l7 := q7.length
      walk_at "go"
      refine g_len e7 ?_
      walk_at "go"
      refine ⟨_, _, rfl, kvp hc2 (by rw [ck_len]; exact small_lt (by omega)), ?_⟩
      rw [List.length_map, l7, ck_put]
      have f3 : Fr [sc] H' (upd H' sc (.dK (ck (putS c x mk.length)))) := Fr.put hc2 (by intro xs q; cases q) (by simp)
      have h3 := h2.fr f3 (fun y hy => by rw [List.mem_singleton.mp hy]; exact hns)
      walk_at "go"
      refine ⟨_, _, rfl, kvl h3.sd (stk_mk S), ?_⟩
      obtain ⟨ts3, e73, _⟩ := h3.mkk
      refine ⟨ty_l e73, ?_⟩
      walk_at "go"
      refine ⟨one (by simp), fun p1 n1 => ?_⟩
      have h4 := h3.fr0 (Fr.new (o := .tup [.str x, .int (k : Int), gv]) n1)
      obtain ⟨vs, e1, e2, h5⟩ := h4.p_mk (x := x) (t := p1) upd_same (m := n + 1) (by have := hst.len; omega) (by omega)
      walk_at "go"
      refine g_append e1 (small_lt (by have := hst.len; omega)) ?_
      walk_at "go"
      refine q _ h5 ?_ ?_
      · refine keep_ne ?_ (keep n1 upd_same)
        intro z; exact hns (by rw [z]; simp [SA.ls])
      · exact ((f2.mono (W' := [S.am, S.mkk, sc]) (by simp)).trans (f3.mono (by simp))).trans ((Fr.new n1).trans (Fr.put e1 (by intro xs q; cases q) (by simp)))
theorem sc_law_ground : FnScope ["_law_state", "_law_sort", "_law_k", "_law_around", "_law_body"] ["_law_state", "_law_sort", "_law_k", "_law_around", "_law_body"] (defScope (topS 28)) := ⟨rfl, rfl, rfl, by decide +kernel, rfl, by decide +kernel, by decide +kernel⟩
theorem ok_ground (A : All K mg) : Ok P w K mg base CX0 1 "_law_ground" ["_law_state", "_law_sort", "_law_k", "_law_around", "_law_body"] spGround := by
  refine ok_of0 A.ground sc_law_ground (fun _ _ _ _ _ _ us hl => match us, hl with | [_, _, _, _, _], _ => rfl) (fun vs H Q E h => ?_) (fun f cdv Ar outer s H vs Q E hr h => ?_)
  · obtain ⟨_, _, _, _, _, _, _, _, _, _, _, rfl, _⟩ := h; rfl
  · obtain ⟨S, a, b, ms, mk, am, n, so, k, ar, bo, rfl, hst, hn, q⟩ := h
    refine ⟨_, (pss_cons (ps_expr (pe_bm PySem.F.plainAttrs_list PySem.F.slot_list_append PySem.F.type_list_append mt_append (pe_dget (hu_of hr) (pv 0) pe_str (fun _ _ => rfl)) (pa_cons (pe_tup (pa_cons (pv 1) (pa_cons (pv 2) (pa_cons (pv 3) pa_nil)))) pa_nil)))
    (pss_cons (ps_expr (pe_bm PySem.F.plainAttrs_list PySem.F.slot_list_append PySem.F.type_list_append mt_append (pe_dget (hu_of hr) (pv 0) pe_str (fun _ _ => rfl)) (pa_cons (pv 4) pa_nil)))
    (pss_one (ps_ret (pe_op op_sub (pe_callB call_len_seq (by rfl) A.len boot_len (pa_cons (pe_dget (hu_of hr) (pv 0) pe_str (fun _ _ => rfl)) pa_nil)) pe_int))))), ?_⟩
    have one : ∀ {n : Nat}, n ≤ 10 → n ≤ sizeLine := fun h => small_of (by omega)
    walk_at "go"
    refine ⟨_, _, rfl, kvl hst.sd (stk_gr S), ?_⟩
    obtain ⟨v5, e5, _⟩ := hst.gr
    refine ⟨ty_l e5, ?_⟩
    walk_at "go"
    refine ⟨one (by simp), fun p1 n1 => ?_⟩
    have h1 := hst.fr0 (Fr.new (o := .tup [so, k, ar]) n1)
    obtain ⟨vs, e1, e2, h2⟩ := h1.p_gr (v := .ref p1) (m := n + 1) (by omega)
    walk_at "go"
    refine g_append e1 (small_lt (by omega)) ?_
    have f2 : Fr [S.gr, S.bd] H (upd (upd H p1 (.tup [so, k, ar])) S.gr (.lst (vs ++ [.ref p1]))) := (Fr.new n1).trans (Fr.put e1 (by intro xs q; cases q) (by simp))
    walk_at "go"
    refine ⟨_, _, rfl, kvl h2.sd (stk_bd S), ?_⟩
    obtain ⟨v6, e6, l6⟩ := h2.bd
    refine ⟨ty_l e6, ?_⟩
    walk_at "go"
    obtain ⟨v7, e7, l7, h3⟩ := h2.p_bd (v := bo) (m := n + 2) (by omega)
    refine g_append e7 (small_lt (by omega)) ?_
    have f3 := f2.trans (Fr.put (W := [S.gr, S.bd]) (o' := .lst (v7 ++ [bo])) e7 (by intro xs q; cases q) (by simp))
    walk_at "go"
    refine ⟨_, _, rfl, kvl h3.sd (stk_gr S), ?_⟩
    obtain ⟨v8, e8, _⟩ := h3.gr
    walk_at "go"
    refine g_len e8 ?_
    walk_at "go"
    exact q _ _ h3 f3
end
end Fb
set_option Elab.async false
set_option linter.all false
set_option maxRecDepth 100000
set_option maxHeartbeats 4000000
namespace Fb
open PySem PySem.Spec PyProof.Rows L2
def mkP : Stm → List Op
  | .let_ x _ => [.M x]
  | .sum x _ _ _ => [.M x]
  | .call x _ _ => [.M x]
  | .fn x _ _ => [.M x]
  | _ => []
def blkP : Stm → List Op
  | .fn _ ps b => .O :: (ps.map Op.M ++ (ops b ++ [.C]))
  | .ite _ b c => .O :: (ops b ++ (.C :: .O :: (ops c ++ [.C])))
  | .while _ b => .O :: (ops b ++ [.C])
  | .times true x _ b => .O :: .M x :: (ops b ++ [.C])
  | .times false x _ b => .O :: .M x :: .O :: (ops b ++ [.C, .C])
  | _ => []
theorem opsS_eq (st : Stm) : opsS st = .S st.uses :: (mkP st ++ blkP st) := by
  cases st with
  | times o x a b => cases o <;> simp only [opsS, mkP, blkP, Stm.uses, List.nil_append]
  | _ => simp only [opsS, mkP, blkP, Stm.uses, List.nil_append, List.append_nil, List.cons_append]
theorem run_cons (o : Op) (l : List Op) (s : Sn) : run (o :: l) s = run l (run1 o s) := rfl
structure LayS (H : Hp) (S : SA) (scs : List Addr) (top : Addr) (c : Scp) (r : List Scp) (s : Sn) (n : Nat) : Prop where
  st : StAt H S s.at_ s.at_ s.means s.mks s.am n
  sc : s.sc = c :: r
  out : Paired (fun a c => H a = some (.dK (ck c))) scs r.reverse
  tpc : H top = some (.dK (ck c))
  nd : (scs ++ [top]).Nodup
  dis : ∀ a ∈ scs ++ [top], a ∉ S.sd :: S.ls
  cl : c.length ≤ n
section
variable {K : PySem.W.Frag} {H H' : Hp} {S : SA} {scs : List Addr} {top p L : Addr} {c c' : Scp} {r : List Scp} {s s' : Sn} {n n' : Nat} {W : List Addr} {x : Str}
theorem LayS.fr (h : LayS H S scs top c r s n) (f : Fr W H H') (hW : ∀ a ∈ W, a ∉ S.sd :: S.ls ∧ a ∉ scs ++ [top]) : LayS H' S scs top c r s n :=
  ⟨h.st.fr f fun a ha => (hW a ha).1, h.sc, Paired.imp' h.out fun a ha _ z => f.get z fun q => (hW a q).2 (List.mem_append_left _ ha), f.get h.tpc fun q => (hW _ q).2 (by simp), h.nd, h.dis, h.cl⟩
theorem LayS.fr0 (h : LayS H S scs top c r s n) (f : Fr [] H H') : LayS H' S scs top c r s n := h.fr f fun a ha => by cases ha
theorem LayS.more (h : LayS H S scs top c r s n) (hn : n ≤ n') : LayS H S scs top c r s n' := ⟨h.st.more hn, h.sc, h.out, h.tpc, h.nd, h.dis, Nat.le_trans h.cl hn⟩
theorem LayS.live (h : LayS H S scs top c r s n) : ∀ a ∈ scs ++ [top], ∃ o, H a = some o := fun a ha => by
  rcases List.mem_append.mp ha with q | q
  · obtain ⟨_, _, z⟩ := Paired.mem_left h.out a q; exact ⟨_, z⟩
  · rw [List.mem_singleton.mp q]; exact ⟨_, h.tpc⟩
theorem LayS.nin (h : LayS H S scs top c r s n) (hp : H p = none) : p ∉ scs ++ [top] := fun q => by
  obtain ⟨o, e⟩ := h.live p q
  rw [hp] at e; cases e
theorem LayS.push (h : LayS H S scs top c r s n) (hp : H p = none) : LayS (upd H p (.dK [])) S (scs ++ [top]) p [] (c :: r) (run1 .O s) n := by
  have f : Fr [] H (upd H p (.dK [])) := Fr.new hp
  refine ⟨h.st.fr0 f, by show [] :: s.sc = _; rw [h.sc], ?_, upd_same, ?_, fun a ha => ?_, by simp⟩
  · rw [List.reverse_cons]
    exact Paired.snoc (Paired.imp' h.out fun _ _ _ z => f.get0 z) (f.get0 h.tpc)
  · rw [List.nodup_append]
    refine ⟨h.nd, by simp, fun a ha b hb e => ?_⟩
    rw [List.mem_singleton.mp hb] at e
    subst e
    exact h.nin hp ha
  · rcases List.mem_append.mp ha with q | q
    · exact h.dis a q
    · rw [List.mem_singleton.mp q]; exact h.st.nin hp
theorem LayS.made (h : LayS H S scs top c r s n) (g : StAt H' S s.at_ s.at_ s.means (s.mks ++ [x]) (s.am ++ if (getS c x).isSome then [(("twice" : Str), s.at_ - 1, x)] else []) (n + 1)) (e : H' top = some (.dK (ck (putS c x s.mks.length)))) (f : Fr [S.am, S.mkk, top] H H') :
    LayS H' S scs top (putS c x s.mks.length) r (run1 (.M x) s) (n + 1) := by
  rw [run_M_cons h.sc]
  refine ⟨g, rfl, Paired.imp' h.out fun a ha _ z => f.get z fun q => ?_, e, h.nd, h.dis, by have := putS_len c x s.mks.length; have := h.cl; omega⟩
  have hd := h.dis a (List.mem_append_left _ ha)
  simp only [List.mem_cons, List.not_mem_nil, or_false] at q
  rcases q with q | q | q
  · exact hd (by rw [q]; simp [SA.ls])
  · exact hd (by rw [q]; simp [SA.ls])
  · subst q
    exact (List.nodup_append.mp h.nd).2.2 a ha a (by simp) rfl
theorem LayS.pop (h : LayS H S scs top c r s n) (h' : LayS H' S (scs ++ [top]) p c' (c :: r) s' n') (hn : n ≤ n') : LayS H' S scs top c r (run1 .C s') n' := by
  have o := h'.out
  rw [List.reverse_cons] at o
  obtain ⟨o1, o2⟩ := Paired.unsnoc o
  exact ⟨h'.st, by show s'.sc.tail = _; rw [h'.sc]; rfl, o1, o2, h.nd, h.dis, Nat.le_trans h.cl hn⟩
theorem LayS.st' (h : LayS H S scs top c r s n) (g : StAt H' S s.at_ s.at_ s.means s.mks s.am n') (f : Fr W H H') (hW : ∀ a ∈ W, a ∈ S.ls) (hn : n ≤ n') : LayS H' S scs top c r s n' := by
  have d : ∀ a ∈ scs ++ [top], a ∉ W := fun a ha q => h.dis a ha (List.mem_cons_of_mem _ (hW a q))
  exact ⟨g, h.sc, Paired.imp' h.out fun a ha _ z => f.get z (d a (List.mem_append_left _ ha)), f.get h.tpc (d _ (by simp)), h.nd, h.dis, Nat.le_trans h.cl hn⟩
theorem run_M_at {s : Sn} {x : Str} : (run1 (.M x) s).at_ = s.at_ := by
  cases e : s.sc with
  | nil =>
    obtain ⟨sc, _, _, _, _⟩ := s
    have e : sc = [] := e
    subst e; rfl
  | cons c r => rw [run_M_cons e]
theorem LayS.pop2 (h : LayS H S scs top c r s n) (h' : LayS H' S (scs ++ [top]) p c' (c :: r) s' n') (hn : n ≤ n') : (run1 .C s').sc = c :: r := (h.pop h' hn).sc
end
/-- lay_blocks(state, statement, ground, scopes) -/
def spLB (m : Nat) : Sp := fun vs H Q _ => ∃ (S : SA) (scs : List Addr) (top L : Addr) (c : Scp) (r : List Scp) (s : Sn) (n : Nat) (st : Stm) (v : V) (g : Int), vs = [.ref S.sd, v, .int g, .ref L] ∧ SAt H st v ∧ LayS H S scs top c r s n ∧ H L = some (.lst ((scs ++ [top]).map V.ref)) ∧ L ∉ S.ls ∧ 1 ≤ s.at_ ∧ depS st ≤ m ∧ 1 + depS st ≤ 1000 ∧ scs.length + 2 * m + 2 ≤ 1000 ∧ n + 10 * wL (blkP st) ≤ 90000 ∧
  ∀ H', LayS H' S scs top c r (run (blkP st) s) (n + 10 * wL (blkP st)) → Fr S.ls H H' → Q .non H'
/-- lay(state, block, place, scopes) -/
def spLay (m : Nat) : Sp := fun vs H Q _ => ∃ (S : SA) (scs : List Addr) (top L : Addr) (c : Scp) (r : List Scp) (s : Sn) (n : Nat) (b : List Stm) (ws : List V) (pb pl : Addr) (g bd : Int), vs = [.ref S.sd, .ref pb, .ref pl, .ref L] ∧ H pb = some (.tup ws) ∧ BAt H b ws ∧ H pl = some (.tup [.int g, .int bd]) ∧ LayS H S scs top c r s n ∧ H L = some (.lst ((scs ++ [top]).map V.ref)) ∧ L ∉ S.ls ∧ depB b ≤ m ∧ m ≤ 900 ∧ scs.length + 2 * m ≤ 1000 ∧ n + 10 * wB b ≤ 90000 ∧
  ∀ H' c', LayS H' S scs top c' r (run (ops b) s) (n + 10 * wB b) → Fr (top :: S.ls) H H' → Q .non H'
end Fb
set_option Elab.async false
set_option linter.all false
set_option maxRecDepth 100000
set_option maxHeartbeats 4000000
namespace Fb
open PySem PySem.Spec PyProof.Rows L2
local macro_rules | `(tactic| walk_at "go1") => `(tactic| first
  | with_reducible refine g_seq ?_
  | with_reducible refine g_asg ?_
  | with_reducible refine g_name ?_
  | ((with_reducible refine' g_var ?h1 ?_); (case h1 => rfl))
  | with_reducible refine g_c ?_
  | with_reducible refine g_op ?_
  | with_reducible refine g_un ?_
  | with_reducible refine g_rU ?_
  | with_reducible refine g_yes ?_
  | with_reducible refine g_isN ?_
  | with_reducible refine g_notN ?_
  | with_reducible refine g_int1 ?_
  | with_reducible refine g_I0 ?_
  | ((with_reducible refine' g_eq ?h1 ?_); (case h1 => rfl))
  | ((with_reducible refine' g_ne ?h1 ?_); (case h1 => rfl))
  | with_reducible refine g_test ?_
  | with_reducible refine g_tb ?_
  | with_reducible refine g_bl ?_
  | with_reducible refine g_drop ?_
  | with_reducible refine g_ret ?_
  | with_reducible refine g_if ?_
  | with_reducible refine g_ife ?_
  | with_reducible refine g_and ?_
  | with_reducible refine g_or ?_
  | with_reducible refine g_not ?_
  | with_reducible refine g_next ?_
  | with_reducible refine g_nil ?_
  | with_reducible refine g_cons ?_
  | with_reducible refine g_cb ?_
  | with_reducible refine g_call ?_
  | with_reducible refine g_tup ?_
  | with_reducible refine g_lst ?_
  | with_reducible refine g_dget ?_
  | with_reducible refine g_dput ?_
  | with_reducible refine g_bm ?_
  | with_reducible refine g_lc ?_
  | with_reducible refine g_for ?_
  | with_reducible refine g_il ?_
  | with_reducible refine g_rng1 ?_
  | with_reducible refine g_gsub ?_
  | with_reducible refine g_din ?_
  | with_reducible refine g_disp ?_
  | with_reducible refine g_pairs ?_
  | with_reducible refine g_pairs0 ?_
  | with_reducible refine g_sl ?_
  | with_reducible refine g_part ?_
  | with_reducible refine g_part1 ?_
  | with_reducible refine g_nopart ?_
  | with_reducible refine g_andV ?_
  | with_reducible refine g_orV ?_
  | with_reducible refine g_notV ?_
  | with_reducible refine g_itp ?_
  | with_reducible refine g_par ?_
  | with_reducible refine g_par1 ?_
  | with_reducible refine g_par3 ?_
  | with_reducible refine g_par31 ?_
  | with_reducible refine g_gname ?_
  | with_reducible refine g_gcons ?_
  | with_reducible refine g_gnil ?_
  | with_reducible refine g_bm0 ?_)
local macro_rules | `(tactic| walk_at "go") => `(tactic| repeat walk_at "go1")
local macro_rules | `(tactic| walk_at "at") => `(tactic| repeat first
  | assumption
  | exact upd_same
  | with_reducible refine keep (by assumption) ?_
  | with_reducible refine keep_ne (by assumption) ?_
  | with_reducible refine Fr.get0 (by assumption) ?_
  | with_reducible refine Fr.get (by assumption) ?_ (by assumption)
  | with_reducible refine Fr.tup (by assumption) ?_)
local macro_rules | `(tactic| walk_at "fr") => `(tactic| repeat first
  | assumption
  | exact Fr.refl _ _
  | with_reducible refine Fr.trans ?_ (Fr.new (by assumption))
  | with_reducible refine Fr.trans ?_ (Fr.nil (by assumption))
  | with_reducible refine Fr.trans ?_ (by assumption))
local macro_rules | `(tactic| walk_at "gn") => `(tactic| repeat first
  | assumption
  | with_reducible refine Gn.fr0 ?_ (Fr.new (by assumption))
  | with_reducible refine Gn.fr0 ?_ (by assumption))
local macro_rules | `(tactic| walk_at "bt") => `(tactic| repeat first
  | assumption
  | with_reducible refine BAt.up (Fr.new (W := []) (by assumption)).1 _ _ ?_
  | with_reducible refine SAt.up (Fr.new (W := []) (by assumption)).1 _ _ ?_
  | with_reducible refine BAt.up (Fr.tupLe (by assumption)) _ _ ?_
  | with_reducible refine SAt.up (Fr.tupLe (by assumption)) _ _ ?_)
section
variable {P : Program} {w : World} {K : PySem.W.Frag} {mg : Str → Option Value} {base : Heap}
theorem sc_law_lay_blocks : FnScope ["_law_state", "_law_statement", "_law_ground_here", "_law_scopes", "_law_word", "_law_k", "_law_body", "_law_inner", "_law_scope", "_law_name", "_law_outer"] ["_law_state", "_law_statement", "_law_ground_here", "_law_scopes"] (defScope (topS 29)) := ⟨rfl, rfl, rfl, by decide +kernel, rfl, by decide +kernel, by decide +kernel⟩
theorem ok_lb (A : All K mg) {m k : Nat} (hk : 1 ≤ k) (O_lay : Ok P w K mg base CX0 k "_law_lay" ["_law_state", "_law_block_here", "_law_place", "_law_scopes"] (spLay m)) : Ok P w K mg base CX0 (k + 1) "_law_lay_blocks" ["_law_state", "_law_statement", "_law_ground_here", "_law_scopes"] (spLB m) := by
  have O_make : Ok P w K mg base CX0 1 "_law_make" ["_law_state", "_law_name", "_law_k", "_law_ground_here", "_law_scope"] spMake := ok_make A
  have O_ground : Ok P w K mg base CX0 1 "_law_ground" ["_law_state", "_law_sort", "_law_k", "_law_around", "_law_body"] spGround := ok_ground A
  refine ok_of0 A.lay_blocks sc_law_lay_blocks (fun _ _ _ _ _ _ us hl => match us, hl with | [_, _, _, _], _ => rfl) (fun vs H Q E h => ?_) (fun f cdv Ar outer s0 H vs Q E hr h => ?_)
  · obtain ⟨_, _, _, _, _, _, _, _, _, _, _, rfl, _⟩ := h; rfl
  · obtain ⟨S, scs, top, L, c, r, s, n, st, v, g, rfl, hs, h, hL, hLn, hat, hd, hd2, hsl, hb, q⟩ := h
    refine ⟨_, (pss_cons (ps_par3 (i := 4) (j := 5) (l := 6) rfl sc_law_lay_blocks.nd rfl rfl rfl (by decide) (by decide) (by decide) rfl rfl rfl (pa_cons (pe_ix (ix_tupK (K := K)) (pv 1) pe_int (fun _ _ => rfl)) (pa_cons (pe_op op_sub (pe_callB call_len_seq (by rfl) A.len boot_len (pa_cons (pe_dget (hu_of hr) (pv 0) pe_str (fun _ _ => rfl)) pa_nil)) pe_int) (pa_cons (pe_ix (ix_tupK (K := K)) (pe_ix (ix_listK (K := K)) (pe_dget (hu_of hr) (pv 0) pe_str (fun _ _ => rfl)) (pe_un un_neg pe_int) (fun _ _ => rfl)) pe_int (fun _ _ => rfl)) pa_nil))) (by rfl))
    (pss_cons (ps_if (pt_cmpR op_eq (pv 4) pe_str (nomark _)) (pss_cons (ps_expr (pe_bm PySem.F.plainAttrs_list PySem.F.slot_list_append PySem.F.type_list_append mt_append (pe_dget (hu_of hr) (pv 0) pe_str (fun _ _ => rfl)) (pa_cons (pe_tup (pa_cons (pv 5) (pa_cons (pe_ix (ix_tupK (K := K)) (pv 1) pe_int (fun _ _ => rfl)) pa_nil))) pa_nil)))
    (pss_cons (ps_set (i := 6) sc_law_lay_blocks.nd rfl (Or.inl rfl) (pe_op op_sub (pe_callB call_len_seq (by rfl) A.len boot_len (pa_cons (pe_dget (hu_of hr) (pv 0) pe_str (fun _ _ => rfl)) pa_nil)) pe_int))
    (pss_cons (ps_set (i := 7) sc_law_lay_blocks.nd rfl (Or.inl rfl) (pe_ok O_ground (hr.mono (by omega)) (pa_cons (pv 0) (pa_cons pe_str (pa_cons (pv 5) (pa_cons (pv 2) (pa_cons (pv 6) pa_nil)))))))
    (pss_cons (ps_set (i := 8) sc_law_lay_blocks.nd rfl (Or.inl rfl) pe_dnewK)
    (pss_cons (ps_for PassesOwn.never rfl (pi_tup (pe_ix (ix_tupK (K := K)) (pv 1) pe_int (fun _ _ => rfl))) (pg_name (i := 9) sc_law_lay_blocks.nd rfl (Or.inl rfl)) (pss_one (ps_expr (pe_ok O_make (hr.mono (by omega)) (pa_cons (pv 0) (pa_cons (pv 9) (pa_cons (pv 5) (pa_cons (pv 7) (pa_cons (pv 8) pa_nil)))))))))
    (pss_one (ps_expr (pe_ok O_lay (hr.mono (by omega)) (pa_cons (pv 0) (pa_cons (pe_ix (ix_tupK (K := K)) (pv 1) pe_int (fun _ _ => rfl)) (pa_cons (pe_tup (pa_cons (pv 7) (pa_cons (pv 6) pa_nil))) (pa_cons (pe_op op_cat (pv 3) (pe_lst (pa_cons (pv 8) pa_nil))) pa_nil)))))))))))) pss_nil)
    (pss_cons (ps_if (pt_cmpR op_eq (pv 4) pe_str (nomark _)) (pss_cons (ps_expr (pe_ok O_lay (hr.mono (by omega)) (pa_cons (pv 0) (pa_cons (pe_ix (ix_tupK (K := K)) (pv 1) pe_int (fun _ _ => rfl)) (pa_cons (pe_tup (pa_cons (pe_ok O_ground (hr.mono (by omega)) (pa_cons (pv 0) (pa_cons pe_str (pa_cons (pv 5) (pa_cons (pv 2) (pa_cons (pv 6) pa_nil)))))) (pa_cons (pv 6) pa_nil))) (pa_cons (pe_op op_cat (pv 3) (pe_lst (pa_cons pe_dnewK pa_nil))) pa_nil))))))
    (pss_one (ps_expr (pe_ok O_lay (hr.mono (by omega)) (pa_cons (pv 0) (pa_cons (pe_ix (ix_tupK (K := K)) (pv 1) pe_int (fun _ _ => rfl)) (pa_cons (pe_tup (pa_cons (pe_ok O_ground (hr.mono (by omega)) (pa_cons (pv 0) (pa_cons pe_str (pa_cons (pv 5) (pa_cons (pv 2) (pa_cons (pv 6) pa_nil)))))) (pa_cons (pv 6) pa_nil))) (pa_cons (pe_op op_cat (pv 3) (pe_lst (pa_cons pe_dnewK pa_nil))) pa_nil)))))))) pss_nil)
    (pss_cons (ps_if (pt_cmpR op_eq (pv 4) pe_str (nomark _)) (pss_one (ps_expr (pe_ok O_lay (hr.mono (by omega)) (pa_cons (pv 0) (pa_cons (pe_ix (ix_tupK (K := K)) (pv 1) pe_int (fun _ _ => rfl)) (pa_cons (pe_tup (pa_cons (pe_ok O_ground (hr.mono (by omega)) (pa_cons (pv 0) (pa_cons pe_str (pa_cons (pv 5) (pa_cons (pv 2) (pa_cons (pv 6) pa_nil)))))) (pa_cons (pv 6) pa_nil))) (pa_cons (pe_op op_cat (pv 3) (pe_lst (pa_cons pe_dnewK pa_nil))) pa_nil))))))) pss_nil)
    (pss_one (ps_if (pt_cmpR op_eq (pv 4) pe_str (nomark _)) (pss_cons (ps_set (i := 8) sc_law_lay_blocks.nd rfl (Or.inl rfl) pe_dnewK)
    (pss_cons (ps_set (i := 10) sc_law_lay_blocks.nd rfl (Or.inl rfl) (pv 2))
    (pss_cons (ps_if (pt_cmpR op_eq (pe_ix (ix_tupK (K := K)) (pv 1) pe_int (fun _ _ => rfl)) pe_str (nomark _)) (pss_cons (ps_set (i := 10) sc_law_lay_blocks.nd rfl (Or.inl rfl) (pe_ok O_ground (hr.mono (by omega)) (pa_cons (pv 0) (pa_cons pe_str (pa_cons (pv 5) (pa_cons (pv 2) (pa_cons (pv 6) pa_nil)))))))
    (pss_cons (ps_expr (pe_ok O_make (hr.mono (by omega)) (pa_cons (pv 0) (pa_cons (pe_ix (ix_tupK (K := K)) (pv 1) pe_int (fun _ _ => rfl)) (pa_cons (pv 5) (pa_cons (pv 10) (pa_cons (pv 8) pa_nil)))))))
    (pss_cons (ps_set (i := 3) sc_law_lay_blocks.nd rfl (Or.inl rfl) (pe_op op_cat (pv 3) (pe_lst (pa_cons (pv 8) pa_nil))))
    (pss_one (ps_set (i := 8) sc_law_lay_blocks.nd rfl (Or.inl rfl) pe_dnewK))))) pss_nil)
    (pss_cons (ps_set (i := 7) sc_law_lay_blocks.nd rfl (Or.inl rfl) (pe_ok O_ground (hr.mono (by omega)) (pa_cons (pv 0) (pa_cons pe_str (pa_cons (pv 5) (pa_cons (pv 10) (pa_cons (pv 6) pa_nil)))))))
    (pss_cons (ps_if (pt_cmpR op_eq (pe_ix (ix_tupK (K := K)) (pv 1) pe_int (fun _ _ => rfl)) pe_str (nomark _)) (pss_one (ps_expr (pe_ok O_make (hr.mono (by omega)) (pa_cons (pv 0) (pa_cons (pe_ix (ix_tupK (K := K)) (pv 1) pe_int (fun _ _ => rfl)) (pa_cons (pv 5) (pa_cons (pv 7) (pa_cons (pv 8) pa_nil)))))))) pss_nil)
    (pss_one (ps_expr (pe_ok O_lay (hr.mono (by omega)) (pa_cons (pv 0) (pa_cons (pe_ix (ix_tupK (K := K)) (pv 1) pe_int (fun _ _ => rfl)) (pa_cons (pe_tup (pa_cons (pv 7) (pa_cons (pv 6) pa_nil))) (pa_cons (pe_op op_cat (pv 3) (pe_lst (pa_cons (pv 8) pa_nil))) pa_nil)))))))))))) pss_nil)))))), ?_⟩
    have one : ∀ {n : Nat}, n ≤ 10 → n ≤ sizeLine := fun h => small_of (by omega)
    obtain ⟨wv, hw, hwlen, hwall⟩ := h.st.wh
    obtain ⟨wv0, wl, hwv⟩ : ∃ wv0 wl, wv = wv0 ++ [wl] := by
      rcases List.eq_nil_or_concat wv with e | ⟨l, a, e⟩
      · rw [e] at hwlen; simp at hwlen; omega
      · exact ⟨l, a, by simpa using e⟩
    obtain ⟨wt, bd0, gd0, rfl, hwt⟩ := hwall wl (by rw [hwv]; simp)
    have hwl : atI wv (-1) = some (.ref wt) := by rw [hwv]; exact atI_last
    have hwn : ((wv.length : Int) - 1) = ((s.at_ - 1 : Nat) : Int) := by omega
    walk_at "go"
    cases st with
    | let_ x a =>
      simp only [SAt] at hs
      obtain ⟨p, rfl, hp⟩ := hs
      refine g_ixT hp (by rfl) ?_
      walk_at "go"
      refine ⟨_, _, rfl, kvl h.st.sd (stk_wh S), ?_⟩
      walk_at "go"
      refine g_len hw ?_
      walk_at "go"
      refine ⟨_, _, rfl, kvl h.st.sd (stk_wh S), ?_⟩
      walk_at "go"
      refine g_ixL hw hwl ?_
      walk_at "go"
      refine g_ixT hwt (v := .int bd0) (by rfl) ?_
      walk_at "go"
      rw [hwn]
      refine i_f (by rfl) ?_
      walk_at "go"
      refine i_f (by rfl) ?_
      walk_at "go"
      refine i_f (by rfl) ?_
      walk_at "go"
      refine i_f (by rfl) ?_
      walk_at "go"
      exact q H (h.more (Nat.le_add_right _ _)) (Fr.refl _ _)
    | sum x s0 a b =>
      simp only [SAt] at hs
      obtain ⟨p, rfl, hp⟩ := hs
      refine g_ixT hp (by rfl) ?_
      walk_at "go"
      refine ⟨_, _, rfl, kvl h.st.sd (stk_wh S), ?_⟩
      walk_at "go"
      refine g_len hw ?_
      walk_at "go"
      refine ⟨_, _, rfl, kvl h.st.sd (stk_wh S), ?_⟩
      walk_at "go"
      refine g_ixL hw hwl ?_
      walk_at "go"
      refine g_ixT hwt (v := .int bd0) (by rfl) ?_
      walk_at "go"
      rw [hwn]
      refine i_f (by rfl) ?_
      walk_at "go"
      refine i_f (by rfl) ?_
      walk_at "go"
      refine i_f (by rfl) ?_
      walk_at "go"
      refine i_f (by rfl) ?_
      walk_at "go"
      exact q H (h.more (Nat.le_add_right _ _)) (Fr.refl _ _)
    | call x f0 as =>
      simp only [SAt] at hs
      obtain ⟨p, q0, rfl, hp, hq⟩ := hs
      refine g_ixT hp (by rfl) ?_
      walk_at "go"
      refine ⟨_, _, rfl, kvl h.st.sd (stk_wh S), ?_⟩
      walk_at "go"
      refine g_len hw ?_
      walk_at "go"
      refine ⟨_, _, rfl, kvl h.st.sd (stk_wh S), ?_⟩
      walk_at "go"
      refine g_ixL hw hwl ?_
      walk_at "go"
      refine g_ixT hwt (v := .int bd0) (by rfl) ?_
      walk_at "go"
      rw [hwn]
      refine i_f (by rfl) ?_
      walk_at "go"
      refine i_f (by rfl) ?_
      walk_at "go"
      refine i_f (by rfl) ?_
      walk_at "go"
      refine i_f (by rfl) ?_
      walk_at "go"
      exact q H (h.more (Nat.le_add_right _ _)) (Fr.refl _ _)
    | set x a =>
      simp only [SAt] at hs
      obtain ⟨p, rfl, hp⟩ := hs
      refine g_ixT hp (by rfl) ?_
      walk_at "go"
      refine ⟨_, _, rfl, kvl h.st.sd (stk_wh S), ?_⟩
      walk_at "go"
      refine g_len hw ?_
      walk_at "go"
      refine ⟨_, _, rfl, kvl h.st.sd (stk_wh S), ?_⟩
      walk_at "go"
      refine g_ixL hw hwl ?_
      walk_at "go"
      refine g_ixT hwt (v := .int bd0) (by rfl) ?_
      walk_at "go"
      rw [hwn]
      refine i_f (by rfl) ?_
      walk_at "go"
      refine i_f (by rfl) ?_
      walk_at "go"
      refine i_f (by rfl) ?_
      walk_at "go"
      refine i_f (by rfl) ?_
      walk_at "go"
      exact q H (h.more (Nat.le_add_right _ _)) (Fr.refl _ _)
    | tell a =>
      simp only [SAt] at hs
      obtain ⟨p, rfl, hp⟩ := hs
      refine g_ixT hp (by rfl) ?_
      walk_at "go"
      refine ⟨_, _, rfl, kvl h.st.sd (stk_wh S), ?_⟩
      walk_at "go"
      refine g_len hw ?_
      walk_at "go"
      refine ⟨_, _, rfl, kvl h.st.sd (stk_wh S), ?_⟩
      walk_at "go"
      refine g_ixL hw hwl ?_
      walk_at "go"
      refine g_ixT hwt (v := .int bd0) (by rfl) ?_
      walk_at "go"
      rw [hwn]
      refine i_f (by rfl) ?_
      walk_at "go"
      refine i_f (by rfl) ?_
      walk_at "go"
      refine i_f (by rfl) ?_
      walk_at "go"
      refine i_f (by rfl) ?_
      walk_at "go"
      exact q H (h.more (Nat.le_add_right _ _)) (Fr.refl _ _)
    | give a =>
      simp only [SAt] at hs
      obtain ⟨p, rfl, hp⟩ := hs
      refine g_ixT hp (by rfl) ?_
      walk_at "go"
      refine ⟨_, _, rfl, kvl h.st.sd (stk_wh S), ?_⟩
      walk_at "go"
      refine g_len hw ?_
      walk_at "go"
      refine ⟨_, _, rfl, kvl h.st.sd (stk_wh S), ?_⟩
      walk_at "go"
      refine g_ixL hw hwl ?_
      walk_at "go"
      refine g_ixT hwt (v := .int bd0) (by rfl) ?_
      walk_at "go"
      rw [hwn]
      refine i_f (by rfl) ?_
      walk_at "go"
      refine i_f (by rfl) ?_
      walk_at "go"
      refine i_f (by rfl) ?_
      walk_at "go"
      refine i_f (by rfl) ?_
      walk_at "go"
      exact q H (h.more (Nat.le_add_right _ _)) (Fr.refl _ _)
    | «while» a b =>
      simp only [SAt] at hs
      obtain ⟨p, q0, vs, rfl, hp, hq, hbt⟩ := hs
      simp only [blkP, wL_cons, wL_append, wO, wL_nil] at hb
      have hbw : wL (ops b) = wB b := rfl
      rw [hbw] at hb
      have hdb : depB b ≤ m := by simpa only [depS] using hd
      refine g_ixT hp (by rfl) ?_
      walk_at "go"
      refine ⟨_, _, rfl, kvl h.st.sd (stk_wh S), ?_⟩
      walk_at "go"
      refine g_len hw ?_
      walk_at "go"
      refine ⟨_, _, rfl, kvl h.st.sd (stk_wh S), ?_⟩
      walk_at "go"
      refine g_ixL hw hwl ?_
      walk_at "go"
      refine g_ixT hwt (v := .int bd0) (by rfl) ?_
      walk_at "go"
      rw [hwn]
      refine i_f (by rfl) ?_
      walk_at "go"
      refine i_f (by rfl) ?_
      walk_at "go"
      refine i_t (by rfl) ?_
      walk_at "go"
      refine g_ixT hp (by rfl) ?_
      walk_at "go"
      refine ⟨S, _, _, _, _, _, _, _, _, _, _, rfl, h.st, by omega, fun H1 j st1 f1 => ?_⟩
      have h1 := h.st' st1 f1 (by simp [SA.ls]) (by omega)
      walk_at "go"
      refine ⟨one (by simp), fun p1 n1 => ?_⟩
      walk_at "go"
      intro p2 n2
      walk_at "go"
      refine ⟨one (by simp), fun p3 n3 => ?_⟩
      have fa : Fr [] H1 (upd H1 p1 (.tup [.int j, .int bd0])) := Fr.new n1
      have h2 := (h1.fr0 fa).push n2
      have hL1 := f1.get hL (fun q => hLn (by simp [SA.ls] at q ⊢; rcases q with q | q <;> simp [q]))
      refine g_cat (keep n3 (keep n2 (fa.get0 hL1))) upd_same (small_of (by simp; omega)) (fun p4 n4 => ?_)
      walk_at "go"
      have fb := (Fr.new (W := []) (o := .lst [.ref p2]) n3).trans (Fr.new (o := .lst ((scs ++ [top]).map V.ref ++ [.ref p2])) n4)
      have h3 := h2.fr0 fb
      have fc := (fa.trans (Fr.new (o := .dK []) n2)).trans fb
      have np4 : p4 ∉ S.ls := fun q => (h2.fr0 (Fr.new n3)).st.nin n4 (List.mem_cons_of_mem _ q)
      refine ⟨S, scs ++ [top], p2, p4, [], c :: r, run1 .O s, _, b, vs, q0, p1, j, bd0, rfl, fc.tup (f1.tup hq), (hbt.up f1.tupLe).up fc.tupLe, fb.tup (keep n2 upd_same), h3, by rw [upd_same]; simp, np4, by omega, by omega, by simp; omega, by omega, fun H9 c9 h9 f9 => ?_⟩
      have h10 := h.pop h9 (by omega)
      have hp2 : H1 p2 = none := Fr.none fa n2
      have f10 : Fr S.ls H H9 := by
        have f0 : Fr S.ls H _ := (f1.mono (W' := S.ls) (by simp [SA.ls])).trans fc.nil
        refine fr_cut f9 f0 (fun a ha => ?_)
        rcases List.mem_cons.mp ha with e | e
        · right
          rw [e]
          cases eh : H p2 with
          | none => rfl
          | some o => rw [f1.get eh (fun q => (h1.fr0 fa).st.nin n2 (List.mem_cons_of_mem _ (by simp [SA.ls] at q ⊢; rcases q with q | q <;> simp [q])))] at hp2; cases hp2
        · exact .inl e
      walk_at "go"
      refine i_f (by rfl) ?_
      walk_at "go"
      refine q H9 ?_ f10
      have e : run (blkP (.while a b)) s = run1 .C (run (ops b) (run1 .O s)) := by simp only [blkP, run_cons, run_append]; rfl
      rw [e]
      refine h10.more ?_
      simp only [blkP, wL_cons, wL_append, wO, wL_nil]
      omega
    | ite a b d =>
      simp only [SAt] at hs
      obtain ⟨p, q0, q1, vs, ws, rfl, hp, hq, hbt, hq2, hbt2⟩ := hs
      simp only [blkP, wL_cons, wL_append, wO, wL_nil] at hb
      have hbw : wL (ops b) = wB b := rfl
      have hbw2 : wL (ops d) = wB d := rfl
      rw [hbw, hbw2] at hb
      have hdm : (depB b).max (depB d) ≤ m := by simpa only [depS] using hd
      obtain ⟨hdb, hdd⟩ := Nat.max_le.mp hdm
      refine g_ixT hp (by rfl) ?_
      walk_at "go"
      refine ⟨_, _, rfl, kvl h.st.sd (stk_wh S), ?_⟩
      walk_at "go"
      refine g_len hw ?_
      walk_at "go"
      refine ⟨_, _, rfl, kvl h.st.sd (stk_wh S), ?_⟩
      walk_at "go"
      refine g_ixL hw hwl ?_
      walk_at "go"
      refine g_ixT hwt (v := .int bd0) (by rfl) ?_
      walk_at "go"
      rw [hwn]
      refine i_f (by rfl) ?_
      walk_at "go"
      refine i_t (by rfl) ?_
      walk_at "go"
      refine g_ixT hp (by rfl) ?_
      walk_at "go"
      refine ⟨S, _, _, _, _, _, _, _, _, _, _, rfl, h.st, by omega, fun H1 j st1 f1 => ?_⟩
      have h1 := h.st' st1 f1 (by simp [SA.ls]) (by omega)
      walk_at "go"
      refine ⟨one (by simp), fun p1 n1 => ?_⟩
      walk_at "go"
      intro p2 n2
      walk_at "go"
      refine ⟨one (by simp), fun p3 n3 => ?_⟩
      have fa : Fr [] H1 (upd H1 p1 (.tup [.int j, .int bd0])) := Fr.new n1
      have h2 := (h1.fr0 fa).push n2
      have hL1 := f1.get hL (fun q => hLn (by simp [SA.ls] at q ⊢; rcases q with q | q <;> simp [q]))
      refine g_cat (keep n3 (keep n2 (fa.get0 hL1))) upd_same (small_of (by simp; omega)) (fun p4 n4 => ?_)
      walk_at "go"
      have fb := (Fr.new (W := []) (o := .lst [.ref p2]) n3).trans (Fr.new (o := .lst ((scs ++ [top]).map V.ref ++ [.ref p2])) n4)
      have h3 := h2.fr0 fb
      have fc := (fa.trans (Fr.new (o := .dK []) n2)).trans fb
      have np4 : p4 ∉ S.ls := fun q => (h2.fr0 (Fr.new n3)).st.nin n4 (List.mem_cons_of_mem _ q)
      refine ⟨S, scs ++ [top], p2, p4, [], c :: r, run1 .O s, _, b, vs, q0, p1, j, bd0, rfl, fc.tup (f1.tup hq), (hbt.up f1.tupLe).up fc.tupLe, fb.tup (keep n2 upd_same), h3, by rw [upd_same]; simp, np4, by omega, by omega, by simp; omega, by omega, fun H9 c9 h9 f9 => ?_⟩
      have h10 := h.pop h9 (by omega)
      have hp2 : H1 p2 = none := Fr.none fa n2
      have f10 : Fr S.ls H H9 := by
        have f0 : Fr S.ls H _ := (f1.mono (W' := S.ls) (by simp [SA.ls])).trans fc.nil
        refine fr_cut f9 f0 (fun a ha => ?_)
        rcases List.mem_cons.mp ha with e | e
        · right
          rw [e]
          cases eh : H p2 with
          | none => rfl
          | some o => rw [f1.get eh (fun q => (h1.fr0 fa).st.nin n2 (List.mem_cons_of_mem _ (by simp [SA.ls] at q ⊢; rcases q with q | q <;> simp [q])))] at hp2; cases hp2
        · exact .inl e
      walk_at "go"
      refine g_ixT (f10.tup hp) (by rfl) ?_
      walk_at "go"
      refine ⟨S, _, _, _, _, _, _, _, _, _, _, rfl, h10.st, by omega, fun H1b jb st1b f1b => ?_⟩
      have h1b := h10.st' st1b f1b (by simp [SA.ls]) (by omega)
      walk_at "go"
      refine ⟨one (by simp), fun p1b n1b => ?_⟩
      walk_at "go"
      intro p2b n2b
      walk_at "go"
      refine ⟨one (by simp), fun p3b n3b => ?_⟩
      have fab : Fr [] H1b (upd H1b p1b (.tup [.int jb, .int bd0])) := Fr.new n1b
      have h2b := (h1b.fr0 fab).push n2b
      have hL1b := f1b.get (f10.get hL hLn) (fun q => hLn (by simp [SA.ls] at q ⊢; rcases q with q | q <;> simp [q]))
      refine g_cat (keep n3b (keep n2b (fab.get0 hL1b))) upd_same (small_of (by simp; omega)) (fun p4b n4b => ?_)
      walk_at "go"
      have fbb := (Fr.new (W := []) (o := .lst [.ref p2b]) n3b).trans (Fr.new (o := .lst ((scs ++ [top]).map V.ref ++ [.ref p2b])) n4b)
      have h3b := h2b.fr0 fbb
      have fcb := (fab.trans (Fr.new (o := .dK []) n2b)).trans fbb
      have np4b : p4b ∉ S.ls := fun q => (h2b.fr0 (Fr.new n3b)).st.nin n4b (List.mem_cons_of_mem _ q)
      refine ⟨S, scs ++ [top], p2b, p4b, [], c :: r, run1 .O (run1 .C (run (ops b) (run1 .O s))), _, d, ws, q1, p1b, jb, bd0, rfl, fcb.tup (f1b.tup (f10.tup hq2)), ((hbt2.up f10.tupLe).up f1b.tupLe).up fcb.tupLe, fbb.tup (keep n2b upd_same), h3b, by rw [upd_same]; simp, np4b, by omega, by omega, by simp; omega, by omega, fun H9b c9b h9b f9b => ?_⟩
      have h10b := h10.pop h9b (by omega)
      have hp2b : H1b p2b = none := Fr.none fab n2b
      have f10b : Fr S.ls H9 H9b := by
        have f0 : Fr S.ls H9 _ := (f1b.mono (W' := S.ls) (by simp [SA.ls])).trans fcb.nil
        refine fr_cut f9b f0 (fun a ha => ?_)
        rcases List.mem_cons.mp ha with e | e
        · right
          rw [e]
          cases eh : H9 p2b with
          | none => rfl
          | some o => rw [f1b.get eh (fun q => (h1b.fr0 fab).st.nin n2b (List.mem_cons_of_mem _ (by simp [SA.ls] at q ⊢; rcases q with q | q <;> simp [q])))] at hp2b; cases hp2b
        · exact .inl e
      walk_at "go"
      refine i_f (by rfl) ?_
      walk_at "go"
      refine i_f (by rfl) ?_
      walk_at "go"
      refine q H9b ?_ (f10.trans f10b)
      have e : run (blkP (.ite a b d)) s = run1 .C (run (ops d) (run1 .O (run1 .C (run (ops b) (run1 .O s))))) := by simp only [blkP, run_cons, run_append]; rfl
      rw [e]
      refine h10b.more ?_
      simp only [blkP, wL_cons, wL_append, wO, wL_nil]
      omega
    | fn x ps b =>
      simp only [SAt] at hs
      obtain ⟨p, q0, q1, vs, rfl, hp, hq, hq1, hbt⟩ := hs
      simp only [blkP, wL_cons, wL_append, wO, wL_nil, wL_Ms] at hb
      have hbw : wL (ops b) = wB b := rfl
      rw [hbw] at hb
      have hdb : depB b ≤ m := by simpa only [depS] using hd
      refine g_ixT hp (by rfl) ?_
      walk_at "go"
      refine ⟨_, _, rfl, kvl h.st.sd (stk_wh S), ?_⟩
      walk_at "go"
      refine g_len hw ?_
      walk_at "go"
      refine ⟨_, _, rfl, kvl h.st.sd (stk_wh S), ?_⟩
      walk_at "go"
      refine g_ixL hw hwl ?_
      walk_at "go"
      refine g_ixT hwt (v := .int bd0) (by rfl) ?_
      walk_at "go"
      rw [hwn]
      refine i_t (by rfl) ?_
      walk_at "go"
      refine ⟨_, _, rfl, kvl h.st.sd (stk_bo S), ?_⟩
      obtain ⟨vb, eb, lb⟩ := h.st.bo
      refine ⟨ty_l eb, ?_⟩
      walk_at "go"
      refine g_ixT hp (by rfl) ?_
      walk_at "go"
      refine ⟨one (by simp), fun p0 n0 => ?_⟩
      have g0 := h.st.fr0 (Fr.new (o := .tup [.int ((s.at_ - 1 : Nat) : Int), .ref q0]) n0)
      obtain ⟨vb2, eb2, lb2, g1⟩ := g0.p_bo (v := .ref p0) (m := n + 1) (by omega)
      walk_at "go"
      refine g_append eb2 (small_lt (by omega)) ?_
      have f1 : Fr [S.bo] H (upd (upd H p0 (.tup [.int ((s.at_ - 1 : Nat) : Int), .ref q0])) S.bo (.lst (vb2 ++ [.ref p0]))) := (Fr.new n0).trans (Fr.put eb2 (by intro xs q; cases q) (by simp))
      have h1 := h.st' g1 f1 (by simp [SA.ls]) (by omega)
      generalize upd (upd H p0 (.tup [.int ((s.at_ - 1 : Nat) : Int), .ref q0])) S.bo (.lst (vb2 ++ [.ref p0])) = H1 at *
      walk_at "go"
      refine ⟨_, _, rfl, kvl h1.st.sd (stk_bo S), ?_⟩
      obtain ⟨vb3, eb3, lb3⟩ := h1.st.bo
      walk_at "go"
      refine g_len eb3 ?_
      walk_at "go"
      refine ⟨S, _, _, _, _, _, _, _, _, _, _, rfl, h1.st, by omega, fun H2 j g2 f2 => ?_⟩
      have h2 := h1.st' g2 f2 (by simp [SA.ls]) (by omega)
      have f02 : Fr S.ls H H2 := (f1.mono (by simp [SA.ls])).trans (f2.mono (by simp [SA.ls]))
      walk_at "go"
      intro p2 n2
      walk_at "go"
      have h3 := h2.push n2
      have f03 : Fr S.ls H (upd H2 p2 (.dK [])) := f02.trans (Fr.new n2)
      have hp2 : H p2 = none := by
        cases eh : H p2 with
        | none => rfl
        | some o => rw [f02.get eh (fun q => h2.st.nin n2 (List.mem_cons_of_mem _ q))] at n2; cases n2
      generalize upd H2 p2 (.dK []) = H3 at *
      refine g_ixT (f03.tup hp) (by rfl) ?_
      refine for_tup (xs := ps.map V.str) (fun i σ' H' => ∃ (u : Option V) (c2 : Scp) (s2 : Sn), σ' = [some (.ref S.sd), some (.ref p), some (.int g), some (.ref L), some (.str "fn"), some (.int ((s.at_ - 1 : Nat) : Int)), some (.int ((vb3.length : Int) - 1)), some (.int j), some (.ref p2), u, none] ∧
          s2 = run ((ps.take i).map Op.M) (run1 .O s) ∧ s2.at_ = s.at_ ∧ LayS H' S (scs ++ [top]) p2 c2 (c :: r) s2 (n + 3 + i) ∧ Fr (p2 :: S.ls) H3 H') ⟨_, [], run1 .O s, rfl, by simp [run], rfl, h3.more (by omega), Fr.refl _ _⟩ (fun i σ' H' ⟨_, _, _, _, _, _, _, f⟩ => f.tup (f03.tup hq)) (fun σ' H' pp => ?_) (fun i x σ' H' hx pp => ?_)
      rotate_left
      · obtain ⟨u, c2, s2, rfl, e2, ea, hs2, fs2⟩ := pp
        obtain ⟨y, hy, rfl⟩ := map_at hx
        have hil : i < ps.length := (List.getElem?_eq_some_iff.mp hy).1
        walk_at "go"
        refine ⟨S, _, _, _, _, _, _, c2, y, s.at_ - 1, _, p2, rfl, hs2.st, hs2.tpc, hs2.dis _ (by simp), by omega, by have := hs2.cl; omega, fun H5 g5 e5 f5 => ?_⟩
        walk_at "go"
        rw [← ea] at g5
        refine ⟨_, _, run1 (.M y) s2, rfl, ?_, by rw [run_M_at]; exact ea, hs2.made g5 e5 f5, fs2.trans (f5.mono (by intro a ha; simp [SA.ls] at ha ⊢; rcases ha with h | h | h <;> simp [h]))⟩
        rw [List.take_add_one, hy, List.map_append, run_append, ← e2]
        rfl
      obtain ⟨u, c2, s2, rfl, e2, ea, hs2, fs2⟩ := pp
      rw [List.length_map, List.take_length] at e2
      rw [List.length_map] at hs2
      walk_at "go"
      refine g_ixT (fs2.tup (f03.tup hp)) (by rfl) ?_
      walk_at "go"
      refine ⟨one (by simp), fun p1 n1 => ?_⟩
      walk_at "go"
      have hL3 : H' L = some (.lst ((scs ++ [top]).map V.ref)) := fs2.get (f03.get hL hLn) (fun q => by
        rcases List.mem_cons.mp q with e | e
        · rw [e, hp2] at hL; cases hL
        · exact hLn e)
      refine ⟨one (by simp), fun p3 n3 => ?_⟩
      refine g_cat (keep n3 (keep n1 hL3)) upd_same (small_of (by simp; omega)) (fun p4 n4 => ?_)
      walk_at "go"
      have fb : Fr [] H' _ := ((Fr.new (W := []) (o := .tup [.int j, .int ((vb3.length : Int) - 1)]) n1).trans (Fr.new (o := .lst [.ref p2]) n3)).trans (Fr.new (o := .lst ((scs ++ [top]).map V.ref ++ [.ref p2])) n4)
      have h5 := hs2.fr0 fb
      refine ⟨S, scs ++ [top], p2, p4, c2, c :: r, s2, _, b, vs, q1, p1, j, _, rfl, fb.tup (fs2.tup (f03.tup hq1)), ((hbt.up f03.tupLe).up fs2.tupLe).up fb.tupLe, by walk_at "at", h5, by rw [upd_same]; simp, fun q => (((hs2.fr0 (Fr.new n1)).fr0 (Fr.new n3)).st.nin n4 (List.mem_cons_of_mem _ q)), by omega, by omega, by simp; omega, by omega, fun H9 c9 h9 f9 => ?_⟩
      have h10 := h.pop h9 (by omega)
      have f10 : Fr S.ls H H9 := by
        have f0 : Fr (p2 :: S.ls) H _ := ((f03.mono (W' := p2 :: S.ls) (by intro a ha; simp [ha])).trans fs2).trans fb.nil
        exact fr_cut (f9.trans (Fr.refl _ _)) f0 (fun a ha => .inl ha) |> fun z => fr_cut z (Fr.refl S.ls H) (fun a ha => by
          rcases List.mem_cons.mp ha with e | e
          · exact .inr (by rw [e]; exact hp2)
          · exact .inl e)
      walk_at "go"
      refine i_f (by rfl) ?_
      walk_at "go"
      refine i_f (by rfl) ?_
      walk_at "go"
      refine i_f (by rfl) ?_
      walk_at "go"
      refine q H9 ?_ f10
      have e : run (blkP (.fn x ps b)) s = run1 .C (run (ops b) s2) := by rw [e2]; simp only [blkP, run_cons, run_append]; rfl
      rw [e]
      refine h10.more ?_
      simp only [blkP, wL_cons, wL_append, wO, wL_nil, wL_Ms]
      omega
    | times o x a b =>
      simp only [SAt] at hs
      obtain ⟨p, q0, vs, rfl, hp, hq, hbt⟩ := hs
      have hdb : depB b ≤ m := by simpa only [depS] using hd
      have hbw : wL (ops b) = wB b := rfl
      refine g_ixT hp (by rfl) ?_
      walk_at "go"
      refine ⟨_, _, rfl, kvl h.st.sd (stk_wh S), ?_⟩
      walk_at "go"
      refine g_len hw ?_
      walk_at "go"
      refine ⟨_, _, rfl, kvl h.st.sd (stk_wh S), ?_⟩
      walk_at "go"
      refine g_ixL hw hwl ?_
      walk_at "go"
      refine g_ixT hwt (v := .int bd0) (by rfl) ?_
      walk_at "go"
      rw [hwn]
      refine i_f (by rfl) ?_
      walk_at "go"
      refine i_f (by rfl) ?_
      walk_at "go"
      refine i_f (by rfl) ?_
      walk_at "go"
      refine i_t (by rfl) ?_
      walk_at "go"
      intro p2 hp2
      walk_at "go"
      have h1 := h.push hp2
      have f01 : Fr S.ls H (upd H p2 (.dK [])) := Fr.new hp2
      generalize upd H p2 (.dK []) = H1 at *
      refine g_ixT (f01.tup hp) (by rfl) ?_
      walk_at "go"
      cases o with
      | true =>
        simp only [blkP, wL_cons, wL_append, wO, wL_nil] at hb
        rw [hbw] at hb
        refine i_f (by rfl) ?_
        walk_at "go"
        refine ⟨S, _, _, _, _, _, _, _, _, _, _, rfl, h1.st, by omega, fun H2 j g2 f2 => ?_⟩
        have h2 := h1.st' g2 f2 (by simp [SA.ls]) (by omega)
        have f02 := f01.trans (f2.mono (W' := S.ls) (by simp [SA.ls]))
        walk_at "go"
        refine g_ixT (f02.tup hp) (by rfl) ?_
        walk_at "go"
        refine i_t (by rfl) ?_
        walk_at "go"
        refine g_ixT (f02.tup hp) (by rfl) ?_
        walk_at "go"
        refine ⟨S, _, _, _, _, _, _, [], x, s.at_ - 1, _, p2, rfl, h2.st, h2.tpc, h2.dis _ (by simp), by omega, by simp, fun H3 g3 e3 f3 => ?_⟩
        have h3 := h2.made (x := x) g3 e3 f3
        have f03 : Fr (p2 :: S.ls) H H3 := (f02.mono (by intro a ha; simp [ha])).trans (f3.mono (by intro a ha; simp [SA.ls] at ha ⊢; rcases ha with h | h | h <;> simp [h]))
        walk_at "go"
        refine g_ixT (f03.tup hp) (by rfl) ?_
        walk_at "go"
        refine ⟨one (by simp), fun p1 n1 => ?_⟩
        walk_at "go"
        have hL3 : H3 L = some (.lst ((scs ++ [top]).map V.ref)) := f03.get hL (fun q => by
          rcases List.mem_cons.mp q with e | e
          · rw [e, hp2] at hL; cases hL
          · exact hLn e)
        refine ⟨one (by simp), fun p3 n3 => ?_⟩
        refine g_cat (keep n3 (keep n1 hL3)) upd_same (small_of (by simp; omega)) (fun p4 n4 => ?_)
        walk_at "go"
        have fb : Fr [] H3 _ := ((Fr.new (W := []) (o := .tup [.int j, .int bd0]) n1).trans (Fr.new (o := .lst [.ref p2]) n3)).trans (Fr.new (o := .lst ((scs ++ [top]).map V.ref ++ [.ref p2])) n4)
        have h5 := h3.fr0 fb
        refine ⟨S, scs ++ [top], p2, p4, _, c :: r, _, _, b, vs, q0, p1, j, _, rfl, fb.tup (f03.tup hq), (hbt.up f03.tupLe).up fb.tupLe, by walk_at "at", h5, by rw [upd_same]; simp, fun q => (((h3.fr0 (Fr.new n1)).fr0 (Fr.new n3)).st.nin n4 (List.mem_cons_of_mem _ q)), by omega, by omega, by simp; omega, by omega, fun H9 c9 h9 f9 => ?_⟩
        have h10 := h.pop h9 (by omega)
        have f10 : Fr S.ls H H9 := fr_cut ((f03.trans fb.nil).trans f9) (Fr.refl S.ls H) (fun a ha => by
          rcases List.mem_cons.mp ha with e | e
          · exact .inr (by rw [e]; exact hp2)
          · exact .inl e)
        walk_at "go"
        refine q H9 ?_ f10
        have e : run (blkP (.times true x a b)) s = run1 .C (run (ops b) (run1 (.M x) (run1 .O s))) := by simp only [blkP, run_cons, run_append]; rfl
        rw [e]
        refine h10.more ?_
        simp only [blkP, wL_cons, wL_append, wO, wL_nil]
        omega
      | false =>
        simp only [blkP, wL_cons, wL_append, wO, wL_nil] at hb
        rw [hbw] at hb
        refine i_t (by rfl) ?_
        walk_at "go"
        refine ⟨S, _, _, _, _, _, _, _, _, _, _, rfl, h1.st, by omega, fun H2 j g2 f2 => ?_⟩
        have h2 := h1.st' g2 f2 (by simp [SA.ls]) (by omega)
        have f02 := f01.trans (f2.mono (W' := S.ls) (by simp [SA.ls]))
        walk_at "go"
        refine g_ixT (f02.tup hp) (by rfl) ?_
        walk_at "go"
        refine ⟨S, _, _, _, _, _, _, [], x, s.at_ - 1, _, p2, rfl, h2.st, h2.tpc, h2.dis _ (by simp), by omega, by simp, fun H3 g3 e3 f3 => ?_⟩
        have h3 := h2.made (x := x) g3 e3 f3
        have f03 : Fr (p2 :: S.ls) H H3 := (f02.mono (by intro a ha; simp [ha])).trans (f3.mono (by intro a ha; simp [SA.ls] at ha ⊢; rcases ha with h | h | h <;> simp [h]))
        have hL3 : H3 L = some (.lst ((scs ++ [top]).map V.ref)) := f03.get hL (fun q => by
          rcases List.mem_cons.mp q with e | e
          · rw [e, hp2] at hL; cases hL
          · exact hLn e)
        walk_at "go"
        refine ⟨one (by simp), fun p3 n3 => ?_⟩
        refine g_cat (keep n3 hL3) upd_same (small_of (by simp; omega)) (fun p4 n4 => ?_)
        walk_at "go"
        intro p5 n5
        walk_at "go"
        have fb : Fr [] H3 (upd (upd (upd H3 p3 (.lst [.ref p2])) p4 (.lst ((scs ++ [top]).map V.ref ++ [.ref p2]))) p5 (.dK [])) := by walk_at "fr"
        have hL4 : (upd (upd (upd H3 p3 (.lst [.ref p2])) p4 (.lst ((scs ++ [top]).map V.ref ++ [.ref p2]))) p5 (.dK [])) p4 = some (.lst ((scs ++ [top] ++ [p2]).map V.ref)) := by rw [keep n5 upd_same]; simp
        have np4 : p4 ∉ S.ls := fun q => ((h3.fr0 (Fr.new n3)).st.nin n4 (List.mem_cons_of_mem _ q))
        have hp5 : H p5 = none := by
          cases eh : H p5 with
          | none => rfl
          | some o =>
            have z := Fr.none ((Fr.new (W := []) n3).trans (Fr.new n4)) n5
            rw [f03.get eh (fun q => by
              rcases List.mem_cons.mp q with e | e
              · rw [e, hp2] at eh; cases eh
              · exact h3.st.nin z (List.mem_cons_of_mem _ e))] at z
            cases z
        have h4 := ((h3.fr0 (Fr.new n3)).fr0 (Fr.new n4)).push n5
        have f04 := f03.trans fb.nil
        generalize upd (upd (upd H3 p3 (.lst [.ref p2])) p4 (.lst ((scs ++ [top]).map V.ref ++ [.ref p2]))) p5 (.dK []) = H4 at *
        refine ⟨S, _, _, _, _, _, _, _, _, _, _, rfl, h4.st, by omega, fun H5 j5 g5 f5 => ?_⟩
        have h5 := h4.st' g5 f5 (by simp [SA.ls]) (Nat.le_add_right _ 2)
        have f05 : Fr (p2 :: S.ls) H H5 := f04.trans (f5.mono (by intro a ha; simp [SA.ls] at ha ⊢; rcases ha with h | h <;> simp [h]))
        walk_at "go"
        refine g_ixT (f05.tup hp) (by rfl) ?_
        walk_at "go"
        refine i_f (by rfl) ?_
        walk_at "go"
        refine g_ixT (f05.tup hp) (by rfl) ?_
        walk_at "go"
        refine ⟨one (by simp), fun p1 n1 => ?_⟩
        walk_at "go"
        have hL5 := f5.get hL4 (fun q => np4 (by simp [SA.ls] at q ⊢; rcases q with q | q <;> simp [q]))
        refine ⟨one (by simp), fun p7 n7 => ?_⟩
        refine g_cat (keep n7 (keep n1 hL5)) upd_same (small_of (by simp; omega)) (fun p8 n8 => ?_)
        walk_at "go"
        have fc : Fr [] H5 _ := ((Fr.new (W := []) (o := .tup [.int j5, .int bd0]) n1).trans (Fr.new (o := .lst [.ref p5]) n7)).trans (Fr.new (o := .lst ((scs ++ [top] ++ [p2]).map V.ref ++ [.ref p5])) n8)
        have h6 := h5.fr0 fc
        refine ⟨S, scs ++ [top] ++ [p2], p5, p8, _, _, _, _, b, vs, q0, p1, j5, _, rfl, fc.tup (f05.tup hq), (hbt.up f05.tupLe).up fc.tupLe, by walk_at "at", h6, by rw [upd_same]; simp, fun q => (((h5.fr0 (Fr.new n1)).fr0 (Fr.new n7)).st.nin n8 (List.mem_cons_of_mem _ q)), by omega, by omega, by simp; omega, by omega, fun H9 c9 h9 f9 => ?_⟩
        have h10 := h.pop (h3.pop h9 (by omega)) (by omega)
        have f10 : Fr S.ls H H9 := by
          have z : Fr (p5 :: p2 :: S.ls) H H9 := (((f05.trans fc.nil).mono (W' := p5 :: p2 :: S.ls) (by intro a ha; simp at ha ⊢; rcases ha with h | h <;> simp [h]))).trans (f9.mono (by intro a ha; simp at ha ⊢; rcases ha with h | h <;> simp [h]))
          exact fr_cut z (Fr.refl S.ls H) (fun a ha => by
            rcases List.mem_cons.mp ha with e | e
            · exact .inr (by rw [e]; exact hp5)
            · rcases List.mem_cons.mp e with e | e
              · exact .inr (by rw [e]; exact hp2)
              · exact .inl e)
        walk_at "go"
        refine q H9 ?_ f10
        have e : run (blkP (.times false x a b)) s = run1 .C (run1 .C (run (ops b) (run1 .O (run1 (.M x) (run1 .O s))))) := by simp only [blkP, run_cons, run_append]; rfl
        rw [e]
        refine h10.more ?_
        simp only [blkP, wL_cons, wL_append, wO, wL_nil]
        omega
end
end Fb
set_option Elab.async false
set_option linter.all false
set_option maxRecDepth 100000
set_option maxHeartbeats 4000000
namespace Fb
open PySem PySem.Spec PyProof.Rows L2
local macro_rules | `(tactic| walk_at "go1") => `(tactic| first
  | with_reducible refine g_seq ?_
  | with_reducible refine g_asg ?_
  | with_reducible refine g_name ?_
  | ((with_reducible refine' g_var ?h1 ?_); (case h1 => rfl))
  | with_reducible refine g_c ?_
  | with_reducible refine g_op ?_
  | with_reducible refine g_un ?_
  | with_reducible refine g_rU ?_
  | with_reducible refine g_yes ?_
  | with_reducible refine g_isN ?_
  | with_reducible refine g_notN ?_
  | with_reducible refine g_int1 ?_
  | with_reducible refine g_I0 ?_
  | ((with_reducible refine' g_eq ?h1 ?_); (case h1 => rfl))
  | ((with_reducible refine' g_ne ?h1 ?_); (case h1 => rfl))
  | with_reducible refine g_test ?_
  | with_reducible refine g_tb ?_
  | with_reducible refine g_bl ?_
  | with_reducible refine g_drop ?_
  | with_reducible refine g_ret ?_
  | with_reducible refine g_if ?_
  | with_reducible refine g_ife ?_
  | with_reducible refine g_and ?_
  | with_reducible refine g_or ?_
  | with_reducible refine g_not ?_
  | with_reducible refine g_next ?_
  | with_reducible refine g_nil ?_
  | with_reducible refine g_cons ?_
  | with_reducible refine g_cb ?_
  | with_reducible refine g_call ?_
  | with_reducible refine g_tup ?_
  | with_reducible refine g_lst ?_
  | with_reducible refine g_dget ?_
  | with_reducible refine g_dput ?_
  | with_reducible refine g_bm ?_
  | with_reducible refine g_lc ?_
  | with_reducible refine g_for ?_
  | with_reducible refine g_il ?_
  | with_reducible refine g_rng1 ?_
  | with_reducible refine g_gsub ?_
  | with_reducible refine g_din ?_
  | with_reducible refine g_disp ?_
  | with_reducible refine g_pairs ?_
  | with_reducible refine g_pairs0 ?_
  | with_reducible refine g_sl ?_
  | with_reducible refine g_part ?_
  | with_reducible refine g_part1 ?_
  | with_reducible refine g_nopart ?_
  | with_reducible refine g_andV ?_
  | with_reducible refine g_orV ?_
  | with_reducible refine g_notV ?_
  | with_reducible refine g_itp ?_
  | with_reducible refine g_par ?_
  | with_reducible refine g_par1 ?_
  | with_reducible refine g_par3 ?_
  | with_reducible refine g_par31 ?_
  | with_reducible refine g_gname ?_
  | with_reducible refine g_gcons ?_
  | with_reducible refine g_gnil ?_
  | with_reducible refine g_bm0 ?_)
local macro_rules | `(tactic| walk_at "go") => `(tactic| repeat walk_at "go1")
local macro_rules | `(tactic| walk_at "at") => `(tactic| repeat first
  | assumption
  | exact upd_same
  | with_reducible refine keep (by assumption) ?_
  | with_reducible refine keep_ne (by assumption) ?_
  | with_reducible refine Fr.get0 (by assumption) ?_
  | with_reducible refine Fr.get (by assumption) ?_ (by assumption)
  | with_reducible refine Fr.tup (by assumption) ?_)
local macro_rules | `(tactic| walk_at "fr") => `(tactic| repeat first
  | assumption
  | exact Fr.refl _ _
  | with_reducible refine Fr.trans ?_ (Fr.new (by assumption))
  | with_reducible refine Fr.trans ?_ (Fr.nil (by assumption))
  | with_reducible refine Fr.trans ?_ (by assumption))
local macro_rules | `(tactic| walk_at "gn") => `(tactic| repeat first
  | assumption
  | with_reducible refine Gn.fr0 ?_ (Fr.new (by assumption))
  | with_reducible refine Gn.fr0 ?_ (by assumption))
local macro_rules | `(tactic| walk_at "bt") => `(tactic| repeat first
  | assumption
  | with_reducible refine BAt.up (Fr.new (W := []) (by assumption)).1 _ _ ?_
  | with_reducible refine SAt.up (Fr.new (W := []) (by assumption)).1 _ _ ?_
  | with_reducible refine BAt.up (Fr.tupLe (by assumption)) _ _ ?_
  | with_reducible refine SAt.up (Fr.tupLe (by assumption)) _ _ ?_)
/-- what the scopes say of x, outermost first -/
def foundS (sc : List Scp) (x : Str) : List Nat := sc.reverse.filterMap fun c => getS c x
theorem foundS_last : ∀ (sc : List Scp) (x : Str), (foundS sc x).getLast? = lookS sc x
  | [], x => rfl
  | c :: r, x => by
    have ih := foundS_last r x
    unfold foundS at ih ⊢
    rw [List.reverse_cons, List.filterMap_append, List.getLast?_append, ih]
    show (List.filterMap (fun c => getS c x) [c]).getLast?.or _ = (getS c x).or _
    cases e : getS c x <;> simp [e]
theorem foundS_nil {sc : List Scp} {x : Str} : foundS sc x = [] ↔ lookS sc x = none := by
  rw [← foundS_last]
  cases h : foundS sc x with
  | nil => simp
  | cons a l => simp
theorem foundS_len {sc : List Scp} {x : Str} : (foundS sc x).length ≤ sc.length := by
  unfold foundS
  exact Nat.le_trans (List.length_filterMap_le _ _) (by simp)
def nV (i : Nat) : V := .int (i : Int)
def nD (i : Nat) : PyData := .int (i : Int)
def fSc (H : Hp) (x : Str) : V → Option V
  | .ref a => match H a with
    | some (.dK kvs) => valV kvs (Sum.inr x)
    | _ => none
  | _ => none
theorem fm_Sc {H : Hp} {x : Str} {as : List Addr} {cs : List Scp} (h : Paired (fun a c => H a = some (.dK (ck c))) as cs) : (as.map V.ref).filterMap (fSc H x) = (cs.filterMap fun c => getS c x).map nV := by
  induction h with
  | nil => rfl
  | @cons a c as cs r t ih =>
    rw [List.map_cons, List.filterMap_cons, List.filterMap_cons, ih]
    have : fSc H x (.ref a) = (getS c x).map nV := by simp only [fSc, r, ck_val]; rfl
    rw [this]
    cases getS c x <;> simp
theorem dp_ints {K : PySem.W.Frag} {H : Hp} : ∀ l : List Nat, DpAll K H (l.map nV) (l.map nD)
  | [] => .nil
  | i :: l => .cons (.int (i : Int)) (dp_ints l)
theorem nD_all : ∀ l : List Nat, PyData.canLayAll0 (l.map nD) = true ∧ PyData.depthAll (l.map nD) = 0
  | [] => ⟨rfl, rfl⟩
  | a :: l => by
    obtain ⟨h1, h2⟩ := nD_all l
    constructor
    · show (PyData.canLay0 (nD a) && PyData.canLayAll0 (l.map nD)) = true
      rw [h1]; rfl
    · show max (PyData.depth (nD a)) (PyData.depthAll (l.map nD)) = 0
      rw [h2]; rfl
theorem shaped_nD (l : List Nat) : SeqAt.shaped (.list (l.map nD)) = true := by
  obtain ⟨h1, h2⟩ := nD_all l
  unfold SeqAt.shaped
  show (PyData.canLayAll0 (l.map nD) && decide (PyData.depthAll (l.map nD) + 1 ≤ 64)) = true
  rw [h1, h2]; rfl
theorem eqv_nil (l : List Nat) : PyData.eqv (.list (l.map nD)) (.list []) = decide (l = []) := by
  cases l with
  | nil => rfl
  | cons a l => rfl
theorem lay_pick (l : List Nat) : atI (l.map nV ++ [.non]) (-1 - if (!decide (l = [])) = true then 1 else 0) = some (onv l.getLast?) := by
  cases h : l.getLast? with
  | none =>
    have : l = [] := by simpa using h
    subst this
    rfl
  | some a =>
    have hl : l ≠ [] := by intro e; rw [e] at h; cases h
    obtain ⟨l0, rfl⟩ : ∃ l0, l = l0 ++ [a] := by
      rcases List.eq_nil_or_concat l with e | ⟨l0, b, e⟩
      · exact absurd e hl
      · refine ⟨l0, ?_⟩
        have e : l = l0 ++ [b] := by simpa using e
        rw [e] at h; simp at h; rw [e, h]
    rw [if_pos (by simp)]
    unfold atI ixN
    rw [if_neg (by decide), if_pos (by simp; omega)]
    have e : (((-1 : Int) - 1) + ((List.map nV (l0 ++ [a]) ++ [V.non]).length : Int)).toNat = l0.length := by simp; omega
    show (some (((-1 : Int) - 1) + ((List.map nV (l0 ++ [a]) ++ [V.non]).length : Int)).toNat).bind _ = _
    rw [e]
    simp [onv, nV]
/-- the uses so far that nothing says -/
def amU (sc : List Scp) (k : Nat) (us : List Str) : List (Str × Nat × Str) := (us.filter fun u => (lookS sc u).isNone).map fun u => (("unknown" : Str), k, u)
theorem amU_snoc (sc : List Scp) (k : Nat) (us : List Str) (x : Str) : amU sc k (us ++ [x]) = amU sc k us ++ if lookS sc x = none then [(("unknown" : Str), k, x)] else [] := by
  unfold amU
  rw [List.filter_append, List.map_append]
  cases e : lookS sc x <;> simp [e]
theorem amU_len (sc : List Scp) (k : Nat) (us : List Str) : (amU sc k us).length ≤ us.length := by
  unfold amU; rw [List.length_map]; exact List.length_filter_le _ _
def isMk : Stm → Bool
  | .let_ _ _ => true
  | .sum _ _ _ _ => true
  | .call _ _ _ => true
  | .fn _ _ _ => true
  | _ => false
theorem sat_head {H : Hp} {st : Stm} {v : V} (h : SAt H st v) : ∃ p xs w, v = .ref p ∧ H p = some (.tup (.str w :: xs)) ∧ inV (.str w) [.str "let", .str "sum", .str "call", .str "fn"] = isMk st ∧ (isMk st = true → ∃ x, xs.head? = some (.str x) ∧ mkP st = [.M x]) ∧ (isMk st = false → mkP st = []) := by
  cases st <;> simp only [SAt] at h
  · obtain ⟨p, e, h⟩ := h; exact ⟨p, _, _, e, h, by show _ = true; decide +kernel, fun _ => ⟨_, rfl, rfl⟩, fun z => by cases z⟩
  · obtain ⟨p, e, h⟩ := h; exact ⟨p, _, _, e, h, by show _ = true; decide +kernel, fun _ => ⟨_, rfl, rfl⟩, fun z => by cases z⟩
  · obtain ⟨p, _, _, _, e, h, _⟩ := h; exact ⟨p, _, _, e, h, by show _ = true; decide +kernel, fun _ => ⟨_, rfl, rfl⟩, fun z => by cases z⟩
  · obtain ⟨p, _, e, h, _⟩ := h; exact ⟨p, _, _, e, h, by show _ = true; decide +kernel, fun _ => ⟨_, rfl, rfl⟩, fun z => by cases z⟩
  · obtain ⟨p, e, h⟩ := h; exact ⟨p, _, _, e, h, by show _ = false; decide +kernel, (fun z => by cases z), fun _ => rfl⟩
  · obtain ⟨p, e, h⟩ := h; exact ⟨p, _, _, e, h, by show _ = false; decide +kernel, (fun z => by cases z), fun _ => rfl⟩
  · obtain ⟨p, e, h⟩ := h; exact ⟨p, _, _, e, h, by show _ = false; decide +kernel, (fun z => by cases z), fun _ => rfl⟩
  · obtain ⟨p, _, _, _, _, e, h, _⟩ := h; exact ⟨p, _, _, e, h, by show _ = false; decide +kernel, (fun z => by cases z), fun _ => rfl⟩
  · obtain ⟨p, _, _, e, h, _⟩ := h; exact ⟨p, _, _, e, h, by show _ = false; decide +kernel, (fun z => by cases z), fun _ => rfl⟩
  · obtain ⟨p, _, _, e, h, _⟩ := h; exact ⟨p, _, _, e, h, by show _ = false; decide +kernel, (fun z => by cases z), fun _ => rfl⟩
section
variable {P : Program} {w : World} {K : PySem.W.Frag} {mg : Str → Option Value} {base : Heap}
theorem sc_law_lay : FnScope ["_law_state", "_law_block_here", "_law_place", "_law_scopes", "_law_ground_here", "_law_body", "_law_statement", "_law_k", "_law_means", "_law_name", "_law_scope", "_law_some"] ["_law_state", "_law_block_here", "_law_place", "_law_scopes"] (defScope (topS 30)) := ⟨rfl, rfl, rfl, by decide +kernel, rfl, by decide +kernel, by decide +kernel⟩
theorem ok_lay (A : All K mg) {m k : Nat} (hk : 1 ≤ k) (O_lay_blocks : Ok P w K mg base CX0 k "_law_lay_blocks" ["_law_state", "_law_statement", "_law_ground_here", "_law_scopes"] (spLB m)) : Ok P w K mg base CX0 (k + 1) "_law_lay" ["_law_state", "_law_block_here", "_law_place", "_law_scopes"] (spLay (m + 1)) := by
  have O_make : Ok P w K mg base CX0 1 "_law_make" ["_law_state", "_law_name", "_law_k", "_law_ground_here", "_law_scope"] spMake := ok_make A
  have O_used : Ok P w K mg base CX0 1 "_law_used" ["_law_statement"] spUsed := ok_used A
  refine ok_of0 A.lay sc_law_lay (fun _ _ _ _ _ _ us hl => match us, hl with | [_, _, _, _], _ => rfl) (fun vs H Q E h => ?_) (fun f cdv Ar outer s0 H vs Q E hr h => ?_)
  · obtain ⟨_, _, _, _, _, _, _, _, _, _, _, _, _, _, rfl, _⟩ := h; rfl
  · obtain ⟨S, scs, top, L, c, r, s, n, b, ws, pb, pl, g, bd, rfl, hpb, hbt, hpl, h, hL, hLn, hd, hm, hsl, hb, q⟩ := h
    refine ⟨_, (pss_cons (ps_asg (pv 2) (pg_tupK (K := K) (n := 2) rfl (pgs_cons (pg_name (i := 4) sc_law_lay.nd rfl (Or.inl rfl)) (pgs_cons (pg_name (i := 5) sc_law_lay.nd rfl (Or.inl rfl)) pgs_nil))))
    (pss_one (ps_for PassesOwn.never rfl (pi_tup (pv 1)) (pg_name (i := 6) sc_law_lay.nd rfl (Or.inl rfl)) (pss_cons (ps_set (i := 7) sc_law_lay.nd rfl (Or.inl rfl) (pe_callB call_len_seq (by rfl) A.len boot_len (pa_cons (pe_dget (hu_of hr) (pv 0) pe_str (fun _ _ => rfl)) pa_nil)))
    (pss_cons (ps_expr (pe_bm PySem.F.plainAttrs_list PySem.F.slot_list_append PySem.F.type_list_append mt_append (pe_dget (hu_of hr) (pv 0) pe_str (fun _ _ => rfl)) (pa_cons (pv 6) pa_nil)))
    (pss_cons (ps_expr (pe_bm PySem.F.plainAttrs_list PySem.F.slot_list_append PySem.F.type_list_append mt_append (pe_dget (hu_of hr) (pv 0) pe_str (fun _ _ => rfl)) (pa_cons (pe_tup (pa_cons (pv 5) (pa_cons (pv 4) pa_nil))) pa_nil)))
    (pss_cons (ps_set (i := 8) sc_law_lay.nd rfl (Or.inl rfl) (pe_lst pa_nil))
    (Evl.pss_cut (ps_for PassesOwn.never rfl (pi_list (pe_ok O_used (hr.mono (by omega)) (pa_cons (pv 6) pa_nil))) (pg_name (i := 9) sc_law_lay.nd rfl (Or.inr rfl)) (pss_cons (ps_setLc (i := 11) (own := [("_law_scope", 10)]) (g := gName 10) (by rfl) sc_law_lay.nd rfl rfl (sw_true rfl rfl rfl (by decide +kernel)) (pi_list (pv 3)) (blkOk_by (own := [("_law_scope", 10)]) (N := ["_law_state", "_law_block_here", "_law_place", "_law_scopes", "_law_ground_here", "_law_body", "_law_statement", "_law_k", "_law_means", "_law_name", "_law_scope", "_law_some"]) (sc := defScope (topS 30)) (by decide +kernel)) (fun _ _ _ _ _ => (pg_nameL (i := 10) sc_law_lay.nd rfl rfl)) (fun _ _ _ _ _ => (pts_one (pt_cmp (pc_din (hu_of hr) (pv 9) (pv 10))))) (fun _ _ _ _ _ => (pe_dget (hu_of hr) (pv 10) (pv 9) (fun _ _ => rfl))))
    (Evl.pss_cut (ps_if (pt_cmpR (op_eqDK (K := K) hr.units) (pv 11) (pe_lst pa_nil) (nomark _)) (pss_one (ps_expr (pe_bm PySem.F.plainAttrs_list PySem.F.slot_list_append PySem.F.type_list_append mt_append (pe_dget (hu_of hr) (pv 0) pe_str (fun _ _ => rfl)) (pa_cons (pe_tup (pa_cons pe_str (pa_cons (pv 7) (pa_cons (pv 9) pa_nil)))) pa_nil)))) pss_nil)
    (pss_one (ps_expr (pe_bm PySem.F.plainAttrs_list PySem.F.slot_list_append PySem.F.type_list_append mt_append (pv 8) (pa_cons (pe_ix (ix_listK (K := K)) (pe_op op_cat (pv 11) (pe_lst (pa_cons pe_non pa_nil))) (pe_op op_sub (pe_un un_neg pe_int) (pe_callTy call_int1 (by rfl) A.int (by decide +kernel) (pa_cons (pe_cmpR (op_neDK (K := K) hr.units) (pv 11) (pe_lst pa_nil) (nomark _)) pa_nil))) (fun _ _ => rfl)) pa_nil)))))))
    (pss_cons (ps_expr (pe_bm PySem.F.plainAttrs_list PySem.F.slot_list_append PySem.F.type_list_append mt_append (pe_dget (hu_of hr) (pv 0) pe_str (fun _ _ => rfl)) (pa_cons (pe_callTy (call_tuple_ofK (K := K)) (by rfl) A.tuple (by decide +kernel) (pa_cons (pv 8) pa_nil)) pa_nil)))
    (Evl.pss_cut (ps_if (pt_cmpR (op_inK (K := K)) (pe_ix (ix_tupK (K := K)) (pv 6) pe_int (fun _ _ => rfl)) (pe_tup (pa_cons pe_str (pa_cons pe_str (pa_cons pe_str (pa_cons pe_str pa_nil))))) rfl) (pss_one (ps_expr (pe_ok O_make (hr.mono (by omega)) (pa_cons (pv 0) (pa_cons (pe_ix (ix_tupK (K := K)) (pv 6) pe_int (fun _ _ => rfl)) (pa_cons (pv 7) (pa_cons (pv 4) (pa_cons (pe_ix (ix_listK (K := K)) (pv 3) (pe_un un_neg pe_int) (fun _ _ => rfl)) pa_nil)))))))) pss_nil)
    (pss_one (ps_expr (pe_ok O_lay_blocks (hr.mono (by omega)) (pa_cons (pv 0) (pa_cons (pv 6) (pa_cons (pv 4) (pa_cons (pv 3) pa_nil))))))))))))))))), ?_⟩
    have one : ∀ {n : Nat}, n ≤ 10 → n ≤ sizeLine := fun h => small_of (by omega)
    walk_at "go"
    refine g_gtup hpl rfl ?_
    walk_at "go"
    refine for_tup (xs := ws) (fun i σ' H' => ∃ (u6 u7 u8 u9 u11 : Option V) (c' : Scp), σ' = [some (.ref S.sd), some (.ref pb), some (.ref pl), some (.ref L), some (.int g), some (.int bd), u6, u7, u8, u9, none, u11] ∧
      LayS H' S scs top c' r (run (ops (b.take i)) s) (n + 10 * wB (b.take i)) ∧ Fr (top :: S.ls) H H') ⟨_, _, _, _, _, c, rfl, by rw [List.take_zero, ops_nil, wB_nil]; exact h, Fr.refl _ _⟩ (fun i σ' H' ⟨_, _, _, _, _, _, _, _, f⟩ => f.tup hpb) (fun σ' H' pp => ?_) (fun i x σ' H' hx pp => ?_)
    · obtain ⟨u6, u7, u8, u9, u11, c', rfl, h', f'⟩ := pp
      rw [hbt.len, List.take_length] at h'
      exact q H' c' h' f'
    · obtain ⟨u6, u7, u8, u9, u11, c', rfl, h', f'⟩ := pp
      obtain ⟨st, hst, hs⟩ := hbt.get hx
      have hs := hs.up f'.tupLe
      have htk : b.take (i + 1) = b.take i ++ [st] := by rw [List.take_add_one, hst]; rfl
      have hwt : wB (b.take i) + wB [st] ≤ wB b := by
        rw [← wB_append, ← htk]
        have e : b = b.take (i + 1) ++ b.drop (i + 1) := (List.take_append_drop _ _).symm
        have : wB b = wB (b.take (i + 1)) + wB (b.drop (i + 1)) := by rw [← wB_append, List.take_append_drop]
        omega
      have hwst : wB [st] = 2 + st.uses.length + (wL (mkP st) + wL (blkP st)) := by
        unfold wB; rw [ops_one, opsS_eq, wL_cons, wL_append]; rfl
      have hds : 1 + depS st ≤ m + 1 := depB_mem hd st (List.mem_of_getElem? hst)
      rw [htk, ops_append, run_append, ops_one, opsS_eq, wB_append]
      generalize hs1 : run (ops (b.take i)) s = s1 at *
      generalize hn1 : n + 10 * wB (b.take i) = n1 at *
      have hnn : n1 + 10 * wB [st] ≤ 90000 := by omega
      clear htk
      -- the statement is noted
      walk_at "go"
      refine ⟨_, _, rfl, kvl h'.st.sd (stk_st S), ?_⟩
      obtain ⟨v1, e1, l1⟩ := h'.st.st
      walk_at "go"
      refine g_len e1 ?_
      rw [l1]
      walk_at "go"
      refine ⟨_, _, rfl, kvl h'.st.sd (stk_st S), ?_⟩
      refine ⟨ty_l e1, ?_⟩
      walk_at "go"
      have hl := h'.st.len
      obtain ⟨v2, e2, l2, g2⟩ := h'.st.p_st (v := x) (m := n1 + 1) (by omega) (by omega)
      refine g_append e2 (small_lt (by omega)) ?_
      have f2 : Fr [S.st] H' (upd H' S.st (.lst (v2 ++ [x]))) := Fr.put e2 (by intro xs q; cases q) (by simp)
      generalize upd H' S.st (.lst (v2 ++ [x])) = H2 at *
      walk_at "go"
      refine ⟨_, _, rfl, kvl g2.sd (stk_wh S), ?_⟩
      obtain ⟨v3, e3, l3, _⟩ := g2.wh
      refine ⟨ty_l e3, ?_⟩
      walk_at "go"
      refine ⟨one (by simp), fun p1 n1' => ?_⟩
      walk_at "go"
      obtain ⟨v4, e4, l4, g4⟩ := (g2.fr0 (Fr.new (o := .tup [.int bd, .int g]) n1')).p_wh (t := p1) upd_same (m := n1 + 1) (by omega) (by omega)
      refine g_append e4 (small_lt (by omega)) ?_
      have f4 : Fr [S.st, S.wh] H' (upd (upd H2 p1 (.tup [.int bd, .int g])) S.wh (.lst (v4 ++ [.ref p1]))) := ((f2.mono (by simp)).trans (Fr.new n1')).trans (Fr.put e4 (by intro xs q; cases q) (by simp))
      generalize upd (upd H2 p1 (.tup [.int bd, .int g])) S.wh (.lst (v4 ++ [.ref p1])) = H4 at *
      clear f2 g2 e2 e3 e1
      walk_at "go"
      refine ⟨one (by simp), fun p2 n2 => ?_⟩
      walk_at "go"
      have g5 := g4.fr0 (Fr.new (o := .lst []) n2)
      have f5 : Fr [S.st, S.wh] H' (upd H4 p2 (.lst [])) := f4.trans (Fr.new n2)
      have np2 : p2 ∉ S.sd :: S.ls := g4.nin n2
      have dd : ∀ a ∈ [S.st, S.wh], a ∉ scs ++ [top] := fun a ha q => h'.dis a q (by simp at ha; rcases ha with e | e <;> simp [e, SA.ls])
      have o5 : Paired (fun a c => (upd H4 p2 (.lst [])) a = some (.dK (ck c))) scs r.reverse := Paired.imp' h'.out fun a ha _ z => f5.get z fun q => dd a q (List.mem_append_left _ ha)
      have t5 : (upd H4 p2 (.lst [])) top = some (.dK (ck c')) := f5.get h'.tpc fun q => dd _ q (by simp)
      have L5 : (upd H4 p2 (.lst [])) L = some (.lst ((scs ++ [top]).map V.ref)) := f5.get (f'.get hL (fun q => by
        rcases List.mem_cons.mp q with e | e
        · have z := h.tpc; rw [← e, hL] at z; cases z
        · exact hLn e)) (fun q => hLn (by simp at q; rcases q with e | e <;> simp [e, SA.ls]))
      have e5 : (upd H4 p2 (.lst [])) p2 = some (.lst []) := upd_same
      have s5 := hs.up f5.tupLe
      have np2d : p2 ∉ scs ++ [top] := fun q => by
        obtain ⟨o, eo⟩ := h'.live p2 q
        rw [f4.get eo (fun z => dd _ z q)] at n2; cases n2
      have HP2 : H p2 = none := by
        cases eh : H p2 with
        | none => rfl
        | some o =>
          by_cases e : p2 = top
          · exact absurd (by rw [e]; simp) np2d
          · rw [f4.get (f'.get eh (fun q => by
              rcases List.mem_cons.mp q with e2 | e2
              · exact e e2
              · exact np2 (List.mem_cons_of_mem _ e2))) (fun q => np2 (by simp at q; rcases q with q | q <;> simp [q, SA.ls]))] at n2
            cases n2
      have p2L : p2 ≠ L := fun e => by rw [e, upd_same] at L5; have := HO.lst.inj (Option.some.inj L5); simp at this
      generalize upd H4 p2 (.lst []) = H5 at *
      clear f4 g4 n2
      refine ⟨fun σ' H6 => ∃ (u9 u11 : Option V), σ' = [some (.ref S.sd), some (.ref pb), some (.ref pl), some (.ref L), some (.int g), some (.int bd), some x, some (.int (s1.at_ : Int)), some (.ref p2), u9, none, u11] ∧
        StAt H6 S (s1.at_ + 1) (s1.at_ + 1) s1.means s1.mks (s1.am ++ amU s1.sc s1.at_ st.uses) (n1 + 1 + st.uses.length) ∧ H6 p2 = some (.lst ((st.uses.map (lookS s1.sc)).map onv)) ∧ Fr [S.am, p2] H5 H6, ?_, ?_⟩
      · walk_at "go"
        refine ⟨st, x, rfl, s5, by omega, fun H6 pu f6 eu => ?_⟩
        refine for_list (xs := st.uses.map V.str) (fun j σ' H7 => ∃ (u9 u11 : Option V), σ' = [some (.ref S.sd), some (.ref pb), some (.ref pl), some (.ref L), some (.int g), some (.int bd), some x, some (.int (s1.at_ : Int)), some (.ref p2), u9, none, u11] ∧
          StAt H7 S (s1.at_ + 1) (s1.at_ + 1) s1.means s1.mks (s1.am ++ amU s1.sc s1.at_ (st.uses.take j)) (n1 + 1 + j) ∧ H7 p2 = some (.lst (((st.uses.take j).map (lookS s1.sc)).map onv)) ∧ Fr [S.am, p2] H5 H7 ∧ H7 pu = some (.lst (st.uses.map V.str)))
          ⟨_, _, rfl, by simpa [amU] using (g5.fr0 f6), by simpa using f6.get0 e5, f6.nil, eu⟩ (fun j σ' H7 pp => by obtain ⟨_, _, _, _, _, _, e⟩ := pp; exact e) (fun σ' H7 pp => ?_) (fun j y σ' H7 hy pp => ?_)
        · obtain ⟨u9, u11, rfl, g7, e7, f7, _⟩ := pp
          rw [List.length_map, List.take_length] at *
          exact ⟨u9, u11, rfl, g7, e7, f7⟩
        · obtain ⟨u9, u11, rfl, g7, e7, f7, epu⟩ := pp
          obtain ⟨z, hz, rfl⟩ := map_at hy
          have hjl : j < st.uses.length := (List.getElem?_eq_some_iff.mp hz).1
          have tkj : st.uses.take (j + 1) = st.uses.take j ++ [z] := by rw [List.take_add_one, hz]; rfl
          have ndd : ∀ a ∈ scs ++ [top], a ∉ [S.am, p2] := fun a ha q => by
            rcases List.mem_cons.mp q with e | e
            · exact h'.dis a ha (by rw [e]; simp [SA.ls])
            · rw [List.mem_singleton.mp e] at ha; exact np2d ha
          have L7 : H7 L = some (.lst ((scs ++ [top]).map V.ref)) := f7.get L5 (fun q => by
            rcases List.mem_cons.mp q with e | e
            · exact hLn (by rw [e]; simp [SA.ls])
            · exact p2L (List.mem_singleton.mp e).symm)
          have all7 : Paired (fun a c => H7 a = some (.dK (ck c))) (scs ++ [top]) s1.sc.reverse := by
            rw [h'.sc, List.reverse_cons]
            exact Paired.snoc (Paired.imp' o5 fun a ha _ q => f7.get q (ndd a (List.mem_append_left _ ha))) (f7.get t5 (ndd _ (by simp)))
          have hscl : (scs ++ [top]).length ≤ 1001 := by simp; omega
          walk_at "go"
          refine lc_listP (fSc H7 z) L7 (fun p3 n3 => ?_) (fun D i0 x0 hD hx0 => ?_)
          rotate_left
          · obtain ⟨a, ha, rfl⟩ := map_at hx0
            obtain ⟨c0, _, hc0⟩ := Paired.at all7 ha
            walk_at "go"
            refine ⟨rfl, ?_⟩
            walk_at "go"
            refine ⟨a, _, rfl, kvo (keep hD hc0), ?_⟩
            rw [ck_val, Option.isSome_map]
            refine ⟨_, rfl, ?_⟩
            cases e : getS c0 z with
            | some v =>
              refine i_t rfl ?_
              walk_at "go"
              refine ⟨_, _, rfl, kvl (keep hD hc0) (by rw [ck_val, e]; rfl), ?_⟩
              exact pu_yes (small_lt (by rw [List.length_map]; omega)) hx0 (by simp only [fSc, hc0, ck_val, e]; rfl)
            | none =>
              refine i_f rfl ?_
              exact pu_no hx0 (by simp only [fSc, hc0, ck_val, e]; rfl)
          rw [fm_Sc all7]
          have hfl : (foundS s1.sc z).length ≤ 1001 := Nat.le_trans foundS_len (by have := all7.length; rw [List.length_reverse] at this; omega)
          have hf0 : (foundS s1.sc z = []) = (lookS s1.sc z = none) := propext foundS_nil
          rw [show (s1.sc.reverse.filterMap fun c => getS c z) = foundS s1.sc z from rfl]
          have f8 : Fr [] H7 (upd H7 p3 (.lst ((foundS s1.sc z).map nV))) := Fr.new n3
          have e83 : (upd H7 p3 (.lst ((foundS s1.sc z).map nV))) p3 = some (.lst ((foundS s1.sc z).map nV)) := upd_same
          have g8 := g7.fr0 f8
          have e8 := f8.get0 e7
          have epu8 := f8.get0 epu
          have f58 := f7.trans f8.nil
          have np3 : p3 ∉ S.sd :: S.ls := g7.nin n3
          have n32 : p3 ≠ p2 := Ne.symm (ne_of_none e7 n3)
          generalize upd H7 p3 (.lst ((foundS s1.sc z).map nV)) = H8 at *
          clear f8 n3 g7 e7 epu f7 L7 all7
          walk_at "go"
          refine ⟨fun σ' H9 => σ' = [some (.ref S.sd), some (.ref pb), some (.ref pl), some (.ref L), some (.int g), some (.int bd), some x, some (.int (s1.at_ : Int)), some (.ref p2), some (.str z), none, some (.ref p3)] ∧
            StAt H9 S (s1.at_ + 1) (s1.at_ + 1) s1.means s1.mks (s1.am ++ amU s1.sc s1.at_ (st.uses.take (j + 1))) (n1 + 1 + (j + 1)) ∧ Fr [S.am] H8 H9, ?_, ?_⟩
          · walk_at "go"
            refine ⟨one (by simp), fun p4 n4 => ?_⟩
            refine ⟨.list ((foundS s1.sc z).map nD), .list [], .lst (.inl (.of (keep n4 e83))) (dp_ints _), .lst (.inl (.of upd_same)) .nil, shaped_nD _, by decide, ?_⟩
            rw [eqv_nil]
            have g9 := g8.fr0 (Fr.new (o := .lst []) n4)
            walk_at "go"
            refine i_dec (fun e => ?_) (fun e => ?_)
            · rw [hf0] at e
              walk_at "go"
              refine ⟨_, _, rfl, kvl g9.sd (stk_am S), ?_⟩
              obtain ⟨ts, ea, _⟩ := g9.amm
              refine ⟨ty_l ea, ?_⟩
              walk_at "go"
              refine ⟨one (by simp), fun p5 n5 => ?_⟩
              have lam := amU_len s1.sc s1.at_ (st.uses.take j)
              have ltk : (st.uses.take j).length ≤ j := by rw [List.length_take]; exact Nat.min_le_left _ _
              have g10 := g9.fr0 (Fr.new (o := .tup [.str "unknown", .int (s1.at_ : Int), .str z]) n5)
              obtain ⟨vs, ev, lv, g11⟩ := g10.p_am (e := ("unknown", s1.at_, z)) (t := p5) upd_same (m := n1 + 1 + (j + 1)) (by have := g10.len; omega) (by omega)
              walk_at "go"
              refine g_append ev (small_lt (by have := g10.len; omega)) ?_
              walk_at "go"
              refine ⟨rfl, ?_, ((Fr.new n4).trans (Fr.new n5)).trans (Fr.put ev (by intro xs q; cases q) (by simp))⟩
              rw [tkj, amU_snoc, if_pos e, ← List.append_assoc]
              exact g11
            · rw [hf0] at e
              walk_at "go"
              refine ⟨rfl, ?_, Fr.new n4⟩
              rw [tkj, amU_snoc, if_neg e, List.append_nil]
              exact g9.more (by omega)
          · rintro σ' H9 ⟨rfl, g9, f9⟩
            have nam : ∀ {q : Addr}, q ∉ S.sd :: S.ls → q ∉ [S.am] := fun hq e => hq (by rw [List.mem_singleton.mp e]; simp [SA.ls])
            have e92 := f9.get e8 (nam np2)
            have e93 := f9.get e83 (nam np3)
            have epu9 := f9.get epu8 (fun q => by
              have z := List.mem_singleton.mp q
              obtain ⟨ts, ea, _⟩ := g8.amm
              rw [← z, epu8] at ea
              have ea := HO.lst.inj (Option.some.inj ea)
              cases hu : st.uses with
              | nil => rw [hu] at hjl; cases hjl
              | cons a l => rw [hu] at ea; cases ts <;> simp at ea)
            walk_at "go"
            refine ⟨ty_l e92, ?_⟩
            walk_at "go"
            refine ⟨one (by simp), fun p6 n6 => ?_⟩
            refine g_cat (keep n6 e93) upd_same (small_of (by simp; omega)) (fun p7 n7 => ?_)
            walk_at "go"
            refine ⟨one (by simp), fun p8 n8 => ?_⟩
            refine ⟨.list ((foundS s1.sc z).map nD), .list [], .lst (.inl (.of (by walk_at "at"))) (dp_ints _), .lst (.inl (.of upd_same)) .nil, shaped_nD _, by decide, ?_⟩
            rw [eqv_nil]
            walk_at "go"
            refine g_ixL (keep n8 upd_same) (lay_pick _) ?_
            rw [foundS_last]
            walk_at "go"
            have ff : Fr [] H9 (upd (upd (upd H9 p6 (.lst [.non])) p7 (.lst ((foundS s1.sc z).map nV ++ [.non]))) p8 (.lst [])) := by walk_at "fr"
            refine g_append (ff.get0 e92) (small_lt (by simp; omega)) ?_
            have fp : Fr [p2] (upd (upd (upd H9 p6 (.lst [.non])) p7 (.lst ((foundS s1.sc z).map nV ++ [.non]))) p8 (.lst [])) _ := Fr.put (o' := .lst (((st.uses.take j).map (lookS s1.sc)).map onv ++ [onv (lookS s1.sc z)])) (ff.get0 e92) (by intro xs q; cases q) (by simp)
            walk_at "go"
            refine ⟨_, _, rfl, (g9.fr0 ff).fr fp (fun a ha => by rw [List.mem_singleton.mp ha]; exact np2), ?_, ?_, ?_⟩
            · rw [upd_same, tkj]; simp
            · exact ((f58.trans (f9.mono (by simp))).trans ff.nil).trans (fp.mono (by simp))
            · refine fp.get (ff.get0 epu9) (fun q => ?_)
              have z2 := List.mem_singleton.mp q
              rw [z2, f6.get0 e5] at eu
              have eu := HO.lst.inj (Option.some.inj eu)
              cases hu : st.uses with
              | nil => rw [hu] at hjl; cases hjl
              | cons a l => rw [hu] at eu; simp at eu
      · rintro σ' H6 ⟨u9, u11, rfl, g6, e6, f6⟩
        have O5 := o5
        have T5 := t5
        have LL5 := L5
        have F5 := f5
        have s5' := s5
        have np2m : ∀ a ∈ scs ++ [top], a ∉ [S.am, p2] := fun a ha q => by
          rcases List.mem_cons.mp q with e | e
          · exact h'.dis a ha (by rw [e]; simp [SA.ls])
          · rw [List.mem_singleton.mp e] at ha; exact np2d ha
        walk_at "go"
        refine ⟨_, _, rfl, kvl g6.sd (stk_me S), ?_⟩
        obtain ⟨tm, em, pm⟩ := g6.me
        refine ⟨ty_l em, ?_⟩
        walk_at "go"
        refine g_tupof e6 (fun p9 n9 => ?_)
        walk_at "go"
        have gl := g6.len
        obtain ⟨vm, em2, lm2, g7⟩ := (g6.fr0 (Fr.new (o := .tup ((st.uses.map (lookS s1.sc)).map onv)) n9)).p_me (t := p9) upd_same (m := n1 + 2 + st.uses.length) (by have := h'.st.len; omega) (by omega)
        refine g_append em2 (small_lt (by omega)) ?_
        have f7 : Fr [S.me] H6 (upd (upd H6 p9 (.tup ((st.uses.map (lookS s1.sc)).map onv))) S.me (.lst (vm ++ [.ref p9]))) := (Fr.new n9).trans (Fr.put em2 (by intro xs q; cases q) (by simp))
        generalize upd (upd H6 p9 (.tup ((st.uses.map (lookS s1.sc)).map onv))) S.me (.lst (vm ++ [.ref p9])) = H7 at *
        -- the uses are laid
        have W0 : ∀ a ∈ scs ++ [top], a ∉ [S.me] := fun a ha q => h'.dis a ha (by rw [List.mem_singleton.mp q]; simp [SA.ls])
        have h7 : LayS H7 S scs top c' r (run1 (.S st.uses) s1) (n1 + 2 + st.uses.length) :=
          ⟨g7, h'.sc, Paired.imp' O5 fun a ha _ z => f7.get (f6.get z (np2m a (List.mem_append_left _ ha))) (W0 a (List.mem_append_left _ ha)), f7.get (f6.get T5 (np2m _ (by simp))) (W0 _ (by simp)), h'.nd, h'.dis, by have := h'.cl; omega⟩
        have L7 : H7 L = some (.lst ((scs ++ [top]).map V.ref)) := f7.get (f6.get LL5 (fun q => by
          rcases List.mem_cons.mp q with e | e
          · exact hLn (by rw [e]; simp [SA.ls])
          · exact p2L (List.mem_singleton.mp e).symm)) (fun q => hLn (by rw [List.mem_singleton.mp q]; simp [SA.ls]))
        have f07 : Fr (top :: S.ls) H H7 := by
          have z : Fr (p2 :: top :: S.ls) H H7 := ((f'.mono (W' := p2 :: top :: S.ls) (by intro a ha; simp at ha ⊢; rcases ha with h | h <;> simp [h])).trans (F5.mono (by intro a ha; simp at ha ⊢; rcases ha with h | h <;> simp [h, SA.ls]))).trans ((f6.mono (by intro a ha; simp at ha ⊢; rcases ha with h | h <;> simp [h, SA.ls])).trans (f7.mono (by intro a ha; simp at ha ⊢; simp [ha, SA.ls])))
          exact fr_cut z (Fr.refl _ H) (fun a ha => by
            rcases List.mem_cons.mp ha with e | e
            · exact .inr (by rw [e]; exact HP2)
            · exact .inl e)
        have s7 := (s5'.up f6.tupLe).up f7.tupLe
        obtain ⟨p0, xs0, w0, hx0, hp0, hin, hmk1, hmk0⟩ := sat_head s7
        subst hx0
        have hat7 : (run (mkP st) (run1 (.S st.uses) s1)).at_ = s1.at_ + 1 := by
          cases e : isMk st with
          | true =>
            obtain ⟨y, _, e2⟩ := hmk1 e
            rw [e2]
            show (run1 (.M y) (run1 (.S st.uses) s1)).at_ = _
            rw [run_M_at]; rfl
          | false => rw [hmk0 e]; rfl
        walk_at "go"
        refine ⟨fun σ' H8 => ∃ (c2 : Scp), σ' = [some (.ref S.sd), some (.ref pb), some (.ref pl), some (.ref L), some (.int g), some (.int bd), some (.ref p0), some (.int (s1.at_ : Int)), some (.ref p2), u9, none, u11] ∧
          LayS H8 S scs top c2 r (run (mkP st) (run1 (.S st.uses) s1)) (n1 + 2 + st.uses.length + wL (mkP st)) ∧ Fr (top :: S.ls) H7 H8, ?_, ?_⟩
        · walk_at "go"
          refine g_ixT hp0 (v := .str w0) (by rw [atI_nat (by decide) (by simp)]; rfl) ?_
          walk_at "go"
          refine ⟨one (by simp), fun p1 n1'' => ?_⟩
          refine g_inT upd_same rfl (by rfl) ?_
          rw [hin]
          walk_at "go"
          refine i_bool (fun e => ?_) (fun e => ?_)
          · have e : isMk st = true := by simpa using e
            obtain ⟨y, hy, emk⟩ := hmk1 e
            have h8 := h7.fr0 (Fr.new (o := .tup [.str "let", .str "sum", .str "call", .str "fn"]) n1'')
            walk_at "go"
            refine g_ixT (keep n1'' hp0) (v := .str y) (by cases xs0 with
              | nil => cases hy
              | cons a l => have hy := Option.some.inj hy; rw [hy, atI_nat (by decide) (by simp; omega)]; rfl) ?_
            walk_at "go"
            refine g_ixL (keep n1'' L7) (v := .ref top) (by rw [List.map_append]; exact atI_last) ?_
            walk_at "go"
            rw [emk]
            refine ⟨S, _, _, _, _, _, _, c', y, s1.at_, .int g, top, rfl, h8.st, h8.tpc, h8.dis _ (by simp), by omega, by have := h8.cl; omega, fun H9 g9 e9 f9 => ?_⟩
            walk_at "go"
            exact ⟨_, rfl, h8.made g9 e9 f9, (Fr.new n1'').trans (f9.mono (by intro a ha; simp [SA.ls] at ha ⊢; rcases ha with h | h | h <;> simp [h]))⟩
          · have e : isMk st = false := by simpa using e
            walk_at "go"
            rw [hmk0 e]
            exact ⟨c', rfl, (h7.fr0 (Fr.new n1'')).more (Nat.le_add_right _ _), Fr.new n1''⟩
        · rintro σ' H8 ⟨c2, rfl, h8, f8⟩
          walk_at "go"
          have f08 := f07.trans f8
          refine ⟨S, scs, top, L, c2, r, _, _, st, .ref p0, g, rfl, s7.up f8.tupLe, h8, f8.get L7 (fun q => by
            rcases List.mem_cons.mp q with e | e
            · have z := h7.tpc; rw [← e, L7] at z; cases z
            · exact hLn e), hLn, by rw [hat7]; omega, by omega, by omega, by omega, by omega, fun H9 h9 f9 => ?_⟩
          walk_at "go"
          refine ⟨_, _, _, _, _, c2, rfl, ?_, f08.trans (f9.mono (by intro a ha; simp [ha]))⟩
          rw [run_cons, run_append]
          exact h9.more (by omega)
/-- both, to any depth -/
theorem ok_lay_all (A : All K mg) : ∀ m : Nat, Ok P w K mg base CX0 (2 * m + 2) "_law_lay" ["_law_state", "_law_block_here", "_law_place", "_law_scopes"] (spLay m)
  | 0 => ok_no A.lay (fun _ _ _ _ _ _ us hl => match us, hl with | [_, _, _, _], _ => rfl) fun vs H Q E h => by
    obtain ⟨_, _, _, _, _, _, _, _, b, _, _, _, _, _, _, _, _, _, _, _, _, h, _⟩ := h
    have := depB_pos b
    omega
  | m + 1 => by
    have O := ok_lay_all A m
    exact ok_lay A (by omega) (ok_lb A (by omega) O)
end
end Fb
set_option Elab.async false
set_option linter.all false
set_option maxRecDepth 100000
set_option maxHeartbeats 4000000
namespace Fb
open PySem PySem.Spec PyProof.Rows L2
local macro_rules | `(tactic| walk_at "go1") => `(tactic| first
  | with_reducible refine g_seq ?_
  | with_reducible refine g_asg ?_
  | with_reducible refine g_name ?_
  | ((with_reducible refine' g_var ?h1 ?_); (case h1 => rfl))
  | with_reducible refine g_c ?_
  | with_reducible refine g_op ?_
  | with_reducible refine g_un ?_
  | with_reducible refine g_rU ?_
  | with_reducible refine g_yes ?_
  | with_reducible refine g_isN ?_
  | with_reducible refine g_notN ?_
  | with_reducible refine g_int1 ?_
  | with_reducible refine g_I0 ?_
  | ((with_reducible refine' g_eq ?h1 ?_); (case h1 => rfl))
  | ((with_reducible refine' g_ne ?h1 ?_); (case h1 => rfl))
  | with_reducible refine g_test ?_
  | with_reducible refine g_tb ?_
  | with_reducible refine g_bl ?_
  | with_reducible refine g_drop ?_
  | with_reducible refine g_ret ?_
  | with_reducible refine g_if ?_
  | with_reducible refine g_ife ?_
  | with_reducible refine g_and ?_
  | with_reducible refine g_or ?_
  | with_reducible refine g_not ?_
  | with_reducible refine g_next ?_
  | with_reducible refine g_nil ?_
  | with_reducible refine g_cons ?_
  | with_reducible refine g_cb ?_
  | with_reducible refine g_call ?_
  | with_reducible refine g_tup ?_
  | with_reducible refine g_lst ?_
  | with_reducible refine g_dget ?_
  | with_reducible refine g_dput ?_
  | with_reducible refine g_bm ?_
  | with_reducible refine g_lc ?_
  | with_reducible refine g_for ?_
  | with_reducible refine g_il ?_
  | with_reducible refine g_rng1 ?_
  | with_reducible refine g_gsub ?_
  | with_reducible refine g_din ?_
  | with_reducible refine g_disp ?_
  | with_reducible refine g_pairs ?_
  | with_reducible refine g_pairs0 ?_
  | with_reducible refine g_sl ?_
  | with_reducible refine g_part ?_
  | with_reducible refine g_part1 ?_
  | with_reducible refine g_nopart ?_
  | with_reducible refine g_andV ?_
  | with_reducible refine g_orV ?_
  | with_reducible refine g_notV ?_
  | with_reducible refine g_itp ?_
  | with_reducible refine g_par ?_
  | with_reducible refine g_par1 ?_
  | with_reducible refine g_par3 ?_
  | with_reducible refine g_par31 ?_
  | with_reducible refine g_gname ?_
  | with_reducible refine g_gcons ?_
  | with_reducible refine g_gnil ?_
  | with_reducible refine g_bm0 ?_)
local macro_rules | `(tactic| walk_at "go") => `(tactic| repeat walk_at "go1")
local macro_rules | `(tactic| walk_at "at") => `(tactic| repeat first
  | assumption
  | exact upd_same
  | with_reducible refine keep (by assumption) ?_
  | with_reducible refine keep_ne (by assumption) ?_
  | with_reducible refine Fr.get0 (by assumption) ?_
  | with_reducible refine Fr.get (by assumption) ?_ (by assumption)
  | with_reducible refine Fr.tup (by assumption) ?_)
local macro_rules | `(tactic| walk_at "fr") => `(tactic| repeat first
  | assumption
  | exact Fr.refl _ _
  | with_reducible refine Fr.trans ?_ (Fr.new (by assumption))
  | with_reducible refine Fr.trans ?_ (Fr.nil (by assumption))
  | with_reducible refine Fr.trans ?_ (by assumption))
local macro_rules | `(tactic| walk_at "gn") => `(tactic| repeat first
  | assumption
  | with_reducible refine Gn.fr0 ?_ (Fr.new (by assumption))
  | with_reducible refine Gn.fr0 ?_ (by assumption))
local macro_rules | `(tactic| walk_at "bt") => `(tactic| repeat first
  | assumption
  | with_reducible refine BAt.up (Fr.new (W := []) (by assumption)).1 _ _ ?_
  | with_reducible refine SAt.up (Fr.new (W := []) (by assumption)).1 _ _ ?_
  | with_reducible refine BAt.up (Fr.tupLe (by assumption)) _ _ ?_
  | with_reducible refine SAt.up (Fr.tupLe (by assumption)) _ _ ?_)
def Alive (H : Hp) (l : List Addr) : Prop := (∀ a ∈ l, ∃ o, H a = some o) ∧ l.Nodup
theorem Alive.cons {H : Hp} {l : List Addr} {p : Addr} {o : HO} (h : Alive H l) (hp : H p = none) : Alive (upd H p o) (p :: l) := by
  refine ⟨fun a ha => ?_, List.nodup_cons.mpr ⟨fun q => ?_, h.2⟩⟩
  · rcases List.mem_cons.mp ha with e | e
    · exact ⟨o, by rw [e]; exact upd_same⟩
    · obtain ⟨o', e'⟩ := h.1 a e
      exact ⟨o', keep hp e'⟩
  · obtain ⟨o', e'⟩ := h.1 p q
    rw [hp] at e'; cases e'
theorem Alive.keep {H : Hp} {l : List Addr} {p : Addr} {o : HO} (h : Alive H l) (hp : H p = none) : Alive (upd H p o) l :=
  ⟨fun a ha => let ⟨o', e'⟩ := h.1 a ha; ⟨o', Fb.keep hp e'⟩, h.2⟩
def spLaid : Sp := fun vs H Q _ => ∃ (pb : Addr) (ws : List V) (b : List Stm), vs = [.ref pb] ∧ H pb = some (.tup ws) ∧ BAt H b ws ∧ depB b ≤ 10 ∧ wB b ≤ 5000 ∧
  ∀ (H' : Hp) (S : SA) (n : Nat), StAt H' S (look0 b).at_ (look0 b).at_ (look0 b).means (look0 b).mks (look0 b).am n → n ≤ 60000 → Fr [] H H' → Q (.ref S.sd) H'
section
variable {P : Program} {w : World} {K : PySem.W.Frag} {mg : Str → Option Value} {base : Heap}
theorem sc_law_laid : FnScope ["_law_program_here", "_law_state", "_law_ground_here"] ["_law_program_here"] (defScope (topS 31)) := ⟨rfl, rfl, rfl, by decide +kernel, rfl, by decide +kernel, by decide +kernel⟩
theorem ok_laid (A : All K mg) : Ok P w K mg base CX0 23 "_law_laid" ["_law_program_here"] spLaid := by
  have O_ground : Ok P w K mg base CX0 1 "_law_ground" ["_law_state", "_law_sort", "_law_k", "_law_around", "_law_body"] spGround := ok_ground A
  have O_lay : Ok P w K mg base CX0 22 "_law_lay" ["_law_state", "_law_block_here", "_law_place", "_law_scopes"] (spLay 10) := ok_lay_all A 10
  refine ok_of0 A.laid sc_law_laid (fun _ _ _ _ _ _ us hl => match us, hl with | [_], _ => rfl) (fun vs H Q E h => ?_) (fun f cdv Ar outer s H vs Q E hr h => ?_)
  · obtain ⟨_, _, _, rfl, _⟩ := h; rfl
  · obtain ⟨pb, ws, b, rfl, hpb, hbt, hd, hwb, q⟩ := h
    refine ⟨_, (pss_cons (ps_set (i := 1) sc_law_laid.nd rfl (Or.inl rfl) (pe_disp (pps_cons pe_str (pe_lst pa_nil) (pps_cons pe_str (pe_lst pa_nil) (pps_cons pe_str (pe_lst pa_nil) (pps_cons pe_str (pe_lst (pa_cons (pe_tup (pa_cons pe_non (pa_cons (pe_tup pa_nil) pa_nil))) pa_nil)) (pps_cons pe_str (pe_lst pa_nil) (pps_cons pe_str (pe_lst pa_nil) (pps_cons pe_str (pe_lst pa_nil) (pps_cons pe_str (pe_lst pa_nil) pps_nil)))))))) (by rfl) (by rfl) (fun z => by cases z) (by decide)))
    (pss_cons (ps_set (i := 2) sc_law_laid.nd rfl (Or.inl rfl) (pe_ok O_ground (hr.mono (by omega)) (pa_cons (pv 1) (pa_cons pe_str (pa_cons pe_non (pa_cons pe_non (pa_cons pe_int pa_nil)))))))
    (pss_cons (ps_expr (pe_ok O_lay (hr.mono (by omega)) (pa_cons (pv 1) (pa_cons (pv 0) (pa_cons (pe_tup (pa_cons (pv 2) (pa_cons pe_int pa_nil))) (pa_cons (pe_lst (pa_cons pe_dnewK pa_nil)) pa_nil))))))
    (pss_one (ps_ret (pv 1)))))), ?_⟩
    have one : ∀ {n : Nat}, n ≤ 10 → n ≤ sizeLine := fun h => small_of (by omega)
    walk_at "go"
    intro sd nsd
    have a0 : Alive H [] := ⟨by simp, by simp⟩
    have a1 := a0.cons (o := .dK []) nsd
    walk_at "go"
    refine ⟨one (by simp), fun p1 n1 => ?_⟩
    have a2 := a1.cons (o := .lst []) n1
    walk_at "go"
    refine ⟨one (by simp), fun p2 n2 => ?_⟩
    have a3 := a2.cons (o := .lst []) n2
    walk_at "go"
    refine ⟨one (by simp), fun p3 n3 => ?_⟩
    have a4 := a3.cons (o := .lst []) n3
    walk_at "go"
    refine ⟨one (by simp), fun q1 m1 => ?_⟩
    have a5 := a4.keep (o := .tup []) m1
    walk_at "go"
    refine ⟨one (by simp), fun q2 m2 => ?_⟩
    have a6 := a5.keep (o := .tup [.non, .ref q1]) m2
    walk_at "go"
    refine ⟨one (by simp), fun p4 n4 => ?_⟩
    have a7 := a6.cons (o := .lst [.ref q2]) n4
    walk_at "go"
    refine ⟨one (by simp), fun p5 n5 => ?_⟩
    have a8 := a7.cons (o := .lst []) n5
    walk_at "go"
    refine ⟨one (by simp), fun p6 n6 => ?_⟩
    have a9 := a8.cons (o := .lst []) n6
    walk_at "go"
    refine ⟨one (by simp), fun p7 n7 => ?_⟩
    have a10 := a9.cons (o := .lst []) n7
    walk_at "go"
    refine ⟨one (by simp), fun p8 n8 => ?_⟩
    have a11 := a10.cons (o := .lst []) n8
    walk_at "go"
    clear a0 a1 a2 a3 a4 a5 a6 a7 a8 a9 a10
    have eZ : (upd (upd (upd (upd (upd (upd (upd (upd (upd (upd (upd H sd (.dK [])) p1 (.lst [])) p2 (.lst [])) p3 (.lst [])) q1 (.tup [])) q2 (.tup [.non, .ref q1])) p4 (.lst [.ref q2])) p5 (.lst [])) p6 (.lst [])) p7 (.lst [])) p8 (.lst [])) sd = some (.dK []) := by walk_at "at"
    refine ⟨eZ, [(Sum.inr "statements", .ref p1), (Sum.inr "where", .ref p2), (Sum.inr "means", .ref p3), (Sum.inr "bodies", .ref p4), (Sum.inr "grounds", .ref p5), (Sum.inr "bodied", .ref p6), (Sum.inr "makings", .ref p7), (Sum.inr "amiss", .ref p8)], rfl, by simp, ?_⟩
    rw [show mergeK [] [(Sum.inr "statements", .ref p1), (Sum.inr "where", .ref p2), (Sum.inr "means", .ref p3), (Sum.inr "bodies", .ref p4), (Sum.inr "grounds", .ref p5), (Sum.inr "bodied", .ref p6), (Sum.inr "makings", .ref p7), (Sum.inr "amiss", .ref p8)] = stk ⟨sd, p1, p2, p3, p4, p5, p6, p7, p8⟩ by kernel_rfl]
    have nd : (sd :: SA.ls ⟨sd, p1, p2, p3, p4, p5, p6, p7, p8⟩).Nodup := by
      have := (List.reverse_perm _).nodup_iff.mpr a11.2
      simpa [SA.ls] using this
    have f1 : Fr [] H (upd H sd (.dK [])) := Fr.new nsd
    have f2 : Fr [] H (upd (upd (upd (upd (upd (upd (upd (upd (upd (upd (upd H sd (.dK [])) p1 (.lst [])) p2 (.lst [])) p3 (.lst [])) q1 (.tup [])) q2 (.tup [.non, .ref q1])) p4 (.lst [.ref q2])) p5 (.lst [])) p6 (.lst [])) p7 (.lst [])) p8 (.lst [])) := by walk_at "fr"
    have nsame : ∀ (i : Fin 9), i ≠ 0 → (sd :: SA.ls ⟨sd, p1, p2, p3, p4, p5, p6, p7, p8⟩)[i.1]'(by simp [SA.ls]) ≠ sd := fun i hi e => SA.ne ⟨sd, p1, p2, p3, p4, p5, p6, p7, p8⟩ nd i 0 hi (List.mem_singleton.mpr e)
    have st0 : StAt (upd (upd (upd (upd (upd (upd (upd (upd (upd (upd (upd (upd H sd (.dK [])) p1 (.lst [])) p2 (.lst [])) p3 (.lst [])) q1 (.tup [])) q2 (.tup [.non, .ref q1])) p4 (.lst [.ref q2])) p5 (.lst [])) p6 (.lst [])) p7 (.lst [])) p8 (.lst [])) sd (.dK (stk ⟨sd, p1, p2, p3, p4, p5, p6, p7, p8⟩))) ⟨sd, p1, p2, p3, p4, p5, p6, p7, p8⟩ 0 0 [] [] [] 1 :=
      ⟨upd_same, ⟨[], keep_ne (nsame 1 (by decide)) (by walk_at "at"), rfl⟩, ⟨[], keep_ne (nsame 2 (by decide)) (by walk_at "at"), rfl, by simp⟩, ⟨[], keep_ne (nsame 3 (by decide)) (by walk_at "at"), .nil⟩, ⟨[.ref q2], keep_ne (nsame 4 (by decide)) (by walk_at "at"), by simp⟩, ⟨[], keep_ne (nsame 5 (by decide)) (by walk_at "at"), by simp⟩, ⟨[], keep_ne (nsame 6 (by decide)) (by walk_at "at"), by simp⟩, ⟨[], keep_ne (nsame 7 (by decide)) (by walk_at "at"), .nil⟩, ⟨[], keep_ne (nsame 8 (by decide)) (by walk_at "at"), .nil⟩, by simp, nd⟩
    have f3 : Fr [] H (upd (upd (upd (upd (upd (upd (upd (upd (upd (upd (upd (upd H sd (.dK [])) p1 (.lst [])) p2 (.lst [])) p3 (.lst [])) q1 (.tup [])) q2 (.tup [.non, .ref q1])) p4 (.lst [.ref q2])) p5 (.lst [])) p6 (.lst [])) p7 (.lst [])) p8 (.lst [])) sd (.dK (stk ⟨sd, p1, p2, p3, p4, p5, p6, p7, p8⟩))) := f2.mut nsd
    have hnew : ∀ a ∈ SA.ls ⟨sd, p1, p2, p3, p4, p5, p6, p7, p8⟩, H a = none := by
      have z1 : H p1 = none := Fr.none (by walk_at "fr") n1
      have z2 : H p2 = none := Fr.none (by walk_at "fr") n2
      have z3 : H p3 = none := Fr.none (by walk_at "fr") n3
      have z4 : H p4 = none := Fr.none (by walk_at "fr") n4
      have z5 : H p5 = none := Fr.none (by walk_at "fr") n5
      have z6 : H p6 = none := Fr.none (by walk_at "fr") n6
      have z7 : H p7 = none := Fr.none (by walk_at "fr") n7
      have z8 : H p8 = none := Fr.none (by walk_at "fr") n8
      intro a ha
      simp only [SA.ls, List.mem_cons, List.not_mem_nil, or_false] at ha
      rcases ha with rfl | rfl | rfl | rfl | rfl | rfl | rfl | rfl <;> assumption
    generalize hS : SA.mk sd p1 p2 p3 p4 p5 p6 p7 p8 = S at *
    have hsd : sd = S.sd := by rw [← hS]
    clear eZ a11 f2 f1 nsame
    generalize upd (upd (upd (upd (upd (upd (upd (upd (upd (upd (upd (upd H sd (.dK [])) p1 (.lst [])) p2 (.lst [])) p3 (.lst [])) q1 (.tup [])) q2 (.tup [.non, .ref q1])) p4 (.lst [.ref q2])) p5 (.lst [])) p6 (.lst [])) p7 (.lst [])) p8 (.lst [])) sd (.dK (stk S)) = H1 at *
    clear n1 n2 n3 n4 n5 n6 n7 n8 m1 m2
    subst hsd
    walk_at "go"
    refine ⟨S, _, _, _, _, _, _, _, _, _, _, rfl, st0, by decide, fun H2 j g2 f2 => ?_⟩
    walk_at "go"
    refine ⟨one (by simp), fun r1 k1 => ?_⟩
    walk_at "go"
    intro r2 k2
    walk_at "go"
    refine ⟨one (by simp), fun r3 k3 => ?_⟩
    walk_at "go"
    have fa : Fr [] H2 (upd (upd (upd H2 r1 (.tup [.int j, .int 0])) r2 (.dK [])) r3 (.lst [.ref r2])) := by walk_at "fr"
    have f4 : Fr S.ls H1 (upd (upd (upd H2 r1 (.tup [.int j, .int 0])) r2 (.dK [])) r3 (.lst [.ref r2])) := (f2.mono (by simp [SA.ls])).trans fa.nil
    have hp : (upd (upd (upd H2 r1 (.tup [.int j, .int 0])) r2 (.dK [])) r3 (.lst [.ref r2])) pb = some (.tup ws) := f4.tup (f3.tup hpb)
    have n2 := (g2.fr0 (Fr.new k1)).nin k2
    have L0 : LayS (upd (upd (upd H2 r1 (.tup [.int j, .int 0])) r2 (.dK [])) r3 (.lst [.ref r2])) S [] r2 [] [] sn0 (1 + 2) :=
      ⟨g2.fr0 fa, rfl, .nil, by walk_at "at", by simp, fun a ha => by
        have e : a = r2 := by simpa using ha
        rw [e]; exact n2, by simp⟩
    refine ⟨S, [], r2, r3, [], [], sn0, _, b, ws, pb, r1, j, 0, rfl, hp, (hbt.up f3.tupLe).up f4.tupLe, by walk_at "at", L0, by rw [upd_same]; simp, fun q => (((g2.fr0 (Fr.new k1)).fr0 (Fr.new k2)).nin k3 (List.mem_cons_of_mem _ q)), hd, by decide, by decide, by omega, fun H9 c9 h9 f9 => ?_⟩
    walk_at "go"
    refine q H9 S _ h9.st (by omega) ?_
    have z : Fr (r2 :: S.ls) H H9 := (f3.nil.trans (f4.mono (by intro a ha; simp [ha]))).trans f9
    refine fr_cut z (Fr.refl [] H) (fun a ha => .inr ?_)
    rcases List.mem_cons.mp ha with e | e
    · subst e
      cases eh : H a with
      | none => rfl
      | some o =>
        have z2 := Fr.none (Fr.new (W := []) k1) k2
        rw [f2.get (f3.get0 eh) (fun q => n2 (List.mem_cons_of_mem _ (by simp [SA.ls] at q ⊢; rcases q with q | q <;> simp [q])))] at z2
        cases z2
    · exact hnew a e
end
end Fb
set_option Elab.async false
set_option linter.all false
set_option maxRecDepth 100000
set_option maxHeartbeats 4000000
namespace Fb
open PySem PySem.Spec PyProof.Rows L2
local macro_rules | `(tactic| walk_at "go1") => `(tactic| first
  | with_reducible refine g_seq ?_
  | with_reducible refine g_asg ?_
  | with_reducible refine g_name ?_
  | ((with_reducible refine' g_var ?h1 ?_); (case h1 => rfl))
  | with_reducible refine g_c ?_
  | with_reducible refine g_op ?_
  | with_reducible refine g_un ?_
  | with_reducible refine g_rU ?_
  | with_reducible refine g_yes ?_
  | with_reducible refine g_isN ?_
  | with_reducible refine g_notN ?_
  | with_reducible refine g_int1 ?_
  | with_reducible refine g_I0 ?_
  | ((with_reducible refine' g_eq ?h1 ?_); (case h1 => rfl))
  | ((with_reducible refine' g_ne ?h1 ?_); (case h1 => rfl))
  | with_reducible refine g_test ?_
  | with_reducible refine g_tb ?_
  | with_reducible refine g_bl ?_
  | with_reducible refine g_drop ?_
  | with_reducible refine g_ret ?_
  | with_reducible refine g_if ?_
  | with_reducible refine g_ife ?_
  | with_reducible refine g_and ?_
  | with_reducible refine g_or ?_
  | with_reducible refine g_not ?_
  | with_reducible refine g_next ?_
  | with_reducible refine g_nil ?_
  | with_reducible refine g_cons ?_
  | with_reducible refine g_cb ?_
  | with_reducible refine g_call ?_
  | with_reducible refine g_tup ?_
  | with_reducible refine g_lst ?_
  | with_reducible refine g_dget ?_
  | with_reducible refine g_dput ?_
  | with_reducible refine g_bm ?_
  | with_reducible refine g_lc ?_
  | with_reducible refine g_for ?_
  | with_reducible refine g_il ?_
  | with_reducible refine g_rng1 ?_
  | with_reducible refine g_gsub ?_
  | with_reducible refine g_din ?_
  | with_reducible refine g_disp ?_
  | with_reducible refine g_pairs ?_
  | with_reducible refine g_pairs0 ?_
  | with_reducible refine g_sl ?_
  | with_reducible refine g_part ?_
  | with_reducible refine g_part1 ?_
  | with_reducible refine g_nopart ?_
  | with_reducible refine g_andV ?_
  | with_reducible refine g_orV ?_
  | with_reducible refine g_notV ?_
  | with_reducible refine g_itp ?_
  | with_reducible refine g_par ?_
  | with_reducible refine g_par1 ?_
  | with_reducible refine g_par3 ?_
  | with_reducible refine g_par31 ?_
  | with_reducible refine g_gname ?_
  | with_reducible refine g_gcons ?_
  | with_reducible refine g_gnil ?_
  | with_reducible refine g_bm0 ?_)
local macro_rules | `(tactic| walk_at "go") => `(tactic| repeat walk_at "go1")
local macro_rules | `(tactic| walk_at "at") => `(tactic| repeat first
  | assumption
  | exact upd_same
  | with_reducible refine keep (by assumption) ?_
  | with_reducible refine keep_ne (by assumption) ?_
  | with_reducible refine Fr.get0 (by assumption) ?_
  | with_reducible refine Fr.get (by assumption) ?_ (by assumption)
  | with_reducible refine Fr.tup (by assumption) ?_)
local macro_rules | `(tactic| walk_at "fr") => `(tactic| repeat first
  | assumption
  | exact Fr.refl _ _
  | with_reducible refine Fr.trans ?_ (Fr.new (by assumption))
  | with_reducible refine Fr.trans ?_ (Fr.nil (by assumption))
  | with_reducible refine Fr.trans ?_ (by assumption))
local macro_rules | `(tactic| walk_at "gn") => `(tactic| repeat first
  | assumption
  | with_reducible refine Gn.fr0 ?_ (Fr.new (by assumption))
  | with_reducible refine Gn.fr0 ?_ (by assumption))
local macro_rules | `(tactic| walk_at "bt") => `(tactic| repeat first
  | assumption
  | with_reducible refine BAt.up (Fr.new (W := []) (by assumption)).1 _ _ ?_
  | with_reducible refine SAt.up (Fr.new (W := []) (by assumption)).1 _ _ ?_
  | with_reducible refine BAt.up (Fr.tupLe (by assumption)) _ _ ?_
  | with_reducible refine SAt.up (Fr.tupLe (by assumption)) _ _ ?_)
def putP (g : Int) (m : Stm) : List Stm → Nat → List Stm × Nat
  | [], c => ([], c)
  | s :: b, c => ((if (c : Int) = g then [m] else []) ++ (putS1 g m s (c + 1)).1 :: (putP g m b (putS1 g m s (c + 1)).2).1, (putP g m b (putS1 g m s (c + 1)).2).2)
theorem putP_snoc (g : Int) (m s : Stm) : ∀ (b : List Stm) (c : Nat), putP g m (b ++ [s]) c = ((putP g m b c).1 ++ ((if ((putP g m b c).2 : Int) = g then [m] else []) ++ [(putS1 g m s ((putP g m b c).2 + 1)).1]), (putS1 g m s ((putP g m b c).2 + 1)).2)
  | [], c => by
    show ((if (c : Int) = g then [m] else []) ++ _ :: [], _) = _
    rfl
  | t :: b, c => by
    rw [List.cons_append]
    simp only [putP]
    rw [putP_snoc g m s b]
    simp
    rfl
theorem putB_eq (g : Int) (m : Stm) : ∀ (b : List Stm) (c : Nat), putB g m b c = ((putP g m b c).1 ++ (if ((putP g m b c).2 : Int) = g then [m] else []), (putP g m b c).2 + 1)
  | [], c => by rw [putB_nil]; simp [putP]; rfl
  | s :: b, c => by
    rw [putB_cons, putB_eq g m b]
    simp [putP]
    rfl
theorem putP_len (g : Int) (m : Stm) : ∀ (b : List Stm) (c : Nat), (putP g m b c).1.length ≤ 2 * b.length
  | [], c => by simp [putP]
  | s :: b, c => by
    simp only [putP, List.length_append, List.length_cons]
    have := putP_len g m b (putS1 g m s (c + 1)).2
    split <;> simp <;> omega
def spPut (m : Nat) : Sp := fun vs H Q _ => ∃ (pb cn : Addr) (ws : List V) (b : List Stm) (c : Nat) (g : Int) (mo : Stm) (vm : V), vs = [.ref pb, .ref cn, .int g, vm] ∧ H pb = some (.tup ws) ∧ BAt H b ws ∧ H cn = some (.lst [.int (c : Int)]) ∧ (0 ≤ g → SAt H mo vm) ∧ depB b ≤ m ∧ wB b ≤ 5000 ∧
  ∀ (H' : Hp) (p : Addr) (us : List V), Fr [cn] H H' → H' p = some (.tup us) → BAt H' (putB g mo b c).1 us → H' cn = some (.lst [.int ((putB g mo b c).2 : Int)]) → Q (.ref p) H'
theorem wWhile (a : Atm) (b : List Stm) : wB b ≤ wB [.while a b] := by
  unfold wB; rw [ops_one]; simp only [opsS, wL_cons, wL_append]; omega
theorem wTimes (o : Bool) (x : Str) (a : Atm) (b : List Stm) : wB b ≤ wB [.times o x a b] := by
  unfold wB; rw [ops_one]; cases o <;> (simp only [opsS, wL_cons, wL_append]; omega)
theorem wIte (a : Atm) (b c : List Stm) : wB b + wB c ≤ wB [.ite a b c] := by
  unfold wB; rw [ops_one]; simp only [opsS, wL_cons, wL_append]; omega
theorem wB_sub {s : Stm} {b : List Stm} (hs : s ∈ b) : wB [s] ≤ wB b := by
  obtain ⟨l, r, rfl⟩ := List.append_of_mem hs
  have := wB_cons s r
  rw [wB_append]; omega
section
variable {P : Program} {w : World} {K : PySem.W.Frag} {mg : Str → Option Value} {base : Heap}
theorem sc_law_put_in : FnScope ["_law_block_here", "_law_count", "_law_goal", "_law_more", "_law_found", "_law_statement", "_law_one"] ["_law_block_here", "_law_count", "_law_goal", "_law_more"] (defScope (topS 34)) := ⟨rfl, rfl, rfl, by decide +kernel, rfl, by decide +kernel, by decide +kernel⟩
theorem ok_put (A : All K mg) {m k : Nat} (O_put_in : Ok P w K mg base CX0 k "_law_put_in" ["_law_block_here", "_law_count", "_law_goal", "_law_more"] (spPut m)) : Ok P w K mg base CX0 (k + 1) "_law_put_in" ["_law_block_here", "_law_count", "_law_goal", "_law_more"] (spPut (m + 1)) := by
  refine ok_of0 A.put_in sc_law_put_in (fun _ _ _ _ _ _ us hl => match us, hl with | [_, _, _, _], _ => rfl) (fun vs H Q E h => ?_) (fun f cdv Ar outer s H vs Q E hr h => ?_)
  · obtain ⟨_, _, _, _, _, _, _, _, rfl, _⟩ := h; rfl
  · obtain ⟨pb, cn, ws, b, c, g, mo, vm, rfl, hpb, hbt, hc, hmo, hd, hwb, q⟩ := h
    refine ⟨_, (pss_cons (ps_set (i := 4) sc_law_put_in.nd rfl (Or.inl rfl) (pe_lst pa_nil))
    (pss_cons (ps_for PassesOwn.never rfl (pi_tup (pv 0)) (pg_name (i := 5) sc_law_put_in.nd rfl (Or.inl rfl)) (Evl.pss_cut (ps_if (pt_cmpR op_eq (pe_ix (ix_listK (K := K)) (pv 1) pe_int (fun _ _ => rfl)) (pv 2) (nomark _)) (pss_one (ps_expr (pe_bm PySem.F.plainAttrs_list PySem.F.slot_list_append PySem.F.type_list_append mt_append (pv 4) (pa_cons (pv 3) pa_nil)))) pss_nil)
    (pss_cons (ps_asg (pe_op op_add (pe_ix (ix_listK (K := K)) (pv 1) pe_int (fun _ _ => rfl)) pe_int) (pg_sub (pv 1) pe_int set_list))
    (Evl.pss_cut (ps_if (pt_cmpR op_eq (pe_ix (ix_tupK (K := K)) (pv 5) pe_int (fun _ _ => rfl)) pe_str (nomark _)) (pss_cons (ps_set (i := 6) sc_law_put_in.nd rfl (Or.inl rfl) (pe_ok O_put_in (hr.mono (by omega)) (pa_cons (pe_ix (ix_tupK (K := K)) (pv 5) pe_int (fun _ _ => rfl)) (pa_cons (pv 1) (pa_cons (pv 2) (pa_cons (pv 3) pa_nil))))))
    (pss_one (ps_set (i := 5) sc_law_put_in.nd rfl (Or.inl rfl) (pe_op (op_catAK (K := K)) (pe_slice sl_tup (pv 5) po_none (po_some pe_int)) (pe_tup (pa_cons (pv 6) (pa_cons (pe_ok O_put_in (hr.mono (by omega)) (pa_cons (pe_ix (ix_tupK (K := K)) (pv 5) pe_int (fun _ _ => rfl)) (pa_cons (pv 1) (pa_cons (pv 2) (pa_cons (pv 3) pa_nil))))) pa_nil))))))) (pss_one (ps_if (pt_cmpR (op_inK (K := K)) (pe_ix (ix_tupK (K := K)) (pv 5) pe_int (fun _ _ => rfl)) (pe_tup (pa_cons pe_str (pa_cons pe_str (pa_cons pe_str pa_nil)))) rfl) (pss_one (ps_set (i := 5) sc_law_put_in.nd rfl (Or.inl rfl) (pe_op (op_catAK (K := K)) (pe_slice sl_tup (pv 5) po_none (po_some (pe_un un_neg pe_int))) (pe_tup (pa_cons (pe_ok O_put_in (hr.mono (by omega)) (pa_cons (pe_ix (ix_tupK (K := K)) (pv 5) (pe_un un_neg pe_int) (fun _ _ => rfl)) (pa_cons (pv 1) (pa_cons (pv 2) (pa_cons (pv 3) pa_nil))))) pa_nil))))) pss_nil)))
    (pss_one (ps_expr (pe_bm PySem.F.plainAttrs_list PySem.F.slot_list_append PySem.F.type_list_append mt_append (pv 4) (pa_cons (pv 5) pa_nil))))))))
    (Evl.pss_cut (ps_if (pt_cmpR op_eq (pe_ix (ix_listK (K := K)) (pv 1) pe_int (fun _ _ => rfl)) (pv 2) (nomark _)) (pss_one (ps_expr (pe_bm PySem.F.plainAttrs_list PySem.F.slot_list_append PySem.F.type_list_append mt_append (pv 4) (pa_cons (pv 3) pa_nil)))) pss_nil)
    (pss_cons (ps_asg (pe_op op_add (pe_ix (ix_listK (K := K)) (pv 1) pe_int (fun _ _ => rfl)) pe_int) (pg_sub (pv 1) pe_int set_list))
    (pss_one (ps_ret (pe_callTy (call_tuple_ofK (K := K)) (by rfl) A.tuple (by decide +kernel) (pa_cons (pv 4) pa_nil)))))))), ?_⟩
    have one : ∀ {n : Nat}, n ≤ 10 → n ≤ sizeLine := fun h => small_of (by omega)
    have hbl : b.length ≤ 5000 := Nat.le_trans (len_w b) hwb
    walk_at "go"
    refine ⟨one (by simp), fun pf nf => ?_⟩
    walk_at "go"
    have ncf : cn ≠ pf := ne_of_none hc nf
    refine for_tup (xs := ws) (fun i σ' H' => ∃ (u5 u6 : Option V) (us : List V), σ' = [some (.ref pb), some (.ref cn), some (.int g), some vm, some (.ref pf), u5, u6] ∧ Fr [cn] H H' ∧ H' pf = some (.lst us) ∧ BAt H' (putP g mo (b.take i) c).1 us ∧ H' cn = some (.lst [.int ((putP g mo (b.take i) c).2 : Int)]))
      ⟨_, _, [], rfl, Fr.new nf, upd_same, BAt_nil.mpr rfl, keep nf hc⟩ (fun i σ' H' pp => by obtain ⟨_, _, _, _, f, _⟩ := pp; exact f.tup hpb) (fun σ' H' pp => ?_) (fun i x σ' H' hx pp => ?_)
    · obtain ⟨u5, u6, us, rfl, f', ef, bt, ec⟩ := pp
      rw [hbt.len, List.take_length] at bt ec
      have hl := putP_len g mo b c
      have bl := bt.len
      refine ⟨fun σ' H2 => σ' = [some (.ref pb), some (.ref cn), some (.int g), some vm, some (.ref pf), u5, u6] ∧ Fr [cn] H H2 ∧ (∃ us, H2 pf = some (.lst us) ∧ BAt H2 ((putP g mo b c).1 ++ (if ((putP g mo b c).2 : Int) = g then [mo] else [])) us) ∧ H2 cn = some (.lst [.int ((putP g mo b c).2 : Int)]), ?_, ?_⟩
      · walk_at "go"
        refine g_ixL ec (by rfl) ?_
        walk_at "go"
        refine i_dec (fun e => ?_) (fun e => ?_)
        · have e := V.int.inj e
          walk_at "go"
          refine ⟨ty_l ef, ?_⟩
          walk_at "go"
          refine g_append ef (small_lt (by omega)) ?_
          have fp : Fr [pf] H' (upd H' pf (.lst (us ++ [vm]))) := Fr.put ef (by intro xs q; cases q) (by simp)
          walk_at "go"
          refine ⟨rfl, f'.mut nf, ⟨_, upd_same, ?_⟩, fp.get ec (by simpa using ncf)⟩
          rw [if_pos e]
          exact (bt.up fp.tupLe).append (BAt.one (((hmo (by omega)).up f'.tupLe).up fp.tupLe))
        · walk_at "go"
          refine ⟨rfl, f', ⟨us, ef, ?_⟩, ec⟩
          rw [if_neg (fun z => e (by rw [z])), List.append_nil]
          exact bt
      · rintro σ' H2 ⟨rfl, f2, ⟨us2, ef2, bt2⟩, ec2⟩
        walk_at "go"
        refine g_ixL ec2 (by rfl) ?_
        walk_at "go"
        refine ⟨cn, _, 0, 0, rfl, rfl, ec2, rfl, ?_⟩
        have fc : Fr [cn] H2 (upd H2 cn (.lst ([V.int ((putP g mo b c).2 : Int)].set 0 (.int (((putP g mo b c).2 : Int) + 1))))) := Fr.put ec2 (by intro xs q; cases q) (by simp)
        walk_at "go"
        refine g_tupof (fc.get ef2 (by simpa using Ne.symm ncf)) (fun p hp => ?_)
        have fz := Fr.new (W := []) (o := .tup us2) hp
        refine q _ p us2 ((f2.trans fc).trans fz.nil) upd_same ?_ ?_
        · rw [putB_eq]; exact (bt2.up fc.tupLe).up fz.tupLe
        · rw [putB_eq]
          refine fz.get0 ?_
          rw [upd_same]; simp
    · obtain ⟨u5, u6, us, rfl, f', ef, bt, ec⟩ := pp
      obtain ⟨st, hst, hs⟩ := hbt.get hx
      have htk : b.take (i + 1) = b.take i ++ [st] := by rw [List.take_add_one, hst]; rfl
      have hil : i < b.length := (List.getElem?_eq_some_iff.mp hst).1
      rw [htk, putP_snoc]
      have hl := putP_len g mo (b.take i) c
      have htl : (b.take i).length ≤ i := by rw [List.length_take]; exact Nat.min_le_left _ _
      have bl := bt.len
      have hds : 1 + depS st ≤ m + 1 := depB_mem hd st (List.mem_of_getElem? hst)
      have hws : wB [st] ≤ 5000 := Nat.le_trans (wB_sub (List.mem_of_getElem? hst)) hwb
      generalize (putP g mo (b.take i) c).2 = c1 at *
      generalize (putP g mo (b.take i) c).1 = b1 at *
      walk_at "go"
      refine ⟨fun σ' H2 => σ' = [some (.ref pb), some (.ref cn), some (.int g), some vm, some (.ref pf), some x, u6] ∧ Fr [cn] H H2 ∧ (∃ us, H2 pf = some (.lst us) ∧ BAt H2 (b1 ++ (if (c1 : Int) = g then [mo] else [])) us) ∧ H2 cn = some (.lst [.int (c1 : Int)]), ?_, ?_⟩
      · walk_at "go"
        refine g_ixL ec (by rfl) ?_
        walk_at "go"
        refine i_dec (fun e => ?_) (fun e => ?_)
        · have e := V.int.inj e
          walk_at "go"
          refine ⟨ty_l ef, ?_⟩
          walk_at "go"
          refine g_append ef (small_lt (by omega)) ?_
          have fp : Fr [pf] H' (upd H' pf (.lst (us ++ [vm]))) := Fr.put ef (by intro xs q; cases q) (by simp)
          walk_at "go"
          refine ⟨rfl, f'.mut nf, ⟨_, upd_same, ?_⟩, fp.get ec (by simpa using ncf)⟩
          rw [if_pos e]
          exact (bt.up fp.tupLe).append (BAt.one (((hmo (by omega)).up f'.tupLe).up fp.tupLe))
        · walk_at "go"
          refine ⟨rfl, f', ⟨us, ef, ?_⟩, ec⟩
          rw [if_neg (fun z => e (by rw [z])), List.append_nil]
          exact bt
      · rintro σ' H2 ⟨rfl, f2, ⟨us2, ef2, bt2⟩, ec2⟩
        have bl2 := bt2.len
        have bl3 : (b1 ++ if (c1 : Int) = g then [mo] else []).length ≤ 10001 := by rw [List.length_append]; split <;> simp <;> omega
        walk_at "go"
        refine g_ixL ec2 (by rfl) ?_
        walk_at "go"
        refine ⟨cn, _, 0, 0, rfl, rfl, ec2, rfl, ?_⟩
        have fc : Fr [cn] H2 (upd H2 cn (.lst ([V.int (c1 : Int)].set 0 (.int ((c1 : Int) + 1))))) := Fr.put ec2 (by intro xs q; cases q) (by simp)
        have ec3 : (upd H2 cn (.lst ([V.int (c1 : Int)].set 0 (.int ((c1 : Int) + 1))))) cn = some (.lst [.int ((c1 + 1 : Nat) : Int)]) := by rw [upd_same]; simp
        have ef3 := fc.get ef2 (by simpa using Ne.symm ncf)
        have bt3 := bt2.up fc.tupLe
        have f3 := f2.trans fc
        have hs3 := hs.up f3.tupLe
        have hmo3 : 0 ≤ g → SAt (upd H2 cn (.lst ([V.int (c1 : Int)].set 0 (.int ((c1 : Int) + 1))))) mo vm := fun z => (hmo z).up f3.tupLe
        generalize upd H2 cn (.lst ([V.int (c1 : Int)].set 0 (.int ((c1 : Int) + 1)))) = H3 at *
        clear fc
        walk_at "go"
        refine ⟨fun σ' H4 => ∃ (u6 : Option V) (y : V), σ' = [some (.ref pb), some (.ref cn), some (.int g), some vm, some (.ref pf), some y, u6] ∧ Fr [cn] H3 H4 ∧ SAt H4 (putS1 g mo st (c1 + 1)).1 y ∧ H4 cn = some (.lst [.int ((putS1 g mo st (c1 + 1)).2 : Int)]), ?_, ?_⟩
        · cases st with
          | let_ x a =>
            have hs4 := hs3
            simp only [SAt] at hs3
            obtain ⟨p, rfl, hp⟩ := hs3
            walk_at "go"
            refine g_ixT hp (by rfl) ?_
            walk_at "go"
            refine i_f (by rfl) ?_
            walk_at "go"
            refine g_ixT hp (by rfl) ?_
            walk_at "go"
            refine ⟨one (by simp), fun p1 n1 => ?_⟩
            refine g_inT upd_same rfl (by rfl) ?_
            walk_at "go"
            refine i_f (by decide +kernel) ?_
            walk_at "go"
            exact ⟨_, _, rfl, Fr.new n1, by simp only [putS1]; exact hs4.up (Fr.new (W := []) n1).tupLe, by simp only [putS1]; exact keep n1 ec3⟩
          | sum x s0 a b0 =>
            have hs4 := hs3
            simp only [SAt] at hs3
            obtain ⟨p, rfl, hp⟩ := hs3
            walk_at "go"
            refine g_ixT hp (by rfl) ?_
            walk_at "go"
            refine i_f (by rfl) ?_
            walk_at "go"
            refine g_ixT hp (by rfl) ?_
            walk_at "go"
            refine ⟨one (by simp), fun p1 n1 => ?_⟩
            refine g_inT upd_same rfl (by rfl) ?_
            walk_at "go"
            refine i_f (by decide +kernel) ?_
            walk_at "go"
            exact ⟨_, _, rfl, Fr.new n1, by simp only [putS1]; exact hs4.up (Fr.new (W := []) n1).tupLe, by simp only [putS1]; exact keep n1 ec3⟩
          | call x f0 as =>
            have hs4 := hs3
            simp only [SAt] at hs3
            obtain ⟨p, q0, rfl, hp, hq⟩ := hs3
            walk_at "go"
            refine g_ixT hp (by rfl) ?_
            walk_at "go"
            refine i_f (by rfl) ?_
            walk_at "go"
            refine g_ixT hp (by rfl) ?_
            walk_at "go"
            refine ⟨one (by simp), fun p1 n1 => ?_⟩
            refine g_inT upd_same rfl (by rfl) ?_
            walk_at "go"
            refine i_f (by decide +kernel) ?_
            walk_at "go"
            exact ⟨_, _, rfl, Fr.new n1, by simp only [putS1]; exact hs4.up (Fr.new (W := []) n1).tupLe, by simp only [putS1]; exact keep n1 ec3⟩
          | set x a =>
            have hs4 := hs3
            simp only [SAt] at hs3
            obtain ⟨p, rfl, hp⟩ := hs3
            walk_at "go"
            refine g_ixT hp (by rfl) ?_
            walk_at "go"
            refine i_f (by rfl) ?_
            walk_at "go"
            refine g_ixT hp (by rfl) ?_
            walk_at "go"
            refine ⟨one (by simp), fun p1 n1 => ?_⟩
            refine g_inT upd_same rfl (by rfl) ?_
            walk_at "go"
            refine i_f (by decide +kernel) ?_
            walk_at "go"
            exact ⟨_, _, rfl, Fr.new n1, by simp only [putS1]; exact hs4.up (Fr.new (W := []) n1).tupLe, by simp only [putS1]; exact keep n1 ec3⟩
          | tell a =>
            have hs4 := hs3
            simp only [SAt] at hs3
            obtain ⟨p, rfl, hp⟩ := hs3
            walk_at "go"
            refine g_ixT hp (by rfl) ?_
            walk_at "go"
            refine i_f (by rfl) ?_
            walk_at "go"
            refine g_ixT hp (by rfl) ?_
            walk_at "go"
            refine ⟨one (by simp), fun p1 n1 => ?_⟩
            refine g_inT upd_same rfl (by rfl) ?_
            walk_at "go"
            refine i_f (by decide +kernel) ?_
            walk_at "go"
            exact ⟨_, _, rfl, Fr.new n1, by simp only [putS1]; exact hs4.up (Fr.new (W := []) n1).tupLe, by simp only [putS1]; exact keep n1 ec3⟩
          | give a =>
            have hs4 := hs3
            simp only [SAt] at hs3
            obtain ⟨p, rfl, hp⟩ := hs3
            walk_at "go"
            refine g_ixT hp (by rfl) ?_
            walk_at "go"
            refine i_f (by rfl) ?_
            walk_at "go"
            refine g_ixT hp (by rfl) ?_
            walk_at "go"
            refine ⟨one (by simp), fun p1 n1 => ?_⟩
            refine g_inT upd_same rfl (by rfl) ?_
            walk_at "go"
            refine i_f (by decide +kernel) ?_
            walk_at "go"
            exact ⟨_, _, rfl, Fr.new n1, by simp only [putS1]; exact hs4.up (Fr.new (W := []) n1).tupLe, by simp only [putS1]; exact keep n1 ec3⟩
          | fn x ps b0 =>
            simp only [SAt] at hs3
            obtain ⟨p, q0, qb, vs, rfl, hp, hq, hb0, hbt0⟩ := hs3
            have hdb : depB b0 ≤ m := by simp only [depS] at hds; omega
            have hwb0 : wB b0 ≤ 5000 := by have := wB_fn x ps b0; omega
            walk_at "go"
            refine g_ixT hp (by rfl) ?_
            walk_at "go"
            refine i_f (by rfl) ?_
            walk_at "go"
            refine g_ixT hp (by rfl) ?_
            walk_at "go"
            refine ⟨one (by simp), fun p1 n1 => ?_⟩
            refine g_inT upd_same rfl (by rfl) ?_
            walk_at "go"
            refine i_t (by decide +kernel) ?_
            walk_at "go"
            have f4 : Fr [] H3 (upd H3 p1 (.tup [.str "fn", .str "while", .str "times"])) := Fr.new n1
            refine ⟨p, _, rfl,   .inl (.of (f4.tup hp)), (by rintro ⟨_, z⟩; revert z; simp [HT.sIx]), fun p2 n2 => ?_⟩
            walk_at "go"
            have f5 := Fr.new (W := []) (o := .tup (cutV [.str "fn", .str x, .ref q0, .ref qb] none (some (-1)))) n2
            refine g_ixT (f5.tup (f4.tup hp)) (v := .ref qb) (by rfl) ?_
            walk_at "go"
            refine ⟨qb, cn, vs, b0, c1 + 1, g, mo, vm, rfl, f5.tup (f4.tup hb0), (hbt0.up f4.tupLe).up f5.tupLe, f5.get0 (f4.get0 ec3), fun z => ((hmo3 z).up f4.tupLe).up f5.tupLe, hdb, hwb0, fun H6 r us6 f6 e6 bt6 ec6 => ?_⟩
            walk_at "go"
            refine ⟨one (by simp), fun p3 n3 => ?_⟩
            have f7 := Fr.new (W := []) (o := .tup [.ref r]) n3
            refine g_catA (f7.tup (f6.tup upd_same)) upd_same (small_of (by refine Nat.le_trans (Nat.add_le_add_right (cutV_length _ _ _) _) ?_; simp)) (fun y H8 f8 e8 => ?_)
            walk_at "go"
            refine ⟨_, .ref y, rfl, (((f4.trans f5).nil.trans f6).trans f7.nil).trans f8.nil, ?_, ?_⟩
            · simp only [putS1, SAt]
              exact ⟨y, q0, r, us6, rfl, e8, f8.tup (f7.tup (f6.tup (f5.tup (f4.tup hq)))), f8.tup (f7.tup e6), (bt6.up f7.tupLe).up f8.tupLe⟩
            · simp only [putS1]
              exact f8.get0 (f7.get0 ec6)
          | «while» a b0 =>
            simp only [SAt] at hs3
            obtain ⟨p, qb, vs, rfl, hp, hb0, hbt0⟩ := hs3
            have hdb : depB b0 ≤ m := by simp only [depS] at hds; omega
            have hwb0 : wB b0 ≤ 5000 := by have := wWhile a b0; omega
            walk_at "go"
            refine g_ixT hp (by rfl) ?_
            walk_at "go"
            refine i_f (by rfl) ?_
            walk_at "go"
            refine g_ixT hp (by rfl) ?_
            walk_at "go"
            refine ⟨one (by simp), fun p1 n1 => ?_⟩
            refine g_inT upd_same rfl (by rfl) ?_
            walk_at "go"
            refine i_t (by decide +kernel) ?_
            walk_at "go"
            have f4 : Fr [] H3 (upd H3 p1 (.tup [.str "fn", .str "while", .str "times"])) := Fr.new n1
            refine ⟨p, _, rfl,   .inl (.of (f4.tup hp)), (by rintro ⟨_, z⟩; revert z; simp [HT.sIx]), fun p2 n2 => ?_⟩
            walk_at "go"
            have f5 := Fr.new (W := []) (o := .tup (cutV [.str "while", a.v, .ref qb] none (some (-1)))) n2
            refine g_ixT (f5.tup (f4.tup hp)) (v := .ref qb) (by rfl) ?_
            walk_at "go"
            refine ⟨qb, cn, vs, b0, c1 + 1, g, mo, vm, rfl, f5.tup (f4.tup hb0), (hbt0.up f4.tupLe).up f5.tupLe, f5.get0 (f4.get0 ec3), fun z => ((hmo3 z).up f4.tupLe).up f5.tupLe, hdb, hwb0, fun H6 r us6 f6 e6 bt6 ec6 => ?_⟩
            walk_at "go"
            refine ⟨one (by simp), fun p3 n3 => ?_⟩
            have f7 := Fr.new (W := []) (o := .tup [.ref r]) n3
            refine g_catA (f7.tup (f6.tup upd_same)) upd_same (small_of (by refine Nat.le_trans (Nat.add_le_add_right (cutV_length _ _ _) _) ?_; simp)) (fun y H8 f8 e8 => ?_)
            walk_at "go"
            refine ⟨_, .ref y, rfl, (((f4.trans f5).nil.trans f6).trans f7.nil).trans f8.nil, ?_, ?_⟩
            · simp only [putS1, SAt]
              exact ⟨y, r, us6, rfl, e8, f8.tup (f7.tup e6), (bt6.up f7.tupLe).up f8.tupLe⟩
            · simp only [putS1]
              exact f8.get0 (f7.get0 ec6)
          | times o x a b0 =>
            simp only [SAt] at hs3
            obtain ⟨p, qb, vs, rfl, hp, hb0, hbt0⟩ := hs3
            have hdb : depB b0 ≤ m := by simp only [depS] at hds; omega
            have hwb0 : wB b0 ≤ 5000 := by have := wTimes o x a b0; omega
            walk_at "go"
            refine g_ixT hp (by rfl) ?_
            walk_at "go"
            refine i_f (by rfl) ?_
            walk_at "go"
            refine g_ixT hp (by rfl) ?_
            walk_at "go"
            refine ⟨one (by simp), fun p1 n1 => ?_⟩
            refine g_inT upd_same rfl (by rfl) ?_
            walk_at "go"
            refine i_t (by decide +kernel) ?_
            walk_at "go"
            have f4 : Fr [] H3 (upd H3 p1 (.tup [.str "fn", .str "while", .str "times"])) := Fr.new n1
            refine ⟨p, _, rfl,   .inl (.of (f4.tup hp)), (by rintro ⟨_, z⟩; revert z; simp [HT.sIx]), fun p2 n2 => ?_⟩
            walk_at "go"
            have f5 := Fr.new (W := []) (o := .tup (cutV [.str "times", .str (if o = true then "own" else "one"), .str x, a.v, .ref qb] none (some (-1)))) n2
            refine g_ixT (f5.tup (f4.tup hp)) (v := .ref qb) (by rfl) ?_
            walk_at "go"
            refine ⟨qb, cn, vs, b0, c1 + 1, g, mo, vm, rfl, f5.tup (f4.tup hb0), (hbt0.up f4.tupLe).up f5.tupLe, f5.get0 (f4.get0 ec3), fun z => ((hmo3 z).up f4.tupLe).up f5.tupLe, hdb, hwb0, fun H6 r us6 f6 e6 bt6 ec6 => ?_⟩
            walk_at "go"
            refine ⟨one (by simp), fun p3 n3 => ?_⟩
            have f7 := Fr.new (W := []) (o := .tup [.ref r]) n3
            refine g_catA (f7.tup (f6.tup upd_same)) upd_same (small_of (by refine Nat.le_trans (Nat.add_le_add_right (cutV_length _ _ _) _) ?_; simp)) (fun y H8 f8 e8 => ?_)
            walk_at "go"
            refine ⟨_, .ref y, rfl, (((f4.trans f5).nil.trans f6).trans f7.nil).trans f8.nil, ?_, ?_⟩
            · simp only [putS1, SAt]
              exact ⟨y, r, us6, rfl, e8, f8.tup (f7.tup e6), (bt6.up f7.tupLe).up f8.tupLe⟩
            · simp only [putS1]
              exact f8.get0 (f7.get0 ec6)
          | ite a b0 d0 =>
            simp only [SAt] at hs3
            obtain ⟨p, qb, qd, vs, vd, rfl, hp, hb0, hbt0, hd0, hdt0⟩ := hs3
            have hmx : (depB b0).max (depB d0) ≤ m := by simp only [depS] at hds; omega
            obtain ⟨hdb, hdd⟩ := Nat.max_le.mp hmx
            have hwi := wIte a b0 d0
            walk_at "go"
            refine g_ixT hp (by rfl) ?_
            walk_at "go"
            refine i_t (by rfl) ?_
            walk_at "go"
            refine g_ixT hp (v := .ref qb) (by rfl) ?_
            walk_at "go"
            refine ⟨qb, cn, vs, b0, c1 + 1, g, mo, vm, rfl, hb0, hbt0, ec3, hmo3, hdb, by omega, fun H6 r us6 f6 e6 bt6 ec6 => ?_⟩
            walk_at "go"
            refine ⟨p, _, rfl, .inl (.of (f6.tup hp)), (by rintro ⟨_, z⟩; revert z; simp [HT.sIx]), fun p2 n2 => ?_⟩
            walk_at "go"
            have f5 := Fr.new (W := []) (o := .tup (cutV [.str "if", a.v, .ref qb, .ref qd] none (some 2))) n2
            refine g_ixT (f5.tup (f6.tup hp)) (v := .ref qd) (by rfl) ?_
            walk_at "go"
            refine ⟨qd, cn, vd, d0, _, g, mo, vm, rfl, f5.tup (f6.tup hd0), (hdt0.up f6.tupLe).up f5.tupLe, f5.get0 ec6, fun z => ((hmo3 z).up f6.tupLe).up f5.tupLe, hdd, by omega, fun H7 r2 us7 f7 e7 bt7 ec7 => ?_⟩
            walk_at "go"
            refine ⟨one (by simp), fun p3 n3 => ?_⟩
            have f9 := Fr.new (W := []) (o := .tup [.ref r, .ref r2]) n3
            refine g_catA (f9.tup (f7.tup upd_same)) upd_same (small_of (by refine Nat.le_trans (Nat.add_le_add_right (cutV_length _ _ _) _) ?_; simp)) (fun y H8 f8 e8 => ?_)
            walk_at "go"
            refine ⟨_, .ref y, rfl, (((f6.trans f5.nil).trans f7).trans f9.nil).trans f8.nil, ?_, ?_⟩
            · simp only [putS1, SAt]
              exact ⟨y, r, r2, us6, us7, rfl, e8, f8.tup (f9.tup (f7.tup (f5.tup e6))), (((bt6.up f5.tupLe).up f7.tupLe).up f9.tupLe).up f8.tupLe, f8.tup (f9.tup e7), (bt7.up f9.tupLe).up f8.tupLe⟩
            · simp only [putS1]
              exact f8.get0 (f9.get0 ec7)
        · rintro σ' H4 ⟨u6, y, rfl, f4, s4, ec4⟩
          have ef4 := f4.get ef3 (by simpa using Ne.symm ncf)
          walk_at "go"
          refine ⟨ty_l ef4, ?_⟩
          walk_at "go"
          refine g_append ef4 (small_lt (by omega)) ?_
          have fp : Fr [pf] H4 (upd H4 pf (.lst (us2 ++ [y]))) := Fr.put ef4 (by intro xs q; cases q) (by simp)
          walk_at "go"
          refine ⟨_, _, us2 ++ [y], rfl, (f3.trans f4).mut nf, upd_same, ?_, fp.get ec4 (by simpa using ncf)⟩
          show BAt _ (b1 ++ ((if (c1 : Int) = g then [mo] else []) ++ [(putS1 g mo st (c1 + 1)).1])) _
          rw [← List.append_assoc]
          exact ((bt3.up f4.tupLe).up fp.tupLe).append (BAt.one (s4.up fp.tupLe))
theorem ok_put_all (A : All K mg) : ∀ m : Nat, Ok P w K mg base CX0 (m + 1) "_law_put_in" ["_law_block_here", "_law_count", "_law_goal", "_law_more"] (spPut m)
  | 0 => ok_no A.put_in (fun _ _ _ _ _ _ us hl => match us, hl with | [_, _, _, _], _ => rfl) fun vs H Q E h => by
    obtain ⟨_, _, _, b, _, _, _, _, _, _, _, _, _, h, _⟩ := h
    have := depB_pos b
    omega
  | m + 1 => ok_put A (ok_put_all A m)
end
end Fb
set_option Elab.async false
set_option linter.all false
set_option maxRecDepth 100000
set_option maxHeartbeats 4000000
/-! BindError.__init__(self, text), BindError an own class under ValueError with no __init__ of its own. -/
namespace Fb
open PySem PySem.Spec PyProof.Rows L2
/-- what the written part says of the class B -/
structure BindC (K : PySem.W.Frag) (B : Addr) : Prop where
  ty : ∃ mc, PySem.W.readsIn K B mc = true ∧ PySem.W.findCls K (.ref B) mc "__init__" = some (.val (.builtin "ValueError.__init__"))
  ga : PySem.W.specialIn K (.ref B) "__getattribute__" = some (some (.builtin "type.__getattribute__"))
section
variable {X : Cx} {e : Expr} {es : List Expr} {ta : TA} {p1 p2 pos : Pos} {x : Str} {B : Addr}
theorem pe_bindinit {pl : Sem Bool} (hg : Gl X x) (hm : X.mg x = some (.ref B)) (TB : BindC X.K B) (ha : PA X (e :: es) ta) (hdb : (x == ("__debug__" : Str)) = false := by decide)
    (hc : eval (.Call (.Attribute (.Name x p1) "__init__" p2) (e :: es) [] pos) X.env = (do
      let ov ← eval (.Name x p1) X.env
      standAt p2.atName
      let (f, first) ← holding [ov] (getMethod ov "__init__" pl)
      callWith pos f first (backTo pos (starEach (e :: es) X.env)) (backToKw pos (keywordEach [] X.env))) := by rfl)
    (he : starEach (e :: es) X.env = (false, eval e X.env) :: starEach es X.env := by rfl) (hpl : (backTo pos (starEach es X.env)).any (·.1) = false := by rfl) :
    PE X (.Call (.Attribute (.Name x p1) "__init__" p2) (e :: es) [] pos) (tVeI X.K ta) := by
  refine ⟨fun pins s σ H Q I h => ?_⟩
  obtain ⟨mc, t1, t2⟩ := TB.ty
  refine PySem.W.methodCall_KW (ld_glob I hg hm ?_ hdb) hc
  refine PySem.W.method_cls I.kIn TB.ga (PySem.W.cls_value I.kIn t1 t2 (by decide +kernel) ?_)
  show wpAny _ _ (callWith pos (Value.builtin "ValueError.__init__") [] (backTo pos (starEach (e :: es) X.env)) []) _ _ _
  refine PyProof.Rows.callWith_method1 (thn (ha.run pos pins _ σ H _ (I.tok _) h) fun us s1 ⟨vs, H1, I1, r1, a, C, ws, ev, hl, T, ea, q⟩ => ?_) he hpl
  subst ev
  cases r1 with
  | @cons _ u0 _ ur ra rw' =>
    obtain rfl : u0 = Value.ref a := ra
    have hlen : ur.length ≤ sizeLine := by
      rw [← Paired.length rw', sizeLine_eq]
      omega
    exact oinit_ok T I1 ea hlen fun s' J => ⟨.non, H1, J, rfl, q⟩
end
end Fb
set_option Elab.async false
set_option linter.all false
set_option maxRecDepth 100000
set_option maxHeartbeats 4000000
/-! t[::-1], a tuple. -/
namespace Fb
open PySem PySem.Spec PyProof.Rows L2
theorem fm_congr {α β : Type} {f g : α → Option β} : ∀ {l : List α}, (∀ x ∈ l, f x = g x) → l.filterMap f = l.filterMap g
  | [], _ => rfl
  | x :: l, h => by rw [List.filterMap_cons, List.filterMap_cons, h x (by simp), fm_congr (fun y hy => h y (by simp [hy]))]
theorem rev_pick (xs : Array Value) : ((List.range xs.size).filterMap fun (m : Nat) => xs[(((xs.size : Int) - 1) + (m : Int) * -1).toNat]?).toArray = xs.toList.reverse.toArray := by
  have e : ∀ m ∈ List.range xs.size, xs[(((xs.size : Int) - 1) + (m : Int) * -1).toNat]? = xs[xs.size - 1 - m]? := fun m hm => by
    have := List.mem_range.mp hm
    have : (((xs.size : Int) - 1) + (m : Int) * -1).toNat = xs.size - 1 - m := by omega
    rw [this]
  have e2 : (List.range xs.size).filterMap (fun (m : Nat) => xs[(((xs.size : Int) - 1) + (m : Int) * -1).toNat]?) = ((List.range xs.size).map fun k => xs.size - 1 - k).filterMap (xs[·]?) := by
    rw [List.filterMap_map]
    exact fm_congr e
  rw [e2, PySem.W.krv_range, List.filterMap_reverse, PySem.W.krv_all]
section
variable {prog : Program} {w : World} {A : Around} {E : Value → Shared → Prop} {s : Shared}
theorem sliceApplied_rev {sl : Addr} {vl vu vs : Value} {n : Nat} {Q : Int × Int × Nat → Shared → Prop} (hs : s.heap.IsSliceOf sl vl vu vs) (pl : IsPart vl none) (pu : IsPart vu none) (ps : IsPart vs (some (-1)))
    (h : Q ((n : Int) - 1, -1, n) s) : wpAny (model prog w) A (Builtin.Slice.sliceApplied (.ref sl) (pure (n : Int))) Q E s := by
  obtain ⟨os, hos, hcs, hds⟩ := id hs
  unfold Builtin.Slice.sliceApplied Builtin.Slice.sliceFields
  refine wpAny_bind (wpAny_bind (wpAny_field hos hds (x := vl) rfl (wpAny_bind (wpAny_field hos hds (x := vu) rfl (wpAny_bind (wpAny_field hos hds (x := vs) rfl (wpAny_pure ?_)))))))
  refine wpAny_bind (HT.slicePart_ ps ?_)
  show wpAny _ _ (if ((-1 : Int) == 0) = true then _ else _) _ _ s
  rw [if_neg (by decide)]
  refine wpAny_bind (HT.slicePart_ pl (wpAny_bind (HT.slicePart_ pu (wpAny_bind (wpAny_pure ?_)))))
  show wpAny _ _ (pure (((n : Int) - 1), (-1 : Int), Builtin.Slice.slicePlaces ((n : Int) - 1) (-1) (-1))) _ _ s
  have e : Builtin.Slice.slicePlaces ((n : Int) - 1) (-1) (-1) = n := by
    unfold Builtin.Slice.slicePlaces
    rw [if_neg (by decide)]
    split
    · rw [show (- -1 : Int) = 1 by decide, Int.ediv_one]; omega
    · omega
  rw [e]
  exact wpAny_pure h
theorem getItem_tuple_rev {t sl : Addr} {items : Array Value} {vl vu vs : Value} {Q : Value → Shared → Prop} (ht : IsTup s.heap t items) (hs : s.heap.IsSliceOf sl vl vu vs) (pl : IsPart vl none) (pu : IsPart vu none) (ps : IsPart vs (some (-1)))
    (h : Q (.ref s.heap.objs.size) { s with heap := s.heap.push { cls := .type "tuple", data := .seq items.toList.reverse.toArray } })
    (hsz : items.size ≤ sizeLine) : wpAny (model prog w) A (getItem (.ref t) (.ref sl)) Q E s := by
  have htake : sizeOk (.seq items.toList.reverse.toArray) := by
    show items.toList.reverse.toArray.size ≤ sizeLine
    rw [List.size_toArray, List.length_reverse, Array.length_toList]
    exact hsz
  obtain ⟨os, hos, hcs, hds⟩ := id hs
  have hTs : s.TypeIs (.ref sl) "slice" := ⟨os, hos, hcs⟩
  unfold getItem
  try with_reducible refine wpAny_holding ?_
  first | refine wpAny_bind (wpAny_pure ?_) | skip
  refine wpAny_bind (wpAny_sequenceKey ht.typeIs (by decide) ?_)
  refine wpAny_bind (wpAny_callSpecial?_slot (name := Str.ofString "__getitem__") ht.typeIs PyProof.Rows.slot_tuple_getitem
    (wpAny_call_entry PyProof.Rows.slot_tuple_getitem ht.typeIs entry_tuple_getitem ?_ (args_tuple_getitem _ _)))
  show wpAny _ _ (Builtin.Tuple.tupleItemsOf (.ref t) >>= _) _ _ s
  refine wpAny_bind (tupleItemsOf_ ht ?_)
  refine wpAny_bind (wpAny_typeOf hTs ?_)
  rw [if_pos (by decide)]
  refine wpAny_bind (sliceApplied_rev hs pl pu ps ?_)
  show wpAny _ _ (if (((items.size : Int) - 1) == 0 && (-1 : Int) == 1 && items.size == items.size) = true then _ else _) _ _ s
  rw [if_neg (by simp), rev_pick]
  first
    | exact wpAny_bind (m := Builtin.Tuple.tupleExact _) (wpAny_newObj_type (wpAny_pure ⟨_, rfl, wpAny_pure h⟩) htake)
    | exact wpAny_bind (m := Builtin.Tuple.tupleExact _) (wpAny_newObj_type (wpAny_bind (wpAny_pure (wpAny_pure ⟨_, rfl, wpAny_pure h⟩))) htake)
    | exact wpAny_bind (wpAny_bind (m := Builtin.Tuple.tupleExact _) (wpAny_newObj_type (wpAny_pure (wpAny_pure ⟨_, rfl, wpAny_pure h⟩)) htake))
    | exact wpAny_bind (wpAny_bind (m := Builtin.Tuple.tupleExact _) (wpAny_newObj_type (wpAny_pure ⟨_, rfl, wpAny_pure h⟩) htake))
end
def tRevT (K : PySem.W.Frag) (te : TE) : TE := fun σ H Q => te σ H fun x H1 => ∃ a xs, x = .ref a ∧ SqT K H1 a xs ∧ ∀ p, H1 p = none → Q (.ref p) (upd H1 p (.tup xs.reverse))
section
variable {X : Cx}
theorem pe_rev_tup {e : Expr} {te : TE} {k : Nat} {p1 p2 p3 pos : Pos} (he : PE X e te) : PE X (.Subscript e (.Slice none none (some (.UnaryOp .USub (.Constant (.int 1) k p1) p2)) p3) pos) (tRevT X.K te) := by
  refine ⟨fun pins s σ H Q I h => ?_⟩
  refine Subscript_ (thn (he.run pins s σ H _ I h) fun v s1 ⟨x, H1, I1, r1, q1⟩ => ?_)
  obtain ⟨a, xs, ex, hx, q⟩ := q1
  subst ex
  cases r1
  have hst : PO X (some (.UnaryOp .USub (.Constant (.int 1) k p1) p2)) (tPart (tUn (rU fun i => .int (-i)) (tC (.int 1)))) := po_some (pe_un un_neg pe_int)
  refine wpAny_Slice (thn (po_none.run pins s1 σ H1 (fun o H2 => o = none ∧ H2 = H1) I1 ⟨rfl, rfl⟩) fun vl s2 ⟨l, H2, I2, pl, el, e2⟩ => ?_)
  subst el e2
  refine thn (po_none.run pins s2 σ H2 (fun o H3 => o = none ∧ H3 = H2) I2 ⟨rfl, rfl⟩) fun vu s3 ⟨u, H3, I3, pu, eu, e3⟩ => ?_
  subst eu e3
  refine thn (hst.run pins s3 σ H3 (fun o H4 => o = some (-1) ∧ H4 = H3) I3 ⟨1, rfl, -1, rfl, rfl, rfl⟩) fun vs s4 ⟨o, H4, I4, ps, eo, e4⟩ => ?_
  subst eo e4
  have I5 : Inv X pins σ H4 { s4 with heap := s4.heap.push { cls := .type "slice", data := .fields #[vl, vu, vs] } } := I4.kept (t' := s4.toks) fun b ob q => Heap.get?_push_of_some _ q
  obtain ⟨its, r, ht, hz⟩ := I5.tuple hx
  have hlen := r.length
  show wpAny (model X.prog X.w) X.A (subscriptTail e (.Slice none none (some (.UnaryOp .USub (.Constant (.int 1) k p1) p2)) p3) (.ref a) (.ref s4.heap.objs.size)) (EP X pins σ Q) X.xe { s4 with heap := s4.heap.push { cls := .type "slice", data := .fields #[vl, vu, vs] } }
  refine tail_any (ops := [.ref a, .ref s4.heap.objs.size]) ht.typeIs PyProof.Rows.slot_tuple_getitem.lookup ?_ (by with_unfolding_all rfl)
  refine getItem_tuple_rev ht (Heap.IsSliceOf.new _ vl vu vs) pl pu ps ?_ (by rw [List.size_toArray]; omega)
  refine ⟨.ref _, _, I5.laid (t' := s4.toks) (o := .tup xs.reverse) (fun b ob q => Heap.get?_push_of_some _ q) (Nat.le_refl _) ?_, rfl, q _ (I5.hok.fresh (Nat.le_refl _))⟩
  exact ⟨by rw [List.length_reverse]; exact hz, _, r.reverse, IsTup.new _ _⟩
end
end Fb
set_option Elab.async false
set_option linter.all false
set_option maxRecDepth 100000
set_option maxHeartbeats 4000000
namespace Fb
open PySem PySem.Spec PyProof.Rows L2
local macro_rules | `(tactic| walk_at "go1") => `(tactic| first
  | with_reducible refine g_seq ?_
  | with_reducible refine g_asg ?_
  | with_reducible refine g_name ?_
  | ((with_reducible refine' g_var ?h1 ?_); (case h1 => rfl))
  | with_reducible refine g_c ?_
  | with_reducible refine g_op ?_
  | with_reducible refine g_un ?_
  | with_reducible refine g_rU ?_
  | with_reducible refine g_yes ?_
  | with_reducible refine g_isN ?_
  | with_reducible refine g_notN ?_
  | with_reducible refine g_int1 ?_
  | with_reducible refine g_I0 ?_
  | ((with_reducible refine' g_eq ?h1 ?_); (case h1 => rfl))
  | ((with_reducible refine' g_ne ?h1 ?_); (case h1 => rfl))
  | with_reducible refine g_test ?_
  | with_reducible refine g_tb ?_
  | with_reducible refine g_bl ?_
  | with_reducible refine g_drop ?_
  | with_reducible refine g_ret ?_
  | with_reducible refine g_if ?_
  | with_reducible refine g_ife ?_
  | with_reducible refine g_and ?_
  | with_reducible refine g_or ?_
  | with_reducible refine g_not ?_
  | with_reducible refine g_next ?_
  | with_reducible refine g_nil ?_
  | with_reducible refine g_cons ?_
  | with_reducible refine g_cb ?_
  | with_reducible refine g_call ?_
  | with_reducible refine g_tup ?_
  | with_reducible refine g_lst ?_
  | with_reducible refine g_dget ?_
  | with_reducible refine g_dput ?_
  | with_reducible refine g_bm ?_
  | with_reducible refine g_lc ?_
  | with_reducible refine g_for ?_
  | with_reducible refine g_il ?_
  | with_reducible refine g_rng1 ?_
  | with_reducible refine g_gsub ?_
  | with_reducible refine g_din ?_
  | with_reducible refine g_disp ?_
  | with_reducible refine g_pairs ?_
  | with_reducible refine g_pairs0 ?_
  | with_reducible refine g_sl ?_
  | with_reducible refine g_part ?_
  | with_reducible refine g_part1 ?_
  | with_reducible refine g_nopart ?_
  | with_reducible refine g_andV ?_
  | with_reducible refine g_orV ?_
  | with_reducible refine g_notV ?_
  | with_reducible refine g_itp ?_
  | with_reducible refine g_par ?_
  | with_reducible refine g_par1 ?_
  | with_reducible refine g_par3 ?_
  | with_reducible refine g_par31 ?_
  | with_reducible refine g_gname ?_
  | with_reducible refine g_gcons ?_
  | with_reducible refine g_gnil ?_
  | with_reducible refine g_bm0 ?_)
local macro_rules | `(tactic| walk_at "go") => `(tactic| repeat walk_at "go1")
local macro_rules | `(tactic| walk_at "at") => `(tactic| repeat first
  | assumption
  | exact upd_same
  | with_reducible refine keep (by assumption) ?_
  | with_reducible refine keep_ne (by assumption) ?_
  | with_reducible refine Fr.get0 (by assumption) ?_
  | with_reducible refine Fr.get (by assumption) ?_ (by assumption)
  | with_reducible refine Fr.tup (by assumption) ?_)
local macro_rules | `(tactic| walk_at "fr") => `(tactic| repeat first
  | assumption
  | exact Fr.refl _ _
  | with_reducible refine Fr.trans ?_ (Fr.new (by assumption))
  | with_reducible refine Fr.trans ?_ (Fr.nil (by assumption))
  | with_reducible refine Fr.trans ?_ (by assumption))
local macro_rules | `(tactic| walk_at "gn") => `(tactic| repeat first
  | assumption
  | with_reducible refine Gn.fr0 ?_ (Fr.new (by assumption))
  | with_reducible refine Gn.fr0 ?_ (by assumption))
local macro_rules | `(tactic| walk_at "bt") => `(tactic| repeat first
  | assumption
  | with_reducible refine BAt.up (Fr.new (W := []) (by assumption)).1 _ _ ?_
  | with_reducible refine SAt.up (Fr.new (W := []) (by assumption)).1 _ _ ?_
  | with_reducible refine BAt.up (Fr.tupLe (by assumption)) _ _ ?_
  | with_reducible refine SAt.up (Fr.tupLe (by assumption)) _ _ ?_)
def spAtoms : Sp := fun vs H Q _ => ∃ (st : Stm) (v : V), vs = [v] ∧ SAt H st v ∧ 1 + depS st ≤ 1000 ∧ ∀ (H' : Hp) (p : Addr) (L : List V), Fr [] H H' → H' p = some (.tup L) → L.filterMap strF = st.uses.map V.str → (∀ v ∈ L, (∃ z, v = .str z) ∨ ∃ n, v = .int n) → L.length ≤ 5000 → Q (.ref p) H'
def spUses : Sp := fun vs H Q _ => ∃ (st : Stm) (v : V), vs = [v] ∧ SAt H st v ∧ 1 + depS st ≤ 1000 ∧ ∀ (H' : Hp) (p : Addr), Fr [] H H' → H' p = some (.lst (st.uses.map V.str)) → Q (.ref p) H'
theorem g_revT {K : PySem.W.Frag} {σ : L2.St} {H : Hp} {Q : VK} {te : TE} (q : te σ H fun x H1 => ∃ a xs, x = .ref a ∧ SqT K H1 a xs ∧ ∀ p, H1 p = none → Q (.ref p) (upd H1 p (.tup xs.reverse))) : tRevT K te σ H Q := q
theorem Paired.rev {α β : Type} {F : α → β → Prop} : ∀ {xs : List α} {ys : List β}, Paired F xs ys → Paired F xs.reverse ys.reverse
  | _, _, .nil => .nil
  | _, _, .cons r t => by rw [List.reverse_cons, List.reverse_cons]; exact Paired.snoc (Paired.rev t) r
/-- meant_by(name, scopes): scopes a tuple of dicts, outermost first -/
def spMeant : Sp := fun vs H Q _ => ∃ (x : Str) (L : Addr) (scs : List Addr) (sc : List Scp), vs = [.str x, .ref L] ∧ H L = some (.tup (scs.map V.ref)) ∧ Paired (fun a c => H a = some (.dK (ck c))) scs sc.reverse ∧
  ∀ H', Fr [] H H' → Q (onv (lookS sc x)) H'
section
variable {P : Program} {w : World} {K : PySem.W.Frag} {mg : Str → Option Value} {base : Heap}
theorem sc_atoms_of : FnScope ["statement", "word"] ["statement"] (defScope (topS 4)) := ⟨rfl, rfl, rfl, by decide +kernel, rfl, by decide +kernel, by decide +kernel⟩
theorem ok_atoms_of (A : All K mg) : Ok P w K mg base CX0 1 "atoms_of" ["statement"] spAtoms := by
  refine ok_of0 A.atoms_of sc_atoms_of (fun _ _ _ _ _ _ us hl => match us, hl with | [_], _ => rfl) (fun vs H Q E h => ?_) (fun f cdv Ar outer s H vs Q E hr h => ?_)
  · obtain ⟨_, _, rfl, _⟩ := h; rfl
  · obtain ⟨st, v, rfl, hs, hdp, q⟩ := h
    refine ⟨_, (pss_cons (ps_set (i := 1) sc_atoms_of.nd rfl (Or.inl rfl) (pe_ix (ix_tupK (K := K)) (pv 0) pe_int (fun _ _ => rfl)))
    (pss_cons (ps_if (pt_cmpR op_eq (pv 1) pe_str (nomark _)) (pss_one (ps_ret (pe_tup pa_nil))) pss_nil)
    (pss_cons (ps_if (pt_cmpR op_eq (pv 1) pe_str (nomark _)) (pss_one (ps_ret (pe_op (op_catAK (K := K)) (pe_tup (pa_cons (pe_ix (ix_tupK (K := K)) (pv 0) pe_int (fun _ _ => rfl)) pa_nil)) (pe_ix (ix_tupK (K := K)) (pv 0) pe_int (fun _ _ => rfl))))) pss_nil)
    (pss_cons (ps_if (pt_cmpR op_eq (pv 1) pe_str (nomark _)) (pss_one (ps_ret (pe_slice sl_tup (pv 0) (po_some pe_int) po_none))) pss_nil)
    (pss_cons (ps_if (pt_cmpR op_eq (pv 1) pe_str (nomark _)) (pss_one (ps_ret (pe_slice sl_tup (pv 0) (po_some pe_int) po_none))) pss_nil)
    (pss_cons (ps_if (pt_cmpR op_eq (pv 1) pe_str (nomark _)) (pss_one (ps_ret (pe_slice sl_tup (pv 0) (po_some pe_int) po_none))) pss_nil)
    (pss_cons (ps_if (pt_cmpR op_eq (pv 1) pe_str (nomark _)) (pss_one (ps_ret (pe_tup (pa_cons (pe_ix (ix_tupK (K := K)) (pv 0) pe_int (fun _ _ => rfl)) pa_nil)))) pss_nil)
    (pss_one (ps_ret (pe_tup (pa_cons (pe_ix (ix_tupK (K := K)) (pv 0) pe_int (fun _ _ => rfl)) pa_nil))))))))))), ?_⟩
    have one : ∀ {n : Nat}, n ≤ 10 → n ≤ sizeLine := fun h => small_of (by omega)
    walk_at "go"
    cases st with
    | let_ x a =>
      simp only [SAt] at hs
      obtain ⟨p, rfl, hp⟩ := hs
      refine g_ixT hp (by rfl) ?_
      walk_at "go"
      refine i_f (by rfl) ?_
      walk_at "go"
      refine i_f (by rfl) ?_
      walk_at "go"
      refine i_f (by rfl) ?_
      walk_at "go"
      refine i_t (by rfl) ?_
      walk_at "go"
      refine ⟨p, _, rfl, .inl (.of hp), (by rintro ⟨z, _⟩; revert z; simp [HT.sIx]), fun p1 n1 => ?_⟩
      exact q _ p1 [a.v] (Fr.new n1) upd_same (strF1 a) (by intro v hv; rw [List.mem_singleton.mp hv]; exact atmF a) (by simp)
    | sum x s0 a b =>
      simp only [SAt] at hs
      obtain ⟨p, rfl, hp⟩ := hs
      refine g_ixT hp (by rfl) ?_
      walk_at "go"
      refine i_f (by rfl) ?_
      walk_at "go"
      refine i_f (by rfl) ?_
      walk_at "go"
      refine i_t (by rfl) ?_
      walk_at "go"
      refine ⟨p, _, rfl, .inl (.of hp), (by rintro ⟨z, _⟩; revert z; simp [HT.sIx]), fun p1 n1 => ?_⟩
      exact q _ p1 [a.v, b.v] (Fr.new n1) upd_same (by rw [show [a.v, b.v] = [a.v] ++ [b.v] from rfl, List.filterMap_append, strF1, strF1]; simp [Stm.uses]) (by intro v hv; simp at hv; rcases hv with rfl | rfl; exact atmF a; exact atmF b) (by simp)
    | fn x ps b =>
      simp only [SAt] at hs
      obtain ⟨p, q0, r0, vs, rfl, hp, _⟩ := hs
      refine g_ixT hp (by rfl) ?_
      walk_at "go"
      refine i_t (by rfl) ?_
      walk_at "go"
      refine ⟨one (by simp), fun p1 n1 => ?_⟩
      exact q _ p1 [] (Fr.new n1) upd_same rfl (by simp) (by simp)
    | call x f0 as =>
      have harg : as.length ≤ 4000 := by simp only [depS] at hdp; omega
      simp only [SAt] at hs
      obtain ⟨p, q0, rfl, hp, hq⟩ := hs
      refine g_ixT hp (by rfl) ?_
      walk_at "go"
      refine i_f (by rfl) ?_
      walk_at "go"
      refine i_t (by rfl) ?_
      walk_at "go"
      refine g_ixT hp (by rfl) ?_
      walk_at "go"
      refine ⟨one (by simp), fun p1 n1 => ?_⟩
      walk_at "go"
      refine g_ixT (keep n1 hp) (by rfl) ?_
      refine g_catA upd_same (keep n1 hq) (small_of (by simp; omega)) (fun r H2 f2 e2 => ?_)
      exact q H2 r (.str f0 :: as.map Atm.v) ((Fr.new n1).trans f2) e2 (by rw [show (V.str f0 :: as.map Atm.v) = [V.str f0] ++ as.map Atm.v from rfl, List.filterMap_append, strFs]; simp [Stm.uses, strF]) (by intro v hv; rcases List.mem_cons.mp hv with h | h; exact .inl ⟨f0, h⟩; obtain ⟨a, _, rfl⟩ := List.mem_map.mp h; exact atmF a) (by simp; omega)
    | set x a =>
      simp only [SAt] at hs
      obtain ⟨p, rfl, hp⟩ := hs
      refine g_ixT hp (by rfl) ?_
      walk_at "go"
      refine i_f (by rfl) ?_
      walk_at "go"
      refine i_f (by rfl) ?_
      walk_at "go"
      refine i_f (by rfl) ?_
      walk_at "go"
      refine i_f (by rfl) ?_
      walk_at "go"
      refine i_t (by rfl) ?_
      walk_at "go"
      refine ⟨p, _, rfl, .inl (.of hp), (by rintro ⟨z, _⟩; revert z; simp [HT.sIx]), fun p1 n1 => ?_⟩
      exact q _ p1 [.str x, a.v] (Fr.new n1) upd_same (by rw [show [V.str x, a.v] = [V.str x] ++ [a.v] from rfl, List.filterMap_append, strF1]; simp [Stm.uses, strF]) (by intro v hv; simp at hv; rcases hv with rfl | rfl; exact .inl ⟨x, rfl⟩; exact atmF a) (by simp)
    | tell a =>
      simp only [SAt] at hs
      obtain ⟨p, rfl, hp⟩ := hs
      refine g_ixT hp (by rfl) ?_
      walk_at "go"
      refine i_f (by rfl) ?_
      walk_at "go"
      refine i_f (by rfl) ?_
      walk_at "go"
      refine i_f (by rfl) ?_
      walk_at "go"
      refine i_f (by rfl) ?_
      walk_at "go"
      refine i_f (by rfl) ?_
      walk_at "go"
      refine i_f (by rfl) ?_
      walk_at "go"
      refine g_ixT hp (by rfl) ?_
      walk_at "go"
      refine ⟨one (by simp), fun p1 n1 => ?_⟩
      exact q _ p1 [a.v] (Fr.new n1) upd_same (strF1 a) (by intro v hv; rw [List.mem_singleton.mp hv]; exact atmF a) (by simp)
    | give a =>
      simp only [SAt] at hs
      obtain ⟨p, rfl, hp⟩ := hs
      refine g_ixT hp (by rfl) ?_
      walk_at "go"
      refine i_f (by rfl) ?_
      walk_at "go"
      refine i_f (by rfl) ?_
      walk_at "go"
      refine i_f (by rfl) ?_
      walk_at "go"
      refine i_f (by rfl) ?_
      walk_at "go"
      refine i_f (by rfl) ?_
      walk_at "go"
      refine i_f (by rfl) ?_
      walk_at "go"
      refine g_ixT hp (by rfl) ?_
      walk_at "go"
      refine ⟨one (by simp), fun p1 n1 => ?_⟩
      exact q _ p1 [a.v] (Fr.new n1) upd_same (strF1 a) (by intro v hv; rw [List.mem_singleton.mp hv]; exact atmF a) (by simp)
    | ite a b c =>
      simp only [SAt] at hs
      obtain ⟨p, q0, r0, vs, ws, rfl, hp, _⟩ := hs
      refine g_ixT hp (by rfl) ?_
      walk_at "go"
      refine i_f (by rfl) ?_
      walk_at "go"
      refine i_f (by rfl) ?_
      walk_at "go"
      refine i_f (by rfl) ?_
      walk_at "go"
      refine i_f (by rfl) ?_
      walk_at "go"
      refine i_f (by rfl) ?_
      walk_at "go"
      refine i_f (by rfl) ?_
      walk_at "go"
      refine g_ixT hp (by rfl) ?_
      walk_at "go"
      refine ⟨one (by simp), fun p1 n1 => ?_⟩
      exact q _ p1 [a.v] (Fr.new n1) upd_same (strF1 a) (by intro v hv; rw [List.mem_singleton.mp hv]; exact atmF a) (by simp)
    | «while» a b =>
      simp only [SAt] at hs
      obtain ⟨p, q0, vs, rfl, hp, _⟩ := hs
      refine g_ixT hp (by rfl) ?_
      walk_at "go"
      refine i_f (by rfl) ?_
      walk_at "go"
      refine i_f (by rfl) ?_
      walk_at "go"
      refine i_f (by rfl) ?_
      walk_at "go"
      refine i_f (by rfl) ?_
      walk_at "go"
      refine i_f (by rfl) ?_
      walk_at "go"
      refine i_f (by rfl) ?_
      walk_at "go"
      refine g_ixT hp (by rfl) ?_
      walk_at "go"
      refine ⟨one (by simp), fun p1 n1 => ?_⟩
      exact q _ p1 [a.v] (Fr.new n1) upd_same (strF1 a) (by intro v hv; rw [List.mem_singleton.mp hv]; exact atmF a) (by simp)
    | times o x a b =>
      simp only [SAt] at hs
      obtain ⟨p, q0, vs, rfl, hp, _⟩ := hs
      refine g_ixT hp (by rfl) ?_
      walk_at "go"
      refine i_f (by rfl) ?_
      walk_at "go"
      refine i_f (by rfl) ?_
      walk_at "go"
      refine i_f (by rfl) ?_
      walk_at "go"
      refine i_f (by rfl) ?_
      walk_at "go"
      refine i_f (by rfl) ?_
      walk_at "go"
      refine i_t (by rfl) ?_
      walk_at "go"
      refine g_ixT hp (by rfl) ?_
      walk_at "go"
      refine ⟨one (by simp), fun p1 n1 => ?_⟩
      exact q _ p1 [a.v] (Fr.new n1) upd_same (strF1 a) (by intro v hv; rw [List.mem_singleton.mp hv]; exact atmF a) (by simp)
theorem sc_uses_of : FnScope ["statement", "atom"] ["statement"] (defScope (topS 5)) := ⟨rfl, rfl, rfl, by decide +kernel, rfl, by decide +kernel, by decide +kernel⟩
theorem ok_uses_of (A : All K mg) : Ok P w K mg base CX0 2 "uses_of" ["statement"] spUses := by
  have O_atoms_of : Ok P w K mg base CX0 1 "atoms_of" ["statement"] spAtoms := ok_atoms_of A
  refine ok_of0 A.uses_of sc_uses_of (fun _ _ _ _ _ _ us hl => match us, hl with | [_], _ => rfl) (fun vs H Q E h => ?_) (fun f cdv Ar outer s H vs Q E hr h => ?_)
  · obtain ⟨_, _, rfl, _⟩ := h; rfl
  · obtain ⟨st, v, rfl, hs, hdp, q⟩ := h
    refine ⟨_, (pss_one (ps_ret (pe_lc (own := [("atom", 1)]) (g := gName 1) (by rfl) sc_uses_of.nd (pi_tup (pe_ok O_atoms_of (hr.mono (by omega)) (pa_cons (pv 0) pa_nil))) (blkOk_by (own := [("atom", 1)]) (N := ["statement", "atom"]) (sc := defScope (topS 5)) (by decide +kernel)) (fun _ _ _ _ _ => (pg_nameL (i := 1) sc_uses_of.nd rfl rfl)) (fun _ _ _ _ _ => (pts_one (pt_val (pe_callB (call_isiKK (K := K)) (by rfl) A.isinstance (by decide +kernel) (pa_cons (pv 1) (pa_cons (pe_bltn (v := .ty "str") (by rfl) A.str (by decide +kernel) rfl) pa_nil)))))) (fun _ _ _ _ _ => (pv 1))))), ?_⟩
    walk_at "go"
    refine ⟨st, v, rfl, hs, hdp, fun H' p L f hl e1 e2 e3 => ?_⟩
    refine lc_tupP strF hl (fun p2 n2 => ?_) (fun D i x hD hx => ?_)
    · rw [e1]
      exact q _ p2 (f.trans (Fr.new n2)) upd_same
    · walk_at "go"
      refine ⟨rfl, ?_⟩
      walk_at "go"
      rcases e2 x (List.mem_of_getElem? hx) with ⟨z, rfl⟩ | ⟨n, rfl⟩
      · refine g_isi (.base (.str z)) (b := true) (by decide +kernel) ?_
        walk_at "go"
        refine i_t rfl ?_
        walk_at "go"
        exact pu_yes (small_lt (by omega)) hx rfl
      · refine g_isi (.base (.int n)) (b := false) (by decide +kernel) ?_
        walk_at "go"
        refine i_f rfl ?_
        exact pu_no hx rfl
theorem sc_meant_by : FnScope ["name", "scopes", "scope"] ["name", "scopes"] (defScope (topS 7)) := ⟨rfl, rfl, rfl, by decide +kernel, rfl, by decide +kernel, by decide +kernel⟩
theorem ok_meant_by (A : All K mg) : Ok P w K mg base CX0 1 "meant_by" ["name", "scopes"] spMeant := by
  refine ok_of0 A.meant_by sc_meant_by (fun _ _ _ _ _ _ us hl => match us, hl with | [_, _], _ => rfl) (fun vs H Q E h => ?_) (fun f cdv Ar outer s H vs Q E hr h => ?_)
  · obtain ⟨_, _, _, _, rfl, _⟩ := h; rfl
  · obtain ⟨x, L, scs, sc, rfl, hL, hp, q⟩ := h
    refine ⟨_, (pss_cons (ps_for PassesOwn.never rfl (pi_tup (pe_rev_tup (pv 1))) (pg_name (i := 2) sc_meant_by.nd rfl (Or.inl rfl)) (pss_one (ps_if (pt_cmp (pc_din (hu_of hr) (pv 0) (pv 2))) (pss_one (ps_ret (pe_dget (hu_of hr) (pv 2) (pv 0) (fun _ _ => rfl)))) pss_nil)))
    (pss_one (ps_ret pe_non))), ?_⟩
    walk_at "go"
    refine g_revT (g_var (by rfl) ⟨L, _, rfl, .inl (.of hL), fun p np => ?_⟩)
    rw [← List.map_reverse]
    have f0 : Fr [] H (upd H p (.tup (scs.reverse.map V.ref))) := Fr.new np
    have pr : Paired (fun a c => (upd H p (.tup (scs.reverse.map V.ref))) a = some (.dK (ck c))) scs.reverse sc := by
      have := Paired.rev (Paired.imp' hp fun _ _ _ z => f0.get0 z)
      rwa [List.reverse_reverse] at this
    refine for_tup (xs := scs.reverse.map V.ref) (fun i σ' H' => ∃ u, σ' = [some (.str x), some (.ref L), u] ∧ H' = upd H p (.tup (scs.reverse.map V.ref)) ∧ lookS sc x = lookS (sc.drop i) x)
      ⟨_, rfl, rfl, by rw [List.drop_zero]⟩ (fun i σ' H' ⟨_, _, e, _⟩ => by rw [e]; exact upd_same) (fun σ' H' pp => ?_) (fun i y σ' H' hy pp => ?_)
    · obtain ⟨u, rfl, rfl, e⟩ := pp
      walk_at "go"
      have hl : (scs.reverse.map V.ref).length = sc.length := by rw [List.length_map]; exact pr.length
      rw [hl, List.drop_length] at e
      have := q _ f0
      rw [e] at this
      exact this
    · obtain ⟨u, rfl, rfl, e⟩ := pp
      obtain ⟨a, ha, rfl⟩ := map_at hy
      obtain ⟨c, hc, hac⟩ := Paired.at pr ha
      have hil : i < sc.length := (List.getElem?_eq_some_iff.mp hc).1
      have hdrop : sc.drop i = c :: sc.drop (i + 1) := by
        rw [List.drop_eq_getElem_cons hil]
        have := (List.getElem?_eq_some_iff.mp hc).2
        rw [this]
      rw [hdrop] at e
      walk_at "go"
      refine ⟨a, _, rfl, kvo hac, ?_⟩
      rw [ck_val, Option.isSome_map]
      refine ⟨_, rfl, ?_⟩
      cases eg : getS c x with
      | some v =>
        refine i_t rfl ?_
        walk_at "go"
        refine ⟨_, _, rfl, kvl hac (by rw [ck_val, eg]; rfl), ?_⟩
        have := q _ f0
        rw [e] at this
        have e2 : lookS (c :: sc.drop (i + 1)) x = some v := by show (getS c x).or _ = _; rw [eg]; rfl
        rw [e2] at this
        exact this
      | none =>
        refine i_f rfl ?_
        walk_at "go"
        refine ⟨_, rfl, rfl, ?_⟩
        rw [e]
        show (getS c x).or _ = _
        rw [eg]; rfl
end
end Fb
set_option Elab.async false
set_option linter.all false
set_option maxRecDepth 100000
set_option maxHeartbeats 4000000
namespace Fb
open PySem PySem.Spec PyProof.Rows L2
local macro_rules | `(tactic| walk_at "go1") => `(tactic| first
  | with_reducible refine g_seq ?_
  | with_reducible refine g_asg ?_
  | with_reducible refine g_name ?_
  | ((with_reducible refine' g_var ?h1 ?_); (case h1 => rfl))
  | with_reducible refine g_c ?_
  | with_reducible refine g_op ?_
  | with_reducible refine g_un ?_
  | with_reducible refine g_rU ?_
  | with_reducible refine g_yes ?_
  | with_reducible refine g_isN ?_
  | with_reducible refine g_notN ?_
  | with_reducible refine g_int1 ?_
  | with_reducible refine g_I0 ?_
  | ((with_reducible refine' g_eq ?h1 ?_); (case h1 => rfl))
  | ((with_reducible refine' g_ne ?h1 ?_); (case h1 => rfl))
  | with_reducible refine g_test ?_
  | with_reducible refine g_tb ?_
  | with_reducible refine g_bl ?_
  | with_reducible refine g_drop ?_
  | with_reducible refine g_ret ?_
  | with_reducible refine g_if ?_
  | with_reducible refine g_ife ?_
  | with_reducible refine g_and ?_
  | with_reducible refine g_or ?_
  | with_reducible refine g_not ?_
  | with_reducible refine g_next ?_
  | with_reducible refine g_nil ?_
  | with_reducible refine g_cons ?_
  | with_reducible refine g_cb ?_
  | with_reducible refine g_call ?_
  | with_reducible refine g_tup ?_
  | with_reducible refine g_lst ?_
  | with_reducible refine g_dget ?_
  | with_reducible refine g_dput ?_
  | with_reducible refine g_bm ?_
  | with_reducible refine g_lc ?_
  | with_reducible refine g_for ?_
  | with_reducible refine g_il ?_
  | with_reducible refine g_rng1 ?_
  | with_reducible refine g_gsub ?_
  | with_reducible refine g_din ?_
  | with_reducible refine g_disp ?_
  | with_reducible refine g_pairs ?_
  | with_reducible refine g_pairs0 ?_
  | with_reducible refine g_sl ?_
  | with_reducible refine g_part ?_
  | with_reducible refine g_part1 ?_
  | with_reducible refine g_nopart ?_
  | with_reducible refine g_andV ?_
  | with_reducible refine g_orV ?_
  | with_reducible refine g_notV ?_
  | with_reducible refine g_itp ?_
  | with_reducible refine g_par ?_
  | with_reducible refine g_par1 ?_
  | with_reducible refine g_par3 ?_
  | with_reducible refine g_par31 ?_
  | with_reducible refine g_gname ?_
  | with_reducible refine g_gcons ?_
  | with_reducible refine g_gnil ?_
  | with_reducible refine g_bm0 ?_)
local macro_rules | `(tactic| walk_at "go") => `(tactic| repeat walk_at "go1")
local macro_rules | `(tactic| walk_at "at") => `(tactic| repeat first
  | assumption
  | exact upd_same
  | with_reducible refine keep (by assumption) ?_
  | with_reducible refine keep_ne (by assumption) ?_
  | with_reducible refine Fr.get0 (by assumption) ?_
  | with_reducible refine Fr.get (by assumption) ?_ (by assumption)
  | with_reducible refine Fr.tup (by assumption) ?_)
local macro_rules | `(tactic| walk_at "fr") => `(tactic| repeat first
  | assumption
  | exact Fr.refl _ _
  | with_reducible refine Fr.trans ?_ (Fr.new (by assumption))
  | with_reducible refine Fr.trans ?_ (Fr.nil (by assumption))
  | with_reducible refine Fr.trans ?_ (by assumption))
local macro_rules | `(tactic| walk_at "gn") => `(tactic| repeat first
  | assumption
  | with_reducible refine Gn.fr0 ?_ (Fr.new (by assumption))
  | with_reducible refine Gn.fr0 ?_ (by assumption))
local macro_rules | `(tactic| walk_at "bt") => `(tactic| repeat first
  | assumption
  | with_reducible refine BAt.up (Fr.new (W := []) (by assumption)).1 _ _ ?_
  | with_reducible refine SAt.up (Fr.new (W := []) (by assumption)).1 _ _ ?_
  | with_reducible refine BAt.up (Fr.tupLe (by assumption)) _ _ ?_
  | with_reducible refine SAt.up (Fr.tupLe (by assumption)) _ _ ?_)
/-- a method as a def -/
def FdM (K : PySem.W.Frag) (x q : Str) (st : Stmt) (f : Addr) : Prop := ∃ fd, FunD K x q (defArgs st) (defBody st) (defScope st) [] [] f fd
structure Np (K : PySem.W.Frag) (mg : Str → Option Value) (C B fI : Addr) : Prop where
  mgC : mg "NoProgram" = some (.ref C)
  mgB : mg "BindError" = some (.ref B)
  T : OexC K C
  TB : BindC K B
  iC : PySem.W.findIn K (.ref C) "__init__" = some (some (.ref fI))
  tI : PySem.W.typeIn K (.ref fI) = some (.type "function")
  fI_ : FdM K "__init__" "NoProgram.__init__" (inClass (topS 2) 0) fI
  nw : PySem.W.findIn K (.ref C) "word" = some none
  na : PySem.W.findIn K (.ref C) "at" = some none
  nn : PySem.W.findIn K (.ref C) "name" = some none
theorem g_vei {K : PySem.W.Frag} {σ : L2.St} {H : Hp} {Q : VK} {ta : TA} (q : ta σ H fun vs H1 => ∃ (a C : Addr) (ws : List V), vs = .ref a :: ws ∧ ws.length ≤ 1000 ∧ OexC K C ∧ H1 a = some (exo a C none) ∧ Q .non H1) : tVeI K ta σ H Q := q
theorem g_ost {K : PySem.W.Frag} {σ : L2.St} {H : Hp} {D : Ends} {f : Str} {to te : TE} (q : te σ H fun y H1 => to σ H1 fun x H2 => ∃ a C : Addr, x = .ref a ∧ OexC K C ∧ PySem.W.findIn K (.ref C) f = some none ∧
  ((H2 a = some (exo a C none) ∧ ∀ dx, H2 dx = none → dx ≠ a → D.nx σ (upd (upd H2 dx (exd dx [(f, y)])) a (exo a C (some dx)))) ∨
    ∃ (dx : Addr) (fs : List (Str × V)), H2 a = some (exo a C (some dx)) ∧ H2 dx = some (exd dx fs) ∧ fs.length ≤ 900 ∧ D.nx σ (upd H2 dx (exd dx ((f, y) :: fs))))) : tOst K f to te D σ H := q
/-- NoProgram.__init__(self, word, at, name) -/
def spNpI (C : Addr) : Sp := fun vs H Q _ => ∃ (a : Addr) (wv av nv : V), vs = [.ref a, wv, av, nv] ∧ H a = some (exo a C none) ∧
  ∀ dx H', H dx = none → dx ≠ a → H' = upd (upd H dx (exd dx [("name", nv), ("at", av), ("word", wv)])) a (exo a C (some dx)) → Q .non H'
section
variable {P : Program} {w : World} {K : PySem.W.Frag} {mg : Str → Option Value} {base : Heap}
theorem sc_NoProgram___init__ : FnScope ["self", "word", "at", "name"] ["self", "word", "at", "name"] (defScope ((inClass (topS 2) 0))) := ⟨rfl, rfl, rfl, by decide +kernel, rfl, by decide +kernel, by decide +kernel⟩
theorem ok_npi {C B fI : Addr} (N : Np K mg C B fI) : ∃ fd, Binds K fd ["self", "word", "at", "name"] [] ∧ FnOk P w K mg base CX0 1 fI fd ["self", "word", "at", "name"] (spNpI C) := by
  obtain ⟨fd, F⟩ := N.fI_
  refine ⟨fd, F.bindsN (fun _ _ _ _ _ _ us hl => match us, hl with | [_, _, _, _], _ => rfl), F.ok sc_NoProgram___init__ (fun vs H Q E h => ?_) fun cdv Ar outer s H vs Q E hr h => ?_⟩
  · obtain ⟨_, _, _, _, rfl, _⟩ := h; rfl
  · obtain ⟨a, wv, av, nv, rfl, ha, q⟩ := h
    have gB := N.mgB
    have TB := N.TB
    refine ⟨_, PSs.nox (pss_cons (ps_expr (pe_bindinit (by rfl) gB TB (pa_cons (pv 0) (pa_cons pe_str pa_nil))))
    (pss_cons (ps_ost (pv 0) (pv 1))
    (pss_cons (ps_ost (pv 0) (pv 2))
    (pss_one (ps_ost (pv 0) (pv 3)))))), ?_⟩
    walk_at "go"
    with_reducible refine g_vei ?_
    walk_at "go"
    refine ⟨a, C, [.str _], rfl, by decide, N.T, ha, ?_⟩
    walk_at "go"
    with_reducible refine g_ost ?_
    walk_at "go"
    refine ⟨a, C, rfl, N.T, N.nw, .inl ⟨ha, fun dx nd ne => ?_⟩⟩
    walk_at "go"
    with_reducible refine g_ost ?_
    walk_at "go"
    refine ⟨a, C, rfl, N.T, N.na, .inr ⟨dx, _, upd_same, (upd_ne ne).trans upd_same, by simp, ?_⟩⟩
    walk_at "go"
    with_reducible refine g_ost ?_
    walk_at "go"
    refine ⟨a, C, rfl, N.T, N.nn, .inr ⟨dx, _, (upd_ne (Ne.symm ne)).trans upd_same, upd_same, by simp, ?_⟩⟩
    refine q dx _ nd ne ?_
    funext b
    unfold upd
    by_cases h1 : b = dx
    · have h2 : b ≠ a := by rw [h1]; exact ne
      simp [h1, ne]
    · by_cases h2 : b = a
      · simp [h1, h2, Ne.symm ne]
      · simp [h1, h2]
end
end Fb
set_option Elab.async false
set_option linter.all false
set_option maxRecDepth 100000
set_option maxHeartbeats 4000000
namespace Fb
open PySem PySem.Spec PyProof.Rows L2
local macro_rules | `(tactic| walk_at "go1") => `(tactic| first
  | with_reducible refine g_seq ?_
  | with_reducible refine g_asg ?_
  | with_reducible refine g_name ?_
  | ((with_reducible refine' g_var ?h1 ?_); (case h1 => rfl))
  | with_reducible refine g_c ?_
  | with_reducible refine g_op ?_
  | with_reducible refine g_un ?_
  | with_reducible refine g_rU ?_
  | with_reducible refine g_yes ?_
  | with_reducible refine g_isN ?_
  | with_reducible refine g_notN ?_
  | with_reducible refine g_int1 ?_
  | with_reducible refine g_I0 ?_
  | ((with_reducible refine' g_eq ?h1 ?_); (case h1 => rfl))
  | ((with_reducible refine' g_ne ?h1 ?_); (case h1 => rfl))
  | with_reducible refine g_test ?_
  | with_reducible refine g_tb ?_
  | with_reducible refine g_bl ?_
  | with_reducible refine g_drop ?_
  | with_reducible refine g_ret ?_
  | with_reducible refine g_if ?_
  | with_reducible refine g_ife ?_
  | with_reducible refine g_and ?_
  | with_reducible refine g_or ?_
  | with_reducible refine g_not ?_
  | with_reducible refine g_next ?_
  | with_reducible refine g_nil ?_
  | with_reducible refine g_cons ?_
  | with_reducible refine g_cb ?_
  | with_reducible refine g_call ?_
  | with_reducible refine g_tup ?_
  | with_reducible refine g_lst ?_
  | with_reducible refine g_dget ?_
  | with_reducible refine g_dput ?_
  | with_reducible refine g_bm ?_
  | with_reducible refine g_lc ?_
  | with_reducible refine g_for ?_
  | with_reducible refine g_il ?_
  | with_reducible refine g_rng1 ?_
  | with_reducible refine g_gsub ?_
  | with_reducible refine g_din ?_
  | with_reducible refine g_disp ?_
  | with_reducible refine g_pairs ?_
  | with_reducible refine g_pairs0 ?_
  | with_reducible refine g_sl ?_
  | with_reducible refine g_part ?_
  | with_reducible refine g_part1 ?_
  | with_reducible refine g_nopart ?_
  | with_reducible refine g_andV ?_
  | with_reducible refine g_orV ?_
  | with_reducible refine g_notV ?_
  | with_reducible refine g_itp ?_
  | with_reducible refine g_par ?_
  | with_reducible refine g_par1 ?_
  | with_reducible refine g_par3 ?_
  | with_reducible refine g_par31 ?_
  | with_reducible refine g_gname ?_
  | with_reducible refine g_gcons ?_
  | with_reducible refine g_gnil ?_
  | with_reducible refine g_bm0 ?_)
local macro_rules | `(tactic| walk_at "go") => `(tactic| repeat walk_at "go1")
local macro_rules | `(tactic| walk_at "at") => `(tactic| repeat first
  | assumption
  | exact upd_same
  | with_reducible refine keep (by assumption) ?_
  | with_reducible refine keep_ne (by assumption) ?_
  | with_reducible refine Fr.get0 (by assumption) ?_
  | with_reducible refine Fr.get (by assumption) ?_ (by assumption)
  | with_reducible refine Fr.tup (by assumption) ?_)
local macro_rules | `(tactic| walk_at "fr") => `(tactic| repeat first
  | assumption
  | exact Fr.refl _ _
  | with_reducible refine Fr.trans ?_ (Fr.new (by assumption))
  | with_reducible refine Fr.trans ?_ (Fr.nil (by assumption))
  | with_reducible refine Fr.trans ?_ (by assumption))
local macro_rules | `(tactic| walk_at "gn") => `(tactic| repeat first
  | assumption
  | with_reducible refine Gn.fr0 ?_ (Fr.new (by assumption))
  | with_reducible refine Gn.fr0 ?_ (by assumption))
local macro_rules | `(tactic| walk_at "bt") => `(tactic| repeat first
  | assumption
  | with_reducible refine BAt.up (Fr.new (W := []) (by assumption)).1 _ _ ?_
  | with_reducible refine SAt.up (Fr.new (W := []) (by assumption)).1 _ _ ?_
  | with_reducible refine BAt.up (Fr.tupLe (by assumption)) _ _ ?_
  | with_reducible refine SAt.up (Fr.tupLe (by assumption)) _ _ ?_)
def sfs (a b : Nat) (me lf : Addr) : List (Str × V) := [("at", .int (a : Int)), ("many", .int (b : Int)), ("means", .ref me), ("left", .ref lf)]
theorem sfs_many (a b : Nat) (me lf : Addr) : putF "many" (.int ((b : Int) + 1)) (sfs a b me lf) = sfs a (b + 1) me lf := by
  have e : ∀ v : V, putF "many" v (sfs a b me lf) = ([("at", .int (a : Int)), ("many", v), ("means", .ref me), ("left", .ref lf)] : List (Str × V)) := fun v => by kernel_rfl
  rw [e]; rfl
theorem sfs_at (a b : Nat) (me lf : Addr) : putF "at" (.int ((a : Int) + 1)) (sfs a b me lf) = sfs (a + 1) b me lf := by
  have e : ∀ v : V, putF "at" v (sfs a b me lf) = ([("at", v), ("many", .int (b : Int)), ("means", .ref me), ("left", .ref lf)] : List (Str × V)) := fun v => by kernel_rfl
  rw [e]; rfl
structure SiK (K : PySem.W.Frag) (mg : Str → Option Value) (D : Addr) : Prop where
  mgD : mg "Sight" = some (.ref D)
  cls : Cls K D
  nat_ : NoAttr K D "at"
  nma : NoAttr K D "many"
  nme : NoAttr K D "means"
  nle : NoAttr K D "left"
  pb : ∃ f, Meth K D "put_block" f ∧ FdM K "put_block" "Sight.put_block" (inClass (topS 8) 1) f
  mke : ∃ f, Meth K D "make" f ∧ FdM K "make" "Sight.make" (inClass (topS 8) 2) f
  us : ∃ f, Meth K D "use" f ∧ FdM K "use" "Sight.use" (inClass (topS 8) 3) f
  ma : ∃ f, Meth K D "make_all" f ∧ FdM K "make_all" "Sight.make_all" (inClass (topS 8) 4) f
  gt : ∃ f, Meth K D "go_through" f ∧ FdM K "go_through" "Sight.go_through" (inClass (topS 8) 5) f
/-- a method keeps its promise -/
def OkM (P : Program) (w : World) (K : PySem.W.Frag) (mg : Str → Option Value) (base : Heap) (CX : CXT) (k : Nat) (D : Addr) (m : Str) (ps : List Str) (sp : Sp) : Prop :=
  ∃ f fd, Meth K D m f ∧ Binds K fd ps [] ∧ FnOk P w K mg base CX k f fd ps sp
section
variable {X : Cx} {CX : CXT} {k : Nat} {D : Addr} {m : Str} {ps : List Str} {sp : Sp} {E : XK} {o e : Expr} {es : List Expr} {ta : TE} {t : TA} {apos pos : Pos}
theorem pe_okM {pl : Sem Bool} (O : OkM X.prog X.w X.K X.mg X.base CX0 k D m ps sp) (c : Cls X.K D) (he : PE X o ta) (hr : Room k X.A) (ha : PA X (e :: es) t)
    (hst : starEach (e :: es) X.env = (false, eval e X.env) :: starEach es X.env := by rfl) (hpl : (backTo pos (starEach es X.env)).any (·.1) = false := by rfl)
    (ht : eval (.Call (.Attribute o m apos) (e :: es) [] pos) X.env = (do
      let ov ← eval o X.env
      standAt apos.atName
      let (f, first) ← holding [ov] (getMethod ov m pl)
      callWith pos f first (backTo pos (starEach (e :: es) X.env)) (backToKw pos (keywordEach [] X.env))) := by rfl) :
    PE X (.Call (.Attribute o m apos) (e :: es) [] pos) (tMeth D m sp [] E0 ta t) := by
  obtain ⟨f, fd, hm, b, F⟩ := O
  exact pe_meth he c hm F hr b .nil pass0 ha hst hpl ht
theorem pe_okMX {pl : Sem Bool} (O : OkM X.prog X.w X.K X.mg X.base (L2.CX X.prog X.w) k D m ps sp) (c : Cls X.K D) (he : PE X o ta) (hr : Room k X.A) (tk : Takes X (fun cls d _ H => E cls d H)) (ha : PA X (e :: es) t)
    (hst : starEach (e :: es) X.env = (false, eval e X.env) :: starEach es X.env := by rfl) (hpl : (backTo pos (starEach es X.env)).any (·.1) = false := by rfl)
    (ht : eval (.Call (.Attribute o m apos) (e :: es) [] pos) X.env = (do
      let ov ← eval o X.env
      standAt apos.atName
      let (f, first) ← holding [ov] (getMethod ov m pl)
      callWith pos f first (backTo pos (starEach (e :: es) X.env)) (backToKw pos (keywordEach [] X.env))) := by rfl) :
    PE X (.Call (.Attribute o m apos) (e :: es) [] pos) (tMeth D m sp [] E ta t) := by
  obtain ⟨f, fd, hm, b, F⟩ := O
  exact pe_meth he c hm F hr b .nil (passes_call tk fun _ _ _ _ h => h) ha hst hpl ht
theorem pe_okMX0 {pl : Sem Bool} (O : OkM X.prog X.w X.K X.mg X.base (L2.CX X.prog X.w) k D m ps sp) (c : Cls X.K D) (he : PE X o ta) (hr : Room k X.A) (tk : Takes X (fun cls d _ H => E cls d H))
    (ht : eval (.Call (.Attribute o m apos) [] [] pos) X.env = (do
      let ov ← eval o X.env
      standAt apos.atName
      let (f, first) ← holding [ov] (getMethod ov m pl)
      callWith pos f first (backTo pos (starEach [] X.env)) (backToKw pos (keywordEach [] X.env))) := by rfl) :
    PE X (.Call (.Attribute o m apos) [] [] pos) (tMeth D m sp [] E ta tNil) := by
  obtain ⟨f, fd, hm, b, F⟩ := O
  exact pe_meth0 he c hm F hr b .nil (passes_call tk fun _ _ _ _ h => h) ht
end
/-- NoProgram(word, at, name) on its way -/
def NpE (C : Addr) (wd : Str) (k : Nat) (x : Str) (H : Hp) (E : XK) : Prop := ∀ d H', Fr [] H H' → H' d = some (.xd [("name", .str x), ("at", .int (k : Int)), ("word", .str wd)]) → E (.ref C) (some d) H'
section
variable {K : PySem.W.Frag} {σ : L2.St} {H : Hp} {Q : VK} {D : Ends} {te tv : TE} {ta : TA} {f : Str} {y D0 dx : Addr} {fs : List (Str × V)} {v : V}
theorem g_fld (q : te σ H fun x H1 => ∃ a C dx fs v, x = .ref a ∧ H1 a = some (.ins C dx fs) ∧ Cls K C ∧ NoAttr K C f ∧ fs.lookup f = some v ∧ Q v H1) : tFld K te f σ H Q := q
theorem g_fld1 (h : H y = some (.ins D0 dx fs)) (c : Cls K D0) (n : NoAttr K D0 f) (l : fs.lookup f = some v) {F : V → Prop} (q : F v) : ∃ a C dx fs v, V.ref y = .ref a ∧ H a = some (.ins C dx fs) ∧ Cls K C ∧ NoAttr K C f ∧ fs.lookup f = some v ∧ F v := ⟨y, D0, dx, fs, v, rfl, h, c, n, l, q⟩
theorem g_sfld (q : tv σ H fun y H1 => te σ H1 fun x H2 => ∃ a C dx fs, x = .ref a ∧ H2 a = some (.ins C dx fs) ∧ Cls K C ∧ NoAttr K C f ∧ fs.length < 1000 ∧ D.nx σ (upd H2 a (.ins C dx (putF f y fs)))) : sFld K te tv f D σ H := q
theorem g_fldaug {rd : V → V → Hp → VK → Prop} (q : te σ H fun x H1 => ∃ a C dx fs v, x = .ref a ∧ H1 a = some (.ins C dx fs) ∧ Cls K C ∧ NoAttr K C f ∧ fs.lookup f = some v ∧
  tv σ H1 fun y H2 => rd v y H2 fun z H3 => ∃ dx' fs', H3 a = some (.ins C dx' fs') ∧ fs'.length < 1000 ∧ D.nx σ (upd H3 a (.ins C dx' (putF f z fs')))) : sFldAug K te tv rd f D σ H := q
theorem g_mko {C : Addr} {sp : Sp} {dvs : List V} {E : XK} (q : ta σ H fun vs H1 => vs.length ≤ 1000 ∧ ∀ a, H1 a = none → sp (.ref a :: (vs ++ dvs)) (upd H1 a (exo a C none))
  (fun v H2 => v = .non ∧ ∃ (d : Addr) (fs : List (Str × V)), H2 a = some (exo a C (some d)) ∧ H2 d = some (exd d fs) ∧ H1 d = none ∧ E (.ref C) (some d) (upd (del H2 a) d (.xd fs))) (fun _ _ _ => False)) : tMkO C sp dvs ta σ H E := q
/-- NoProgram is raised -/
theorem g_np {C : Addr} {wd x : Str} {k : Nat} {E : XK} (h : NpE C wd k x H E) {e1 : Addr} (ne1 : H e1 = none) : spNpI C [.ref e1, .str wd, .int (k : Int), .str x] (upd H e1 (exo e1 C none))
    (fun v H2 => v = .non ∧ ∃ (d : Addr) (fs : List (Str × V)), H2 e1 = some (exo e1 C (some d)) ∧ H2 d = some (exd d fs) ∧ H d = none ∧ E (.ref C) (some d) (upd (del H2 e1) d (.xd fs))) (fun _ _ _ => False) := by
  refine ⟨e1, _, _, _, rfl, upd_same, fun d H2 nd ne eH => ?_⟩
  subst eH
  have nd2 : H d = none := by rw [upd_ne ne] at nd; exact nd
  refine ⟨rfl, d, _, upd_same, (upd_ne ne).trans upd_same, nd2, h d _ ?_ upd_same⟩
  have key : ∀ b o, H b = some o → (upd (del (upd (upd (upd H e1 (exo e1 C none)) d (exd d [("name", .str x), ("at", .int (k : Int)), ("word", .str wd)])) e1 (exo e1 C (some d))) e1) d (.xd [("name", .str x), ("at", .int (k : Int)), ("word", .str wd)])) b = some o := fun b o e => by
    have h1 : b ≠ d := ne_of_none e nd2
    have h2 : b ≠ e1 := ne_of_none e ne1
    rw [upd_ne h1, del_ne h2, upd_ne h2, upd_ne h1, upd_ne h2]
    exact e
  exact ⟨fun b xs e => key b _ e, fun b o e _ => key b o e⟩
end
def spSMake (C D : Addr) : Sp := fun vs H Q E => ∃ (y sc dx : Addr) (a b : Nat) (me lf : Addr) (c : Scp) (x : Str), vs = [.ref y, .str x, .ref sc] ∧ H y = some (.ins D dx (sfs a b me lf)) ∧ H sc = some (.dK (ck c)) ∧ c.length ≤ 20000 ∧
  (getS c x = none → Q .non (upd (upd H sc (.dK (ck (putS c x b)))) y (.ins D dx (sfs a (b + 1) me lf)))) ∧ (getS c x ≠ none → NpE C "twice" a x H E)
def spSUse (C D : Addr) : Sp := fun vs H Q E => ∃ (y L dx : Addr) (a b : Nat) (me lf : Addr) (scs : List Addr) (sc : List Scp) (x : Str), vs = [.ref y, .str x, .ref L] ∧ H y = some (.ins D dx (sfs a b me lf)) ∧ H L = some (.tup (scs.map V.ref)) ∧ Paired (fun a c => H a = some (.dK (ck c))) scs sc.reverse ∧
  (∀ i H', lookS sc x = some i → Fr [] H H' → Q (.int (i : Int)) H') ∧ (lookS sc x = none → ∀ H', Fr [] H H' → NpE C "unknown" a x H' E)
def spSPut (D : Addr) : Sp := fun vs H Q E => ∃ (y pb L dx : Addr) (a b : Nat) (me lf : Addr) (ls ws : List V), vs = [.ref y, .ref pb, .ref L] ∧ H y = some (.ins D dx (sfs a b me lf)) ∧ H pb = some (.tup ws) ∧ H lf = some (.lst ls) ∧ ls.length + ws.length ≤ 60000 ∧
  ∀ H' (ts : List Addr), Fr [lf] H H' → H' lf = some (.lst (ls ++ ts.map V.ref)) → Paired (fun t v => H' t = some (.tup [v, .ref L])) ts ws.reverse → Q .non H'
section
variable {P : Program} {w : World} {K : PySem.W.Frag} {mg : Str → Option Value} {base : Heap}
theorem sc_Sight_make : FnScope ["self", "name", "scope"] ["self", "name", "scope"] (defScope ((inClass (topS 8) 2))) := ⟨rfl, rfl, rfl, by decide +kernel, rfl, by decide +kernel, by decide +kernel⟩
theorem ok_smake {C B fI D : Addr} (N : Np K mg C B fI) (S : SiK K mg D) : OkM P w K mg base (L2.CX P w) 3 D "make" ["self", "name", "scope"] (spSMake C D) := by
  obtain ⟨f, hm, fd, F⟩ := S.mke
  obtain ⟨fd1, b1, F1⟩ := ok_npi (P := P) (w := w) (base := base) N
  refine ⟨f, fd, hm, F.bindsN (fun _ _ _ _ _ _ us hl => match us, hl with | [_, _, _], _ => rfl), F.ok sc_Sight_make (fun vs H Q E h => ?_) fun cdv Ar outer s H vs Q E hr h => ?_⟩
  · obtain ⟨_, _, _, _, _, _, _, _, _, rfl, _⟩ := h; rfl
  · obtain ⟨y, sc, dx, a, b, me, lf, c, x, rfl, hy, hc, hcl, q1, q2⟩ := h
    refine ⟨_, (pss_cons (ps_if (pt_cmp (pc_din (hu_of hr) (pv 1) (pv 2))) (pss_one (ps_raise rfl (takes_of rfl rfl rfl rfl) (pmk_oex N.T N.iC N.tI F1 (hr.mono (by omega)) b1 .nil pass0 (by rfl) N.mgC (pa_cons pe_str (pa_cons (pe_fld (pv 0) rfl) (pa_cons (pv 1) pa_nil)))))) pss_nil)
    (pss_cons (ps_dput (hu_of hr) (pv 2) (pv 1) (pe_fld (pv 0) rfl) rfl)
    (pss_one (ps_fldaug (pv 0) pe_int in_add)))), ?_⟩
    walk_at "go"
    refine ⟨sc, _, rfl, kvo hc, ?_⟩
    rw [ck_val, Option.isSome_map]
    refine ⟨_, rfl, ?_⟩
    cases e : getS c x with
    | some v =>
      refine i_t rfl ?_
      with_reducible refine g_mko ?_
      walk_at "go"
      with_reducible refine g_fld ?_
      walk_at "go"
      refine g_fld1 hy S.cls S.nat_ (by rfl) ?_
      walk_at "go"
      exact ⟨by simp, fun e1 ne1 => g_np (q2 (by rw [e]; simp)) ne1⟩
    | none =>
      refine i_f rfl ?_
      walk_at "go"
      with_reducible refine g_fld ?_
      walk_at "go"
      refine g_fld1 hy S.cls S.nma (by rfl) ?_
      walk_at "go"
      refine ⟨_, _, rfl, kvp hc (by rw [ck_len]; exact small_lt (by omega)), ?_⟩
      rw [ck_put]
      have hys : y ≠ sc := fun z => by rw [z, hc] at hy; cases hy
      have hy2 : (upd H sc (.dK (ck (putS c x b)))) y = some (.ins D dx (sfs a b me lf)) := keep_ne hys hy
      walk_at "go"
      with_reducible refine g_fldaug ?_
      walk_at "go"
      refine ⟨y, D, dx, _, _, rfl, hy2, S.cls, S.nma, (rfl : _ = some (V.int (b : Int))), ?_⟩
      walk_at "go"
      refine ⟨_, _, rfl, rfl, ⟨dx, _, hy2, by simp [sfs], ?_⟩⟩
      rw [sfs_many]
      exact q1 e
theorem sc_Sight_use : FnScope ["self", "name", "scopes", "found"] ["self", "name", "scopes"] (defScope ((inClass (topS 8) 3))) := ⟨rfl, rfl, rfl, by decide +kernel, rfl, by decide +kernel, by decide +kernel⟩
theorem ok_suse (A : All K mg) {C B fI D : Addr} (N : Np K mg C B fI) (S : SiK K mg D) : OkM P w K mg base (L2.CX P w) 3 D "use" ["self", "name", "scopes"] (spSUse C D) := by
  obtain ⟨f, hm, fd, F⟩ := S.us
  obtain ⟨fd1, b1, F1⟩ := ok_npi (P := P) (w := w) (base := base) N
  have O_meant_by : Ok P w K mg base CX0 1 "meant_by" ["name", "scopes"] spMeant := ok_meant_by A
  refine ⟨f, fd, hm, F.bindsN (fun _ _ _ _ _ _ us hl => match us, hl with | [_, _, _], _ => rfl), F.ok sc_Sight_use (fun vs H Q E h => ?_) fun cdv Ar outer s H vs Q E hr h => ?_⟩
  · obtain ⟨_, _, _, _, _, _, _, _, _, _, rfl, _⟩ := h; rfl
  · obtain ⟨y, L, dx, a, b, me, lf, scs, sc, x, rfl, hy, hL, hp, q1, q2⟩ := h
    refine ⟨_, (pss_cons (ps_set (i := 3) sc_Sight_use.nd rfl (Or.inl rfl) (pe_ok O_meant_by (hr.mono (by omega)) (pa_cons (pv 1) (pa_cons (pv 2) pa_nil))))
    (pss_cons (ps_if (pt_cmpR op_isN1 (pv 3) pe_non (nomark _)) (pss_one (ps_raise rfl (takes_of rfl rfl rfl rfl) (pmk_oex N.T N.iC N.tI F1 (hr.mono (by omega)) b1 .nil pass0 (by rfl) N.mgC (pa_cons pe_str (pa_cons (pe_fld (pv 0) rfl) (pa_cons (pv 1) pa_nil)))))) pss_nil)
    (pss_one (ps_ret (pv 3))))), ?_⟩
    walk_at "go"
    refine ⟨x, L, scs, sc, rfl, hL, hp, fun H' f' => ?_⟩
    walk_at "go"
    cases e : lookS sc x with
    | some i =>
      refine i_f (by rfl) ?_
      walk_at "go"
      exact q1 i H' e f'
    | none =>
      refine i_t (by rfl) ?_
      with_reducible refine g_mko ?_
      walk_at "go"
      with_reducible refine g_fld ?_
      walk_at "go"
      refine g_fld1 (f'.get0 hy) S.cls S.nat_ (by rfl) ?_
      walk_at "go"
      exact ⟨by simp, fun e1 ne1 => g_np (q2 e H' f') ne1⟩
theorem sc_Sight_put_block : FnScope ["self", "block", "scopes", "statement"] ["self", "block", "scopes"] (defScope ((inClass (topS 8) 1))) := ⟨rfl, rfl, rfl, by decide +kernel, rfl, by decide +kernel, by decide +kernel⟩
theorem ok_sput (A : All K mg) {D : Addr} (S : SiK K mg D) : OkM P w K mg base CX0 1 D "put_block" ["self", "block", "scopes"] (spSPut D) := by
  obtain ⟨f, hm, fd, F⟩ := S.pb
  refine ⟨f, fd, hm, F.bindsN (fun _ _ _ _ _ _ us hl => match us, hl with | [_, _, _], _ => rfl), F.ok sc_Sight_put_block (fun vs H Q E h => ?_) fun cdv Ar outer s H vs Q E hr h => ?_⟩
  · obtain ⟨_, _, _, _, _, _, _, _, _, _, rfl, _⟩ := h; rfl
  · obtain ⟨y, pb, L, dx, a, b, me, lf, ls, ws, rfl, hy, hpb, hlf, hz, q⟩ := h
    refine ⟨_, PSs.nox (pss_one (ps_expr (pe_bm PySem.F.plainAttrs_list PySem.F.slot_list_extend PySem.F.type_list_extend mt_extend (pe_fld (pv 0) rfl) (pa_cons (pe_lc (own := [("statement", 3)]) (g := gName 3) (by rfl) sc_Sight_put_block.nd (pi_tup (pe_rev_tup (pv 1))) (blkOk_by (own := [("statement", 3)]) (N := ["self", "block", "scopes", "statement"]) (sc := defScope ((inClass (topS 8) 1))) (by decide +kernel)) (fun _ _ _ _ _ => (pg_nameL (i := 3) sc_Sight_put_block.nd rfl rfl)) (fun _ _ _ _ _ => pts_nil) (fun _ _ _ _ _ => (pe_tup (pa_cons (pv 3) (pa_cons (pv 2) pa_nil))))) pa_nil)))), ?_⟩
    walk_at "go"
    with_reducible refine g_fld ?_
    walk_at "go"
    refine g_fld1 hy S.cls S.nle (by rfl) ?_
    refine ⟨ty_l hlf, ?_⟩
    walk_at "go"
    refine g_revT (g_var (by rfl) ⟨pb, _, rfl, .inl (.of hpb), fun p np => ?_⟩)
    have f0 : Fr [] H (upd H p (.tup ws.reverse)) := Fr.new np
    refine lc_tup (xs := ws.reverse) (fun D0 i H' => ∃ ts : List Addr, ts.length = i ∧ Fr [] (upd H p (.tup ws.reverse)) H' ∧ H' D0 = some (.lst (ts.map V.ref)) ∧ Paired (fun t v => H' t = some (.tup [v, .ref L])) ts (ws.reverse.take i)) upd_same
      (fun D0 hD => ⟨[], rfl, Fr.new hD, upd_same, by rw [List.take_zero]; exact .nil⟩) (fun D0 i H' hD pp => by obtain ⟨_, _, f, _⟩ := pp; exact f.tup upd_same) (fun D0 H' hD pp => ?_) (fun D0 i x H' hD hx pp => ?_)
    · obtain ⟨ts, tl, f', e', pr⟩ := pp
      rw [List.take_length] at pr
      walk_at "go"
      have hlf' := f'.get0 (f0.get0 hlf)
      refine g_extend hlf' e' (small_of (by simp at tl ⊢; omega)) ?_
      have fp : Fr [lf] H' (upd H' lf (.lst (ls ++ ts.map V.ref))) := Fr.put hlf' (by intro xs q; cases q) (by simp)
      walk_at "go"
      exact q _ ts ((f0.trans f').nil.trans fp) upd_same (Paired.imp' pr fun _ _ _ z => fp.tup z)
    · obtain ⟨ts, tl, f', e', pr⟩ := pp
      walk_at "go"
      refine ⟨rfl, ?_⟩
      walk_at "go"
      refine i_t rfl ?_
      walk_at "go"
      refine ⟨small_of (by simp), fun p1 n1 => ?_⟩
      have f1 := Fr.new (W := []) (o := .tup [x, .ref L]) n1
      have e1 := f1.get0 e'
      have hil : i < ws.reverse.length := (List.getElem?_eq_some_iff.mp hx).1
      have fp := Fr.put (W := [D0]) (o' := .lst (ts.map V.ref ++ [.ref p1])) e1 (by intro xs q; cases q) (by simp)
      refine ⟨_, e1, small_lt (by simp at hil ⊢; omega), ts ++ [p1], by simp [tl], (f'.trans f1).mut hD, by rw [upd_same]; simp, ?_⟩
      rw [List.take_add_one, hx]
      exact Paired.snoc (Paired.imp' pr fun _ _ _ z => fp.tup (f1.tup z)) (fp.tup upd_same)
end
end Fb
set_option Elab.async false
set_option linter.all false
set_option maxRecDepth 100000
set_option maxHeartbeats 4000000
namespace Fb
open PySem PySem.Spec PyProof.Rows L2
local macro_rules | `(tactic| walk_at "go1") => `(tactic| first
  | with_reducible refine g_seq ?_
  | with_reducible refine g_asg ?_
  | with_reducible refine g_name ?_
  | ((with_reducible refine' g_var ?h1 ?_); (case h1 => rfl))
  | with_reducible refine g_c ?_
  | with_reducible refine g_op ?_
  | with_reducible refine g_un ?_
  | with_reducible refine g_rU ?_
  | with_reducible refine g_yes ?_
  | with_reducible refine g_isN ?_
  | with_reducible refine g_notN ?_
  | with_reducible refine g_int1 ?_
  | with_reducible refine g_I0 ?_
  | ((with_reducible refine' g_eq ?h1 ?_); (case h1 => rfl))
  | ((with_reducible refine' g_ne ?h1 ?_); (case h1 => rfl))
  | with_reducible refine g_test ?_
  | with_reducible refine g_tb ?_
  | with_reducible refine g_bl ?_
  | with_reducible refine g_drop ?_
  | with_reducible refine g_ret ?_
  | with_reducible refine g_if ?_
  | with_reducible refine g_ife ?_
  | with_reducible refine g_and ?_
  | with_reducible refine g_or ?_
  | with_reducible refine g_not ?_
  | with_reducible refine g_next ?_
  | with_reducible refine g_nil ?_
  | with_reducible refine g_cons ?_
  | with_reducible refine g_cb ?_
  | with_reducible refine g_call ?_
  | with_reducible refine g_tup ?_
  | with_reducible refine g_lst ?_
  | with_reducible refine g_dget ?_
  | with_reducible refine g_dput ?_
  | with_reducible refine g_bm ?_
  | with_reducible refine g_lc ?_
  | with_reducible refine g_for ?_
  | with_reducible refine g_il ?_
  | with_reducible refine g_rng1 ?_
  | with_reducible refine g_gsub ?_
  | with_reducible refine g_din ?_
  | with_reducible refine g_disp ?_
  | with_reducible refine g_pairs ?_
  | with_reducible refine g_pairs0 ?_
  | with_reducible refine g_sl ?_
  | with_reducible refine g_part ?_
  | with_reducible refine g_part1 ?_
  | with_reducible refine g_nopart ?_
  | with_reducible refine g_andV ?_
  | with_reducible refine g_orV ?_
  | with_reducible refine g_notV ?_
  | with_reducible refine g_itp ?_
  | with_reducible refine g_par ?_
  | with_reducible refine g_par1 ?_
  | with_reducible refine g_par3 ?_
  | with_reducible refine g_par31 ?_
  | with_reducible refine g_gname ?_
  | with_reducible refine g_gcons ?_
  | with_reducible refine g_gnil ?_
  | with_reducible refine g_bm0 ?_)
local macro_rules | `(tactic| walk_at "go") => `(tactic| repeat walk_at "go1")
local macro_rules | `(tactic| walk_at "at") => `(tactic| repeat first
  | assumption
  | exact upd_same
  | with_reducible refine keep (by assumption) ?_
  | with_reducible refine keep_ne (by assumption) ?_
  | with_reducible refine Fr.get0 (by assumption) ?_
  | with_reducible refine Fr.get (by assumption) ?_ (by assumption)
  | with_reducible refine Fr.tup (by assumption) ?_)
local macro_rules | `(tactic| walk_at "fr") => `(tactic| repeat first
  | assumption
  | exact Fr.refl _ _
  | with_reducible refine Fr.trans ?_ (Fr.new (by assumption))
  | with_reducible refine Fr.trans ?_ (Fr.nil (by assumption))
  | with_reducible refine Fr.trans ?_ (by assumption))
local macro_rules | `(tactic| walk_at "gn") => `(tactic| repeat first
  | assumption
  | with_reducible refine Gn.fr0 ?_ (Fr.new (by assumption))
  | with_reducible refine Gn.fr0 ?_ (by assumption))
local macro_rules | `(tactic| walk_at "bt") => `(tactic| repeat first
  | assumption
  | with_reducible refine BAt.up (Fr.new (W := []) (by assumption)).1 _ _ ?_
  | with_reducible refine SAt.up (Fr.new (W := []) (by assumption)).1 _ _ ?_
  | with_reducible refine BAt.up (Fr.tupLe (by assumption)) _ _ ?_
  | with_reducible refine SAt.up (Fr.tupLe (by assumption)) _ _ ?_)
theorem g_meth {σ : L2.St} {H : Hp} {Q : VK} {C : Addr} {m : Str} {sp : Sp} {dvs : List V} {E : XK} {ta : TE} {t : TA} (q : ta σ H fun x H1 => ∃ a dx fs, x = .ref a ∧ H1 a = some (.ins C dx fs) ∧ fs.lookup m = none ∧ t σ H1 fun vs H2 => sp (x :: (vs ++ dvs)) H2 Q E) : tMeth C m sp dvs E ta t σ H Q := q
theorem putF_len (f : Str) (v : V) : ∀ fs : List (Str × V), (putF f v fs).length ≤ fs.length + 1
  | [] => Nat.le_refl _
  | (g, x) :: r => by
    unfold putF
    split
    · simp
    · simp only [List.length_cons]; have := putF_len f v r; omega
theorem none_upd {H : Hp} {y p : Addr} {o : HO} (h : upd H y o p = none) : H p = none ∧ p ≠ y := by
  by_cases e : p = y
  · rw [e, upd_same] at h; cases h
  · exact ⟨by rw [upd_ne e] at h; exact h, e⟩
/-- Sight.__init__(self, program) -/
def spSInit (D : Addr) : Sp := fun vs H Q E => ∃ (y pb dx : Addr) (ws : List V), vs = [.ref y, .ref pb] ∧ H y = some (.ins D dx []) ∧ H pb = some (.tup ws) ∧ ws.length ≤ 50000 ∧
  ∀ H' (me lf L sc : Addr) (ts : List Addr), Fr [y] H H' → H' y = some (.ins D dx (sfs 0 0 me lf)) → H' me = some (.lst []) → H' lf = some (.lst (ts.map V.ref)) → me ≠ lf → H' L = some (.tup [.ref sc]) → H' sc = some (.dK []) → Paired (fun t v => H' t = some (.tup [v, .ref L])) ts ws.reverse → H me = none → H lf = none → H sc = none → Q .non H'
section
variable {P : Program} {w : World} {K : PySem.W.Frag} {mg : Str → Option Value} {base : Heap}
theorem sc_Sight___init__ : FnScope ["self", "program"] ["self", "program"] (defScope ((inClass (topS 8) 0))) := ⟨rfl, rfl, rfl, by decide +kernel, rfl, by decide +kernel, by decide +kernel⟩
theorem ok_sinit (A : All K mg) {D fI : Addr} (S : SiK K mg D) (FI : FdM K "__init__" "Sight.__init__" (inClass (topS 8) 0) fI) : ∃ fd, Binds K fd ["self", "program"] [] ∧ FnOk P w K mg base CX0 2 fI fd ["self", "program"] (spSInit D) := by
  obtain ⟨fd, F⟩ := FI
  have OM_put_block : OkM P w K mg base CX0 1 D "put_block" ["self", "block", "scopes"] (spSPut D) := ok_sput A S
  refine ⟨fd, F.bindsN (fun _ _ _ _ _ _ us hl => match us, hl with | [_, _], _ => rfl), F.ok sc_Sight___init__ (fun vs H Q E h => ?_) fun cdv Ar outer s H vs Q E hr h => ?_⟩
  · obtain ⟨_, _, _, _, rfl, _⟩ := h; rfl
  · obtain ⟨y, pb, dx, ws, rfl, hy, hpb, hz, q⟩ := h
    refine ⟨_, PSs.nox (pss_cons (ps_fld (pv 0) pe_int rfl)
    (pss_cons (ps_fld (pv 0) pe_int rfl)
    (pss_cons (ps_fld (pv 0) (pe_lst pa_nil) rfl)
    (pss_cons (ps_fld (pv 0) (pe_lst pa_nil) rfl)
    (pss_one (ps_expr (pe_okM OM_put_block S.cls (pv 0) (hr.mono (by omega)) (pa_cons (pv 1) (pa_cons (pe_tup (pa_cons pe_dnewK pa_nil)) pa_nil))))))))), ?_⟩
    walk_at "go"
    with_reducible refine g_sfld ?_
    walk_at "go"
    refine ⟨y, D, dx, _, rfl, hy, S.cls, S.nat_, by simp, ?_⟩
    walk_at "go"
    with_reducible refine g_sfld ?_
    walk_at "go"
    refine ⟨y, D, dx, _, rfl, upd_same, S.cls, S.nma, by have h1 := putF_len "at" (.int 0) []; simp only [List.length_nil] at h1; omega, ?_⟩
    rw [upd_upd]
    walk_at "go"
    with_reducible refine g_sfld ?_
    walk_at "go"
    refine ⟨small_of (by simp), fun me nme => ?_⟩
    walk_at "go"
    refine ⟨y, D, dx, _, rfl, keep nme upd_same, S.cls, S.nme, by have h1 := putF_len "at" (.int 0) []; have h2 := putF_len "many" (.int 0) (putF "at" (.int 0) []); simp only [List.length_nil] at h1; omega, ?_⟩
    walk_at "go"
    with_reducible refine g_sfld ?_
    walk_at "go"
    refine ⟨small_of (by simp), fun lf nlf => ?_⟩
    walk_at "go"
    refine ⟨y, D, dx, _, rfl, keep nlf upd_same, S.cls, S.nle, by have h1 := putF_len "at" (.int 0) []; have h2 := putF_len "many" (.int 0) (putF "at" (.int 0) []); have h3 := putF_len "means" (.ref me) (putF "many" (.int 0) (putF "at" (.int 0) [])); simp only [List.length_nil] at h1; omega, ?_⟩
    have eF : putF "left" (.ref lf) (putF "means" (.ref me) (putF "many" (.int 0) (putF "at" (.int 0) []))) = sfs 0 0 me lf := by kernel_rfl
    rw [eF]
    obtain ⟨nme0, nmy⟩ := none_upd nme
    obtain ⟨nlf1, nly⟩ := none_upd nlf
    obtain ⟨nlf2, nlm⟩ := none_upd nlf1
    obtain ⟨nlf0, _⟩ := none_upd nlf2
    have tY : ∀ (fs : List (Str × V)) (xs : List V), HO.ins D dx fs ≠ .tup xs := fun fs xs q => by cases q
    have f1 : Fr [y] H (upd H y (.ins D dx (putF "many" (.int 0) (putF "at" (.int 0) [])))) := Fr.put hy (tY _) (by simp)
    have e2 : (upd (upd H y (.ins D dx (putF "many" (.int 0) (putF "at" (.int 0) [])))) me (.lst [])) y = some (.ins D dx (putF "many" (.int 0) (putF "at" (.int 0) []))) := keep nme upd_same
    have f2 := (f1.trans (Fr.new nme)).trans (Fr.put (W := [y]) (o' := .ins D dx (putF "means" (.ref me) (putF "many" (.int 0) (putF "at" (.int 0) [])))) e2 (tY _) (by simp))
    have f3 := (f2.trans (Fr.new (o := .lst []) nlf)).trans (Fr.put (W := [y]) (o' := .ins D dx (sfs 0 0 me lf)) (keep nlf upd_same) (tY _) (by simp))
    have ey : (upd (upd (upd (upd (upd H y (.ins D dx (putF "many" (.int 0) (putF "at" (.int 0) [])))) me (.lst [])) y (.ins D dx (putF "means" (.ref me) (putF "many" (.int 0) (putF "at" (.int 0) []))))) lf (.lst [])) y (.ins D dx (sfs 0 0 me lf))) y = some (.ins D dx (sfs 0 0 me lf)) := upd_same
    have elf : (upd (upd (upd (upd (upd H y (.ins D dx (putF "many" (.int 0) (putF "at" (.int 0) [])))) me (.lst [])) y (.ins D dx (putF "means" (.ref me) (putF "many" (.int 0) (putF "at" (.int 0) []))))) lf (.lst [])) y (.ins D dx (sfs 0 0 me lf))) lf = some (.lst []) := keep_ne nly upd_same
    have eme : (upd (upd (upd (upd (upd H y (.ins D dx (putF "many" (.int 0) (putF "at" (.int 0) [])))) me (.lst [])) y (.ins D dx (putF "means" (.ref me) (putF "many" (.int 0) (putF "at" (.int 0) []))))) lf (.lst [])) y (.ins D dx (sfs 0 0 me lf))) me = some (.lst []) := keep_ne nmy (keep_ne (Ne.symm nlm) (keep_ne nmy upd_same))
    generalize upd (upd (upd (upd (upd H y (.ins D dx (putF "many" (.int 0) (putF "at" (.int 0) [])))) me (.lst [])) y (.ins D dx (putF "means" (.ref me) (putF "many" (.int 0) (putF "at" (.int 0) []))))) lf (.lst [])) y (.ins D dx (sfs 0 0 me lf)) = H5 at *
    walk_at "go"
    with_reducible refine g_meth ?_
    walk_at "go"
    refine ⟨y, dx, _, rfl, ey, (by rfl), ?_⟩
    walk_at "go"
    intro sc nsc
    walk_at "go"
    refine ⟨small_of (by simp), fun L nL => ?_⟩
    walk_at "go"
    have f6 : Fr [] H5 (upd (upd H5 sc (.dK [])) L (.tup [.ref sc])) := (Fr.new nsc).trans (Fr.new nL)
    have nsc0 : H sc = none := by
      cases eh : H sc with
      | none => rfl
      | some o =>
        by_cases z : sc = y
        · rw [z, ey] at nsc; cases nsc
        · rw [f3.get eh (by simpa using z)] at nsc; cases nsc
    refine ⟨y, pb, L, dx, 0, 0, me, lf, [], ws, rfl, f6.get0 ey, f6.tup (f3.tup hpb), f6.get0 elf, by simp; omega, fun H' ts f e pr => ?_⟩
    refine q H' me lf L sc ts ?_ (f.get (f6.get0 ey) (by simpa using Ne.symm nly)) (f.get (f6.get0 eme) (by simpa using Ne.symm nlm)) (by simpa using e) (Ne.symm nlm) (f.tup upd_same) (f.get (keep nL upd_same) ?_) pr nme0 nlf0 nsc0
    · exact fr_cut ((f3.trans f6.nil).mono (W' := [y]) (fun a h => h)) (Fr.refl [y] H) (fun a h => .inl h) |> fun z => fr_cut (f.mono (W' := [lf]) (fun a h => h)) z (fun a h => .inr (by rw [List.mem_singleton.mp h]; exact nlf0))
    · intro z
      have z := List.mem_singleton.mp z
      rw [z, elf] at nsc; cases nsc
end
end Fb
set_option Elab.async false
set_option linter.all false
set_option maxRecDepth 100000
set_option maxHeartbeats 4000000
/-! What lies in Sight.left, as a rest of the run. -/
namespace Fb
open PySem PySem.Spec PyProof.Rows L2
/-- cur: the scopes in sight, innermost ahead; fr: the scopes that are still to be opened -/
inductive Pend : List Addr → List Addr → List (List Addr × Stm) → List Op → Prop
  | nil {cur : List Addr} : Pend cur [] [] []
  | stm {cur fr : List Addr} {st : Stm} {rest : List (List Addr × Stm)} {os : List Op} : Pend cur fr rest os → Pend cur fr ((cur, st) :: rest) (opsS st ++ os)
  | close {cur fr : List Addr} {a : Addr} {rest : List (List Addr × Stm)} {os : List Op} : Pend cur fr rest os → Pend (a :: cur) fr rest (.C :: os)
  | opn {cur fr : List Addr} {a : Addr} {rest : List (List Addr × Stm)} {os : List Op} : Pend (a :: cur) fr rest os → Pend cur (a :: fr) rest (.O :: os)
theorem Pend.block {cur fr : List Addr} {rest : List (List Addr × Stm)} {os : List Op} (h : Pend cur fr rest os) : ∀ b : List Stm, Pend cur fr (b.map (fun s => (cur, s)) ++ rest) (ops b ++ os)
  | [] => by rw [ops_nil]; exact h
  | s :: b => by
    rw [ops_cons, List.append_assoc]
    exact .stm (Pend.block h b)
theorem wL_ops (st : Stm) : 2 ≤ wL (opsS st) := by
  rw [opsS_eq, wL_cons]
  simp only [wO]
  omega
theorem Pend.len {cur fr : List Addr} {pd : List (List Addr × Stm)} {os : List Op} (h : Pend cur fr pd os) : pd.length ≤ wL os := by
  induction h with
  | nil => exact Nat.zero_le _
  | stm h ih => rename_i st _ _; rw [wL_append]; have := wL_ops st; simp only [List.length_cons]; omega
  | close h ih => rw [wL_cons]; simp only [wO]; omega
  | opn h ih => rw [wL_cons]; simp only [wO]; omega
/-- s' stands where s stands, but for the scopes -/
def Same (s s' : Sn) : Prop := s'.mks = s.mks ∧ s'.at_ = s.at_ ∧ s'.means = s.means ∧ s'.am = s.am
theorem Pend.fin {cur fr : List Addr} {pd : List (List Addr × Stm)} {os : List Op} (h : Pend cur fr pd os) : pd = [] → ∀ s : Sn, Same s (run os s) := by
  induction h with
  | nil => intro _ s; exact ⟨rfl, rfl, rfl, rfl⟩
  | stm h ih => intro e; cases e
  | close h ih => intro e s; exact ih e (run1 .C s)
  | opn h ih => intro e s; exact ih e (run1 .O s)
theorem Pend.adv {V : Addr → Scp → Prop} {cur fr : List Addr} {pd : List (List Addr × Stm)} {os : List Op} (h : Pend cur fr pd os) : ∀ {L : List Addr} {st : Stm} {rest : List (List Addr × Stm)}, pd = (L, st) :: rest → ∀ s : Sn, Paired V cur s.sc → (∀ a ∈ fr, V a []) → (cur ++ fr).Nodup →
    ∃ fr' os' s', Pend L fr' rest os' ∧ Paired V L s'.sc ∧ run os s = run (opsS st ++ os') s' ∧ Same s s' ∧ (∀ a ∈ fr', V a []) ∧ (L ++ fr').Nodup ∧ (∀ a ∈ L ++ fr', a ∈ cur ++ fr) ∧ wL (opsS st ++ os') + L.length ≤ wL os + cur.length ∧ wL (opsS st ++ os') ≤ wL os ∧ (∀ c ∈ s'.sc, c = [] ∨ c ∈ s.sc) := by
  induction h with
  | nil => intro L st rest e; cases e
  | stm h ih =>
    intro L st rest e s hp hf hn
    cases e
    exact ⟨_, _, s, h, hp, rfl, ⟨rfl, rfl, rfl, rfl⟩, hf, hn, fun a ha => ha, Nat.le_refl _, Nat.le_refl _, fun c hc => .inr hc⟩
  | close h ih =>
    intro L st rest e s hp hf hn
    rename_i cur fr a rest0 os
    obtain ⟨sc, mks, at_, means, am⟩ := s
    dsimp only at hp
    cases hp with
    | cons h1 hp =>
      rename_i c r
      obtain ⟨fr', os', s', g1, g2, g3, g4, g5, g6, g7, g8, g8b, g9⟩ := ih e ⟨r, mks, at_, means, am⟩ hp hf (List.nodup_cons.mp hn).2
      refine ⟨fr', os', s', g1, g2, g3, g4, g5, g6, fun b hb => List.mem_cons_of_mem _ (g7 b hb), ?_, by rw [wL_cons]; simp only [wO]; omega, fun c hc => (g9 c hc).imp id (List.mem_cons_of_mem _)⟩
      rw [wL_cons]; simp only [wO, List.length_cons]; omega
  | opn h ih =>
    intro L st rest e s hp hf hn
    rename_i cur fr a rest0 os
    have hn2 : (a :: cur ++ fr).Nodup := by
      have p : (cur ++ a :: fr).Perm (a :: cur ++ fr) := List.perm_middle
      exact p.nodup_iff.mp hn
    obtain ⟨fr', os', s', g1, g2, g3, g4, g5, g6, g7, g8, g8b, g9⟩ := ih e (run1 .O s) (.cons (hf a List.mem_cons_self) hp) (fun b hb => hf b (List.mem_cons_of_mem _ hb)) hn2
    refine ⟨fr', os', s', g1, g2, g3, g4, g5, g6, fun b hb => ?_, ?_, by rw [wL_cons]; simp only [wO]; omega, fun c hc => ?_⟩
    · have := g7 b hb
      simp only [List.cons_append, List.mem_cons, List.mem_append] at this ⊢
      rcases this with h | h | h
      · exact .inr (.inl h)
      · exact .inl h
      · exact .inr (.inr h)
    · rw [wL_cons]; simp only [wO]; simp only [List.length_cons] at g8; omega
    · rcases g9 c hc with h | h
      · exact .inl h
      · rcases List.mem_cons.mp h with h | h
        · exact .inl h
        · exact .inr h
theorem run_more (v : List Op) (s : Sn) : ∃ A, (run v s).am = s.am ++ A := by
  obtain ⟨D, A, A', _, _, e, _⟩ := run_par v s s rfl rfl
  exact ⟨A, e⟩
theorem head_more {v : List Op} {s : Sn} {e : Str × Nat × Str} (h : s.am.head? = some e) : (run v s).am.head? = some e := by
  obtain ⟨A, q⟩ := run_more v s
  rw [q]
  cases hs : s.am with
  | nil => rw [hs] at h; cases h
  | cons a b => rw [hs] at h; exact h
/-- the left list holds pd, the next one last -/
def LeftAt (H : Hp) (ts : List Addr) (pd : List (List Addr × Stm)) : Prop :=
  Paired (fun t (p : List Addr × Stm) => ∃ v L, H t = some (.tup [v, .ref L]) ∧ SAt H p.2 v ∧ H L = some (.tup (p.1.reverse.map V.ref))) ts pd.reverse
theorem LeftAt.up {H H' : Hp} {ts : List Addr} {pd : List (List Addr × Stm)} (h : LeftAt H ts pd) (t : TupLe H H') : LeftAt H' ts pd :=
  Paired.imp' h fun _ _ _ ⟨v, L, e1, e2, e3⟩ => ⟨v, L, t _ _ e1, e2.up t, t _ _ e3⟩
theorem Paired.app {α β : Type} {F : α → β → Prop} : ∀ {xs xs' : List α} {ys ys' : List β}, Paired F xs ys → Paired F xs' ys' → Paired F (xs ++ xs') (ys ++ ys')
  | _, _, _, _, .nil, s => s
  | _, _, _, _, .cons r t, s => .cons r (Paired.app t s)
theorem LeftAt.add {H : Hp} {ts us : List Addr} {pd : List (List Addr × Stm)} {b : List Stm} {ws : List V} {cur : List Addr} {L : Addr} (h : LeftAt H ts pd) (hb : BAt H b ws) (hL : H L = some (.tup (cur.reverse.map V.ref)))
    (hu : Paired (fun t v => H t = some (.tup [v, .ref L])) us ws.reverse) : LeftAt H (ts ++ us) (b.map (fun s => (cur, s)) ++ pd) := by
  unfold LeftAt
  rw [List.reverse_append]
  refine Paired.app h ?_
  have key : ∀ {b : List Stm} {ws : List V} {us : List Addr}, BAt H b ws → Paired (fun t v => H t = some (.tup [v, .ref L])) us ws → Paired (fun t (p : List Addr × Stm) => ∃ v L, H t = some (.tup [v, .ref L]) ∧ SAt H p.2 v ∧ H L = some (.tup (p.1.reverse.map V.ref))) us (b.map fun s => (cur, s)) := by
    intro b
    induction b with
    | nil =>
      intro ws us hb hu
      rw [BAt_nil] at hb
      subst hb
      cases hu
      exact .nil
    | cons s b ih =>
      intro ws us hb hu
      obtain ⟨v, r, rfl, h1, h2⟩ := BAt_cons.mp hb
      cases hu with
      | cons e hu => exact .cons ⟨v, L, e, h1, hL⟩ (ih h2 hu)
  have := Paired.rev (key hb (by have z := Paired.rev hu; rwa [List.reverse_reverse] at z))
  rwa [List.reverse_reverse] at this
theorem snoc_of {α : Type} : ∀ l : List α, l ≠ [] → ∃ a b, l = a ++ [b]
  | [], h => absurd rfl h
  | [x], _ => ⟨[], x, rfl⟩
  | x :: z :: l, _ => by
    obtain ⟨a, b, e⟩ := snoc_of (z :: l) (by simp)
    exact ⟨x :: a, b, by rw [e]; rfl⟩
theorem LeftAt.last {H : Hp} {ts : List Addr} {p : List Addr × Stm} {pd : List (List Addr × Stm)} (h : LeftAt H ts (p :: pd)) : ∃ ts' t v L, ts = ts' ++ [t] ∧ LeftAt H ts' pd ∧ H t = some (.tup [v, .ref L]) ∧ SAt H p.2 v ∧ H L = some (.tup (p.1.reverse.map V.ref)) := by
  unfold LeftAt at h
  rw [List.reverse_cons] at h
  have hl := h.length
  obtain ⟨ts', t, rfl⟩ := snoc_of ts (by rintro rfl; simp at hl)
  obtain ⟨h1, v, L, h2⟩ := Paired.unsnoc h
  exact ⟨ts', t, v, L, rfl, h1, h2⟩
end Fb
set_option Elab.async false
set_option linter.all false
set_option maxRecDepth 100000
set_option maxHeartbeats 4000000
/-! word, *parts = a tuple. -/
namespace Fb
open PySem PySem.Spec PyProof.Rows L2
section
variable {prog : Program} {w : World} {A : Around} {E : Value → Shared → Prop} {s : Shared}
theorem star_tup {l : Addr} {items : Array Value} {u : Value} {us : List Value} {Q : List Value → Shared → Prop} (hl : IsTup s.heap l items) (hh : A.handled = none) (hz : items.size ≤ 16384) (hi : items.toList = u :: us)
    (h : ∀ (h2 : Heap) (tk : Nat), (∀ b o, s.heap.get? b = some o → h2.get? b = some o) → Q [u, .ref h2.objs.size] { s with heap := h2.push { cls := .type "list", data := .seq us.toArray }, toks := tk }) : wpAny (model prog w) A (unpackItems (.ref l) 2 (some 1)) Q E s := by
  have hlt : l ≠ s.heap.objs.size := by obtain ⟨o, ho, _⟩ := hl; exact Nat.ne_of_lt (Heap.lt_size ho)
  have hsz : items.size = us.length + 1 := by rw [← Array.length_toList, hi]; rfl
  unfold unpackItems
  refine wpAny_bind ?_
  unfold notIterableAtAll
  refine wpAny_bind (wpAny_specialOf hl.typeIs slot_tuple_iter.lookup ?_)
  refine wpAny_pure ?_
  simp only [Bool.false_eq_true, if_false]
  refine wpAny_bind (wpAny_holding (iter_tuple hl ?_))
  refine wpAny_bind (wpAny_holding (draw_tuple hlt 1 0 _ _ ⟨_, Heap.get?_push_size _ rfl, rfl, rfl⟩ (hl.push _) (by omega) fun h₁ hit₁ hs₁ => ?_))
  have hl₁ : IsTup h₁ l items := (hl.push _).extBut hs₁.extBut hlt
  rw [Nat.zero_add] at hit₁
  have hit₁' := hit₁
  obtain ⟨oi, hoi, _⟩ := hit₁'
  have hl₁' := hl₁
  obtain ⟨ol, hol, _⟩ := hl₁'
  rw [List.drop_zero]
  have hfl : (items.toList.take 1) = [u] := by rw [hi]; rfl
  rw [hfl]
  rw [if_neg (show ¬ (([u] : List Value).length < 1) from by simp)]
  refine wpAny_bind (wpAny_holding (PySem.W.kun_collect (s := { s with heap := h₁ }) (T := "tuple_iterator") (.inr (.inr (.inr rfl))) (Walks.tuple (A := A.in1) hh s.heap.objs.size l hlt items) (fun j u st => st.1.typeIs) (k := 1) (by omega) ⟨hit₁, hl₁⟩ (Heap.lt_size hoi) (Heap.lt_size hol) (fun h₂ tk hk => ?_) (by rw [sizeLine_eq]; omega)))
  have hrl : (items.toList.drop 1) = us := by rw [hi]; rfl
  rw [hrl]
  show wpAny _ _ (if us.length < 0 then _ else _) _ _ _
  rw [if_neg (Nat.not_lt_zero _)]
  show wpAny _ _ (newList (us.take (us.length - 0)) >>= fun d => pure ([u] ++ [d] ++ us.drop (us.length - 0))) _ _ _
  rw [Nat.sub_zero, List.take_length, List.drop_length]
  have hk2 : ∀ b o, s.heap.get? b = some o → h₂.get? b = some o := fun b o e => hk b o (Nat.ne_of_lt (Heap.lt_size e)) (hs₁.extBut b o (Nat.ne_of_lt (Heap.lt_size e)) (Heap.get?_push_of_some _ e))
  exact wpAny_bind (wpAny_newList (wpAny_pure (h h₂ tk hk2)) (by rw [sizeLine_eq]; omega))
end
section
variable {X : Cx}
/-- word, *rest = a tuple of one item and more -/
def gStar (K : PySem.W.Frag) (t : TGs) : TG := fun v σ H Q => ∃ a x xs, v = .ref a ∧ SqT K H a (x :: xs) ∧ xs.length ≤ 1000 ∧ ∀ p, H p = none → t [x, .ref p] σ (upd H p (.lst xs)) Q
theorem pg_star {e e2 : Expr} {k : Nat} {p2 pos : Pos} {t : TGs} {K : PySem.W.Frag} (hc : X.calm = true) (h : PGs X [e, e2] t) (hK : X.K = K := by rfl)
    (hn : (assignEach [e, .Starred e2 p2] X.env).length = 2 := by rfl) (hst : (assignEach [e, .Starred e2 p2] X.env).findIdx? (·.1) = some 1 := by rfl)
    (hm : (assignEach [e, .Starred e2 p2] X.env).map (·.2) = (assignEach [e, e2] X.env).map (·.2) := by rfl) : PG X (.Tuple [e, .Starred e2 p2] k pos) (gStar K t) := by
  subst hK
  refine ⟨fun pins s σ H v u Q I r hw => ?_⟩
  obtain ⟨a, x, xs, e1, hq, hz, hw⟩ := hw
  subst e1
  cases r
  obtain ⟨its, rv, ht, _⟩ := I.tuple hq
  cases rv with
  | cons r1 rr =>
    rename_i u0 us
    rw [PyProof.Rows.assign_Tuple]
    refine wpAny_bind (wpAny_standAt ?_)
    unfold unpack
    rw [hn, hst, hm]
    have hl : us.length = xs.length := rr.length.symm
    refine wpAny_bind (wpAny_holding (star_tup (u := u0) (us := us) ht (I.ok.hd hc) (by simp; omega) (by simp) fun h2 tk hk => ?_))
    have I1 : Inv X pins σ H { s with heap := h2, toks := tk } := I.kept (t' := tk) hk
    have I2 : Inv X pins σ (upd H h2.objs.size (.lst xs)) { s with heap := h2.push { cls := .type "list", data := .seq us.toArray }, toks := tk } :=
      I1.laid (t' := tk) (o := .lst xs) (fun b o e => Heap.get?_push_of_some _ e) (Nat.le_refl _) ⟨by rw [sizeLine_eq]; omega, us, 0, rr, Heap.get?_push_size _ rfl⟩
    exact h.run pins _ σ _ [x, .ref h2.objs.size] [u0, .ref h2.objs.size] Q I2 (.cons r1 (.cons rfl .nil)) (hw _ (I1.hok.fresh (Nat.le_refl _)))
end
end Fb
set_option Elab.async false
set_option linter.all false
set_option maxRecDepth 100000
set_option maxHeartbeats 4000000
namespace Fb
open PySem PySem.Spec PyProof.Rows L2
local macro_rules | `(tactic| walk_at "go1") => `(tactic| first
  | with_reducible refine g_seq ?_
  | with_reducible refine g_asg ?_
  | with_reducible refine g_name ?_
  | ((with_reducible refine' g_var ?h1 ?_); (case h1 => rfl))
  | with_reducible refine g_c ?_
  | with_reducible refine g_op ?_
  | with_reducible refine g_un ?_
  | with_reducible refine g_rU ?_
  | with_reducible refine g_yes ?_
  | with_reducible refine g_isN ?_
  | with_reducible refine g_notN ?_
  | with_reducible refine g_int1 ?_
  | with_reducible refine g_I0 ?_
  | ((with_reducible refine' g_eq ?h1 ?_); (case h1 => rfl))
  | ((with_reducible refine' g_ne ?h1 ?_); (case h1 => rfl))
  | with_reducible refine g_test ?_
  | with_reducible refine g_tb ?_
  | with_reducible refine g_bl ?_
  | with_reducible refine g_drop ?_
  | with_reducible refine g_ret ?_
  | with_reducible refine g_if ?_
  | with_reducible refine g_ife ?_
  | with_reducible refine g_and ?_
  | with_reducible refine g_or ?_
  | with_reducible refine g_not ?_
  | with_reducible refine g_next ?_
  | with_reducible refine g_nil ?_
  | with_reducible refine g_cons ?_
  | with_reducible refine g_cb ?_
  | with_reducible refine g_call ?_
  | with_reducible refine g_tup ?_
  | with_reducible refine g_lst ?_
  | with_reducible refine g_dget ?_
  | with_reducible refine g_dput ?_
  | with_reducible refine g_bm ?_
  | with_reducible refine g_lc ?_
  | with_reducible refine g_for ?_
  | with_reducible refine g_il ?_
  | with_reducible refine g_rng1 ?_
  | with_reducible refine g_gsub ?_
  | with_reducible refine g_din ?_
  | with_reducible refine g_disp ?_
  | with_reducible refine g_pairs ?_
  | with_reducible refine g_pairs0 ?_
  | with_reducible refine g_sl ?_
  | with_reducible refine g_part ?_
  | with_reducible refine g_part1 ?_
  | with_reducible refine g_nopart ?_
  | with_reducible refine g_andV ?_
  | with_reducible refine g_orV ?_
  | with_reducible refine g_notV ?_
  | with_reducible refine g_itp ?_
  | with_reducible refine g_par ?_
  | with_reducible refine g_par1 ?_
  | with_reducible refine g_par3 ?_
  | with_reducible refine g_par31 ?_
  | with_reducible refine g_gname ?_
  | with_reducible refine g_gcons ?_
  | with_reducible refine g_gnil ?_
  | with_reducible refine g_bm0 ?_)
local macro_rules | `(tactic| walk_at "go") => `(tactic| repeat walk_at "go1")
local macro_rules | `(tactic| walk_at "at") => `(tactic| repeat first
  | assumption
  | exact upd_same
  | with_reducible refine keep (by assumption) ?_
  | with_reducible refine keep_ne (by assumption) ?_
  | with_reducible refine Fr.get0 (by assumption) ?_
  | with_reducible refine Fr.get (by assumption) ?_ (by assumption)
  | with_reducible refine Fr.tup (by assumption) ?_)
local macro_rules | `(tactic| walk_at "fr") => `(tactic| repeat first
  | assumption
  | exact Fr.refl _ _
  | with_reducible refine Fr.trans ?_ (Fr.new (by assumption))
  | with_reducible refine Fr.trans ?_ (Fr.nil (by assumption))
  | with_reducible refine Fr.trans ?_ (by assumption))
local macro_rules | `(tactic| walk_at "gn") => `(tactic| repeat first
  | assumption
  | with_reducible refine Gn.fr0 ?_ (Fr.new (by assumption))
  | with_reducible refine Gn.fr0 ?_ (by assumption))
local macro_rules | `(tactic| walk_at "bt") => `(tactic| repeat first
  | assumption
  | with_reducible refine BAt.up (Fr.new (W := []) (by assumption)).1 _ _ ?_
  | with_reducible refine SAt.up (Fr.new (W := []) (by assumption)).1 _ _ ?_
  | with_reducible refine BAt.up (Fr.tupLe (by assumption)) _ _ ?_
  | with_reducible refine SAt.up (Fr.tupLe (by assumption)) _ _ ?_)
theorem g_star {K : PySem.W.Frag} {σ : L2.St} {H : Hp} {v : V} {t : TGs} {Q : L2.St → Hp → Prop} {a : Addr} {x : V} {xs : List V} (e : v = .ref a) (h : H a = some (.tup (x :: xs))) (z : xs.length ≤ 1000) (q : ∀ p, H p = none → t [x, .ref p] σ (upd H p (.lst xs)) Q) : gStar K t v σ H Q :=
  ⟨a, x, xs, e, .inl (.of h), z, q⟩
structure MkPre (H : Hp) (D y dx L me lf top : Addr) (v : V) (k : Nat) (st : Stm) (cur ts : List Addr) (sn : Sn) (pd : List (List Addr × Stm)) (c : Scp) (r : List Scp) : Prop where
  s : SAt H st v
  hL : H L = some (.tup ((top :: cur).reverse.map V.ref))
  scs : sn.sc = c :: r
  sc : Paired (fun a c => H a = some (.dK (ck c))) (top :: cur) (c :: r)
  nd : (top :: cur).Nodup
  hy : H y = some (.ins D dx (sfs k sn.mks.length me lf))
  hlf : H lf = some (.lst (ts.map V.ref))
  left : LeftAt H ts pd
  at_ : sn.at_ = k + 1
  am : sn.am = []
  cl : ∀ c ∈ sn.sc, c.length ≤ sn.mks.length
  sz : sn.mks.length + wL (mkP st ++ blkP st) ≤ 6000 ∧ cur.length ≤ 6000 ∧ ts.length ≤ 6000
structure MkRes (H H' : Hp) (D y dx me lf top : Addr) (k : Nat) (st : Stm) (cur : List Addr) (sn : Sn) (pd : List (List Addr × Stm)) (ts : List Addr) (pn : List (List Addr × Stm)) (frn ext : List Addr) (osn : List Op) (sn' : Sn) : Prop where
  hrun : ∀ os, run (mkP st ++ (blkP st ++ os)) sn = run (osn ++ os) sn'
  am : sn'.am = []
  at_ : sn'.at_ = sn.at_
  means : sn'.means = sn.means
  sc : Paired (fun a c => H' a = some (.dK (ck c))) (ext ++ (top :: cur)) sn'.sc
  pend : ∀ fr rest os, Pend (top :: cur) fr rest os → Pend (ext ++ (top :: cur)) (frn ++ fr) (pn ++ rest) (osn ++ os)
  hfrn : ∀ a ∈ frn, H' a = some (.dK [])
  new : ∀ a ∈ ext ++ frn, H a = none
  nd : (ext ++ frn).Nodup
  hy : H' y = some (.ins D dx (sfs k sn'.mks.length me lf))
  hlf : H' lf = some (.lst (ts.map V.ref))
  left : LeftAt H' ts (pn ++ pd)
  fr : Fr [y, lf, top] H H'
  cl : ∀ c ∈ sn'.sc, c.length ≤ sn'.mks.length
  sz : sn'.mks.length + wL osn + ext.length ≤ sn.mks.length + wL (mkP st ++ blkP st) ∧ wL osn + ext.length ≤ wL (mkP st ++ blkP st)
  dep : ∀ p ∈ pn, 1 + depS p.2 ≤ depS st ∧ p.1 ≠ []
def spSMakeAll (C D : Addr) : Sp := fun vs H Q E => ∃ (y dx L me lf top : Addr) (v : V) (k : Nat) (st : Stm) (cur ts : List Addr) (sn : Sn) (pd : List (List Addr × Stm)) (c : Scp) (r : List Scp), vs = [.ref y, v, .ref L] ∧ MkPre H D y dx L me lf top v k st cur ts sn pd c r ∧
  (∀ H' ts' pn frn ext osn sn', MkRes H H' D y dx me lf top k st cur sn pd ts' pn frn ext osn sn' → Q .non H') ∧
  ∀ wd j x H', (∀ os, (run (mkP st ++ (blkP st ++ os)) sn).am.head? = some (wd, j, x)) → Fr [y, lf, top] H H' → NpE C wd j x H' E
section
variable {H H' : Hp} {D y dx L me lf top : Addr} {v : V} {k b : Nat} {st : Stm} {cur ts : List Addr} {sn : Sn} {pd : List (List Addr × Stm)} {c : Scp} {r : List Scp} {x : Str} {fs : List (Str × V)}
/-- a name is made in the top scope -/
theorem made_sc (hp : Paired (fun a c => H a = some (.dK (ck c))) (top :: cur) (c :: r)) (nd : (top :: cur).Nodup) (hy : H y = some (.ins D dx fs)) {fs' : List (Str × V)} {i : Nat} :
    Paired (fun a c' => (upd (upd H top (.dK (ck (putS c x i)))) y (.ins D dx fs')) a = some (.dK (ck c'))) (top :: cur) (putS c x i :: r) := by
  have ne : ∀ {a : Addr} {c : Scp}, H a = some (.dK (ck c)) → a ≠ y := fun {a c} h z => by rw [z, hy] at h; cases h
  cases hp with
  | cons h1 hp =>
    refine .cons ((upd_ne (ne h1)).trans upd_same) (Paired.imp' hp fun a ha c h => ?_)
    have n2 : a ≠ top := fun z => (List.nodup_cons.mp nd).1 (z ▸ ha)
    rw [upd_ne (ne h), upd_ne n2]; exact h
theorem made_fr (ht : H top = some (.dK (ck c))) (hy : H y = some (.ins D dx fs)) {fs' : List (Str × V)} {kv : List (Key × V)} {W : List Addr} (h1 : top ∈ W) (h2 : y ∈ W) : Fr W H (upd (upd H top (.dK kv)) y (.ins D dx fs')) := by
  have ne : y ≠ top := fun z => by rw [z, ht] at hy; cases hy
  exact (Fr.put ht (by intro xs q; cases q) h1).trans (Fr.put ((upd_ne ne).trans hy) (by intro xs q; cases q) h2)
theorem made_run (e : sn.sc = c :: r) (a : sn.am = []) (g : getS c x = none) : run1 (.M x) sn = { sn with sc := putS c x sn.mks.length :: r, mks := sn.mks ++ [x] } := by
  rw [run_M_cons e, g, a]
  obtain ⟨_, _, _, _, am⟩ := sn
  dsimp only at a
  subst a
  rfl
theorem made_bad (e : sn.sc = c :: r) (a : sn.am = []) (g : getS c x ≠ none) : (run1 (.M x) sn).am.head? = some (("twice" : Str), sn.at_ - 1, x) := by
  rw [run_M_cons e]
  have g : (getS c x).isSome = true := by cases h : getS c x with | none => exact absurd h g | some _ => rfl
  show (sn.am ++ if (getS c x).isSome = true then _ else _).head? = _
  rw [if_pos g, a]; rfl
/-- one block is put -/
theorem mk_one {Hb H' : Hp} {L2 : Addr} {us : List Addr} {bl : List Stm} {ws : List V} {ext : List Addr} {cs : List Op} {sn' : Sn}
    (f : Fr [y, lf, top] H Hb) (hb : BAt H bl ws) (hL2 : Hb L2 = some (.tup ((ext ++ (top :: cur)).reverse.map V.ref))) (hsc : Paired (fun a c => Hb a = some (.dK (ck c))) (ext ++ (top :: cur)) sn'.sc) (hy : Hb y = some (.ins D dx (sfs k sn'.mks.length me lf))) (hlf : Hb lf = some (.lst (ts.map V.ref))) (hleft : LeftAt H ts pd)
    (fp : Fr [lf] Hb H') (e : H' lf = some (.lst (ts.map V.ref ++ us.map V.ref))) (pr : Paired (fun t v => H' t = some (.tup [v, .ref L2])) us ws.reverse)
    (hrun : ∀ os, run (mkP st ++ (blkP st ++ os)) sn = run ((ops bl ++ cs) ++ os) sn') (ham : sn'.am = []) (hat : sn'.at_ = sn.at_) (hme : sn'.means = sn.means) (new : ∀ a ∈ ext, H a = none) (nd : ext.Nodup)
    (hp : ∀ fr rest os, Pend (top :: cur) fr rest os → Pend (ext ++ (top :: cur)) fr rest (cs ++ os)) (cl : ∀ c ∈ sn'.sc, c.length ≤ sn'.mks.length) (sz : sn'.mks.length + wL (ops bl ++ cs) + ext.length ≤ sn.mks.length + wL (mkP st ++ blkP st) ∧ wL (ops bl ++ cs) + ext.length ≤ wL (mkP st ++ blkP st)) (hdep : ∀ s ∈ bl, 1 + depS s ≤ depS st) :
    MkRes H H' D y dx me lf top k st cur sn pd (ts ++ us) (bl.map (fun s => (ext ++ (top :: cur), s))) [] ext (ops bl ++ cs) sn' := by
  have nlf : ∀ {a : Addr} {c : Scp}, Hb a = some (.dK (ck c)) → a ∉ [lf] := fun {a c} h z => by rw [List.mem_singleton.mp z, hlf] at h; cases h
  refine ⟨hrun, ham, hat, hme, Paired.imp' hsc fun _ _ _ z => fp.get z (nlf z), fun fr rest os h => ?_, fun _ h => (by cases h), fun a ha => new a (by simpa using ha), by simpa using nd, fp.get hy (fun z => by rw [List.mem_singleton.mp z, hlf] at hy; cases hy), by rw [e, List.map_append],
    (((hleft.up f.tupLe).up fp.tupLe).add ((hb.up f.tupLe).up fp.tupLe) (fp.tup hL2) pr), f.trans (fp.mono fun a ha => by simp at ha ⊢; exact .inr (.inl ha)), cl, sz, fun p hp => ?_⟩
  · rw [List.append_assoc, List.nil_append]
    exact (hp fr rest os h).block bl
  · obtain ⟨s, hs, rfl⟩ := List.mem_map.mp hp
    exact ⟨hdep s hs, by simp⟩
end
section
variable {P : Program} {w : World} {K : PySem.W.Frag} {mg : Str → Option Value} {base : Heap}
theorem sc_Sight_make_all : FnScope ["self", "statement", "scopes", "word", "parts", "inner", "name"] ["self", "statement", "scopes"] (defScope ((inClass (topS 8) 4))) := ⟨rfl, rfl, rfl, by decide +kernel, rfl, by decide +kernel, by decide +kernel⟩
theorem ok_smake_all (A : All K mg) {C B fI D : Addr} (N : Np K mg C B fI) (S : SiK K mg D) : OkM P w K mg base (L2.CX P w) 4 D "make_all" ["self", "statement", "scopes"] (spSMakeAll C D) := by
  obtain ⟨f, hm, fd, F⟩ := S.ma
  have OM_make : OkM P w K mg base (L2.CX P w) 3 D "make" ["self", "name", "scope"] (spSMake C D) := ok_smake N S
  have OM_put_block : OkM P w K mg base CX0 1 D "put_block" ["self", "block", "scopes"] (spSPut D) := ok_sput A S
  refine ⟨f, fd, hm, F.bindsN (fun _ _ _ _ _ _ us hl => match us, hl with | [_, _, _], _ => rfl), F.ok sc_Sight_make_all (fun vs H Q E h => ?_) fun cdv Ar outer s H vs Q E hr h => ?_⟩
  · obtain ⟨_, _, _, _, _, _, _, _, _, _, _, _, _, _, _, rfl, _⟩ := h; rfl
  · obtain ⟨y, dx, L, me, lf, top, v, k, st, cur, ts, sn, pd, c, r, rfl, pre, q, qe⟩ := h
    refine ⟨_, (pss_cons (ps_asg (pv 1) (pg_star (K := K) rfl (pgs_cons (pg_name (i := 3) sc_Sight_make_all.nd rfl (Or.inl rfl)) (pgs_cons (pg_name (i := 4) sc_Sight_make_all.nd rfl (Or.inl rfl)) pgs_nil))))
    (pss_cons (ps_set (i := 5) sc_Sight_make_all.nd rfl (Or.inl rfl) pe_dnewK)
    (pss_cons (ps_if (pt_cmpR (op_inK (K := K)) (pv 3) (pe_tup (pa_cons pe_str (pa_cons pe_str (pa_cons pe_str (pa_cons pe_str pa_nil))))) rfl) (pss_one (ps_expr (pe_okMX OM_make S.cls (pv 0) (hr.mono (by omega)) (takes_of rfl rfl rfl rfl) (pa_cons (pe_ix (ix_listK (K := K)) (pv 4) pe_int (fun _ _ => rfl)) (pa_cons (pe_ix (ix_tupK (K := K)) (pv 2) (pe_un un_neg pe_int) (fun _ _ => rfl)) pa_nil))))) pss_nil)
    (pss_cons (ps_if (pt_cmpR op_eq (pv 3) pe_str (nomark _)) (pss_one (ps_for (passes_of rfl) rfl (pi_tup (pe_ix (ix_listK (K := K)) (pv 4) pe_int (fun _ _ => rfl))) (pg_name (i := 6) sc_Sight_make_all.nd rfl (Or.inl rfl)) (pss_one (ps_expr (pe_okMX OM_make S.cls (pv 0) (hr.mono (by omega)) (takes_of rfl rfl rfl rfl) (pa_cons (pv 6) (pa_cons (pv 5) pa_nil))))))) pss_nil)
    (pss_cons (ps_if (pt_cmpR op_eq (pv 3) pe_str (nomark _)) (pss_one (ps_expr (pe_okMX OM_make S.cls (pv 0) (hr.mono (by omega)) (takes_of rfl rfl rfl rfl) (pa_cons (pe_ix (ix_listK (K := K)) (pv 4) pe_int (fun _ _ => rfl)) (pa_cons (pv 5) pa_nil))))) pss_nil)
    (pss_one (ps_if (pt_cmpR op_eq (pv 3) pe_str (nomark _)) (pss_cons (ps_expr (pe_okM OM_put_block S.cls (pv 0) (hr.mono (by omega)) (pa_cons (pe_ix (ix_listK (K := K)) (pv 4) pe_int (fun _ _ => rfl)) (pa_cons (pe_op (op_catAK (K := K)) (pv 2) (pe_tup (pa_cons pe_dnewK pa_nil))) pa_nil))))
    (pss_one (ps_expr (pe_okM OM_put_block S.cls (pv 0) (hr.mono (by omega)) (pa_cons (pe_ix (ix_listK (K := K)) (pv 4) pe_int (fun _ _ => rfl)) (pa_cons (pe_op (op_catAK (K := K)) (pv 2) (pe_tup (pa_cons pe_dnewK pa_nil))) pa_nil)))))) (pss_one (ps_if (pw_and (pt_cmpR op_eq (pv 3) pe_str (nomark _)) (pw_and1 (pt_cmpR op_eq (pe_ix (ix_listK (K := K)) (pv 4) pe_int (fun _ _ => rfl)) pe_str (nomark _)))).pt (pss_one (ps_expr (pe_okM OM_put_block S.cls (pv 0) (hr.mono (by omega)) (pa_cons (pe_ix (ix_listK (K := K)) (pv 4) (pe_un un_neg pe_int) (fun _ _ => rfl)) (pa_cons (pe_op (op_catAK (K := K)) (pv 2) (pe_tup (pa_cons (pv 5) (pa_cons pe_dnewK pa_nil)))) pa_nil))))) (pss_one (ps_if (pt_cmpR (op_inK (K := K)) (pv 3) (pe_tup (pa_cons pe_str (pa_cons pe_str (pa_cons pe_str pa_nil)))) rfl) (pss_one (ps_expr (pe_okM OM_put_block S.cls (pv 0) (hr.mono (by omega)) (pa_cons (pe_ix (ix_listK (K := K)) (pv 4) (pe_un un_neg pe_int) (fun _ _ => rfl)) (pa_cons (pe_op (op_catAK (K := K)) (pv 2) (pe_tup (pa_cons (pv 5) pa_nil))) pa_nil))))) pss_nil))))))))))), ?_⟩
    have one : ∀ {n : Nat}, n ≤ 10 → n ≤ sizeLine := fun h => small_of (by omega)
    obtain ⟨hs, hL, hsc, hpr, hnd, hy, hlf, hleft, hat, ham, hcl, hsz, hcu, hts⟩ := pre
    have htop : H top = some (.dK (ck c)) := by cases hpr with | cons h _ => exact h
    have hc6 : c.length ≤ 6000 := Nat.le_trans (hcl c (by rw [hsc]; exact List.mem_cons_self)) (by omega)
    have hLr : (top :: cur).reverse.map V.ref = cur.reverse.map V.ref ++ [V.ref top] := by rw [List.reverse_cons, List.map_append]; rfl
    have ney : ∀ {a : Addr} {xs : List V}, H a = some (.tup xs) → a ≠ y := fun {a xs} h z => by rw [z, hy] at h; cases h
    have hytop : y ≠ top := fun z => by rw [z, htop] at hy; cases hy
    have hlftop : lf ≠ top := fun z => by rw [z, htop] at hlf; cases hlf
    have hlfy : lf ≠ y := fun z => by rw [z, hy] at hlf; cases hlf
    walk_at "go"
    cases st with
    | set x a =>
      simp only [SAt] at hs
      obtain ⟨p, rfl, hp⟩ := hs
      refine g_star rfl hp (by simp) fun pa npa => ?_
      walk_at "go"
      intro pin npin
      walk_at "go"
      refine ⟨one (by simp), fun p1 n1 => ?_⟩
      walk_at "go"
      refine g_inT upd_same rfl (by rfl) ?_
      walk_at "go"
      refine i_f (by decide +kernel) ?_
      walk_at "go"
      refine i_f (by decide +kernel) ?_
      walk_at "go"
      refine i_f (by decide +kernel) ?_
      walk_at "go"
      refine i_f (by decide +kernel) ?_
      walk_at "go"
      refine i_f (by decide +kernel) ?_
      walk_at "go"
      refine i_f rfl ?_
      walk_at "go"
      refine ⟨one (by simp), fun p2 n2 => ?_⟩
      walk_at "go"
      refine g_inT upd_same rfl (by rfl) ?_
      walk_at "go"
      refine i_f (by decide +kernel) ?_
      walk_at "go"
      have f : Fr [] H _ := (((Fr.new npa).trans (Fr.new npin)).trans (Fr.new (o := .tup [.str "let", .str "sum", .str "call", .str "fn"]) n1)).trans (Fr.new (o := .tup [.str "fn", .str "while", .str "times"]) n2)
      exact q _ ts [] [] [] [] sn ⟨fun os => rfl, ham, rfl, rfl, by rw [hsc]; exact Paired.imp' hpr fun _ _ _ z => f.get0 z, fun _ _ _ h => h, fun _ h => (by cases h), fun _ h => (by cases h), .nil, f.get0 hy, f.get0 hlf, hleft.up f.tupLe, f.nil, hcl, by simp [wL], fun _ h => (by cases h)⟩
    | tell a =>
      simp only [SAt] at hs
      obtain ⟨p, rfl, hp⟩ := hs
      refine g_star rfl hp (by simp) fun pa npa => ?_
      walk_at "go"
      intro pin npin
      walk_at "go"
      refine ⟨one (by simp), fun p1 n1 => ?_⟩
      walk_at "go"
      refine g_inT upd_same rfl (by rfl) ?_
      walk_at "go"
      refine i_f (by decide +kernel) ?_
      walk_at "go"
      refine i_f (by decide +kernel) ?_
      walk_at "go"
      refine i_f (by decide +kernel) ?_
      walk_at "go"
      refine i_f (by decide +kernel) ?_
      walk_at "go"
      refine i_f (by decide +kernel) ?_
      walk_at "go"
      refine i_f rfl ?_
      walk_at "go"
      refine ⟨one (by simp), fun p2 n2 => ?_⟩
      walk_at "go"
      refine g_inT upd_same rfl (by rfl) ?_
      walk_at "go"
      refine i_f (by decide +kernel) ?_
      walk_at "go"
      have f : Fr [] H _ := (((Fr.new npa).trans (Fr.new npin)).trans (Fr.new (o := .tup [.str "let", .str "sum", .str "call", .str "fn"]) n1)).trans (Fr.new (o := .tup [.str "fn", .str "while", .str "times"]) n2)
      exact q _ ts [] [] [] [] sn ⟨fun os => rfl, ham, rfl, rfl, by rw [hsc]; exact Paired.imp' hpr fun _ _ _ z => f.get0 z, fun _ _ _ h => h, fun _ h => (by cases h), fun _ h => (by cases h), .nil, f.get0 hy, f.get0 hlf, hleft.up f.tupLe, f.nil, hcl, by simp [wL], fun _ h => (by cases h)⟩
    | give a =>
      simp only [SAt] at hs
      obtain ⟨p, rfl, hp⟩ := hs
      refine g_star rfl hp (by simp) fun pa npa => ?_
      walk_at "go"
      intro pin npin
      walk_at "go"
      refine ⟨one (by simp), fun p1 n1 => ?_⟩
      walk_at "go"
      refine g_inT upd_same rfl (by rfl) ?_
      walk_at "go"
      refine i_f (by decide +kernel) ?_
      walk_at "go"
      refine i_f (by decide +kernel) ?_
      walk_at "go"
      refine i_f (by decide +kernel) ?_
      walk_at "go"
      refine i_f (by decide +kernel) ?_
      walk_at "go"
      refine i_f (by decide +kernel) ?_
      walk_at "go"
      refine i_f rfl ?_
      walk_at "go"
      refine ⟨one (by simp), fun p2 n2 => ?_⟩
      walk_at "go"
      refine g_inT upd_same rfl (by rfl) ?_
      walk_at "go"
      refine i_f (by decide +kernel) ?_
      walk_at "go"
      have f : Fr [] H _ := (((Fr.new npa).trans (Fr.new npin)).trans (Fr.new (o := .tup [.str "let", .str "sum", .str "call", .str "fn"]) n1)).trans (Fr.new (o := .tup [.str "fn", .str "while", .str "times"]) n2)
      exact q _ ts [] [] [] [] sn ⟨fun os => rfl, ham, rfl, rfl, by rw [hsc]; exact Paired.imp' hpr fun _ _ _ z => f.get0 z, fun _ _ _ h => h, fun _ h => (by cases h), fun _ h => (by cases h), .nil, f.get0 hy, f.get0 hlf, hleft.up f.tupLe, f.nil, hcl, by simp [wL], fun _ h => (by cases h)⟩
    | let_ x a =>
      simp only [SAt] at hs
      obtain ⟨p, rfl, hp⟩ := hs
      refine g_star rfl hp (by simp) fun pa npa => ?_
      walk_at "go"
      intro pin npin
      walk_at "go"
      refine ⟨one (by simp), fun p1 n1 => ?_⟩
      walk_at "go"
      refine g_inT upd_same rfl (by rfl) ?_
      walk_at "go"
      refine i_t (by decide +kernel) ?_
      walk_at "go"
      have f1 : Fr [] H _ := ((Fr.new npa).trans (Fr.new npin)).trans (Fr.new (o := .tup [.str "let", .str "sum", .str "call", .str "fn"]) n1)
      with_reducible refine g_meth ?_
      walk_at "go"
      refine ⟨y, dx, _, rfl, f1.get0 hy, (by rfl), ?_⟩
      walk_at "go"
      refine g_ixL (keep n1 (keep npin upd_same)) (by rfl) ?_
      walk_at "go"
      refine g_ixT (f1.tup hL) (v := .ref top) (by rw [hLr]; exact atI_last) ?_
      walk_at "go"
      refine ⟨y, top, dx, k, sn.mks.length, me, lf, c, x, rfl, f1.get0 hy, f1.get0 htop, by omega, fun gn => ?_, fun gn => ?_⟩
      rotate_left
      · have bad := made_bad (x := x) hsc ham gn
        rw [hat] at bad
        exact qe ("twice" : Str) k x _ (fun os => by show (run _ (run1 (.M x) sn)).am.head? = _; exact head_more bad) f1.nil
      have hsc1 := made_sc (x := x) (fs' := sfs k (sn.mks.length + 1) me lf) (i := sn.mks.length) (Paired.imp' hpr fun _ _ _ z => f1.get0 z) hnd (f1.get0 hy)
      have f2 : Fr [y, lf, top] H _ := f1.nil.trans (made_fr (fs' := sfs k (sn.mks.length + 1) me lf) (kv := ck (putS c x sn.mks.length)) (f1.get0 htop) (f1.get0 hy) (W := [y, lf, top]) (by simp) (by simp))
      have hy2 : (upd (upd (upd (upd (upd H pa (.lst [.str x, a.v])) pin (.dK [])) p1 (.tup [.str "let", .str "sum", .str "call", .str "fn"])) top (.dK (ck (putS c x sn.mks.length)))) y (.ins D dx (sfs k (sn.mks.length + 1) me lf))) y = _ := upd_same
      have hlf2 : (upd (upd (upd (upd (upd H pa (.lst [.str x, a.v])) pin (.dK [])) p1 (.tup [.str "let", .str "sum", .str "call", .str "fn"])) top (.dK (ck (putS c x sn.mks.length)))) y (.ins D dx (sfs k (sn.mks.length + 1) me lf))) lf = _ := (upd_ne hlfy).trans ((upd_ne hlftop).trans (f1.get0 hlf))
      have hr1 := made_run (x := x) hsc ham gn
      walk_at "go"
      refine i_f (by decide +kernel) ?_
      walk_at "go"
      refine i_f (by decide +kernel) ?_
      walk_at "go"
      refine i_f (by decide +kernel) ?_
      walk_at "go"
      refine i_f (by decide +kernel) ?_
      walk_at "go"
      refine i_f rfl ?_
      walk_at "go"
      refine ⟨one (by simp), fun p2 n2 => ?_⟩
      walk_at "go"
      refine g_inT upd_same rfl (by rfl) ?_
      walk_at "go"
      refine i_f (by decide +kernel) ?_
      walk_at "go"
      have f3 := Fr.new (W := []) (o := .tup [.str "fn", .str "while", .str "times"]) n2
      refine q _ ts [] [] [] [] (run1 (.M x) sn) ⟨fun os => rfl, by rw [hr1]; exact ham, by rw [hr1], by rw [hr1], by rw [hr1]; exact Paired.imp' hsc1 fun _ _ _ z => f3.get0 z, fun _ _ _ h => h, fun _ h => (by cases h), fun _ h => (by cases h), .nil, f3.get0 (by rw [hr1, List.length_append]; exact hy2), f3.get0 hlf2, (hleft.up f2.tupLe).up f3.tupLe, f2.trans f3.nil, ?_, by rw [hr1]; simp [wL, wO, mkP, blkP], fun _ h => (by cases h)⟩
      rw [hr1]
      intro c' hc'
      rcases List.mem_cons.mp hc' with rfl | hc'
      · have := putS_len c x sn.mks.length
        have := hcl c (by rw [hsc]; exact List.mem_cons_self)
        simp; omega
      · have := hcl c' (by rw [hsc]; exact List.mem_cons_of_mem _ hc')
        simp; omega
    | sum x s0 a b0 =>
      simp only [SAt] at hs
      obtain ⟨p, rfl, hp⟩ := hs
      refine g_star rfl hp (by simp) fun pa npa => ?_
      walk_at "go"
      intro pin npin
      walk_at "go"
      refine ⟨one (by simp), fun p1 n1 => ?_⟩
      walk_at "go"
      refine g_inT upd_same rfl (by rfl) ?_
      walk_at "go"
      refine i_t (by decide +kernel) ?_
      walk_at "go"
      have f1 : Fr [] H _ := ((Fr.new npa).trans (Fr.new npin)).trans (Fr.new (o := .tup [.str "let", .str "sum", .str "call", .str "fn"]) n1)
      with_reducible refine g_meth ?_
      walk_at "go"
      refine ⟨y, dx, _, rfl, f1.get0 hy, (by rfl), ?_⟩
      walk_at "go"
      refine g_ixL (keep n1 (keep npin upd_same)) (by rfl) ?_
      walk_at "go"
      refine g_ixT (f1.tup hL) (v := .ref top) (by rw [hLr]; exact atI_last) ?_
      walk_at "go"
      refine ⟨y, top, dx, k, sn.mks.length, me, lf, c, x, rfl, f1.get0 hy, f1.get0 htop, by omega, fun gn => ?_, fun gn => ?_⟩
      rotate_left
      · have bad := made_bad (x := x) hsc ham gn
        rw [hat] at bad
        exact qe ("twice" : Str) k x _ (fun os => by show (run _ (run1 (.M x) sn)).am.head? = _; exact head_more bad) f1.nil
      have hsc1 := made_sc (x := x) (fs' := sfs k (sn.mks.length + 1) me lf) (i := sn.mks.length) (Paired.imp' hpr fun _ _ _ z => f1.get0 z) hnd (f1.get0 hy)
      have f2 : Fr [y, lf, top] H _ := f1.nil.trans (made_fr (fs' := sfs k (sn.mks.length + 1) me lf) (kv := ck (putS c x sn.mks.length)) (f1.get0 htop) (f1.get0 hy) (W := [y, lf, top]) (by simp) (by simp))
      have hy2 : (upd (upd (upd (upd (upd H pa (.lst [.str x, .str s0, a.v, b0.v])) pin (.dK [])) p1 (.tup [.str "let", .str "sum", .str "call", .str "fn"])) top (.dK (ck (putS c x sn.mks.length)))) y (.ins D dx (sfs k (sn.mks.length + 1) me lf))) y = _ := upd_same
      have hlf2 : (upd (upd (upd (upd (upd H pa (.lst [.str x, .str s0, a.v, b0.v])) pin (.dK [])) p1 (.tup [.str "let", .str "sum", .str "call", .str "fn"])) top (.dK (ck (putS c x sn.mks.length)))) y (.ins D dx (sfs k (sn.mks.length + 1) me lf))) lf = _ := (upd_ne hlfy).trans ((upd_ne hlftop).trans (f1.get0 hlf))
      have hr1 := made_run (x := x) hsc ham gn
      walk_at "go"
      refine i_f (by decide +kernel) ?_
      walk_at "go"
      refine i_f (by decide +kernel) ?_
      walk_at "go"
      refine i_f (by decide +kernel) ?_
      walk_at "go"
      refine i_f (by decide +kernel) ?_
      walk_at "go"
      refine i_f rfl ?_
      walk_at "go"
      refine ⟨one (by simp), fun p2 n2 => ?_⟩
      walk_at "go"
      refine g_inT upd_same rfl (by rfl) ?_
      walk_at "go"
      refine i_f (by decide +kernel) ?_
      walk_at "go"
      have f3 := Fr.new (W := []) (o := .tup [.str "fn", .str "while", .str "times"]) n2
      refine q _ ts [] [] [] [] (run1 (.M x) sn) ⟨fun os => rfl, by rw [hr1]; exact ham, by rw [hr1], by rw [hr1], by rw [hr1]; exact Paired.imp' hsc1 fun _ _ _ z => f3.get0 z, fun _ _ _ h => h, fun _ h => (by cases h), fun _ h => (by cases h), .nil, f3.get0 (by rw [hr1, List.length_append]; exact hy2), f3.get0 hlf2, (hleft.up f2.tupLe).up f3.tupLe, f2.trans f3.nil, ?_, by rw [hr1]; simp [wL, wO, mkP, blkP], fun _ h => (by cases h)⟩
      rw [hr1]
      intro c' hc'
      rcases List.mem_cons.mp hc' with rfl | hc'
      · have := putS_len c x sn.mks.length
        have := hcl c (by rw [hsc]; exact List.mem_cons_self)
        simp; omega
      · have := hcl c' (by rw [hsc]; exact List.mem_cons_of_mem _ hc')
        simp; omega
    | call x f0 as =>
      simp only [SAt] at hs
      obtain ⟨p, q0, rfl, hp, hq⟩ := hs
      refine g_star rfl hp (by simp) fun pa npa => ?_
      walk_at "go"
      intro pin npin
      walk_at "go"
      refine ⟨one (by simp), fun p1 n1 => ?_⟩
      walk_at "go"
      refine g_inT upd_same rfl (by rfl) ?_
      walk_at "go"
      refine i_t (by decide +kernel) ?_
      walk_at "go"
      have f1 : Fr [] H _ := ((Fr.new npa).trans (Fr.new npin)).trans (Fr.new (o := .tup [.str "let", .str "sum", .str "call", .str "fn"]) n1)
      with_reducible refine g_meth ?_
      walk_at "go"
      refine ⟨y, dx, _, rfl, f1.get0 hy, (by rfl), ?_⟩
      walk_at "go"
      refine g_ixL (keep n1 (keep npin upd_same)) (by rfl) ?_
      walk_at "go"
      refine g_ixT (f1.tup hL) (v := .ref top) (by rw [hLr]; exact atI_last) ?_
      walk_at "go"
      refine ⟨y, top, dx, k, sn.mks.length, me, lf, c, x, rfl, f1.get0 hy, f1.get0 htop, by omega, fun gn => ?_, fun gn => ?_⟩
      rotate_left
      · have bad := made_bad (x := x) hsc ham gn
        rw [hat] at bad
        exact qe ("twice" : Str) k x _ (fun os => by show (run _ (run1 (.M x) sn)).am.head? = _; exact head_more bad) f1.nil
      have hsc1 := made_sc (x := x) (fs' := sfs k (sn.mks.length + 1) me lf) (i := sn.mks.length) (Paired.imp' hpr fun _ _ _ z => f1.get0 z) hnd (f1.get0 hy)
      have f2 : Fr [y, lf, top] H _ := f1.nil.trans (made_fr (fs' := sfs k (sn.mks.length + 1) me lf) (kv := ck (putS c x sn.mks.length)) (f1.get0 htop) (f1.get0 hy) (W := [y, lf, top]) (by simp) (by simp))
      have hy2 : (upd (upd (upd (upd (upd H pa (.lst [.str x, .str f0, .ref q0])) pin (.dK [])) p1 (.tup [.str "let", .str "sum", .str "call", .str "fn"])) top (.dK (ck (putS c x sn.mks.length)))) y (.ins D dx (sfs k (sn.mks.length + 1) me lf))) y = _ := upd_same
      have hlf2 : (upd (upd (upd (upd (upd H pa (.lst [.str x, .str f0, .ref q0])) pin (.dK [])) p1 (.tup [.str "let", .str "sum", .str "call", .str "fn"])) top (.dK (ck (putS c x sn.mks.length)))) y (.ins D dx (sfs k (sn.mks.length + 1) me lf))) lf = _ := (upd_ne hlfy).trans ((upd_ne hlftop).trans (f1.get0 hlf))
      have hr1 := made_run (x := x) hsc ham gn
      walk_at "go"
      refine i_f (by decide +kernel) ?_
      walk_at "go"
      refine i_f (by decide +kernel) ?_
      walk_at "go"
      refine i_f (by decide +kernel) ?_
      walk_at "go"
      refine i_f (by decide +kernel) ?_
      walk_at "go"
      refine i_f rfl ?_
      walk_at "go"
      refine ⟨one (by simp), fun p2 n2 => ?_⟩
      walk_at "go"
      refine g_inT upd_same rfl (by rfl) ?_
      walk_at "go"
      refine i_f (by decide +kernel) ?_
      walk_at "go"
      have f3 := Fr.new (W := []) (o := .tup [.str "fn", .str "while", .str "times"]) n2
      refine q _ ts [] [] [] [] (run1 (.M x) sn) ⟨fun os => rfl, by rw [hr1]; exact ham, by rw [hr1], by rw [hr1], by rw [hr1]; exact Paired.imp' hsc1 fun _ _ _ z => f3.get0 z, fun _ _ _ h => h, fun _ h => (by cases h), fun _ h => (by cases h), .nil, f3.get0 (by rw [hr1, List.length_append]; exact hy2), f3.get0 hlf2, (hleft.up f2.tupLe).up f3.tupLe, f2.trans f3.nil, ?_, by rw [hr1]; simp [wL, wO, mkP, blkP], fun _ h => (by cases h)⟩
      rw [hr1]
      intro c' hc'
      rcases List.mem_cons.mp hc' with rfl | hc'
      · have := putS_len c x sn.mks.length
        have := hcl c (by rw [hsc]; exact List.mem_cons_self)
        simp; omega
      · have := hcl c' (by rw [hsc]; exact List.mem_cons_of_mem _ hc')
        simp; omega
    | fn x ps b =>
      simp only [SAt] at hs
      obtain ⟨p, q0, qb, vs, rfl, hp, hq, hqb, hbt⟩ := hs
      have hbl : b.length ≤ 6000 ∧ ps.length ≤ 6000 ∧ sn.mks.length + ps.length + 1 ≤ 6000 := by have := len_w b; simp only [mkP, blkP, List.nil_append, List.cons_append, wL_cons, wL_append, wL_Ms, wO] at hsz; unfold wB at this; omega
      refine g_star rfl hp (by simp) fun pa npa => ?_
      walk_at "go"
      intro pin npin
      walk_at "go"
      have hpin : H pin = none := (none_upd npin).1
      refine ⟨one (by simp), fun p1 n1 => ?_⟩
      walk_at "go"
      refine g_inT upd_same rfl (by rfl) ?_
      walk_at "go"
      refine i_t (by decide +kernel) ?_
      walk_at "go"
      have f1 : Fr [] H _ := ((Fr.new npa).trans (Fr.new npin)).trans (Fr.new (o := .tup [.str "let", .str "sum", .str "call", .str "fn"]) n1)
      with_reducible refine g_meth ?_
      walk_at "go"
      refine ⟨y, dx, _, rfl, f1.get0 hy, (by rfl), ?_⟩
      walk_at "go"
      refine g_ixL (keep n1 (keep npin upd_same)) (by rfl) ?_
      walk_at "go"
      refine g_ixT (f1.tup hL) (v := .ref top) (by rw [hLr]; exact atI_last) ?_
      walk_at "go"
      refine ⟨y, top, dx, k, sn.mks.length, me, lf, c, x, rfl, f1.get0 hy, f1.get0 htop, by omega, fun gn => ?_, fun gn => ?_⟩
      rotate_left
      · have bad := made_bad (x := x) hsc ham gn
        rw [hat] at bad
        exact qe ("twice" : Str) k x _ (fun os => by show (run _ (run1 (.M x) sn)).am.head? = _; exact head_more bad) f1.nil
      have hsc1 := made_sc (x := x) (fs' := sfs k (sn.mks.length + 1) me lf) (i := sn.mks.length) (Paired.imp' hpr fun _ _ _ z => f1.get0 z) hnd (f1.get0 hy)
      have f2 : Fr [y, lf, top] H _ := f1.nil.trans (made_fr (fs' := sfs k (sn.mks.length + 1) me lf) (kv := ck (putS c x sn.mks.length)) (f1.get0 htop) (f1.get0 hy) (W := [y, lf, top]) (by simp) (by simp))
      have hy2 : (upd (upd (upd (upd (upd H pa (.lst [.str x, .ref q0, .ref qb])) pin (.dK [])) p1 (.tup [.str "let", .str "sum", .str "call", .str "fn"])) top (.dK (ck (putS c x sn.mks.length)))) y (.ins D dx (sfs k (sn.mks.length + 1) me lf))) y = _ := upd_same
      have hlf2 : (upd (upd (upd (upd (upd H pa (.lst [.str x, .ref q0, .ref qb])) pin (.dK [])) p1 (.tup [.str "let", .str "sum", .str "call", .str "fn"])) top (.dK (ck (putS c x sn.mks.length)))) y (.ins D dx (sfs k (sn.mks.length + 1) me lf))) lf = _ := (upd_ne hlfy).trans ((upd_ne hlftop).trans (f1.get0 hlf))
      have hr1 := made_run (x := x) hsc ham gn
      walk_at "go"
      refine i_t (by decide +kernel) ?_
      walk_at "go"
      have epa2 : (upd (upd (upd (upd (upd H pa (.lst [.str x, .ref q0, .ref qb])) pin (.dK [])) p1 (.tup [.str "let", .str "sum", .str "call", .str "fn"])) top (.dK (ck (putS c x sn.mks.length)))) y (.ins D dx (sfs k (sn.mks.length + 1) me lf))) pa = some (.lst [.str x, .ref q0, .ref qb]) :=
        (upd_ne (fun z => by rw [z, hy] at npa; cases npa)).trans ((upd_ne (fun z => by rw [z, htop] at npa; cases npa)).trans (keep n1 (keep npin upd_same)))
      have epin2 : (upd (upd (upd (upd (upd H pa (.lst [.str x, .ref q0, .ref qb])) pin (.dK [])) p1 (.tup [.str "let", .str "sum", .str "call", .str "fn"])) top (.dK (ck (putS c x sn.mks.length)))) y (.ins D dx (sfs k (sn.mks.length + 1) me lf))) pin = some (.dK []) :=
        (upd_ne (fun z => by rw [z, hy] at hpin; cases hpin)).trans ((upd_ne (fun z => by rw [z, htop] at hpin; cases hpin)).trans (keep n1 upd_same))
      generalize upd (upd (upd (upd (upd H pa (.lst [.str x, .ref q0, .ref qb])) pin (.dK [])) p1 (.tup [.str "let", .str "sum", .str "call", .str "fn"])) top (.dK (ck (putS c x sn.mks.length)))) y (.ins D dx (sfs k (sn.mks.length + 1) me lf)) = H2 at *
      refine g_ixL epa2 (v := .ref q0) (by rfl) ?_
      walk_at "go"
      have hcl1 : ∀ c' ∈ (run1 (.M x) sn).sc, c'.length ≤ (run1 (.M x) sn).mks.length := by
        rw [hr1]
        intro c' hc'
        rcases List.mem_cons.mp hc' with rfl | hc'
        · have := putS_len c x sn.mks.length
          have := hcl c (by rw [hsc]; exact List.mem_cons_self)
          simp; omega
        · have := hcl c' (by rw [hsc]; exact List.mem_cons_of_mem _ hc')
          simp; omega
      have hsc1r : (run1 (.M x) sn).sc = putS c x sn.mks.length :: r := by rw [hr1]
      have hml1 : (run1 (.M x) sn).mks.length = sn.mks.length + 1 := by rw [hr1]; simp
      have ham1 : (run1 (.M x) sn).am = [] := by rw [hr1]; exact ham
      have hat1 : (run1 (.M x) sn).at_ = k + 1 := by rw [hr1]; exact hat
      have hme1 : (run1 (.M x) sn).means = sn.means := by rw [hr1]
      rw [← hml1] at hy2
      generalize hsn1 : run1 (.M x) sn = sn1 at *
      have pny : pin ≠ y := fun z => by rw [z, hy] at hpin; cases hpin
      have pnl : pin ≠ lf := fun z => by rw [z, hlf] at hpin; cases hpin
      have pnd : (pin :: top :: cur).Nodup := by
        refine List.nodup_cons.mpr ⟨fun z => ?_, hnd⟩
        obtain ⟨_, _, e⟩ := Paired.mem_left hpr pin z
        rw [hpin] at e; cases e
      refine for_tup (xs := ps.map V.str) (fun i σ' H' => ∃ (u : Option V) (ci : Scp) (si : Sn), σ' = [some (.ref y), some (.ref p), some (.ref L), some (.str "fn"), some (.ref pa), some (.ref pin), u] ∧ si = run ((ps.take i).map Op.M) (run1 .O sn1) ∧ si.sc = ci :: sn1.sc ∧ si.am = [] ∧ si.at_ = k + 1 ∧ si.means = sn.means ∧ si.mks.length = sn1.mks.length + i ∧ ci.length ≤ i ∧
          Fr [y, pin] H2 H' ∧ H' y = some (.ins D dx (sfs k si.mks.length me lf)) ∧ Paired (fun a c => H' a = some (.dK (ck c))) (pin :: top :: cur) (ci :: sn1.sc))
        ⟨_, [], run1 .O sn1, rfl, by simp [run], rfl, ham1, hat1, hme1, rfl, Nat.zero_le _, Fr.refl _ _, hy2, .cons epin2 (by rw [hsc1r]; exact hsc1)⟩ (fun i σ' H' ⟨_, _, _, _, _, _, _, _, _, _, _, f, _⟩ => f.tup (f2.tup hq)) (fun σ' H' pp => ?_) (fun i x2 σ' H' hx pp => ?_)
      rotate_left
      · obtain ⟨u, ci, si, rfl, e1, e2, e3, e4, e5, e6, e7, fi, hyi, pri⟩ := pp
        obtain ⟨z, hz, rfl⟩ := map_at hx
        have hil : i < ps.length := (List.getElem?_eq_some_iff.mp hz).1
        have hdrop : ps.drop i = z :: ps.drop (i + 1) := by
          rw [List.drop_eq_getElem_cons hil]
          rw [(List.getElem?_eq_some_iff.mp hz).2]
        have epin : H' pin = some (.dK (ck ci)) := by cases pri with | cons h _ => exact h
        walk_at "go"
        with_reducible refine g_meth ?_
        walk_at "go"
        refine ⟨y, dx, _, rfl, hyi, (by rfl), ?_⟩
        walk_at "go"
        refine ⟨y, pin, dx, k, si.mks.length, me, lf, ci, z, rfl, hyi, epin, by omega, fun gi => ?_, fun gi => ?_⟩
        · walk_at "go"
          have hr2 := made_run (x := z) e2 e3 gi
          refine ⟨_, putS ci z si.mks.length, run1 (.M z) si, rfl, ?_, by rw [hr2], by rw [hr2]; exact e3, by rw [hr2]; exact e4, by rw [hr2]; exact e5, by rw [hr2, List.length_append]; simp; omega, Nat.le_trans (putS_len _ _ _) (by omega), fi.trans (made_fr epin hyi (by simp) (by simp)), by rw [hr2, List.length_append]; exact upd_same, made_sc pri pnd hyi⟩
          rw [List.take_add_one, hz, List.map_append, run_append, ← e1]
          rfl
        · have bad := made_bad (x := z) e2 e3 gi
          rw [e4] at bad
          refine qe ("twice" : Str) k z H' (fun os => ?_) ?_
          · have ez : run (mkP (.fn x ps b) ++ (blkP (.fn x ps b) ++ os)) sn = run ((ps.drop (i + 1)).map Op.M ++ (ops b ++ (.C :: os))) (run1 (.M z) si) := by
              show run (.O :: (ps.map Op.M ++ (ops b ++ [.C])) ++ os) (run1 (.M x) sn) = _
              rw [hsn1, e1]
              show run (ps.map Op.M ++ (ops b ++ [.C]) ++ os) (run1 .O sn1) = _
              have ep : ps.map Op.M = (ps.take i).map Op.M ++ (.M z :: (ps.drop (i + 1)).map Op.M) := by
                rw [show (Op.M z :: (ps.drop (i + 1)).map Op.M) = (z :: ps.drop (i + 1)).map Op.M from rfl, ← hdrop, ← List.map_append, List.take_append_drop]
              rw [ep, List.append_assoc, List.append_assoc, run_append]
              show run (((ps.drop (i + 1)).map Op.M) ++ ((ops b ++ [.C]) ++ os)) (run1 (.M z) _) = _
              rw [List.append_assoc]
              rfl
            rw [ez]
            exact head_more bad
          · exact fr_cut (fi.mono (W' := [y, lf, pin]) (fun a ha => by simp at ha ⊢; rcases ha with h | h <;> simp [h])) f2 (fun a ha => by
              simp at ha
              rcases ha with rfl | rfl | rfl
              · exact .inl (by simp)
              · exact .inl (by simp)
              · exact .inr hpin)
      obtain ⟨u, ci, si, rfl, e1, e2, e3, e4, e5, e6, e7, fi, hyi, pri⟩ := pp
      rw [List.length_map] at e6 e7
      rw [List.length_map, List.take_length] at e1
      have f3 : Fr [y, lf, top] H H' := fr_cut (fi.mono (W' := [y, lf, pin]) (fun a ha => by simp at ha ⊢; rcases ha with h | h <;> simp [h])) f2 (fun a ha => by
        simp at ha
        rcases ha with rfl | rfl | rfl
        · exact .inl (by simp)
        · exact .inl (by simp)
        · exact .inr hpin)
      have epa : H' pa = some (.lst [.str x, .ref q0, .ref qb]) := fi.get epa2 (fun z => by
        simp at z
        rcases z with z | z
        · rw [z, hy] at npa; cases npa
        · rw [z] at npin; rw [upd_same] at npin; cases npin)
      have hlf3 : H' lf = some (.lst (ts.map V.ref)) := fi.get hlf2 (fun z => by
        simp at z
        rcases z with z | z
        · exact hlfy z
        · exact pnl z.symm)
      walk_at "go"
      refine i_f (by decide +kernel) ?_
      walk_at "go"
      refine i_f (by decide +kernel) ?_
      walk_at "go"
      refine i_f (by decide +kernel) ?_
      walk_at "go"
      refine i_f rfl ?_
      walk_at "go"
      refine ⟨one (by simp), fun p2 n2 => ?_⟩
      walk_at "go"
      refine g_inT upd_same rfl (by rfl) ?_
      walk_at "go"
      refine i_t (by decide +kernel) ?_
      walk_at "go"
      have f4 : Fr [] H' _ := Fr.new (o := .tup [.str "fn", .str "while", .str "times"]) n2
      replace epa := f4.get0 epa
      replace hyi := f4.get0 hyi
      replace hlf3 := f4.get0 hlf3
      replace f3 := f3.trans f4.nil
      replace pri := Paired.imp' pri fun _ _ _ z => f4.get0 z
      generalize upd H' p2 (.tup [.str "fn", .str "while", .str "times"]) = H2b at *
      with_reducible refine g_meth ?_
      walk_at "go"
      refine ⟨y, dx, _, rfl, hyi, (by rfl), ?_⟩
      walk_at "go"
      refine g_ixL epa (v := .ref qb) (by rfl) ?_
      walk_at "go"
      refine ⟨one (by simp), fun p5 n5 => ?_⟩
      refine g_catA (keep n5 (f3.tup hL)) upd_same (small_of (by simp; omega)) (fun L2 H3 f3b e3b => ?_)
      walk_at "go"
      have f5 : Fr [] H2b H3 := (Fr.new n5).trans f3b
      refine ⟨y, qb, L2, dx, k, si.mks.length, me, lf, ts.map V.ref, vs, rfl, f5.get0 hyi, f5.tup (f3.tup hqb), f5.get0 hlf3, by rw [List.length_map, hbt.len]; omega, fun H4 us fp e pr => ?_⟩
      walk_at "go"
      refine q H4 _ _ [] [pin] _ si (mk_one (cs := [.C]) (f3.trans f5.nil) hbt (by rw [e3b, hLr]; simp) ?_ (f5.get0 hyi) (f5.get0 hlf3) hleft fp e pr (fun os => ?_) e3 (by rw [e4, hat]) e5 (fun a ha => by rw [List.mem_singleton.mp ha]; exact hpin) (by simp) (fun _ _ _ h => .close h) ?_ ?_ fun s hs => depB_mem (Nat.le_of_eq (by simp only [depS])) s hs)
      · rw [e2]
        exact Paired.imp' pri fun _ _ _ z => f5.get0 z
      · show run (.O :: (ps.map Op.M ++ (ops b ++ [.C])) ++ os) (run1 (.M x) sn) = _
        rw [hsn1, e1]
        show run (ps.map Op.M ++ (ops b ++ [.C]) ++ os) (run1 .O sn1) = _
        rw [List.append_assoc, run_append]
      · intro c' hc'
        rw [e2] at hc'
        rcases List.mem_cons.mp hc' with rfl | hc'
        · omega
        · have := hcl1 c' hc'
          omega
      · simp only [mkP, blkP, List.nil_append, List.cons_append, wL_cons, wL_append, wL_Ms, wO, wL_nil, List.length_cons, List.length_nil]; omega
    | ite a b d =>
      simp only [SAt] at hs
      obtain ⟨p, q0, q1, vs, ws, rfl, hp, hq, hbt, hq1, hdt⟩ := hs
      have hbl : b.length + d.length ≤ 6000 := by have := len_w b; have := len_w d; simp only [mkP, blkP, List.nil_append, wL_cons, wL_append, wO] at hsz; unfold wB at *; omega
      refine g_star rfl hp (by simp) fun pa npa => ?_
      walk_at "go"
      intro pin npin
      walk_at "go"
      refine ⟨one (by simp), fun p1 n1 => ?_⟩
      walk_at "go"
      refine g_inT upd_same rfl (by rfl) ?_
      walk_at "go"
      refine i_f (by decide +kernel) ?_
      walk_at "go"
      refine i_f (by decide +kernel) ?_
      walk_at "go"
      refine i_f (by decide +kernel) ?_
      walk_at "go"
      refine i_t (by decide +kernel) ?_
      walk_at "go"
      have f1 : Fr [] H _ := ((Fr.new npa).trans (Fr.new npin)).trans (Fr.new (o := .tup [.str "let", .str "sum", .str "call", .str "fn"]) n1)
      have epa : (upd (upd (upd H pa (.lst [a.v, .ref q0, .ref q1])) pin (.dK [])) p1 (.tup [.str "let", .str "sum", .str "call", .str "fn"])) pa = some (.lst [a.v, .ref q0, .ref q1]) := keep n1 (keep npin upd_same)
      generalize upd (upd (upd H pa (.lst [a.v, .ref q0, .ref q1])) pin (.dK [])) p1 (.tup [.str "let", .str "sum", .str "call", .str "fn"]) = H2 at *
      with_reducible refine g_meth ?_
      walk_at "go"
      refine ⟨y, dx, _, rfl, (f1.get0 hy), (by rfl), ?_⟩
      walk_at "go"
      refine g_ixL epa (v := .ref q1) (by rfl) ?_
      walk_at "go"
      intro d2 nd2
      walk_at "go"
      have hd2 : H d2 = none := f1.none nd2
      refine ⟨one (by simp), fun p5 n5 => ?_⟩
      refine g_catA (keep n5 (keep nd2 (f1.tup hL))) upd_same (small_of (by simp; omega)) (fun L2 H3 f3 e3 => ?_)
      walk_at "go"
      have f5 : Fr [] H2 H3 := ((Fr.new nd2).trans (Fr.new n5)).trans f3
      have ed2 : H3 d2 = some (.dK []) := f3.get0 (keep n5 upd_same)
      refine ⟨y, q1, L2, dx, k, sn.mks.length, me, lf, ts.map V.ref, ws, rfl, f5.get0 (f1.get0 hy), f5.tup (f1.tup hq1), f5.get0 (f1.get0 hlf), by rw [List.length_map, hdt.len]; omega, fun H4 us fp e pr => ?_⟩
      walk_at "go"
      have f6 : Fr [lf] H H4 := (f1.trans f5).nil.trans fp
      have npalf : pa ∉ [lf] := fun z => by rw [List.mem_singleton.mp z, hlf] at npa; cases npa
      have nd2lf : d2 ∉ [lf] := fun z => by rw [List.mem_singleton.mp z, hlf] at hd2; cases hd2
      have hy4 : H4 y = _ := f6.get hy (fun z => by rw [List.mem_singleton.mp z, hlf] at hy; cases hy)
      have epa4 : H4 pa = some (.lst [a.v, .ref q0, .ref q1]) := fp.get (f5.get0 epa) npalf
      have ed24 : H4 d2 = some (.dK []) := fp.get ed2 nd2lf
      with_reducible refine g_meth ?_
      walk_at "go"
      refine ⟨y, dx, _, rfl, hy4, (by rfl), ?_⟩
      walk_at "go"
      refine g_ixL epa4 (v := .ref q0) (by rfl) ?_
      walk_at "go"
      intro d1 nd1
      walk_at "go"
      refine ⟨one (by simp), fun p7 n7 => ?_⟩
      refine g_catA (keep n7 (keep nd1 (f6.tup hL))) upd_same (small_of (by simp; omega)) (fun L3 H5 f7 e7 => ?_)
      walk_at "go"
      have f8 : Fr [] H4 H5 := ((Fr.new nd1).trans (Fr.new n7)).trans f7
      have ed1 : H5 d1 = some (.dK []) := f7.get0 (keep n7 upd_same)
      have hul : us.length = d.length := by rw [pr.length, List.length_reverse, hdt.len]
      refine ⟨y, q0, L3, dx, k, sn.mks.length, me, lf, ts.map V.ref ++ us.map V.ref, vs, rfl, f8.get0 hy4, f8.tup (f6.tup hq), f8.get0 e, by rw [List.length_append, List.length_map, List.length_map, hbt.len]; omega, fun H9 us2 fp2 e2 pr2 => ?_⟩
      walk_at "go"
      have hd1 : H d1 = none := by
        cases eh : H d1 with
        | none => rfl
        | some o =>
          have nlf1 : d1 ∉ [lf] := fun z => by rw [List.mem_singleton.mp z, e] at nd1; cases nd1
          rw [f6.get eh nlf1] at nd1; cases nd1
      have n12 : d1 ≠ d2 := fun z => by rw [z, ed24] at nd1; cases nd1
      have f9 : Fr [lf] H4 H9 := f8.nil.trans fp2
      have fA : Fr [lf] H H9 := f6.trans f9
      have nlfd : ∀ {a : Addr} {c : Scp}, H a = some (.dK (ck c)) → a ∉ [lf] := fun {a c} h z => by rw [List.mem_singleton.mp z, hlf] at h; cases h
      have nd1lf : d1 ∉ [lf] := fun z => by rw [List.mem_singleton.mp z, hlf] at hd1; cases hd1
      have hylf : y ∉ [lf] := fun z => by rw [List.mem_singleton.mp z, hlf] at hy; cases hy
      have hbl2 := hbt.len
      refine q H9 ((ts ++ us) ++ us2) (b.map (fun s => (d1 :: top :: cur, s)) ++ d.map (fun s => (d2 :: top :: cur, s))) [d2] [d1] (ops b ++ (.C :: .O :: (ops d ++ [.C]))) (run1 .O sn) ⟨fun os => rfl, ham, rfl, rfl, ?_, fun fr rest os h => ?_, fun a ha => by rw [List.mem_singleton.mp ha]; exact fp2.get (f8.get0 ed24) nd2lf, fun a ha => ?_, ?_, fA.get hy hylf, by rw [e2, List.map_append, List.map_append], ?_, fA.mono (fun a ha => by simp at ha ⊢; exact .inr (.inl ha)), fun c' hc' => ?_, ?_, fun p hp => ?_⟩
      · show Paired _ (d1 :: top :: cur) ([] :: sn.sc)
        rw [hsc]
        exact .cons (fp2.get ed1 nd1lf) (Paired.imp' hpr fun _ _ _ z => fA.get z (nlfd z))
      · have h1 : Pend (d1 :: top :: cur) (d2 :: fr) (d.map (fun s => (d2 :: top :: cur, s)) ++ rest) (.C :: .O :: (ops d ++ (.C :: os))) := .close (.opn ((Pend.close (a := d2) h).block d))
        have h2 := h1.block b
        simpa [List.append_assoc] using h2
      · simp at ha
        rcases ha with rfl | rfl
        · exact hd1
        · exact hd2
      · simpa using n12
      · have l1 : LeftAt H4 (ts ++ us) (d.map (fun s => (d2 :: top :: cur, s)) ++ pd) := (hleft.up f6.tupLe).add (hdt.up f6.tupLe) (fp.tup (by rw [e3, hLr]; simp)) pr
        have l2 := (l1.up f9.tupLe).add ((hbt.up f6.tupLe).up f9.tupLe) (cur := d1 :: top :: cur) (fp2.tup (by rw [e7, hLr]; simp)) pr2
        simpa only [List.append_assoc] using l2
      · rcases List.mem_cons.mp hc' with rfl | hc'
        · exact Nat.zero_le _
        · exact hcl c' hc'
      · simp only [mkP, blkP, List.nil_append, wL_cons, wL_append, wO, wL_nil, run1, List.length_cons, List.length_nil]; omega
      · rcases List.mem_append.mp hp with hp | hp
        · obtain ⟨s, hs, rfl⟩ := List.mem_map.mp hp
          exact ⟨depB_mem (by simp only [depS]; exact Nat.le_max_left _ _) s hs, by simp⟩
        · obtain ⟨s, hs, rfl⟩ := List.mem_map.mp hp
          exact ⟨depB_mem (by simp only [depS]; exact Nat.le_max_right _ _) s hs, by simp⟩
    | «while» a b =>
      simp only [SAt] at hs
      obtain ⟨p, q0, vs, rfl, hp, hq, hbt⟩ := hs
      have hbl : b.length ≤ 6000 := by have := len_w b; have e := wWhile a b; simp only [mkP, blkP, List.nil_append, wL_cons, wL_append, wO] at hsz; unfold wB at this; omega
      refine g_star rfl hp (by simp) fun pa npa => ?_
      walk_at "go"
      intro pin npin
      walk_at "go"
      have hpin : H pin = none := (none_upd npin).1
      refine ⟨one (by simp), fun p1 n1 => ?_⟩
      walk_at "go"
      refine g_inT upd_same rfl (by rfl) ?_
      walk_at "go"
      refine i_f (by decide +kernel) ?_
      walk_at "go"
      refine i_f (by decide +kernel) ?_
      walk_at "go"
      refine i_f (by decide +kernel) ?_
      walk_at "go"
      refine i_f (by decide +kernel) ?_
      walk_at "go"
      refine i_f (by decide +kernel) ?_
      walk_at "go"
      refine i_f rfl ?_
      walk_at "go"
      refine ⟨one (by simp), fun p2 n2 => ?_⟩
      walk_at "go"
      refine g_inT upd_same rfl (by rfl) ?_
      walk_at "go"
      refine i_t (by decide +kernel) ?_
      walk_at "go"
      have f1 : Fr [] H _ := (((Fr.new npa).trans (Fr.new npin)).trans (Fr.new (o := .tup [.str "let", .str "sum", .str "call", .str "fn"]) n1)).trans (Fr.new (o := .tup [.str "fn", .str "while", .str "times"]) n2)
      have epa : (upd (upd (upd (upd H pa (.lst [a.v, .ref q0])) pin (.dK [])) p1 (.tup [.str "let", .str "sum", .str "call", .str "fn"])) p2 (.tup [.str "fn", .str "while", .str "times"])) pa = some (.lst [a.v, .ref q0]) := keep n2 (keep n1 (keep npin upd_same))
      have epin : (upd (upd (upd (upd H pa (.lst [a.v, .ref q0])) pin (.dK [])) p1 (.tup [.str "let", .str "sum", .str "call", .str "fn"])) p2 (.tup [.str "fn", .str "while", .str "times"])) pin = some (.dK []) := keep n2 (keep n1 upd_same)
      generalize upd (upd (upd (upd H pa (.lst [a.v, .ref q0])) pin (.dK [])) p1 (.tup [.str "let", .str "sum", .str "call", .str "fn"])) p2 (.tup [.str "fn", .str "while", .str "times"]) = H2 at *
      with_reducible refine g_meth ?_
      walk_at "go"
      refine ⟨y, dx, _, rfl, (f1.get0 hy), (by rfl), ?_⟩
      walk_at "go"
      refine g_ixL epa (v := .ref q0) (by rfl) ?_
      walk_at "go"
      refine ⟨one (by simp), fun p5 n5 => ?_⟩
      refine g_catA (keep n5 (f1.tup hL)) upd_same (small_of (by simp; omega)) (fun L2 H3 f3 e3 => ?_)
      walk_at "go"
      have f5 : Fr [] H2 H3 := (Fr.new n5).trans f3
      refine ⟨y, q0, L2, dx, k, sn.mks.length, me, lf, ts.map V.ref, vs, rfl, f5.get0 (f1.get0 hy), f5.tup (f1.tup hq), f5.get0 (f1.get0 hlf), by rw [List.length_map, hbt.len]; omega, fun H4 us fp e pr => ?_⟩
      walk_at "go"
      refine q H4 _ _ [] [pin] _ (run1 .O sn) (mk_one (cs := [.C]) (f1.trans f5).nil hbt (by rw [e3, hLr]; simp) ?_ (f5.get0 (f1.get0 hy)) (f5.get0 (f1.get0 hlf)) hleft fp e pr (fun os => rfl) ham rfl rfl (fun a ha => by rw [List.mem_singleton.mp ha]; exact hpin) (by simp) (fun _ _ _ h => .close h) ?_ ?_ fun s hs => depB_mem (Nat.le_of_eq (by simp only [depS])) s hs)
      · show Paired _ (pin :: top :: cur) ([] :: sn.sc)
        rw [hsc]
        exact .cons (f5.get0 epin) (Paired.imp' hpr fun _ _ _ z => f5.get0 (f1.get0 z))
      · intro c' hc'
        rcases List.mem_cons.mp hc' with rfl | hc'
        · exact Nat.zero_le _
        · exact hcl c' hc'
      · simp only [mkP, blkP, List.nil_append, wL_cons, wL_append, wO, wL_nil, run1, List.length_cons, List.length_nil]; omega
    | times o x a b =>
      simp only [SAt] at hs
      obtain ⟨p, q0, vs, rfl, hp, hq, hbt⟩ := hs
      cases o with
      | true =>
        replace hp : H p = some (.tup [.str "times", .str "own", .str x, a.v, .ref q0]) := hp
        have hbl : b.length ≤ 6000 := by have := len_w b; simp only [mkP, blkP, List.nil_append, wL_cons, wL_append, wO] at hsz; unfold wB at this; omega
        refine g_star rfl hp (by simp) fun pa npa => ?_
        walk_at "go"
        intro pin npin
        walk_at "go"
        have hpin : H pin = none := (none_upd npin).1
        refine ⟨one (by simp), fun p1 n1 => ?_⟩
        walk_at "go"
        refine g_inT upd_same rfl (by rfl) ?_
        walk_at "go"
        refine i_f (by decide +kernel) ?_
        walk_at "go"
        refine i_f (by decide +kernel) ?_
        walk_at "go"
        refine i_t (by decide +kernel) ?_
        walk_at "go"
        have f1 : Fr [] H _ := ((Fr.new npa).trans (Fr.new npin)).trans (Fr.new (o := .tup [.str "let", .str "sum", .str "call", .str "fn"]) n1)
        have epa1 : (upd (upd (upd H pa (.lst [.str "own", .str x, a.v, .ref q0])) pin (.dK [])) p1 (.tup [.str "let", .str "sum", .str "call", .str "fn"])) pa = some (.lst [.str "own", .str x, a.v, .ref q0]) := keep n1 (keep npin upd_same)
        have epin1 : (upd (upd (upd H pa (.lst [.str "own", .str x, a.v, .ref q0])) pin (.dK [])) p1 (.tup [.str "let", .str "sum", .str "call", .str "fn"])) pin = some (.dK (ck [])) := keep n1 upd_same
        generalize upd (upd (upd H pa (.lst [.str "own", .str x, a.v, .ref q0])) pin (.dK [])) p1 (.tup [.str "let", .str "sum", .str "call", .str "fn"]) = H1 at *
        with_reducible refine g_meth ?_
        walk_at "go"
        refine ⟨y, dx, _, rfl, f1.get0 hy, (by rfl), ?_⟩
        walk_at "go"
        refine g_ixL epa1 (by rfl) ?_
        walk_at "go"
        have pnd : (pin :: top :: cur).Nodup := by
          refine List.nodup_cons.mpr ⟨fun z => ?_, hnd⟩
          obtain ⟨_, _, e⟩ := Paired.mem_left hpr pin z
          rw [hpin] at e; cases e
        have pri : Paired (fun a c => H1 a = some (.dK (ck c))) (pin :: top :: cur) ([] :: sn.sc) := .cons epin1 (by rw [hsc]; exact Paired.imp' hpr fun _ _ _ z => f1.get0 z)
        have hr2 := made_run (x := x) (sn := run1 .O sn) (c := []) (r := sn.sc) rfl ham rfl
        refine ⟨y, pin, dx, k, sn.mks.length, me, lf, [], x, rfl, f1.get0 hy, epin1, by simp, fun gi => ?_, fun gi => absurd rfl gi⟩
        have pny : pin ≠ y := fun z => by rw [z, hy] at hpin; cases hpin
        have pnl : pin ≠ lf := fun z => by rw [z, hlf] at hpin; cases hpin
        have pnpa : pa ≠ pin := fun z => by rw [z] at npin; rw [← z, upd_same] at npin; cases npin
        have pr2 := made_sc (x := x) (fs' := sfs k (sn.mks.length + 1) me lf) (i := sn.mks.length) pri pnd (f1.get0 hy)
        have f2 : Fr [y, lf, top] H _ := fr_cut (made_fr (fs' := sfs k (sn.mks.length + 1) me lf) (kv := ck (putS [] x sn.mks.length)) epin1 (f1.get0 hy) (W := [y, pin]) (by simp) (by simp)) f1.nil (fun a ha => by
          simp at ha
          rcases ha with rfl | rfl
          · exact .inl (by simp)
          · exact .inr hpin)
        have hy2 : (upd (upd H1 pin (.dK (ck (putS [] x sn.mks.length)))) y (.ins D dx (sfs k (sn.mks.length + 1) me lf))) y = _ := upd_same
        have hlf2 : (upd (upd H1 pin (.dK (ck (putS [] x sn.mks.length)))) y (.ins D dx (sfs k (sn.mks.length + 1) me lf))) lf = _ := (upd_ne hlfy).trans ((upd_ne (Ne.symm pnl)).trans (f1.get0 hlf))
        have epa2 : (upd (upd H1 pin (.dK (ck (putS [] x sn.mks.length)))) y (.ins D dx (sfs k (sn.mks.length + 1) me lf))) pa = _ := (upd_ne (fun z => by rw [z, hy] at npa; cases npa)).trans ((upd_ne pnpa).trans epa1)
        generalize upd (upd H1 pin (.dK (ck (putS [] x sn.mks.length)))) y (.ins D dx (sfs k (sn.mks.length + 1) me lf)) = H2 at *
        walk_at "go"
        refine i_f (by decide +kernel) ?_
        walk_at "go"
        refine i_t (by decide +kernel) ?_
        walk_at "go"
        refine g_ixL epa2 (by rfl) ?_
        walk_at "go"
        refine i_f (by decide +kernel) ?_
        walk_at "go"
        refine ⟨one (by simp), fun p2 n2 => ?_⟩
        walk_at "go"
        refine g_inT upd_same rfl (by rfl) ?_
        walk_at "go"
        refine i_t (by decide +kernel) ?_
        walk_at "go"
        have f4 : Fr [] H2 _ := Fr.new (o := .tup [.str "fn", .str "while", .str "times"]) n2
        have epa := f4.get0 epa2
        replace hy2 := f4.get0 hy2
        replace hlf2 := f4.get0 hlf2
        replace f2 := f2.trans f4.nil
        replace pr2 := Paired.imp' pr2 fun _ _ _ z => f4.get0 z
        generalize upd H2 p2 (.tup [.str "fn", .str "while", .str "times"]) = H2b at *
        with_reducible refine g_meth ?_
        walk_at "go"
        refine ⟨y, dx, _, rfl, hy2, (by rfl), ?_⟩
        walk_at "go"
        refine g_ixL epa (v := .ref q0) (by rfl) ?_
        walk_at "go"
        refine ⟨one (by simp), fun p5 n5 => ?_⟩
        refine g_catA (keep n5 (f2.tup hL)) upd_same (small_of (by simp; omega)) (fun L2 H3 f3 e3 => ?_)
        walk_at "go"
        have f5 : Fr [] H2b H3 := (Fr.new n5).trans f3
        refine ⟨y, q0, L2, dx, k, sn.mks.length + 1, me, lf, ts.map V.ref, vs, rfl, f5.get0 hy2, f5.tup (f2.tup hq), f5.get0 hlf2, by rw [List.length_map, hbt.len]; omega, fun H4 us fp e pr => ?_⟩
        walk_at "go"
        refine q H4 _ _ [] [pin] _ (run1 (.M x) (run1 .O sn)) (mk_one (cs := [.C]) (f2.trans f5.nil) hbt (by rw [e3, hLr]; simp) ?_ (by rw [hr2]; simp only [List.length_append, List.length_cons, List.length_nil]; exact f5.get0 hy2) (f5.get0 hlf2) hleft fp e pr (fun os => rfl) (by rw [hr2]; exact ham) (by rw [hr2]; rfl) (by rw [hr2]; rfl) (fun a ha => by rw [List.mem_singleton.mp ha]; exact hpin) (by simp) (fun _ _ _ h => .close h) ?_ ?_ fun s hs => depB_mem (Nat.le_of_eq (by simp only [depS])) s hs)
        · rw [hr2]
          exact Paired.imp' pr2 fun _ _ _ z => f5.get0 z
        · rw [hr2]
          intro c' hc'
          rcases List.mem_cons.mp hc' with rfl | hc'
          · have := putS_len [] x sn.mks.length
            simp [run1] at this ⊢; omega
          · have := hcl c' hc'
            simp [run1]; omega
        · rw [hr2]
          simp only [mkP, blkP, List.nil_append, wL_cons, wL_append, wO, wL_nil, run1, List.length_cons, List.length_nil, List.length_append]; omega
      | false =>
        replace hp : H p = some (.tup [.str "times", .str "one", .str x, a.v, .ref q0]) := hp
        have hbl : b.length ≤ 6000 := by have := len_w b; simp only [mkP, blkP, List.nil_append, wL_cons, wL_append, wO] at hsz; unfold wB at this; omega
        refine g_star rfl hp (by simp) fun pa npa => ?_
        walk_at "go"
        intro pin npin
        walk_at "go"
        have hpin : H pin = none := (none_upd npin).1
        refine ⟨one (by simp), fun p1 n1 => ?_⟩
        walk_at "go"
        refine g_inT upd_same rfl (by rfl) ?_
        walk_at "go"
        refine i_f (by decide +kernel) ?_
        walk_at "go"
        refine i_f (by decide +kernel) ?_
        walk_at "go"
        refine i_t (by decide +kernel) ?_
        walk_at "go"
        have f1 : Fr [] H _ := ((Fr.new npa).trans (Fr.new npin)).trans (Fr.new (o := .tup [.str "let", .str "sum", .str "call", .str "fn"]) n1)
        have epa1 : (upd (upd (upd H pa (.lst [.str "one", .str x, a.v, .ref q0])) pin (.dK [])) p1 (.tup [.str "let", .str "sum", .str "call", .str "fn"])) pa = some (.lst [.str "one", .str x, a.v, .ref q0]) := keep n1 (keep npin upd_same)
        have epin1 : (upd (upd (upd H pa (.lst [.str "one", .str x, a.v, .ref q0])) pin (.dK [])) p1 (.tup [.str "let", .str "sum", .str "call", .str "fn"])) pin = some (.dK (ck [])) := keep n1 upd_same
        generalize upd (upd (upd H pa (.lst [.str "one", .str x, a.v, .ref q0])) pin (.dK [])) p1 (.tup [.str "let", .str "sum", .str "call", .str "fn"]) = H1 at *
        with_reducible refine g_meth ?_
        walk_at "go"
        refine ⟨y, dx, _, rfl, f1.get0 hy, (by rfl), ?_⟩
        walk_at "go"
        refine g_ixL epa1 (by rfl) ?_
        walk_at "go"
        have pnd : (pin :: top :: cur).Nodup := by
          refine List.nodup_cons.mpr ⟨fun z => ?_, hnd⟩
          obtain ⟨_, _, e⟩ := Paired.mem_left hpr pin z
          rw [hpin] at e; cases e
        have pri : Paired (fun a c => H1 a = some (.dK (ck c))) (pin :: top :: cur) ([] :: sn.sc) := .cons epin1 (by rw [hsc]; exact Paired.imp' hpr fun _ _ _ z => f1.get0 z)
        have hr2 := made_run (x := x) (sn := run1 .O sn) (c := []) (r := sn.sc) rfl ham rfl
        refine ⟨y, pin, dx, k, sn.mks.length, me, lf, [], x, rfl, f1.get0 hy, epin1, by simp, fun gi => ?_, fun gi => absurd rfl gi⟩
        have pny : pin ≠ y := fun z => by rw [z, hy] at hpin; cases hpin
        have pnl : pin ≠ lf := fun z => by rw [z, hlf] at hpin; cases hpin
        have pnpa : pa ≠ pin := fun z => by rw [z] at npin; rw [← z, upd_same] at npin; cases npin
        have pr2 := made_sc (x := x) (fs' := sfs k (sn.mks.length + 1) me lf) (i := sn.mks.length) pri pnd (f1.get0 hy)
        have f2 : Fr [y, lf, top] H _ := fr_cut (made_fr (fs' := sfs k (sn.mks.length + 1) me lf) (kv := ck (putS [] x sn.mks.length)) epin1 (f1.get0 hy) (W := [y, pin]) (by simp) (by simp)) f1.nil (fun a ha => by
          simp at ha
          rcases ha with rfl | rfl
          · exact .inl (by simp)
          · exact .inr hpin)
        have hy2 : (upd (upd H1 pin (.dK (ck (putS [] x sn.mks.length)))) y (.ins D dx (sfs k (sn.mks.length + 1) me lf))) y = _ := upd_same
        have hlf2 : (upd (upd H1 pin (.dK (ck (putS [] x sn.mks.length)))) y (.ins D dx (sfs k (sn.mks.length + 1) me lf))) lf = _ := (upd_ne hlfy).trans ((upd_ne (Ne.symm pnl)).trans (f1.get0 hlf))
        have epa2 : (upd (upd H1 pin (.dK (ck (putS [] x sn.mks.length)))) y (.ins D dx (sfs k (sn.mks.length + 1) me lf))) pa = _ := (upd_ne (fun z => by rw [z, hy] at npa; cases npa)).trans ((upd_ne pnpa).trans epa1)
        generalize upd (upd H1 pin (.dK (ck (putS [] x sn.mks.length)))) y (.ins D dx (sfs k (sn.mks.length + 1) me lf)) = H2 at *
        walk_at "go"
        refine i_f (by decide +kernel) ?_
        walk_at "go"
        refine i_t (by decide +kernel) ?_
        walk_at "go"
        refine g_ixL epa2 (by rfl) ?_
        walk_at "go"
        refine i_t (by decide +kernel) ?_
        walk_at "go"
        with_reducible refine g_meth ?_
        walk_at "go"
        refine ⟨y, dx, _, rfl, hy2, (by rfl), ?_⟩
        walk_at "go"
        refine g_ixL epa2 (v := .ref q0) (by rfl) ?_
        walk_at "go"
        intro d2 nd2
        walk_at "go"
        refine ⟨one (by simp), fun p5 n5 => ?_⟩
        refine g_catA (keep n5 (keep nd2 (f2.tup hL))) upd_same (small_of (by simp; omega)) (fun L2 H3 f3 e3 => ?_)
        walk_at "go"
        have f5 : Fr [] H2 H3 := (Fr.new nd2).trans <| (Fr.new n5).trans f3
        refine ⟨y, q0, L2, dx, k, sn.mks.length + 1, me, lf, ts.map V.ref, vs, rfl, f5.get0 hy2, f5.tup (f2.tup hq), f5.get0 hlf2, by rw [List.length_map, hbt.len]; omega, fun H4 us fp e pr => ?_⟩
        walk_at "go"
        have epin2 : H2 pin = some (.dK (ck (putS [] x sn.mks.length))) := by cases pr2 with | cons h _ => exact h
        have n2p : d2 ≠ pin := fun z => by rw [z, epin2] at nd2; cases nd2
        have hd2 : H d2 = none := by
          cases eh : H d2 with
          | none => rfl
          | some o =>
            by_cases z1 : d2 ∈ [y, lf, top]
            · simp at z1
              rcases z1 with rfl | rfl | rfl
              · rw [hy2] at nd2; cases nd2
              · rw [hlf2] at nd2; cases nd2
              · cases pr2 with
                | cons _ pr2 =>
                  rw [hsc] at pr2
                  cases pr2 with | cons h _ => rw [h] at nd2; cases nd2
            · rw [f2.get eh z1] at nd2; cases nd2
        refine q H4 _ _ [] [d2, pin] _ (run1 .O (run1 (.M x) (run1 .O sn))) (mk_one (cs := [.C, .C]) (f2.trans f5.nil) hbt (by rw [e3, hLr]; simp) ?_ (by show H3 y = some (.ins D dx (sfs k (run1 (.M x) (run1 .O sn)).mks.length me lf)); rw [hr2]; simp only [List.length_append, List.length_cons, List.length_nil]; exact f5.get0 hy2) (f5.get0 hlf2) hleft fp e pr (fun os => rfl) (by show (run1 (.M x) (run1 .O sn)).am = []; rw [hr2]; exact ham) (by show (run1 (.M x) (run1 .O sn)).at_ = _; rw [hr2]; rfl) (by show (run1 (.M x) (run1 .O sn)).means = _; rw [hr2]; rfl) (fun a ha => by
            simp at ha
            rcases ha with rfl | rfl
            · exact hd2
            · exact hpin) (by simp [n2p]) (fun _ _ _ h => .close (.close h)) ?_ ?_ fun s hs => depB_mem (Nat.le_of_eq (by simp only [depS])) s hs)
        · show Paired _ (d2 :: pin :: top :: cur) ([] :: (run1 (.M x) (run1 .O sn)).sc)
          rw [hr2]
          exact .cons (f3.get0 (keep n5 upd_same)) (Paired.imp' pr2 fun _ _ _ z => f5.get0 z)
        · show ∀ c' ∈ [] :: (run1 (.M x) (run1 .O sn)).sc, c'.length ≤ (run1 (.M x) (run1 .O sn)).mks.length
          rw [hr2]
          intro c' hc'
          rcases List.mem_cons.mp hc' with rfl | hc'
          · exact Nat.zero_le _
          rcases List.mem_cons.mp hc' with rfl | hc'
          · have := putS_len [] x sn.mks.length
            simp [run1] at this ⊢; omega
          · have := hcl c' hc'
            simp [run1]; omega
        · show (run1 (.M x) (run1 .O sn)).mks.length + _ + _ ≤ _ ∧ _
          rw [hr2]
          simp only [mkP, blkP, List.nil_append, wL_cons, wL_append, wO, wL_nil, run1, List.length_cons, List.length_nil, List.length_append]; omega
end
end Fb
set_option Elab.async false
set_option linter.all false
set_option maxRecDepth 100000
set_option maxHeartbeats 4000000
/-! A list comprehension whose element calls what may raise. -/
namespace Fb
open PySem PySem.Spec PyProof.Rows L2
section
variable {X : Cx}
/-- what a call in the element lets out, seen from the block -/
def BlkE (Y : Cx) (E : XK) (u : Value) (s' : Shared) : Prop := ∃ (pins : List (Addr × Obj)) (σ : L2.St) (H : Hp) (sI : Shared), Inv Y pins σ H sI ∧ L2.CX Y.prog Y.w Y.stack H sI E u s'
theorem flying_less {B B2 : Heap} {l : List Env} {a : Addr} {Z : Obj → Prop} {h : Heap} (x : HandSPX.FlyingZ B l a Z h) (sub : ∀ b o, B2.get? b = some o → B.get? b = some o) : HandSPX.FlyingZ B2 l a Z h := by
  have no : ∀ b, B.get? b = none → B2.get? b = none := fun b hb => by
    cases q : B2.get? b with
    | none => rfl
    | some o => rw [sub b o q] at hb; cases hb
  obtain ⟨k1, k2, k3, oe, vs, T, oT, ts, he, hz, hd, h1, hnT, hTe, hT, hdT, h3⟩ := x
  refine ⟨fun b o e => k1 b o (sub b o e), no a k2, funFrames_none k3 (fun L hL => ?_), oe, vs, T, oT, ts, he, hz, hd, h1, no T hnT, hTe, hT, hdT, h3⟩
  exact no L (k3.mem hL).1
/-- out of the block, into the def's own air -/
theorem blk_out {pins pinsB : List (Addr × Obj)} {σ σB : L2.St} {H3 H9 : Hp} {s3 sI s' : Shared} {E : XK} {scope : Scope} {cl : List (Str × Addr)} {fp : List Addr} {u : Value} {C : Addr}
    (hs1 : X.stack = X.env :: X.outer) (hf1 : X.env.frame = some X.env.locals) (tk : Takes X (fun cls d _ H => E cls d H))
    (I3 : Inv X pins σ H3 s3) (hC : s3.heap.objs.size ≤ C) (hfp : ∀ b ∈ fp, FpOk X pins H3 b ∧ b < s3.heap.objs.size)
    (IB : Inv (X.blk s3 H3 scope (compEnvC scope cl C X.env) fp) pinsB σB H9 sI) (c : L2.CX X.prog X.w X.stack H9 sI E u s') :
    notedBy (model X.prog X.w) X.A (compEnvC scope cl C X.env) (CompFails (model X.prog X.w) X.A X.xe (compEnvC scope cl C X.env)) u s' := by
  obtain ⟨a, B, H', cls, d, rfl, fl, hokB, ub, na, os, ag, hE⟩ := c
  have base := IB.base
  have base : Un (frs X.stack) fp H3 H9 s3.heap sI.heap := base
  have freeC : H9 C = none := IB.free
  obtain ⟨mC, nsC, _⟩ := IB.loc
  have nsC : sI.heap.Ns C mC := nsC
  obtain ⟨oC, esC, epC, hoC, hdC, rC⟩ := id nsC
  have freeC' : H' C = none := ub.free C oC hoC freeC
  have Cfs : C ∉ frs X.stack := fun hm => by
    obtain ⟨_, o, ho, _⟩ := I3.stack.mem hm
    exact absurd (Nat.lt_of_lt_of_le (Heap.lt_size ho) hC) (Nat.lt_irrefl _)
  -- the ground without the block's own names
  obtain ⟨B2, b2a, b2b⟩ := restrict B fun b => decide (b ≠ C)
  have subB : ∀ b o, B2.get? b = some o → B.get? b = some o ∧ b ≠ C := fun b o e => by
    by_cases hb : b = C
    · rw [b2b b (by simp [hb])] at e; cases e
    · rw [b2a b (by simp [hb])] at e; exact ⟨e, hb⟩
  have fl2 := flying_less fl fun b o e => (subB b o e).1
  have nC2 : B2.get? C = none := b2b C (by simp)
  have hfr : X.A.frames = some (X.env :: X.outer) := by rw [I3.ok.frames, hs1]
  rw [hs1] at fl2
  -- noted by the frame
  show wpAny _ _ (noteFrame (.ref a) (compEnvC scope cl C X.env)) _ _ s'
  rw [noteFrame_env _ (show (compEnvC scope cl C X.env).frame = X.env.frame from rfl)]
  refine HandSPX.looks_onZ Zc.steady hfr hf1 fl2 fun h1 held up1 => ?_
  -- the block is let go
  have nsC' : ∃ m, h1.Ns C m := by
    have keepC : ∃ sl, s'.heap.get? C = some { oC with slots := sl } := ⟨oC.slots, fl.1 C oC (ub.keep C oC hoC freeC Cfs)⟩
    obtain ⟨sl, e1⟩ := keepC
    obtain ⟨sl2, e2⟩ := up1 C _ e1 (fun vs q => by have q : oC.data = _ := q; rw [hdC] at q; cases q)
    exact ⟨mC, _, esC, epC, e2, hdC, rC⟩
  obtain ⟨m1, hn1⟩ := nsC'
  refine ⟨m1, hn1, fun h2 m2 hn2 sb => ?_⟩
  have sb : Heap.SameBut C h1 h2 := sb
  obtain ⟨k1, k2, k3, k4⟩ := held
  have nT : ∀ {T : Addr} {oT : Obj} {ts : Array Value}, h1.get? T = some oT → oT.data = .fields ts → T ≠ C := fun {T oT ts} e1 e2 q => by
    obtain ⟨o', es', ep', e3, e4, _⟩ := hn1
    rw [q, e3] at e1; cases e1; rw [e4] at e2; cases e2
  have held2 : HandSPX.HeldZ B2 (X.env :: X.outer) a (Zc cls d) X.env.locals h2 := by
    obtain ⟨oe, vs, T, oT, ts, he, hz, hd, hv1, hnT, hTe, hT, hdT, hv3⟩ := k4
    exact ⟨fun b o e => (sb.2 b (subB b o e).2).trans (k1 b o e), k2, Heap.FunFrames.sameBut sb hn2 k3, oe, vs, T, oT, ts, (sb.2 a (nT he hd)).trans he, hz, hd, hv1, hnT, hTe, (sb.2 T (nT hT hdT)).trans hT, hdT, hv3⟩
  -- and it goes on
  obtain ⟨oe, vs, T, oT, ts, he, hz, hd, hv1, hnT, hTe, hT, hdT, hv3⟩ := id held2.2.2.2
  unfold PySem.passOn
  refine wpAny_bind (wpAny_field he hd hv1 ?_)
  rw [if_neg (show ¬ ((Value.ref T == Value.none) = true) from by simp)]
  rw [show (compEnvC scope cl C X.env).frame = some X.env.locals from hf1]
  refine wpAny_bind (HandSPX.setFlight_onZ (s := { s' with heap := h2 }) held2 fun h3 held3 up3 => wpAny_throw ?_)
  -- the state without the exception
  obtain ⟨G, g1, g2⟩ := restrict s'.heap fun b => ((B.get? b).isSome || decide (b ∈ frs X.stack)) && decide (b ≠ C)
  have gB : ∀ b o, b ≠ C → B.get? b = some o → G.get? b = some o := fun b o hb e => by
    rw [g1 b (by simp [e, hb])]
    exact fl.1 b o e
  have gF : ∀ b, b ∈ frs X.stack → G.get? b = s'.heap.get? b := fun b hb => g1 b (by
    have : b ≠ C := fun q => Cfs (q ▸ hb)
    simp [hb, this])
  have og : ∀ b o, G.get? b = some o → s'.heap.get? b = some o ∧ b ≠ C ∧ ((B.get? b).isSome = true ∨ b ∈ frs X.stack) := fun b o e => by
    cases q : (((B.get? b).isSome || decide (b ∈ frs X.stack)) && decide (b ≠ C)) with
    | false => rw [g2 b q] at e; cases e
    | true =>
      rw [g1 b q] at e
      obtain ⟨q1, q2⟩ := Bool.and_eq_true_iff.mp q
      exact ⟨e, of_decide_eq_true q2, by simpa [Bool.or_eq_true] using q1⟩
  have lowC : ∀ b o, s3.heap.get? b = some o → b ≠ C := fun b o e q => by
    rw [q] at e
    exact absurd (Nat.lt_of_lt_of_le (Heap.lt_size e) hC) (Nat.lt_irrefl _)
  have uh : sI.heap.objs.size ≤ sI.heap.objs.size := Nat.le_refl _
  have J : Inv X pins σ H' { s3 with heap := G, gens := s'.gens, drawn := s'.drawn, toks := s'.toks } := by
    refine I3.call (ch := fp) ⟨fun b o e n hb hx => ?_, fun b o e n hb hx => ?_, fun b o e n hx => ?_, fun b o e hx => ?_, fun b xs e => ub.tups b xs (base.tups b xs e), fun b o xs e => ub.frzs b o xs (base.frzs b o xs e), fun b ps e => ?_⟩ (fun b o e => ?_) ag fun b hb => ?_
    · exact gB b o (lowC b o e) (ub.keep b o (base.keep b o e n hb hx) (base.free b o e n hx) hb)
    · obtain ⟨sl, e1⟩ := base.slot b o e n hb hx
      obtain ⟨sl', e2⟩ := ub.slot b _ e1 hb
      exact ⟨sl', by rw [gF b hb]; exact e2⟩
    · obtain ⟨o', e1⟩ := base.there b o e hx
      exact ub.free b o' e1 (base.free b o e n hx)
    · obtain ⟨o', e1⟩ := base.there b o e hx
      by_cases hb : b ∈ frs X.stack
      · obtain ⟨sl, e2⟩ := ub.slot b o' e1 hb
        exact ⟨_, by rw [gF b hb]; exact e2⟩
      · obtain ⟨o2, e2⟩ := ub.there b o' e1 hb
        exact ⟨o2, gB b o2 (lowC b o e) e2⟩
    · obtain ⟨q1, e1⟩ := base.tbls b ps e
      obtain ⟨q2, e2⟩ := ub.tbls b _ e1
      exact ⟨q1 ++ q2, by rw [e2, Array.append_assoc]⟩
    · refine (hokB b o e).stay (fun z v hz r => gB z v (fun q => ?_) r) (fun _ r => r) fun _ _ r => r
      rcases hz with hz | hz
      · rw [hz] at q; rw [q, freeC'] at e; cases e
      · rw [q, freeC'] at hz; cases hz
    · obtain ⟨⟨f0, f1, f2, f3, f4, f5⟩, _⟩ := hfp b hb
      exact ⟨f3, f1, f4, f5⟩
  refine tk _ _ ⟨a, B2, _, pins, σ, H', cls, d, rfl, J, fun b o e hb => ?_, fun b o e hnf => ?_, .inr (.inr ?_), na, ?_, ag, hE⟩
  · obtain ⟨e1, hbC, hh⟩ := og b o e
    rcases hh with hh | hh
    · obtain ⟨o', q⟩ := Option.isSome_iff_exists.mp hh
      have z := fl.1 b o' q
      rw [e1] at z; cases z
      rw [b2a b (by simp [hbC])]; exact q
    · exact absurd hh hb
  · obtain ⟨e1, hbC, _⟩ := og b o e
    obtain ⟨sl1, x1⟩ := up1 b o e1 hnf
    have x2 := (sb.2 b hbC).trans x1
    obtain ⟨sl3, x3⟩ := up3 b _ x2 hnf
    exact ⟨sl3, x3⟩
  · rw [hs1]; exact held3
  · show s'.os = s3.os
    rw [os]
    exact IB.os
/-- [elt for target in iter if ..] whose element may raise E -/
theorem pe_lcX {elt tg iter : Expr} {ifs : List Expr} {scope : Scope} {own : List (Str × Nat)} {pos : Pos} {wi : TI} {g : TG} {tt : TT} {te : TE} {E : XK} (hs1 : X.stack = X.env :: X.outer) (hf1 : X.env.frame = some X.env.locals) (tk : Takes X (fun cls d _ H => E cls d H))
    (hc : X.calm = true) (hN : X.N.Nodup) (hi : PI X tg iter wi) (bo : BlkOk X.N X.env.scope scope own)
    (hg : ∀ (s : Shared) (H : Hp) (C : Addr) (cl : List (Str × Addr)) (fp : List Addr), PG (X.blk s H scope (compEnvC scope cl C X.env) fp) tg g)
    (ht : ∀ (s : Shared) (H : Hp) (C : Addr) (cl : List (Str × Addr)) (fp : List Addr), PTs (X.blk s H scope (compEnvC scope cl C X.env) fp) ifs tt)
    (he : ∀ (s : Shared) (H : Hp) (C : Addr) (cl : List (Str × Addr)) (fp : List Addr) (xe : Value → Shared → Prop), Passes (L2.CX X.prog X.w) ((X.blk s H scope (compEnvC scope cl C X.env) fp).wish xe) E → PE ((X.blk s H scope (compEnvC scope cl C X.env) fp).wish xe) elt te)
    (hs : ∀ x, foldedSetIterable iter X.env x = pure x := by intro _; rfl) :
    PE X (.ListComp elt [⟨tg, iter, ifs, 0⟩] scope pos) (tLc wi g tt te (own.map (·.2))) := by
  refine ⟨fun pins s σ H Q I h => ?_⟩
  rw [eval_ListComp]
  have cells : ∀ y ∈ scope.names, y.2 = .free → ∃ c, X.env.cells.lookup y.1 = some c := fun y hy e => (bo.free y hy e).elim (fun k => I.ok.has _ (.inl k)) fun k => I.ok.has _ (.inr k)
  refine comprehension_at rfl hs (closure_ok cells) bo.kind (fun y hy e => by rw [bo.uniq y hy, e]) (thn (hi.run pins s σ H _ I h) fun xv s1 hx => thn hx fun itv s2 h2 => ?_)
  obtain ⟨it, fp, tn, J, H2, rfl, I2, T, st2, f2, q⟩ := h2
  refine wpAny_newObj_type (newEnv_comp ?_) (by show 0 ≤ sizeLine; decide)
  generalize hD : s2.heap.objs.size = D
  have newD : H2 D = none := I2.hok.fresh (Nat.le_of_eq hD)
  obtain ⟨W, ⟨m0, w0⟩, turn⟩ := q D newD
  generalize hs3 : ({ s2 with heap := s2.heap.push { cls := .type "list", data := .seq ([] : List Value).toArray } } : Shared) = s3
  have h3 : s3.heap = s2.heap.push { cls := .type "list", data := .seq ([] : List Value).toArray } := by rw [← hs3]
  have I3 : Inv X pins σ (upd H2 D (.lst [])) s3 := by
    rw [← hs3]
    exact I2.laid (t' := s2.toks) (fun b o e => Heap.get?_push_of_some _ e) (Nat.le_of_eq hD) ⟨Nat.zero_le _, [], 0, .nil, by rw [← hD]; exact Heap.get?_push_size _ rfl⟩
  have f3 : ∀ b ∈ fp, FpOk X pins (upd H2 D (.lst [])) b ∧ b < s3.heap.objs.size := fun b hb => by
    obtain ⟨o, e, _⟩ := T.obj _ _ st2 b hb
    have hlt := Heap.lt_size e
    exact ⟨⟨by rw [upd_ne (by rw [← hD]; exact Nat.ne_of_lt hlt)]; exact (f2 b hb).1, (f2 b hb).2⟩, by rw [h3, Heap.size_push]; exact Nat.lt_succ_of_lt hlt⟩
  have st3 : tn 0 s3.heap := T.keep _ _ _ st2 fun b _ o e => by rw [h3]; exact Heap.get?_push_of_some _ e
  have I4 := block_start I3 bo hN f3
  show codeAny _ _ (.compStart (.ListComp elt [⟨tg, iter, ifs, 0⟩] scope pos) 0 (.ref it) (.ref D) (compEnvC scope (cellsFrom (s3.heap.objs.size + 1) scope.names (cloFrom X.env.cells scope.names [])) s3.heap.objs.size X.env))
    (compEnds (model X.prog X.w) X.A X.xe none (EP X pins σ Q) (.ref D) (compEnvC scope (cellsFrom (s3.heap.objs.size + 1) scope.names (cloFrom X.env.cells scope.names [])) s3.heap.objs.size X.env)) { s3 with heap := pushCells (s3.heap.push { cls := .type "dict", data := .dict #[] }) scope.names }
  generalize hcl : cellsFrom (s3.heap.objs.size + 1) scope.names (cloFrom X.env.cells scope.names []) = cl at I4 ⊢
  have pg := hg s3 (upd H2 D (.lst [])) s3.heap.objs.size cl fp
  have pt := ht s3 (upd H2 D (.lst [])) s3.heap.objs.size cl fp
  have pe := he s3 (upd H2 D (.lst [])) s3.heap.objs.size cl fp (BlkE (X.blk s3 (upd H2 D (.lst [])) scope (compEnvC scope cl s3.heap.objs.size X.env) fp) E) fun pins' σ' H' s' e s'' I' c => ⟨pins', σ', H', s', I'.unwish, c⟩
  have nfp : ∀ b ∈ fp, (upd H2 D (.lst [])) b = none := fun b hb => (f3 b hb).1.1
  generalize hH3 : upd H2 D (.lst []) = H3 at I3 I4 pg pt pe w0 nfp f3
  generalize hY : X.blk s3 H3 scope (compEnvC scope cl s3.heap.objs.size X.env) fp = Y at I4 pg pt pe
  have st4 : tn 0 (pushCells (s3.heap.push { cls := .type "dict", data := .dict #[] }) scope.names) := T.keep _ _ _ st3 fun b _ o e => pushCells_keeps _ _ _ _ (Heap.get?_push_of_some _ e)
  generalize hs4 : ({ s3 with heap := pushCells (s3.heap.push { cls := .type "dict", data := .dict #[] }) scope.names } : Shared) = s4 at I4 ⊢
  have st4 : tn 0 s4.heap := by rw [← hs4]; exact st4
  have stat : ∀ {pins' : List (Addr × Obj)} {σ' : L2.St} {H' : Hp} {s' : Shared}, Inv Y pins' σ' H' s' → (∀ b ∈ fp, H' b = none) → (∀ p ∈ pins', p.1 ∉ fp) → ∀ b ∈ fp, FpOk Y pins' H' b := fun {pins' σ' H' s'} I' hn hp b hb => by
    subst hY
    exact ⟨hn b hb, (I'.ok.exf b hb).1, I'.ok.exfs b hb, .inl hb, fun x c e => (I'.ok.exf b hb).2 x c e, fun p hp' z => hp p (by simpa using hp') (z ▸ hb)⟩
  have out : ∀ {u : Value} {s' : Shared}, BlkE Y E u s' → notedBy (model X.prog X.w) X.A (compEnvC scope cl s3.heap.objs.size X.env) (fun e s' => compEnds (model X.prog X.w) X.A X.xe none (EP X pins σ Q) (.ref D) (compEnvC scope cl s3.heap.objs.size X.env) (.error e) s') u s' := fun {u s'} x => by
    obtain ⟨pb, σb, Hb, sb, IB, c⟩ := x
    subst hY
    exact blk_out hs1 hf1 tk I3 (Nat.le_refl _) f3 IB c
  have Yenv : Y.env = compEnvC scope cl s3.heap.objs.size X.env := by rw [← hY]
  have loop : codeAny (model X.prog X.w) X.A (.compLoop (.ListComp elt [⟨tg, iter, ifs, 0⟩] scope pos) 0 (.ref it) (.ref D) (compEnvC scope cl s3.heap.objs.size X.env)) (compEnds (model X.prog X.w) X.A X.xe none (EP X pins σ Q) (.ref D) (compEnvC scope cl s3.heap.objs.size X.env)) s4 := by
    refine compLoop_any (fun n s' => ∃ i H', Inv Y [] (wipe σ (own.map (·.2))) H' s' ∧ tn i s'.heap ∧ (∀ b ∈ fp, H' b = none) ∧ W i n H') ?_ m0 ⟨0, H3, I4, st4, nfp, w0⟩
    rintro n s5 ⟨i, H5, I5, st5, n5, w5⟩
    have same : Y.prog = X.prog ∧ Y.w = X.w ∧ Y.K = X.K ∧ Y.calm = true ∧ Y.A = X.A := by subst hY; exact ⟨rfl, rfl, rfl, hc, rfl⟩
    obtain ⟨e1, e2, e3, e4, e5⟩ := same
    rcases turn i n H5 w5 with ⟨stop, qq⟩ | ⟨go, Nx, hNx, step⟩
    · have td := T.done Y e1 e2 e3 e4 i [] s5 _ H5 (fun _ _ => False) I5 (stat I5 n5 fun p hp => by cases hp) st5 stop
      rw [e5] at td
      refine thnF td fun r s6 ⟨hr, I6⟩ => ?_
      subst hr
      subst hY
      have I7 : Inv X pins σ H5 s6 := I3.call' (ch := fp) I6.os I6.base I6.hok I6.bare fun b hb => ⟨(f3 b hb).1.2.2.2.1, (f3 b hb).1.2.1, (f3 b hb).1.2.2.2.2.1, (f3 b hb).1.2.2.2.2.2⟩
      obtain ⟨m, hn, _⟩ := I6.loc
      refine ⟨m, hn, fun h'' sb => ?_⟩
      obtain ⟨g0, g1, g2, g3, g4, g5⟩ := I3.fpOk (H' := H5) (b := s3.heap.objs.size) (Nat.le_refl _) I6.free
      exact ⟨.ref D, H5, I7.turned (t' := s6.toks) (fun b o hb e => (sb.2 b hb).trans e) g0 g1 g3 g4 g5, rfl, qq⟩
    · have ti := T.item Y e1 e2 e3 e4 i [] s5 _ H5 (fun _ _ => False) I5 (stat I5 n5 fun p hp => by cases hp) st5 go
      rw [e5] at ti
      refine thnF ti fun r s6 ⟨u, hr, h6⟩ => ?_
      subst hr
      refine thnF h6 fun _ s7 ⟨x, H7, I7, r7, y7, st7, n7⟩ => ?_
      have I7' := I7.pinned (stat I7 n7 fun p hp => by cases hp) (T.obj _ _ st7)
      have pgr := pg.run _ s7 _ H7 x u _ I7' r7 (step x H7 y7)
      rw [Yenv, e1, e2, e5, show Y.xe = fun _ _ => False by rw [← hY]] at pgr
      refine thnF pgr fun _ s8 ⟨σ8, H8, I8, hw8, q8⟩ => ?_
      have ptr := pt.run _ s8 σ8 H8 _ I8 q8
      rw [Yenv, e1, e2, e5, show Y.xe = fun _ _ => False by rw [← hY]] at ptr
      refine thnF ptr fun b s9 ⟨H9, I9, q9⟩ => ?_
      have fin : ∀ {s' : Shared} {H' : Hp}, Inv Y ([] ++ pinsAt fp s7.heap) σ8 H' s' → Nx H' → ∃ m, m < n ∧ ∃ i H', Inv Y [] (wipe σ (own.map (·.2))) H' s' ∧ tn i s'.heap ∧ (∀ b ∈ fp, H' b = none) ∧ W i m H' := fun {s' H'} I' nx => by
        obtain ⟨m', hm, w'⟩ := hNx H' nx
        have pn : ∀ b ∈ fp, ∀ o, s7.heap.get? b = some o → s'.heap.get? b = some o ∧ H' b = none := fun b hb o e => by
          obtain ⟨z1, z2, _⟩ := I'.pin (b, o) (List.mem_append_right _ (List.mem_append_right _ (mem_pinsAt hb e)))
          exact ⟨z1, z2⟩
        refine ⟨m', hm, i + 1, H', (I'.unpinned (pins := [])).weak (by rw [← hw8, wipe_length]) (fun j v e => ?_), T.keep _ _ _ st7 fun b hb o e => (pn b hb o e).1, fun b hb => ?_, w'⟩
        · rw [← hw8] at e
          exact (wipe_some e).1
        · obtain ⟨o, e, _⟩ := T.obj _ _ st7 b hb
          exact (pn b hb o e).2
      cases b with
      | false =>
        simp only [Bool.false_eq_true, if_false] at q9 ⊢
        exact fin I9 q9
      | true =>
        simp only [if_true] at q9 ⊢
        have per := pe.run _ s9 σ8 H9 _ (I9.wish _) q9
        rw [show (Y.wish (BlkE Y E)).env = compEnvC scope cl s3.heap.objs.size X.env from Yenv, show (Y.wish (BlkE Y E)).prog = X.prog from e1, show (Y.wish (BlkE Y E)).w = X.w from e2, show (Y.wish (BlkE Y E)).A = X.A from e5] at per
        refine wpAny_mono per (fun z s10 ⟨yv, H10, I10, r10, acc, hD10, hz10, nx⟩ => ?_) fun u s' x => out x
        have ap := L2.app_ok (X := Y) (E := fun _ _ => False) I10.unwish hD10 hz10 r10 (Q := fun _ s11 => ∃ m, m < n ∧ ∃ i H', Inv Y [] (wipe σ (own.map (·.2))) H' s11 ∧ tn i s11.heap ∧ (∀ b ∈ fp, H' b = none) ∧ W i m H') fun s11 I11 => fin I11 nx
        rw [e1, e2, e5] at ap
        exact thnF ap fun _ _ z => z
  exact codeAny_compStart_list loop (T.self X.A 0 _ _ _ st4 loop)
end
end Fb
set_option Elab.async false
set_option linter.all false
set_option maxRecDepth 100000
set_option maxHeartbeats 4000000
namespace Fb
open PySem PySem.Spec PyProof.Rows L2
local macro_rules | `(tactic| walk_at "go1") => `(tactic| first
  | with_reducible refine g_seq ?_
  | with_reducible refine g_asg ?_
  | with_reducible refine g_name ?_
  | ((with_reducible refine' g_var ?h1 ?_); (case h1 => rfl))
  | with_reducible refine g_c ?_
  | with_reducible refine g_op ?_
  | with_reducible refine g_un ?_
  | with_reducible refine g_rU ?_
  | with_reducible refine g_yes ?_
  | with_reducible refine g_isN ?_
  | with_reducible refine g_notN ?_
  | with_reducible refine g_int1 ?_
  | with_reducible refine g_I0 ?_
  | ((with_reducible refine' g_eq ?h1 ?_); (case h1 => rfl))
  | ((with_reducible refine' g_ne ?h1 ?_); (case h1 => rfl))
  | with_reducible refine g_test ?_
  | with_reducible refine g_tb ?_
  | with_reducible refine g_bl ?_
  | with_reducible refine g_drop ?_
  | with_reducible refine g_ret ?_
  | with_reducible refine g_if ?_
  | with_reducible refine g_ife ?_
  | with_reducible refine g_and ?_
  | with_reducible refine g_or ?_
  | with_reducible refine g_not ?_
  | with_reducible refine g_next ?_
  | with_reducible refine g_nil ?_
  | with_reducible refine g_cons ?_
  | with_reducible refine g_cb ?_
  | with_reducible refine g_call ?_
  | with_reducible refine g_tup ?_
  | with_reducible refine g_lst ?_
  | with_reducible refine g_dget ?_
  | with_reducible refine g_dput ?_
  | with_reducible refine g_bm ?_
  | with_reducible refine g_lc ?_
  | with_reducible refine g_for ?_
  | with_reducible refine g_il ?_
  | with_reducible refine g_rng1 ?_
  | with_reducible refine g_gsub ?_
  | with_reducible refine g_din ?_
  | with_reducible refine g_disp ?_
  | with_reducible refine g_pairs ?_
  | with_reducible refine g_pairs0 ?_
  | with_reducible refine g_sl ?_
  | with_reducible refine g_part ?_
  | with_reducible refine g_part1 ?_
  | with_reducible refine g_nopart ?_
  | with_reducible refine g_andV ?_
  | with_reducible refine g_orV ?_
  | with_reducible refine g_notV ?_
  | with_reducible refine g_itp ?_
  | with_reducible refine g_par ?_
  | with_reducible refine g_par1 ?_
  | with_reducible refine g_par3 ?_
  | with_reducible refine g_par31 ?_
  | with_reducible refine g_gname ?_
  | with_reducible refine g_gcons ?_
  | with_reducible refine g_gnil ?_
  | with_reducible refine g_bm0 ?_)
local macro_rules | `(tactic| walk_at "go") => `(tactic| repeat walk_at "go1")
local macro_rules | `(tactic| walk_at "at") => `(tactic| repeat first
  | assumption
  | exact upd_same
  | with_reducible refine keep (by assumption) ?_
  | with_reducible refine keep_ne (by assumption) ?_
  | with_reducible refine Fr.get0 (by assumption) ?_
  | with_reducible refine Fr.get (by assumption) ?_ (by assumption)
  | with_reducible refine Fr.tup (by assumption) ?_)
local macro_rules | `(tactic| walk_at "fr") => `(tactic| repeat first
  | assumption
  | exact Fr.refl _ _
  | with_reducible refine Fr.trans ?_ (Fr.new (by assumption))
  | with_reducible refine Fr.trans ?_ (Fr.nil (by assumption))
  | with_reducible refine Fr.trans ?_ (by assumption))
local macro_rules | `(tactic| walk_at "gn") => `(tactic| repeat first
  | assumption
  | with_reducible refine Gn.fr0 ?_ (Fr.new (by assumption))
  | with_reducible refine Gn.fr0 ?_ (by assumption))
local macro_rules | `(tactic| walk_at "bt") => `(tactic| repeat first
  | assumption
  | with_reducible refine BAt.up (Fr.new (W := []) (by assumption)).1 _ _ ?_
  | with_reducible refine SAt.up (Fr.new (W := []) (by assumption)).1 _ _ ?_
  | with_reducible refine BAt.up (Fr.tupLe (by assumption)) _ _ ?_
  | with_reducible refine SAt.up (Fr.tupLe (by assumption)) _ _ ?_)
theorem pe_okMP {X : Cx} {CX : CXT} {k : Nat} {D : Addr} {m : Str} {ps : List Str} {sp : Sp} {E : XK} {o e : Expr} {es : List Expr} {ta : TE} {t : TA} {apos pos : Pos} {pl : Sem Bool} (O : OkM X.prog X.w X.K X.mg X.base CX k D m ps sp) (c : Cls X.K D) (he : PE X o ta) (hr : Room k X.A) (pp : Passes CX X E) (ha : PA X (e :: es) t)
    (hst : starEach (e :: es) X.env = (false, eval e X.env) :: starEach es X.env := by rfl) (hpl : (backTo pos (starEach es X.env)).any (·.1) = false := by rfl)
    (ht : eval (.Call (.Attribute o m apos) (e :: es) [] pos) X.env = (do
      let ov ← eval o X.env
      standAt apos.atName
      let (f, first) ← holding [ov] (getMethod ov m pl)
      callWith pos f first (backTo pos (starEach (e :: es) X.env)) (backToKw pos (keywordEach [] X.env))) := by rfl) :
    PE X (.Call (.Attribute o m apos) (e :: es) [] pos) (tMeth D m sp [] E ta t) := by
  obtain ⟨f, fd, hm, b, F⟩ := O
  exact pe_meth he c hm F hr b .nil pp ha hst hpl ht
structure GoInv (H H1 : Hp) (D y dx me lf s0 : Addr) (F : Sn) (cur fr : List Addr) (pd : List (List Addr × Stm)) (os : List Op) (sn : Sn) (ts mts : List Addr) : Prop where
  pend : Pend cur fr pd os
  sc : Paired (fun a c => H1 a = some (.dK (ck c))) cur sn.sc
  fre : ∀ a ∈ fr, H1 a = some (.dK (ck []))
  nd : (cur ++ fr).Nodup
  hy : H1 y = some (.ins D dx (sfs sn.at_ sn.mks.length me lf))
  hlf : H1 lf = some (.lst (ts.map V.ref))
  left : LeftAt H1 ts pd
  hme : H1 me = some (.lst (mts.map V.ref))
  mean : Paired (fun t m => H1 t = some (.tup (m.map onv))) mts sn.means
  am : sn.am = []
  hrun : run os sn = F
  cl : ∀ c ∈ sn.sc, c.length ≤ sn.mks.length
  sz : sn.mks.length + wL os ≤ 5000 ∧ cur.length + wL os ≤ 5001 ∧ sn.at_ + wL os ≤ 5000 ∧ sn.means.length = sn.at_
  dep : ∀ p ∈ pd, 1 + depS p.2 ≤ 1000 ∧ p.1 ≠ []
  fr_ : Fr [y, me, lf, s0] H H1
  own : ∀ a ∈ cur ++ fr, a = s0 ∨ H a = none
theorem nodup4 {A B C D : List Addr} (h1 : (A ++ B).Nodup) (h2 : (C ++ D).Nodup) (h : ∀ a ∈ A ++ B, a ∉ C ++ D) : (A ++ C ++ (B ++ D)).Nodup := by
  have p : (A ++ B ++ (C ++ D)).Perm (A ++ C ++ (B ++ D)) := by
    rw [List.append_assoc, List.append_assoc]
    refine List.Perm.append_left A ?_
    rw [← List.append_assoc, ← List.append_assoc]
    exact List.Perm.append_right D List.perm_append_comm
  refine p.nodup_iff.mp ?_
  rw [List.nodup_append]
  exact ⟨h1, h2, fun a ha b hb e => h a ha (e ▸ hb)⟩
theorem first_un {sc : List Scp} {us : List Str} {i : Nat} {u : Str} (hu : us[i]? = some u) (hn : lookS sc u = none) (ha : ∀ x ∈ us.take i, (lookS sc x).isSome = true) {k : Nat} : ((us.filter fun u => (lookS sc u).isNone).map fun u => (("unknown" : Str), k, u)).head? = some (("unknown" : Str), k, u) := by
  have hi : i < us.length := (List.getElem?_eq_some_iff.mp hu).1
  have e : us = us.take i ++ (u :: us.drop (i + 1)) := by
    have : us.drop i = u :: us.drop (i + 1) := by
      rw [List.drop_eq_getElem_cons hi, (List.getElem?_eq_some_iff.mp hu).2]
    rw [← this, List.take_append_drop]
  rw [e, List.filter_append, List.filter_eq_nil_iff.mpr, List.nil_append, List.filter_cons_of_pos]
  · rfl
  · rw [hn]; rfl
  · intro x hx q
    have := ha x hx
    cases h : lookS sc x with
    | none => rw [h] at this; cases this
    | some _ => rw [h] at q; cases q
def spGo (C D : Addr) : Sp := fun vs H Q E => ∃ (y dx me lf L s0 : Addr) (ts : List Addr) (ws : List V) (b : List Stm), vs = [.ref y] ∧ H y = some (.ins D dx (sfs 0 0 me lf)) ∧ H me = some (.lst []) ∧ H lf = some (.lst (ts.map V.ref)) ∧ me ≠ lf ∧ H L = some (.tup [.ref s0]) ∧ H s0 = some (.dK []) ∧
  Paired (fun t v => H t = some (.tup [v, .ref L])) ts ws.reverse ∧ BAt H b ws ∧ wB b ≤ 5000 ∧ depB b ≤ 900 ∧
  ((look0 b).am = [] → ∀ H' ts' (fs : List (Str × V)), Fr [y, me, lf, s0] H H' → H' y = some (.ins D dx fs) → fs.lookup ("means" : Str) = some (V.ref me) → H' me = some (.lst (ts'.map V.ref)) → Paired (fun t m => H' t = some (.tup (m.map onv))) ts' (look0 b).means → Q .non H') ∧
  ∀ wd j x H', (look0 b).am.head? = some (wd, j, x) → Fr [y, me, lf, s0] H H' → NpE C wd j x H' E
section
variable {P : Program} {w : World} {K : PySem.W.Frag} {mg : Str → Option Value} {base : Heap}
theorem sc_Sight_go_through : FnScope ["self", "statement", "scopes", "name"] ["self"] (defScope ((inClass (topS 8) 5))) := ⟨rfl, rfl, rfl, by decide +kernel, rfl, by decide +kernel, by decide +kernel⟩
theorem ok_sgo (A : All K mg) {C B fI D : Addr} (N : Np K mg C B fI) (S : SiK K mg D) : OkM P w K mg base (L2.CX P w) 5 D "go_through" ["self"] (spGo C D) := by
  obtain ⟨f, hm, fd, F⟩ := S.gt
  have OM_use : OkM P w K mg base (L2.CX P w) 3 D "use" ["self", "name", "scopes"] (spSUse C D) := ok_suse A N S
  have OM_make_all : OkM P w K mg base (L2.CX P w) 4 D "make_all" ["self", "statement", "scopes"] (spSMakeAll C D) := ok_smake_all A N S
  have O_uses_of : Ok P w K mg base CX0 2 "uses_of" ["statement"] spUses := ok_uses_of A
  refine ⟨f, fd, hm, F.bindsN (fun _ _ _ _ _ _ us hl => match us, hl with | [_], _ => rfl), F.ok sc_Sight_go_through (fun vs H Q E h => ?_) fun cdv Ar outer s H vs Q E hr h => ?_⟩
  · obtain ⟨_, _, _, _, _, _, _, _, _, rfl, _⟩ := h; rfl
  · obtain ⟨y, dx, me, lf, L, s0, ts, ws, b, rfl, hy, hme, hlf, hml, hL, hs0, hts, hbt, hwb, hdp, q, qe⟩ := h
    refine ⟨_, (pss_one (ps_while (passes_of rfl) (pt_cmpR op_gt (pe_callB call_len_seq (by rfl) A.len boot_len (pa_cons (pe_fld (pv 0) rfl) pa_nil)) pe_int (nomark _)) (pss_cons (ps_asg (pe_bm0 PySem.F.plainAttrs_list PySem.F.slot_list_pop PySem.F.type_list_pop mt_pop (pe_fld (pv 0) rfl)) (pg_tupK (K := K) (n := 2) rfl (pgs_cons (pg_name (i := 1) sc_Sight_go_through.nd rfl (Or.inl rfl)) (pgs_cons (pg_name (i := 2) sc_Sight_go_through.nd rfl (Or.inr rfl)) pgs_nil))))
    (pss_cons (ps_expr (pe_bm PySem.F.plainAttrs_list PySem.F.slot_list_append PySem.F.type_list_append mt_append (pe_fld (pv 0) rfl) (pa_cons (pe_callTy (call_tuple_ofK (K := K)) (by rfl) A.tuple (by decide +kernel) (pa_cons (pe_lcX (own := [("name", 3)]) (g := gName 3) rfl rfl (takes_of rfl rfl rfl rfl) rfl sc_Sight_go_through.nd (pi_list (pe_ok O_uses_of (hr.mono (by omega)) (pa_cons (pv 1) pa_nil))) (blkOk_by (own := [("name", 3)]) (N := ["self", "statement", "scopes", "name"]) (sc := defScope ((inClass (topS 8) 5))) (by decide +kernel)) (fun _ _ _ _ _ => (pg_nameL (i := 3) sc_Sight_go_through.nd rfl rfl)) (fun _ _ _ _ _ => pts_nil) (fun _ _ _ _ _ _ pp => (pe_okMP OM_use S.cls (pv 0) (hr.mono (by omega)) pp (pa_cons (pv 3) (pa_cons (pv 2) pa_nil))))) pa_nil)) pa_nil)))
    (pss_cons (ps_expr (pe_okMX OM_make_all S.cls (pv 0) (hr.mono (by omega)) (takes_of rfl rfl rfl rfl) (pa_cons (pv 1) (pa_cons (pv 2) pa_nil))))
    (pss_one (ps_fldaug (pv 0) pe_int in_add))))))), ?_⟩
    have one : ∀ {n : Nat}, n ≤ 10 → n ≤ sizeLine := fun h => small_of (by omega)
    have nyme : y ≠ me := fun z => by rw [z, hme] at hy; cases hy
    have nylf : y ≠ lf := fun z => by rw [z, hlf] at hy; cases hy
    have nys0 : y ≠ s0 := fun z => by rw [z, hs0] at hy; cases hy
    have nmes0 : me ≠ s0 := fun z => by rw [z, hs0] at hme; cases hme
    have nlfs0 : lf ≠ s0 := fun z => by rw [z, hs0] at hlf; cases hlf
    refine ⟨fun m σ H1 => ∃ (u1 u2 : Option V) (cur fr : List Addr) (pd : List (List Addr × Stm)) (os : List Op) (sn : Sn) (ts mts : List Addr), σ = [some (.ref y), u1, u2, none] ∧ m = wL os ∧ GoInv H H1 D y dx me lf s0 (look0 b) cur fr pd os sn ts mts,
      ⟨wL (ops b ++ []), _, _, [s0], [], b.map (fun s => ([s0], s)) ++ [], ops b ++ [], sn0, ts, [], rfl, rfl, Pend.nil.block b, .cons hs0 .nil, (fun _ h => by cases h), by simp, hy, hlf, ?_, hme, .nil, rfl, by rw [List.append_nil]; rfl, fun c hc => by rw [List.mem_singleton.mp hc]; exact Nat.zero_le _, ?_, fun p hp => ?_, Fr.refl _ _, fun a ha => .inl (by simpa using ha)⟩, ?_⟩
    · have h0 : LeftAt H [] [] := .nil
      have := h0.add (cur := [s0]) hbt (by simpa using hL) hts
      simpa using this
    · rw [List.append_nil]
      unfold wB at hwb
      refine ⟨?_, ?_, ?_, rfl⟩ <;> simp [sn0] <;> omega
    · rw [List.append_nil] at hp
      obtain ⟨s, hs, rfl⟩ := List.mem_map.mp hp
      exact ⟨Nat.le_trans (depB_mem hdp s hs) (by omega), by simp⟩
    clear hbt hts hL
    rintro m σ H1 ⟨u1, u2, cur, fr, pd, os, sn, ts, mts, rfl, rfl, g⟩
    have hy1 := g.hy
    walk_at "go"
    with_reducible refine g_fld ?_
    walk_at "go"
    refine g_fld1 hy1 S.cls S.nle (by rfl) ?_
    refine ⟨_, _, rfl, .inl (.of g.hlf), ?_⟩
    walk_at "go"
    refine i_dec (fun e => ?_) (fun e => ?_)
    rotate_left
    · have e0 : pd = [] := by
        have hl := g.left.length
        rw [List.length_reverse] at hl
        rw [List.length_map] at e
        cases pd with
        | nil => rfl
        | cons a r => simp at hl; omega
      obtain ⟨k1, k2, k3, k4⟩ := g.pend.fin e0 sn
      rw [g.hrun] at k1 k2 k3 k4
      walk_at "go"
      refine q (by rw [k4]; exact g.am) H1 mts _ g.fr_ hy1 (by rfl) g.hme (by rw [k3]; exact g.mean)
    refine ⟨_, fun _ _ h => h, ?_⟩
    obtain ⟨pend, hsc, hfre, hnd, _, hlf1, hleft, hme1, hmean, ham, hrun, hcl, ⟨z1, z2, z3, z4⟩, hdep, hfr, hown⟩ := g
    obtain ⟨⟨Lc, st⟩, rest, rfl⟩ : ∃ p r, pd = p :: r := by
      cases pd with
      | nil =>
        have hl := hleft.length
        rw [List.length_map] at e
        simp at hl
        rw [hl] at e; simp at e
      | cons p r => exact ⟨p, r, rfl⟩
    obtain ⟨ts', t, v, LL, rfl, hleft', ht, hst, hLL⟩ := hleft.last
    obtain ⟨fr', os', s', pend', hsc', hrun', ⟨m1, m2, m3, m4⟩, hfre', hnd', hsub, hz1, hz2, hcl'⟩ := pend.adv (V := fun a c => H1 a = some (.dK (ck c))) rfl sn hsc hfre hnd
    have hpl := pend'.len
    have hdst := hdep (Lc, st) List.mem_cons_self
    have hdrest : ∀ p ∈ rest, 1 + depS p.2 ≤ 1000 ∧ p.1 ≠ [] := fun p hp => hdep p (List.mem_cons_of_mem _ hp)
    have hcl2 : ∀ c ∈ s'.sc, c.length ≤ s'.mks.length := fun c hc => by
      rw [m1]
      rcases hcl' c hc with rfl | h
      · exact Nat.zero_le _
      · exact hcl c h
    rw [hrun] at hrun'
    have hown' : ∀ a ∈ Lc ++ fr', a = s0 ∨ H a = none := fun a ha => hown a (hsub a ha)
    have hwst : wL (opsS st) = 2 + st.uses.length + wL (mkP st ++ blkP st) := by rw [opsS_eq, wL_cons]; rfl
    rw [wL_append] at hz1 hz2
    have hus5 : st.uses.length ≤ 5000 := by omega
    have hlt : ts'.length ≤ 5000 := by rw [hleft'.length, List.length_reverse]; omega
    have hmt : mts.length ≤ 5000 := by rw [hmean.length]; omega
    have hat' : sn.at_ = s'.at_ := m2.symm
    have hmk' : sn.mks.length = s'.mks.length := by rw [m1]
    have hme' : sn.means = s'.means := m3.symm
    rw [hat', hmk'] at hy1
    rw [hme'] at hmean
    have ham' : s'.am = [] := by rw [m4, ham]
    clear hsc hfre hnd pend hleft hdep hsub hown hcl hcl'
    walk_at "go"
    with_reducible refine g_fld ?_
    walk_at "go"
    refine g_fld1 hy1 S.cls S.nle (by rfl) ?_
    refine ⟨ty_l hlf1, lf, _, .ref t, rfl, rfl, hlf1, by simp, ?_⟩
    have e1 : ((ts' ++ [t]).map V.ref).dropLast = ts'.map V.ref := by simp
    rw [e1]
    have f2 : Fr [y, me, lf, s0] H1 (upd H1 lf (.lst (ts'.map V.ref))) := Fr.put hlf1 (by intro xs q; cases q) (by simp)
    have ney : y ≠ lf := nylf
    have hy2 : (upd H1 lf (.lst (ts'.map V.ref))) y = _ := (upd_ne nylf).trans hy1
    have hlf2 : (upd H1 lf (.lst (ts'.map V.ref))) lf = _ := upd_same
    have hme2 : (upd H1 lf (.lst (ts'.map V.ref))) me = _ := (upd_ne hml).trans hme1
    have dkk : ∀ {a : Addr} {c : Scp}, H1 a = some (.dK (ck c)) → (upd H1 lf (.lst (ts'.map V.ref))) a = some (.dK (ck c)) := fun {a c} h => (upd_ne (fun z => by rw [z, hlf1] at h; cases h)).trans h
    have hsc2 := Paired.imp' hsc' fun _ _ _ z => dkk z
    have hfre2 : ∀ a ∈ fr', (upd H1 lf (.lst (ts'.map V.ref))) a = some (.dK (ck [])) := fun a ha => dkk (hfre' a ha)
    have ht2 := f2.tup ht
    have hst2 := hst.up f2.tupLe
    have hLL2 := f2.tup hLL
    have hleft2 := hleft'.up f2.tupLe
    have hmean2 := Paired.imp' hmean fun _ _ _ z => f2.tup z
    have hfr2 := hfr.trans f2
    clear hy1 hlf1 hme1 dkk hsc' hfre' ht hst hLL hleft' hmean
    generalize upd H1 lf (.lst (ts'.map V.ref)) = H2 at *
    clear f2 hfr
    refine ⟨t, _, rfl, .inl (.of ht2), rfl, ?_⟩
    walk_at "go"
    with_reducible refine g_fld ?_
    walk_at "go"
    refine g_fld1 hy2 S.cls S.nme (by rfl) ?_
    refine ⟨ty_l hme2, ?_⟩
    walk_at "go"
    refine ⟨st, v, rfl, hst2, hdst.1, fun H3 pu f3 hpu => ?_⟩
    refine lc_list (xs := st.uses.map V.str) (fun D0 i H' => Fr [] H3 H' ∧ H' D0 = some (.lst ((st.uses.take i).map fun u => onv (lookS s'.sc u))) ∧ ∀ u ∈ st.uses.take i, (lookS s'.sc u).isSome = true) hpu
      (fun D0 hD => ⟨Fr.new hD, upd_same, fun u hu => by rw [List.take_zero] at hu; cases hu⟩) (fun D0 i H' hD pp => pp.1.get0 hpu) (fun D0 H' hD pp => ?_) (fun D0 i x H' hD hx pp => ?_)
    · obtain ⟨f4, hD0, hall⟩ := pp
      rw [List.length_map, List.take_length] at hD0 hall
      have f34 := f3.trans f4
      walk_at "go"
      refine g_tupof hD0 (fun pt npt => ?_)
      have f5 : Fr [] H2 _ := f34.trans (Fr.new (o := .tup (st.uses.map fun u => onv (lookS s'.sc u))) npt)
      walk_at "go"
      refine g_append (f5.get0 hme2) (small_lt (by rw [List.length_map]; omega)) ?_
      have f6 : Fr [y, me, lf, s0] H2 _ := f5.nil.trans (Fr.put (o' := .lst (mts.map V.ref ++ [.ref pt])) (f5.get0 hme2) (by intro xs q; cases q) (by simp))
      have hya : (upd (upd H' pt (.tup (st.uses.map fun u => onv (lookS s'.sc u)))) me (.lst (mts.map V.ref ++ [.ref pt]))) y = _ := (upd_ne nyme).trans (f5.get0 hy2)
      have hlfa : (upd (upd H' pt (.tup (st.uses.map fun u => onv (lookS s'.sc u)))) me (.lst (mts.map V.ref ++ [.ref pt]))) lf = _ := (upd_ne (Ne.symm hml)).trans (f5.get0 hlf2)
      have hmea : (upd (upd H' pt (.tup (st.uses.map fun u => onv (lookS s'.sc u)))) me (.lst (mts.map V.ref ++ [.ref pt]))) me = _ := upd_same
      have hpta : (upd (upd H' pt (.tup (st.uses.map fun u => onv (lookS s'.sc u)))) me (.lst (mts.map V.ref ++ [.ref pt]))) pt = some (.tup (st.uses.map fun u => onv (lookS s'.sc u))) := (upd_ne (fun z => by have := f34.get0 hme2; rw [← z] at this; rw [this] at npt; cases npt)).trans upd_same
      have dkk : ∀ {a : Addr} {c : Scp}, H2 a = some (.dK (ck c)) → (upd (upd H' pt (.tup (st.uses.map fun u => onv (lookS s'.sc u)))) me (.lst (mts.map V.ref ++ [.ref pt]))) a = some (.dK (ck c)) := fun {a c} h => (upd_ne (fun z => by rw [z, hme2] at h; cases h)).trans (f5.get0 h)
      have hsca := Paired.imp' hsc2 fun _ _ _ z => dkk z
      have hfrea := fun a ha => dkk (hfre2 a ha)
      have hsta := hst2.up f6.tupLe
      have hLLa := f6.tup hLL2
      have hlefta := hleft2.up f6.tupLe
      have hmeana := Paired.imp' hmean2 fun _ _ _ z => f6.tup z
      have hfra := hfr2.trans f6
      clear dkk f6 f5 hD0 f34 f4 npt hpu f3
      generalize upd (upd H' pt (.tup (st.uses.map fun u => onv (lookS s'.sc u)))) me (.lst (mts.map V.ref ++ [.ref pt])) = Ha at *
      obtain ⟨top, cur0, rfl⟩ : ∃ a r, Lc = a :: r := by
        cases Lc with
        | nil => exact absurd rfl hdst.2
        | cons a r => exact ⟨a, r, rfl⟩
      obtain ⟨c, r, hcr⟩ : ∃ c r, s'.sc = c :: r := by
        cases e : s'.sc with
        | nil => rw [e] at hsca; cases hsca
        | cons c r => exact ⟨c, r, rfl⟩
      have hamS := (run_S (s := s') (us := st.uses) hall ham').2
      have hlc : cur0.length + 1 + wL (opsS st) + wL os' ≤ 5001 := by simp only [List.length_cons] at hz1; omega
      have hpre : MkPre Ha D y dx LL me lf top v s'.at_ st cur0 ts' (run1 (.S st.uses) s') rest c r :=
        ⟨hsta, hLLa, hcr, by rw [← hcr]; exact hsca, (List.nodup_append.mp hnd').1, hya, hlfa, hlefta, rfl, hamS, hcl2, by show s'.mks.length + _ ≤ 6000 ∧ _; rw [m1]; omega⟩
      have htopa : ∃ c, Ha top = some (.dK (ck c)) := by obtain ⟨c, _, h⟩ := Paired.mem_left hsca top (by simp); exact ⟨c, h⟩
      have netop : me ≠ top := fun z => by obtain ⟨c, h⟩ := htopa; rw [← z, hmea] at h; cases h
      have cutW : ∀ {H6 : Hp}, Fr [y, lf, top] Ha H6 → Fr [y, me, lf, s0] H H6 := fun {H6} f6 => fr_cut f6 hfra (fun a ha => by
        simp at ha
        rcases ha with rfl | rfl | rfl
        · exact .inl (by simp)
        · exact .inl (by simp)
        · rcases hown' a (by simp) with h | h
          · exact .inl (by simp [h])
          · exact .inr h)
      have hrunS : ∀ os2, run (opsS st ++ os2) s' = run (mkP st ++ (blkP st ++ os2)) (run1 (.S st.uses) s') := fun os2 => by
        rw [opsS_eq, List.cons_append, List.append_assoc]; rfl
      walk_at "go"
      with_reducible refine g_meth ?_
      walk_at "go"
      refine ⟨y, dx, _, rfl, hya, (by rfl), ?_⟩
      walk_at "go"
      refine ⟨y, dx, LL, me, lf, top, v, s'.at_, st, cur0, ts', run1 (.S st.uses) s', rest, c, r, rfl, hpre, fun H6 ts6 pn frn ext osn sn6 R => ?_, fun wd j x H6 hh f6 => qe wd j x H6 (by rw [hrun', hrunS]; exact hh os') (cutW f6)⟩
      walk_at "go"
      with_reducible refine g_fldaug ?_
      walk_at "go"
      refine ⟨y, D, dx, _, _, rfl, R.hy, S.cls, S.nat_, (rfl : _ = some (V.int (s'.at_ : Int))), ?_⟩
      walk_at "go"
      refine ⟨_, _, rfl, rfl, ⟨dx, _, R.hy, by simp [sfs], ?_⟩⟩
      rw [sfs_at]
      have hwosn := R.sz
      have f7 : Fr [y] H6 (upd H6 y (.ins D dx (sfs (s'.at_ + 1) sn6.mks.length me lf))) := Fr.put R.hy (by intro xs q; cases q) (by simp)
      have dky : ∀ {a : Addr} {kv : List (Key × V)}, H6 a = some (.dK kv) → (upd H6 y (.ins D dx (sfs (s'.at_ + 1) sn6.mks.length me lf))) a = some (.dK kv) := fun {a kv} h => (upd_ne (fun z => by rw [z, R.hy] at h; cases h)).trans h
      have hat6 : sn6.at_ = s'.at_ + 1 := R.at_
      have hme6 : sn6.means = s'.means ++ [st.uses.map (lookS s'.sc)] := R.means
      have hmk6 : (run1 (.S st.uses) s').mks.length = sn.mks.length := by rw [← m1]; rfl
      rw [hmk6] at hwosn
      have hnewH : ∀ a, Ha a = none → a = s0 ∨ H a = none := fun a ha => by
        by_cases e1 : a = s0
        · exact .inl e1
        · refine .inr ?_
          cases eh : H a with
          | none => rfl
          | some o =>
            by_cases e2 : a ∈ [y, me, lf, s0]
            · simp at e2
              rcases e2 with rfl | rfl | rfl | rfl
              · rw [hya] at ha; cases ha
              · rw [hmea] at ha; cases ha
              · rw [hlfa] at ha; cases ha
              · exact absurd rfl e1
            · rw [hfra.get eh e2] at ha; cases ha
      refine ⟨wL (osn ++ os'), by rw [wL_append]; omega, some v, some (.ref LL), ext ++ (top :: cur0), frn ++ fr', pn ++ rest, osn ++ os', sn6, ts6, mts ++ [pt], rfl, rfl, R.pend _ _ _ pend', Paired.imp' R.sc fun _ _ _ z => dky z, fun a ha => ?_, nodup4 R.nd hnd' (fun a ha hb => ?_), by rw [hat6]; exact upd_same, (upd_ne (Ne.symm nylf)).trans R.hlf, R.left.up f7.tupLe, ?_, ?_, R.am, by rw [← R.hrun, ← hrunS, hrun'], R.cl, ?_, fun p hp => ?_, ?_, fun a ha => ?_⟩
      · rcases List.mem_append.mp ha with h | h
        · exact dky (R.hfrn a h)
        · refine dky (R.fr.get (hfrea a h) (fun z => ?_))
          simp at z
          rcases z with rfl | rfl | rfl
          · have := hfrea _ h; rw [hya] at this; cases this
          · have := hfrea _ h; rw [hlfa] at this; cases this
          · exact (List.nodup_append.mp hnd').2.2 a (by simp) a h rfl
      · have h1 := R.new a ha
        rcases List.mem_append.mp hb with h | h
        · obtain ⟨_, _, e⟩ := Paired.mem_left hsca a h
          rw [e] at h1; cases h1
        · rw [hfrea a h] at h1; cases h1
      · rw [List.map_append]
        refine (upd_ne (Ne.symm nyme)).trans (R.fr.get hmea (fun z => ?_))
        simp at z
        rcases z with z | z | z
        · exact nyme z.symm
        · exact hml z
        · exact netop z
      · rw [hme6]
        refine Paired.snoc (Paired.imp' hmeana fun _ _ _ z => f7.tup (R.fr.tup z)) ?_
        rw [List.map_map]
        exact f7.tup (R.fr.tup hpta)
      · rw [hat6, hme6, wL_append, List.length_append, List.length_append, List.length_cons, List.length_cons, List.length_nil, ← hme', z4]
        omega
      · rcases List.mem_append.mp hp with h | h
        · obtain ⟨q1, q2⟩ := R.dep p h
          exact ⟨Nat.le_trans q1 (Nat.le_trans (Nat.le_add_left _ 1) hdst.1), q2⟩
        · exact hdrest p h
      · exact (cutW R.fr).trans (f7.mono fun a ha => by simp at ha ⊢; exact .inl ha)
      · rcases List.mem_append.mp ha with h | h <;> rcases List.mem_append.mp h with h | h
        · exact hnewH a (R.new a (List.mem_append_left _ h))
        · exact hown' a (List.mem_append_left _ h)
        · exact hnewH a (R.new a (List.mem_append_right _ h))
        · exact hown' a (List.mem_append_right _ h)
    · obtain ⟨f4, hD0, hall⟩ := pp
      obtain ⟨u, hu, rfl⟩ := map_at hx
      have hil : i < st.uses.length := (List.getElem?_eq_some_iff.mp hu).1
      have f34 := f3.trans f4
      walk_at "go"
      refine ⟨rfl, ?_⟩
      walk_at "go"
      refine i_t rfl ?_
      with_reducible refine g_meth ?_
      walk_at "go"
      refine ⟨y, dx, _, rfl, f34.get0 hy2, (by rfl), ?_⟩
      walk_at "go"
      refine ⟨y, LL, dx, s'.at_, s'.mks.length, me, lf, Lc.reverse, s'.sc, u, rfl, f34.get0 hy2, f34.tup hLL2, Paired.rev (Paired.imp' hsc2 fun _ _ _ z => f34.get0 z), fun i2 H5 e5 f5 => ?_, fun e5 H5 f5 => ?_⟩
      · have f45 := f4.trans f5
        refine ⟨_, f5.get0 hD0, small_lt (by rw [List.length_map, List.length_take]; omega), f45.mut hD, ?_, fun z hz => ?_⟩
        · rw [upd_same, List.take_add_one, hu, List.map_append]
          show some (HO.lst (_ ++ [V.int (i2 : Int)])) = some (HO.lst (_ ++ [onv (lookS s'.sc u)]))
          rw [e5]; rfl
        · rw [List.take_add_one, hu] at hz
          rcases List.mem_append.mp hz with h | h
          · exact hall z h
          · have : z = u := by simpa using h
            rw [this, e5]; rfl
      · refine qe ("unknown" : Str) s'.at_ u H5 ?_ (hfr2.trans (f34.trans f5).nil)
        rw [hrun', opsS_eq, List.cons_append]
        refine head_more (s := run1 (.S st.uses) s') ?_
        show (s'.am ++ _).head? = _
        rw [ham', List.nil_append]
        exact first_un hu e5 hall
end
end Fb
set_option Elab.async false
set_option linter.all false
set_option maxRecDepth 100000
set_option maxHeartbeats 4000000
namespace Fb
open PySem PySem.Spec PyProof.Rows L2
local macro_rules | `(tactic| walk_at "go1") => `(tactic| first
  | with_reducible refine g_seq ?_
  | with_reducible refine g_asg ?_
  | with_reducible refine g_name ?_
  | ((with_reducible refine' g_var ?h1 ?_); (case h1 => rfl))
  | with_reducible refine g_c ?_
  | with_reducible refine g_op ?_
  | with_reducible refine g_un ?_
  | with_reducible refine g_rU ?_
  | with_reducible refine g_yes ?_
  | with_reducible refine g_isN ?_
  | with_reducible refine g_notN ?_
  | with_reducible refine g_int1 ?_
  | with_reducible refine g_I0 ?_
  | ((with_reducible refine' g_eq ?h1 ?_); (case h1 => rfl))
  | ((with_reducible refine' g_ne ?h1 ?_); (case h1 => rfl))
  | with_reducible refine g_test ?_
  | with_reducible refine g_tb ?_
  | with_reducible refine g_bl ?_
  | with_reducible refine g_drop ?_
  | with_reducible refine g_ret ?_
  | with_reducible refine g_if ?_
  | with_reducible refine g_ife ?_
  | with_reducible refine g_and ?_
  | with_reducible refine g_or ?_
  | with_reducible refine g_not ?_
  | with_reducible refine g_next ?_
  | with_reducible refine g_nil ?_
  | with_reducible refine g_cons ?_
  | with_reducible refine g_cb ?_
  | with_reducible refine g_call ?_
  | with_reducible refine g_tup ?_
  | with_reducible refine g_lst ?_
  | with_reducible refine g_dget ?_
  | with_reducible refine g_dput ?_
  | with_reducible refine g_bm ?_
  | with_reducible refine g_lc ?_
  | with_reducible refine g_for ?_
  | with_reducible refine g_il ?_
  | with_reducible refine g_rng1 ?_
  | with_reducible refine g_gsub ?_
  | with_reducible refine g_din ?_
  | with_reducible refine g_disp ?_
  | with_reducible refine g_pairs ?_
  | with_reducible refine g_pairs0 ?_
  | with_reducible refine g_sl ?_
  | with_reducible refine g_part ?_
  | with_reducible refine g_part1 ?_
  | with_reducible refine g_nopart ?_
  | with_reducible refine g_andV ?_
  | with_reducible refine g_orV ?_
  | with_reducible refine g_notV ?_
  | with_reducible refine g_itp ?_
  | with_reducible refine g_par ?_
  | with_reducible refine g_par1 ?_
  | with_reducible refine g_par3 ?_
  | with_reducible refine g_par31 ?_
  | with_reducible refine g_gname ?_
  | with_reducible refine g_gcons ?_
  | with_reducible refine g_gnil ?_
  | with_reducible refine g_bm0 ?_)
local macro_rules | `(tactic| walk_at "go") => `(tactic| repeat walk_at "go1")
local macro_rules | `(tactic| walk_at "at") => `(tactic| repeat first
  | assumption
  | exact upd_same
  | with_reducible refine keep (by assumption) ?_
  | with_reducible refine keep_ne (by assumption) ?_
  | with_reducible refine Fr.get0 (by assumption) ?_
  | with_reducible refine Fr.get (by assumption) ?_ (by assumption)
  | with_reducible refine Fr.tup (by assumption) ?_)
local macro_rules | `(tactic| walk_at "fr") => `(tactic| repeat first
  | assumption
  | exact Fr.refl _ _
  | with_reducible refine Fr.trans ?_ (Fr.new (by assumption))
  | with_reducible refine Fr.trans ?_ (Fr.nil (by assumption))
  | with_reducible refine Fr.trans ?_ (by assumption))
local macro_rules | `(tactic| walk_at "gn") => `(tactic| repeat first
  | assumption
  | with_reducible refine Gn.fr0 ?_ (Fr.new (by assumption))
  | with_reducible refine Gn.fr0 ?_ (by assumption))
local macro_rules | `(tactic| walk_at "bt") => `(tactic| repeat first
  | assumption
  | with_reducible refine BAt.up (Fr.new (W := []) (by assumption)).1 _ _ ?_
  | with_reducible refine SAt.up (Fr.new (W := []) (by assumption)).1 _ _ ?_
  | with_reducible refine BAt.up (Fr.tupLe (by assumption)) _ _ ?_
  | with_reducible refine SAt.up (Fr.tupLe (by assumption)) _ _ ?_)
theorem g_make {σ : L2.St} {H : Hp} {Q : VK} {C : Addr} {sp : Sp} {dvs : List V} {E : XK} {t : TA} (q : t σ H fun vs H1 => ∀ x dx, H1 x = none → H1 dx = none → dx ≠ x → sp (.ref x :: (vs ++ dvs)) (upd (upd H1 dx (.own x)) x (.ins C dx [])) (fun v H2 => v = .non ∧ Q (.ref x) H2) E) : tMake C sp dvs E t σ H Q := q
structure SiM (K : PySem.W.Frag) (D fI : Addr) : Prop where
  mkC : Mk K D fI
  fI_ : FdM K "__init__" "Sight.__init__" (inClass (topS 8) 0) fI
def spLook (C : Addr) : Sp := fun vs H Q E => ∃ (pb : Addr) (ws : List V) (b : List Stm), vs = [.ref pb] ∧ H pb = some (.tup ws) ∧ BAt H b ws ∧ wB b ≤ 5000 ∧ depB b ≤ 900 ∧
  ((look0 b).am = [] → ∀ H', Fr [] H H' → Q (.bl true) H') ∧ ∀ wd j x H', (look0 b).am.head? = some (wd, j, x) → Fr [] H H' → NpE C wd j x H' E
def spMeant0 : Sp := fun vs H Q E => ∃ (pb : Addr) (ws : List V) (b : List Stm), vs = [.ref pb] ∧ H pb = some (.tup ws) ∧ BAt H b ws ∧ wB b ≤ 5000 ∧ depB b ≤ 900 ∧ (look0 b).am = [] ∧
  ∀ H' me ts, Fr [] H H' → H' me = some (.lst (ts.map V.ref)) → Paired (fun t m => H' t = some (.tup (m.map onv))) ts (look0 b).means → Q (.ref me) H'
section
variable {P : Program} {w : World} {K : PySem.W.Frag} {mg : Str → Option Value} {base : Heap}
theorem sc_look : FnScope ["program"] ["program"] (defScope (topS 9)) := ⟨rfl, rfl, rfl, by decide +kernel, rfl, by decide +kernel, by decide +kernel⟩
theorem ok_look (A : All K mg) {C B fI D fJ : Addr} (N : Np K mg C B fI) (S : SiK K mg D) (M : SiM K D fJ) (hF : Fd K mg "look" (topS 9)) : Ok P w K mg base (L2.CX P w) 6 "look" ["program"] (spLook C) := by
  have OM_go_through : OkM P w K mg base (L2.CX P w) 5 D "go_through" ["self"] (spGo C D) := ok_sgo A N S
  obtain ⟨fd1, b1, F1⟩ := ok_sinit (P := P) (w := w) (base := base) A S M.fI_
  have Mmk := M.mkC
  refine ok_of hF sc_look (fun _ _ _ _ _ _ us hl => match us, hl with | [_], _ => rfl) (fun vs H Q E h => ?_) (fun f cdv Ar outer s H vs Q E hr h => ?_)
  · obtain ⟨_, _, _, rfl, _⟩ := h; rfl
  · obtain ⟨pb, ws, b, rfl, hpb, hbt, hwb, hdp, q, qe⟩ := h
    refine ⟨_, (pss_cons (ps_expr (pe_okMX0 OM_go_through S.cls (pe_make Mmk F1 (hr.mono (by omega)) (by rfl) S.mgD b1 .nil pass0 (pa_cons (pv 0) pa_nil)) (hr.mono (by omega)) (takes_of rfl rfl rfl rfl)))
    (pss_one (ps_ret pe_bl))), ?_⟩
    have hbl : b.length ≤ 50000 := by have := len_w b; omega
    walk_at "go"
    with_reducible refine g_meth ?_
    with_reducible refine g_make ?_
    walk_at "go"
    intro y dx ny nd nyd
    have f0 : Fr [] H (upd (upd H dx (.own y)) y (.ins D dx [])) := (Fr.new nd).trans (Fr.new (by rw [upd_ne (Ne.symm nyd)]; exact ny))
    refine ⟨y, pb, dx, ws, rfl, upd_same, f0.tup hpb, by rw [hbt.len]; exact hbl, fun H1 me lf L s0 ts f1 hy hme hlf hml hL hs0 hts nme nlf ns0 => ?_⟩
    refine ⟨rfl, y, dx, _, rfl, hy, (by rfl), ?_⟩
    walk_at "go"
    have hbt1 : BAt H1 b ws := (hbt.up f0.tupLe).up f1.tupLe
    have back : ∀ {H2 : Hp}, Fr [y, me, lf, s0] H1 H2 → Fr [] H H2 := fun {H2} f2 =>
      fr_cut f2 (fr_cut f1 f0 (fun a ha => by rw [List.mem_singleton.mp ha]; exact .inr ny)) (fun a ha => by
        have nn : ∀ {z : Addr}, (upd (upd H dx (.own y)) y (.ins D dx [])) z = none → H z = none := fun {z} h => f0.none h
        simp at ha
        rcases ha with rfl | rfl | rfl | rfl
        · exact .inr ny
        · exact .inr (nn nme)
        · exact .inr (nn nlf)
        · exact .inr (nn ns0))
    refine ⟨y, dx, me, lf, L, s0, ts, ws, b, rfl, hy, hme, hlf, hml, hL, hs0, hts, hbt1, hwb, hdp, fun am H2 ts' fs f2 _ _ _ _ => ?_, fun wd j x H2 am f2 => qe wd j x H2 am (back f2)⟩
    walk_at "go"
    exact q am H2 (back f2)
theorem sc_meant : FnScope ["program", "sight"] ["program"] (defScope (topS 10)) := ⟨rfl, rfl, rfl, by decide +kernel, rfl, by decide +kernel, by decide +kernel⟩
theorem ok_meant (A : All K mg) {C B fI D fJ : Addr} (N : Np K mg C B fI) (S : SiK K mg D) (M : SiM K D fJ) (hF : Fd K mg "meant" (topS 10)) : Ok P w K mg base (L2.CX P w) 6 "meant" ["program"] spMeant0 := by
  have OM_go_through : OkM P w K mg base (L2.CX P w) 5 D "go_through" ["self"] (spGo C D) := ok_sgo A N S
  obtain ⟨fd1, b1, F1⟩ := ok_sinit (P := P) (w := w) (base := base) A S M.fI_
  have Mmk := M.mkC
  refine ok_of hF sc_meant (fun _ _ _ _ _ _ us hl => match us, hl with | [_], _ => rfl) (fun vs H Q E h => ?_) (fun f cdv Ar outer s H vs Q E hr h => ?_)
  · obtain ⟨_, _, _, rfl, _⟩ := h; rfl
  · obtain ⟨pb, ws, b, rfl, hpb, hbt, hwb, hdp, ham, q⟩ := h
    refine ⟨_, (pss_cons (ps_set (i := 1) sc_meant.nd rfl (Or.inl rfl) (pe_make Mmk F1 (hr.mono (by omega)) (by rfl) S.mgD b1 .nil pass0 (pa_cons (pv 0) pa_nil)))
    (pss_cons (ps_expr (pe_okMX0 OM_go_through S.cls (pv 1) (hr.mono (by omega)) (takes_of rfl rfl rfl rfl)))
    (pss_one (ps_ret (pe_fld (pv 1) rfl))))), ?_⟩
    have hbl : b.length ≤ 50000 := by have := len_w b; omega
    walk_at "go"
    with_reducible refine g_make ?_
    walk_at "go"
    intro y dx ny nd nyd
    have f0 : Fr [] H (upd (upd H dx (.own y)) y (.ins D dx [])) := (Fr.new nd).trans (Fr.new (by rw [upd_ne (Ne.symm nyd)]; exact ny))
    refine ⟨y, pb, dx, ws, rfl, upd_same, f0.tup hpb, by rw [hbt.len]; exact hbl, fun H1 me lf L s0 ts f1 hy hme hlf hml hL hs0 hts nme nlf ns0 => ?_⟩
    refine ⟨rfl, ?_⟩
    walk_at "go"
    with_reducible refine g_meth ?_
    walk_at "go"
    refine ⟨y, dx, _, rfl, hy, (by rfl), ?_⟩
    walk_at "go"
    have hbt1 : BAt H1 b ws := (hbt.up f0.tupLe).up f1.tupLe
    have back : ∀ {H2 : Hp}, Fr [y, me, lf, s0] H1 H2 → Fr [] H H2 := fun {H2} f2 =>
      fr_cut f2 (fr_cut f1 f0 (fun a ha => by rw [List.mem_singleton.mp ha]; exact .inr ny)) (fun a ha => by
        have nn : ∀ {z : Addr}, (upd (upd H dx (.own y)) y (.ins D dx [])) z = none → H z = none := fun {z} h => f0.none h
        simp at ha
        rcases ha with rfl | rfl | rfl | rfl
        · exact .inr ny
        · exact .inr (nn nme)
        · exact .inr (nn nlf)
        · exact .inr (nn ns0))
    refine ⟨y, dx, me, lf, L, s0, ts, ws, b, rfl, hy, hme, hlf, hml, hL, hs0, hts, hbt1, hwb, hdp, fun am H2 ts' fs f2 hy2 hf2 hme2 hm2 => ?_, fun wd j x H2 am f2 => by rw [ham] at am; cases am⟩
    walk_at "go"
    with_reducible refine g_fld ?_
    walk_at "go"
    refine g_fld1 hy2 S.cls S.nme hf2 ?_
    exact q H2 me ts' (back f2) hme2 hm2
end
end Fb
set_option Elab.async false
set_option linter.all false
set_option maxRecDepth 100000
set_option maxHeartbeats 4000000
namespace Fb
open PySem PySem.Spec PyProof.Rows L2
local macro_rules | `(tactic| walk_at "go1") => `(tactic| first
  | with_reducible refine g_seq ?_
  | with_reducible refine g_asg ?_
  | with_reducible refine g_name ?_
  | ((with_reducible refine' g_var ?h1 ?_); (case h1 => rfl))
  | with_reducible refine g_c ?_
  | with_reducible refine g_op ?_
  | with_reducible refine g_un ?_
  | with_reducible refine g_rU ?_
  | with_reducible refine g_yes ?_
  | with_reducible refine g_isN ?_
  | with_reducible refine g_notN ?_
  | with_reducible refine g_int1 ?_
  | with_reducible refine g_I0 ?_
  | ((with_reducible refine' g_eq ?h1 ?_); (case h1 => rfl))
  | ((with_reducible refine' g_ne ?h1 ?_); (case h1 => rfl))
  | with_reducible refine g_test ?_
  | with_reducible refine g_tb ?_
  | with_reducible refine g_bl ?_
  | with_reducible refine g_drop ?_
  | with_reducible refine g_ret ?_
  | with_reducible refine g_if ?_
  | with_reducible refine g_ife ?_
  | with_reducible refine g_and ?_
  | with_reducible refine g_or ?_
  | with_reducible refine g_not ?_
  | with_reducible refine g_next ?_
  | with_reducible refine g_nil ?_
  | with_reducible refine g_cons ?_
  | with_reducible refine g_cb ?_
  | with_reducible refine g_call ?_
  | with_reducible refine g_tup ?_
  | with_reducible refine g_lst ?_
  | with_reducible refine g_dget ?_
  | with_reducible refine g_dput ?_
  | with_reducible refine g_bm ?_
  | with_reducible refine g_lc ?_
  | with_reducible refine g_for ?_
  | with_reducible refine g_il ?_
  | with_reducible refine g_rng1 ?_
  | with_reducible refine g_gsub ?_
  | with_reducible refine g_din ?_
  | with_reducible refine g_disp ?_
  | with_reducible refine g_pairs ?_
  | with_reducible refine g_pairs0 ?_
  | with_reducible refine g_sl ?_
  | with_reducible refine g_part ?_
  | with_reducible refine g_part1 ?_
  | with_reducible refine g_nopart ?_
  | with_reducible refine g_andV ?_
  | with_reducible refine g_orV ?_
  | with_reducible refine g_notV ?_
  | with_reducible refine g_itp ?_
  | with_reducible refine g_par ?_
  | with_reducible refine g_par1 ?_
  | with_reducible refine g_par3 ?_
  | with_reducible refine g_par31 ?_
  | with_reducible refine g_gname ?_
  | with_reducible refine g_gcons ?_
  | with_reducible refine g_gnil ?_
  | with_reducible refine g_bm0 ?_)
local macro_rules | `(tactic| walk_at "go") => `(tactic| repeat walk_at "go1")
local macro_rules | `(tactic| walk_at "at") => `(tactic| repeat first
  | assumption
  | exact upd_same
  | with_reducible refine keep (by assumption) ?_
  | with_reducible refine keep_ne (by assumption) ?_
  | with_reducible refine Fr.get0 (by assumption) ?_
  | with_reducible refine Fr.get (by assumption) ?_ (by assumption)
  | with_reducible refine Fr.tup (by assumption) ?_)
local macro_rules | `(tactic| walk_at "fr") => `(tactic| repeat first
  | assumption
  | exact Fr.refl _ _
  | with_reducible refine Fr.trans ?_ (Fr.new (by assumption))
  | with_reducible refine Fr.trans ?_ (Fr.nil (by assumption))
  | with_reducible refine Fr.trans ?_ (by assumption))
local macro_rules | `(tactic| walk_at "gn") => `(tactic| repeat first
  | assumption
  | with_reducible refine Gn.fr0 ?_ (Fr.new (by assumption))
  | with_reducible refine Gn.fr0 ?_ (by assumption))
local macro_rules | `(tactic| walk_at "bt") => `(tactic| repeat first
  | assumption
  | with_reducible refine BAt.up (Fr.new (W := []) (by assumption)).1 _ _ ?_
  | with_reducible refine SAt.up (Fr.new (W := []) (by assumption)).1 _ _ ?_
  | with_reducible refine BAt.up (Fr.tupLe (by assumption)) _ _ ?_
  | with_reducible refine SAt.up (Fr.tupLe (by assumption)) _ _ ?_)
/-- isinstance(e, c), e the exception that the suite holds, with its own dict -/
def rIsE2 (K : PySem.W.Frag) (D a : Addr) (cls : Value) (d : Option Addr) : List V → Hp → VK → Prop := fun xs H Q => ∃ (c : V) (cv : Value) (b : Bool) (dd : Addr) (fs : List (Str × V)), xs = [.ref a, c] ∧ (∀ u, RelV c u → u = cv) ∧ cls = .ref D ∧ d = some dd ∧ H dd = some (.xd fs) ∧ PySem.W.kitOne K (.ref D) cv = some b ∧ Q (.bl b) H
theorem call_isE2 {X : Cx} {a D : Addr} {oe : Obj} {pn : List (Addr × Obj)} {cls : Value} {d : Option Addr} (C : ExcC X.K D) (hz : Zc cls d oe) (hf : ∃ vs, oe.data = .fields vs) : CallR (X.suite a ((a, oe) :: pn)) (.builtin "isinstance") (rIsE2 X.K D a cls d) := by
  intro pins s σ H xs us Q I r h
  obtain ⟨c, cv, b, dd, fs, rfl, hcv, rfl, rfl, hd, e, q⟩ := h
  cases r with
  | cons rx rr =>
    cases rr with
    | cons rt rr =>
      cases rr
      cases rx
      have ec := hcv _ rt
      subst ec
      obtain ⟨hget, _⟩ := I.pin (a, oe) (List.mem_append.mpr (.inl List.mem_cons_self))
      obtain ⟨vs, hv⟩ := hf
      have hx : ObjOk X.prog X.w H s.heap dd (.xd fs) := I.hok dd _ hd
      obtain ⟨mA, hns, hr⟩ := hx
      obtain ⟨od, ho, hl⟩ := lookIn_ns hns
      have J : PySem.W.InstAt s.heap a oe D (some od) := ⟨hget, hz.1, by unfold PySem.W.notCls; rw [hv] <;> rfl, by rw [hz.2]; exact ho⟩
      have hcl : (PySem.W.clsIn X.K D).isSome = true := by
        obtain ⟨cd, hc, _⟩ := PySem.W.any_some C.hd
        rw [hc]; rfl
      exact PySem.W.kia_one (PySem.W.kitx_exc hcl C.hg C.hk C.hs C.ha C.hn C.ht C.hm) I.kIn J e (fun z => nomatch z) fun tk => ⟨.bl b, H, I.kept (t' := tk) fun _ _ z => z, rfl, q⟩
structure NpX (K : PySem.W.Frag) (C B : Addr) : Prop where
  ex : ExcC K C
  xf : XfC K C
  exm : PySem.W.exmOne K (.ref C) (.ref B) = some true
def toldV : List (Str × Nat × Str) → List V
  | [] => [.str "let by", .bl true]
  | (w, k, x) :: _ => [.str w, .int (k : Int), .str x]
def spTold : Sp := fun vs H Q _ => ∃ (pb : Addr) (ws : List V) (b : List Stm), vs = [.ref pb] ∧ H pb = some (.tup ws) ∧ BAt H b ws ∧ wB b ≤ 5000 ∧ depB b ≤ 900 ∧
  ∀ H' p, Fr [] H H' → H' p = some (.tup (toldV (look0 b).am)) → Q (.ref p) H'
section
variable {σ : L2.St} {H : Hp} {Q : VK} {ta : TA} {te : TE}
theorem g_callS {sp : Sp} {E : L2.St → XK} (q : ta σ H fun vs H1 => sp vs H1 Q (E σ)) : tCallS sp E ta σ H Q := q
theorem g_xf {a C : Addr} {cls : Value} {d : Option Addr} {f : Str} (q : te σ H fun x H1 => x = .ref a ∧ cls = .ref C ∧ ∃ (dd : Addr) (fs : List (Str × V)) (v : V), d = some dd ∧ H1 dd = some (.xd fs) ∧ fs.lookup f = some v ∧ Q v H1) : tXf a cls d C f te σ H Q := q
end
section
variable {P : Program} {w : World} {K : PySem.W.Frag} {mg : Str → Option Value} {base : Heap}
theorem sc_law_told : FnScope ["_law_program_here", "_law_found", "e"] ["_law_program_here"] (defScope (topS 35)) := ⟨rfl, rfl, rfl, by decide +kernel, rfl, by decide +kernel, by decide +kernel⟩
theorem ok_told (A : All K mg) {C B fI D fJ : Addr} (N : Np K mg C B fI) (NX : NpX K C B) (S : SiK K mg D) (M : SiM K D fJ) (hL : Fd K mg "look" (topS 9)) (hF : Fd K mg "_law_told" (topS 35)) : Ok P w K mg base CX0 7 "_law_told" ["_law_program_here"] spTold := by
  have O_look : Ok P w K mg base (L2.CX P w) 6 "look" ["program"] (spLook C) := ok_look A N S M hL
  obtain ⟨fl, fdl, mL, kL, bL, FL⟩ := O_look
  refine ok_of0 hF sc_law_told (fun _ _ _ _ _ _ us hl => match us, hl with | [_], _ => rfl) (fun vs H Q E h => ?_) (fun f cdv Ar outer s H vs Q E hr h => ?_)
  · obtain ⟨_, _, _, rfl, _⟩ := h; rfl
  · obtain ⟨pb, ws, b, rfl, hpb, hbt, hwb, hdp, q⟩ := h
    refine ⟨_, (pss_cons (ps_set (i := 1) sc_law_told.nd rfl (Or.inl rfl) pe_non)
    (pss_cons (ps_try_as (i := 2) rfl rfl sc_law_told.nd rfl rfl ⟨rfl, by decide, .inl N.mgB⟩ takes0 (fun W pn xe tk _ => pss_one (ps_set (i := 1) sc_law_told.nd rfl (Or.inl rfl) (pe_tup (pa_cons pe_str (pa_cons (pe_callS FL (hr.mono (by omega)) rfl mL kL bL (fun σ => passAt tk σ) (pa_cons (pv 0) pa_nil)) pa_nil))))) (fun a oe cls d pn hz hf => (pss_cons (ps_set (i := 1) sc_law_told.nd rfl (Or.inl rfl) (pe_tup (pa_cons pe_str (pa_cons pe_int (pa_cons pe_int pa_nil))))) (pss_one (ps_if (pt_val (pe_callB (call_isE2 NX.ex hz hf) (by rfl) A.isinstance (by decide +kernel) (pa_cons (pv 2) (pa_cons (pe_glob (v := .ref C) (by rfl) N.mgC rfl) pa_nil)))) (pss_one (ps_set (i := 1) sc_law_told.nd rfl (Or.inl rfl) (pe_tup (pa_cons (pe_xf NX.xf N.nw hz hf (pv 2)) (pa_cons (pe_xf NX.xf N.na hz hf (pv 2)) (pa_cons (pe_xf NX.xf N.nn hz hf (pv 2)) pa_nil)))))) pss_nil)))))
    (pss_one (ps_ret (pv 1))))), ?_⟩
    have one : ∀ {n : Nat}, n ≤ 10 → n ≤ sizeLine := fun h => small_of (by omega)
    walk_at "go"
    with_reducible refine g_callS ?_
    walk_at "go"
    refine ⟨pb, ws, b, rfl, hpb, hbt, hwb, hdp, fun am H1 f1 => ?_, fun wd j x H1 am f1 => ?_⟩
    · walk_at "go"
      refine ⟨one (by simp), fun p np => ?_⟩
      walk_at "go"
      refine q _ p (f1.trans (Fr.new np)) ?_
      rw [am]; exact upd_same
    · intro d H2 f2 hd
      refine ⟨true, NX.exm, fun _ a ha => ?_, fun z => nomatch z⟩
      walk_at "go"
      refine ⟨one (by simp), fun p np => ?_⟩
      walk_at "go"
      refine ⟨.ref C, .ref C, true, d, _, rfl, fun u r => r, rfl, rfl, keep np hd, by unfold PySem.W.kitOne; rw [if_pos (by simp)], ?_⟩
      walk_at "go"
      refine i_t rfl ?_
      walk_at "go"
      with_reducible refine g_xf ?_
      walk_at "go"
      refine ⟨rfl, rfl, d, _, _, rfl, keep np hd, (rfl : _ = some (V.str wd)), ?_⟩
      walk_at "go"
      with_reducible refine g_xf ?_
      walk_at "go"
      refine ⟨rfl, rfl, d, _, _, rfl, keep np hd, (rfl : _ = some (V.int (j : Int))), ?_⟩
      walk_at "go"
      with_reducible refine g_xf ?_
      walk_at "go"
      refine ⟨rfl, rfl, d, _, _, rfl, keep np hd, (rfl : _ = some (V.str x)), ?_⟩
      walk_at "go"
      refine ⟨one (by simp), fun p2 np2 => ?_⟩
      walk_at "go"
      refine q _ p2 (f1.trans ((f2.trans (Fr.new np)).trans (Fr.new np2))) ?_
      cases hq : (look0 b).am with
      | nil => rw [hq] at am; cases am
      | cons e r =>
        rw [hq] at am
        obtain rfl : e = (wd, j, x) := Option.some.inj am
        exact upd_same
end
end Fb
set_option Elab.async false
set_option linter.all false
set_option maxRecDepth 100000
set_option maxHeartbeats 4000000
namespace Fb
open PySem PySem.Spec PyProof.Rows L2
local macro_rules | `(tactic| walk_at "go1") => `(tactic| first
  | with_reducible refine g_seq ?_
  | with_reducible refine g_asg ?_
  | with_reducible refine g_name ?_
  | ((with_reducible refine' g_var ?h1 ?_); (case h1 => rfl))
  | with_reducible refine g_c ?_
  | with_reducible refine g_op ?_
  | with_reducible refine g_un ?_
  | with_reducible refine g_rU ?_
  | with_reducible refine g_yes ?_
  | with_reducible refine g_isN ?_
  | with_reducible refine g_notN ?_
  | with_reducible refine g_int1 ?_
  | with_reducible refine g_I0 ?_
  | ((with_reducible refine' g_eq ?h1 ?_); (case h1 => rfl))
  | ((with_reducible refine' g_ne ?h1 ?_); (case h1 => rfl))
  | with_reducible refine g_test ?_
  | with_reducible refine g_tb ?_
  | with_reducible refine g_bl ?_
  | with_reducible refine g_drop ?_
  | with_reducible refine g_ret ?_
  | with_reducible refine g_if ?_
  | with_reducible refine g_ife ?_
  | with_reducible refine g_and ?_
  | with_reducible refine g_or ?_
  | with_reducible refine g_not ?_
  | with_reducible refine g_next ?_
  | with_reducible refine g_nil ?_
  | with_reducible refine g_cons ?_
  | with_reducible refine g_cb ?_
  | with_reducible refine g_call ?_
  | with_reducible refine g_tup ?_
  | with_reducible refine g_lst ?_
  | with_reducible refine g_dget ?_
  | with_reducible refine g_dput ?_
  | with_reducible refine g_bm ?_
  | with_reducible refine g_lc ?_
  | with_reducible refine g_for ?_
  | with_reducible refine g_il ?_
  | with_reducible refine g_rng1 ?_
  | with_reducible refine g_gsub ?_
  | with_reducible refine g_din ?_
  | with_reducible refine g_disp ?_
  | with_reducible refine g_pairs ?_
  | with_reducible refine g_pairs0 ?_
  | with_reducible refine g_sl ?_
  | with_reducible refine g_part ?_
  | with_reducible refine g_part1 ?_
  | with_reducible refine g_nopart ?_
  | with_reducible refine g_andV ?_
  | with_reducible refine g_orV ?_
  | with_reducible refine g_notV ?_
  | with_reducible refine g_itp ?_
  | with_reducible refine g_par ?_
  | with_reducible refine g_par1 ?_
  | with_reducible refine g_par3 ?_
  | with_reducible refine g_par31 ?_
  | with_reducible refine g_gname ?_
  | with_reducible refine g_gcons ?_
  | with_reducible refine g_gnil ?_
  | with_reducible refine g_bm0 ?_)
local macro_rules | `(tactic| walk_at "go") => `(tactic| repeat walk_at "go1")
local macro_rules | `(tactic| walk_at "at") => `(tactic| repeat first
  | assumption
  | exact upd_same
  | with_reducible refine keep (by assumption) ?_
  | with_reducible refine keep_ne (by assumption) ?_
  | with_reducible refine Fr.get0 (by assumption) ?_
  | with_reducible refine Fr.get (by assumption) ?_ (by assumption)
  | with_reducible refine Fr.tup (by assumption) ?_)
local macro_rules | `(tactic| walk_at "fr") => `(tactic| repeat first
  | assumption
  | exact Fr.refl _ _
  | with_reducible refine Fr.trans ?_ (Fr.new (by assumption))
  | with_reducible refine Fr.trans ?_ (Fr.nil (by assumption))
  | with_reducible refine Fr.trans ?_ (by assumption))
local macro_rules | `(tactic| walk_at "gn") => `(tactic| repeat first
  | assumption
  | with_reducible refine Gn.fr0 ?_ (Fr.new (by assumption))
  | with_reducible refine Gn.fr0 ?_ (by assumption))
local macro_rules | `(tactic| walk_at "bt") => `(tactic| repeat first
  | assumption
  | with_reducible refine BAt.up (Fr.new (W := []) (by assumption)).1 _ _ ?_
  | with_reducible refine SAt.up (Fr.new (W := []) (by assumption)).1 _ _ ?_
  | with_reducible refine BAt.up (Fr.tupLe (by assumption)) _ _ ?_
  | with_reducible refine SAt.up (Fr.tupLe (by assumption)) _ _ ?_)
theorem g_isiT {K : PySem.W.Frag} {H : Hp} {Q : VK} {x : V} {tp : Addr} {a : String} {b1 b2 : Bool} (ht : H tp = some (.tup [.ty "tuple", .ty "list"])) (ty : TyX K H x (.type a)) (h1 : kitB a "tuple" = some b1) (h2 : kitB a "list" = some b2) (q : Q (.bl (b1 || b2)) H) : rIsiT K [x, .ref tp] H Q := by
  refine ⟨x, tp, _, .type a, [.type "tuple", .type "list"], b1 || b2, rfl, ht, .cons (.ty _) (.cons (.ty _) .nil), ty, ?_, q⟩
  have e1 : PySem.W.kitOne K (.type a) (.type "tuple") = some b1 := kit_ty h1
  have e2 : PySem.W.kitOne K (.type a) (.type "list") = some b2 := kit_ty h2
  cases b1 with
  | true => exact kitAny_cons e1 (fun z => nomatch z) (fun _ => rfl)
  | false =>
    refine kitAny_cons e1 (fun _ => ?_) (fun z => nomatch z)
    cases b2 with
    | true => exact kitAny_cons e2 (fun z => nomatch z) (fun _ => rfl)
    | false => exact kitAny_cons e2 (fun _ => rfl) (fun z => nomatch z)
theorem toldV_mem {am : List (Str × Nat × Str)} : ∀ x ∈ toldV am, (∃ s, x = .str s) ∨ (∃ i, x = .int i) ∨ x = .bl true := by
  intro x hx
  cases am with
  | nil =>
    simp only [toldV, List.mem_cons, List.not_mem_nil, or_false] at hx
    rcases hx with rfl | rfl
    · exact .inl ⟨_, rfl⟩
    · exact .inr (.inr rfl)
  | cons e r =>
    obtain ⟨w, k, y⟩ := e
    simp only [toldV, List.mem_cons, List.not_mem_nil, or_false] at hx
    rcases hx with rfl | rfl | rfl
    · exact .inl ⟨_, rfl⟩
    · exact .inr (.inl ⟨_, rfl⟩)
    · exact .inl ⟨_, rfl⟩
theorem toldV_len (am : List (Str × Nat × Str)) : (toldV am).length ≤ 3 := by
  cases am with
  | nil => simp [toldV]
  | cons e r => obtain ⟨w, k, y⟩ := e; simp [toldV]
theorem zip_self {H : Hp} : ∀ {xs : List V} {ts : List Addr}, Paired (fun t (q : V × V) => H t = some (.tup [q.1, q.2])) ts (xs.zip xs) → Paired (fun t x => H t = some (.tup [x, x])) ts xs
  | [], _, h => by cases h; exact .nil
  | x :: xs, _, h => by
    cases h with
    | cons e h => exact .cons e (zip_self h)
def spAlike : Sp := fun vs H Q _ => ∃ (p q : Addr) (am : List (Str × Nat × Str)), vs = [.ref p, .ref q] ∧ H p = some (.tup (toldV am)) ∧ H q = some (.tup (toldV am)) ∧ ∀ H', Fr [] H H' → Q (.bl true) H'
section
variable {P : Program} {w : World} {K : PySem.W.Frag} {mg : Str → Option Value} {base : Heap}
theorem sc_law_alike : FnScope ["_law_found", "_law_due", "_law_left", "_law_one", "_law_other"] ["_law_found", "_law_due"] (defScope (topS 25)) := ⟨rfl, rfl, rfl, by decide +kernel, rfl, by decide +kernel, by decide +kernel⟩
theorem ok_alike (A : All K mg) : Ok P w K mg base CX0 1 "_law_alike" ["_law_found", "_law_due"] spAlike := by
  refine ok_of0 A.alike sc_law_alike (fun _ _ _ _ _ _ us hl => match us, hl with | [_, _], _ => rfl) (fun vs H Q E h => ?_) (fun f cdv Ar outer s H vs Q E hr h => ?_)
  · obtain ⟨_, _, _, rfl, _⟩ := h; rfl
  · obtain ⟨p, q, am, rfl, hp, hq, k⟩ := h
    refine ⟨_, (pss_cons (ps_set (i := 2) sc_law_alike.nd rfl (Or.inl rfl) (pe_lst (pa_cons (pe_tup (pa_cons (pv 0) (pa_cons (pv 1) pa_nil))) pa_nil)))
    (pss_cons (ps_while PassesOwn.never (pt_cmpR op_gt (pe_callB call_len_seq (by rfl) A.len boot_len (pa_cons (pv 2) pa_nil)) pe_int (nomark _)) (pss_cons (ps_asg (pe_bm0 PySem.F.plainAttrs_list PySem.F.slot_list_pop PySem.F.type_list_pop mt_pop (pv 2)) (pg_tupK (K := K) (n := 2) rfl (pgs_cons (pg_name (i := 3) sc_law_alike.nd rfl (Or.inl rfl)) (pgs_cons (pg_name (i := 4) sc_law_alike.nd rfl (Or.inl rfl)) pgs_nil))))
    (pss_one (ps_if (pt_val (pe_callB (call_isiTK (K := K)) (by rfl) A.isinstance (by decide +kernel) (pa_cons (pv 4) (pa_cons (pe_tup (pa_cons (pe_bltn (v := .ty "tuple") (by rfl) A.tuple (by decide +kernel) rfl) (pa_cons (pe_bltn (v := .ty "list") (by rfl) A.list (by decide +kernel) rfl) pa_nil))) pa_nil)))) (pss_cons (ps_if (pw_or (pt_cmpR op_ne (pe_callB (call_isiKK (K := K)) (by rfl) A.isinstance (by decide +kernel) (pa_cons (pv 3) (pa_cons (pe_bltn (v := .ty "tuple") (by rfl) A.tuple (by decide +kernel) rfl) pa_nil))) (pe_callB (call_isiKK (K := K)) (by rfl) A.isinstance (by decide +kernel) (pa_cons (pv 4) (pa_cons (pe_bltn (v := .ty "tuple") (by rfl) A.tuple (by decide +kernel) rfl) pa_nil))) (nomark _)) (pw_or1 (pt_cmpR op_ne (pe_callB (call_isiKK (K := K)) (by rfl) A.isinstance (by decide +kernel) (pa_cons (pv 3) (pa_cons (pe_bltn (v := .ty "list") (by rfl) A.list (by decide +kernel) rfl) pa_nil))) (pe_callB (call_isiKK (K := K)) (by rfl) A.isinstance (by decide +kernel) (pa_cons (pv 4) (pa_cons (pe_bltn (v := .ty "list") (by rfl) A.list (by decide +kernel) rfl) pa_nil))) (nomark _)))).pt (pss_one (ps_ret pe_bl)) pss_nil)
    (pss_cons (ps_if (pt_cmpR op_ne (pe_callB call_len_seq (by rfl) A.len boot_len (pa_cons (pv 3) pa_nil)) (pe_callB call_len_seq (by rfl) A.len boot_len (pa_cons (pv 4) pa_nil)) (nomark _)) (pss_one (ps_ret pe_bl)) pss_nil)
    (pss_one (ps_expr (pe_bm PySem.F.plainAttrs_list PySem.F.slot_list_extend PySem.F.type_list_extend mt_extend (pv 2) (pa_cons (pe_listzip (K := K) (by rfl) A.list (by rfl) A.zip (pa_cons (pv 3) (pa_cons (pv 4) pa_nil))) pa_nil)))))) (pss_one (ps_if (pw_or (pt_val (pe_callB (call_isiKK (K := K)) (by rfl) A.isinstance (by decide +kernel) (pa_cons (pv 4) (pa_cons (pe_bltn (v := .ty "str") (by rfl) A.str (by decide +kernel) rfl) pa_nil)))) (pw_or1 (pt_cmpR op_isN1 (pv 4) pe_non (nomark _)))).pt (pss_one (ps_if (pw_or (pt_cmpR op_ne (pe_callB (call_isiKK (K := K)) (by rfl) A.isinstance (by decide +kernel) (pa_cons (pv 3) (pa_cons (pe_bltn (v := .ty "str") (by rfl) A.str (by decide +kernel) rfl) pa_nil))) (pe_callB (call_isiKK (K := K)) (by rfl) A.isinstance (by decide +kernel) (pa_cons (pv 4) (pa_cons (pe_bltn (v := .ty "str") (by rfl) A.str (by decide +kernel) rfl) pa_nil))) (nomark _)) (pw_or1 (pt_cmpR op_ne (pv 3) (pv 4) (nomark _)))).pt (pss_one (ps_ret pe_bl)) pss_nil)) (pss_one (ps_if (pw_or (pt_not (pt_val (pe_callB (call_isiKK (K := K)) (by rfl) A.isinstance (by decide +kernel) (pa_cons (pv 3) (pa_cons (pe_bltn (v := .ty "int") (by rfl) A.int (by decide +kernel) rfl) pa_nil))))) (pw_or (pt_cmpR op_ne (pe_callB (call_isiKK (K := K)) (by rfl) A.isinstance (by decide +kernel) (pa_cons (pv 3) (pa_cons (pe_bltn (v := .ty "bool") (by rfl) A.bool (by decide +kernel) rfl) pa_nil))) (pe_callB (call_isiKK (K := K)) (by rfl) A.isinstance (by decide +kernel) (pa_cons (pv 4) (pa_cons (pe_bltn (v := .ty "bool") (by rfl) A.bool (by decide +kernel) rfl) pa_nil))) (nomark _)) (pw_or1 (pt_cmpR op_ne (pv 3) (pv 4) (nomark _))))).pt (pss_one (ps_ret pe_bl)) pss_nil))))))))
    (pss_one (ps_ret pe_bl)))), ?_⟩
    have one : ∀ {n : Nat}, n ≤ 10 → n ≤ sizeLine := fun h => small_of (by omega)
    walk_at "go"
    refine ⟨one (by simp), fun t0 nt0 => ?_⟩
    walk_at "go"
    refine ⟨one (by simp), fun lf nlf => ?_⟩
    walk_at "go"
    have f0 : Fr [] H _ := (Fr.new (o := .tup [.ref p, .ref q]) nt0).trans (Fr.new (o := .lst [.ref t0]) nlf)
    have hlf0 : H lf = none := (none_upd nlf).1
    refine ⟨fun m σ H1 => ∃ (u3 u4 : Option V) (ts : List Addr), σ = [some (.ref p), some (.ref q), some (.ref lf), u3, u4] ∧ Fr [] H H1 ∧ H1 lf = some (.lst (ts.map V.ref)) ∧ ((∃ t0, ts = [t0] ∧ H1 t0 = some (.tup [.ref p, .ref q]) ∧ m = 100) ∨ ∃ xs, Paired (fun t x => H1 t = some (.tup [x, x])) ts xs ∧ (∀ x ∈ xs, x ∈ toldV am) ∧ m = ts.length ∧ m ≤ 3),
      ⟨100, _, _, [t0], rfl, f0, upd_same, .inl ⟨t0, rfl, keep nlf upd_same, rfl⟩⟩, ?_⟩
    rintro m σ H1 ⟨u3, u4, ts, rfl, f1, hl, hcase⟩
    walk_at "go"
    refine ⟨_, _, rfl, .inl (.of hl), ?_⟩
    walk_at "go"
    refine i_dec (fun e => ?_) (fun e => ?_)
    rotate_left
    · walk_at "go"
      exact k _ f1
    refine ⟨_, fun _ _ h => h, ?_⟩
    obtain ⟨ts', t, rfl⟩ := snoc_of ts (by rintro rfl; simp at e)
    have e1 : ((ts' ++ [t]).map V.ref).dropLast = ts'.map V.ref := by simp
    walk_at "go"
    refine ⟨ty_l hl, lf, _, .ref t, rfl, rfl, hl, by simp, ?_⟩
    rw [e1]
    have fp : Fr [lf] H1 (upd H1 lf (.lst (ts'.map V.ref))) := Fr.put hl (by intro xs q; cases q) (by simp)
    have fm : Fr [] H (upd H1 lf (.lst (ts'.map V.ref))) := f1.mut hlf0
    have hl2 : (upd H1 lf (.lst (ts'.map V.ref))) lf = some (.lst (ts'.map V.ref)) := upd_same
    generalize hH2 : upd H1 lf (.lst (ts'.map V.ref)) = H2 at *
    rcases hcase with ⟨t1, et, ht1, rfl⟩ | ⟨xs, hpr, hall, rfl, hm3⟩
    · obtain ⟨rfl, rfl⟩ : ts' = [] ∧ t = t1 := by
        have hlen := congrArg List.length et
        simp at hlen
        subst hlen
        simp at et
        exact ⟨rfl, et⟩
      refine ⟨t, _, rfl, .inl (.of (fp.tup ht1)), rfl, ?_⟩
      walk_at "go"
      refine ⟨one (by simp), fun p1 n1 => ?_⟩
      have f3 : Fr [] H2 _ := Fr.new (o := .tup [.ty "tuple", .ty "list"]) n1
      have hq3 := f3.tup (fm.tup hq)
      have hp3 := f3.tup (fm.tup hp)
      walk_at "go"
      refine g_isiT upd_same (.base (.tup hq3)) (b1 := true) (b2 := false) (by decide +kernel) (by decide +kernel) ?_
      walk_at "go"
      refine i_t rfl ?_
      walk_at "go"
      refine g_isi (.base (.tup hp3)) (b := true) (by decide +kernel) ?_
      walk_at "go"
      refine g_isi (.base (.tup hq3)) (b := true) (by decide +kernel) ?_
      walk_at "go"
      refine i_f (by rfl) ?_
      walk_at "go"
      refine g_isi (.base (.tup hp3)) (b := false) (by decide +kernel) ?_
      walk_at "go"
      refine g_isi (.base (.tup hq3)) (b := false) (by decide +kernel) ?_
      walk_at "go"
      refine i_f (by rfl) ?_
      walk_at "go"
      refine ⟨p, _, rfl, .inr (.inl (.of hp3)), ?_⟩
      walk_at "go"
      refine ⟨q, _, rfl, .inr (.inl (.of hq3)), ?_⟩
      walk_at "go"
      refine i_f (by simp) ?_
      walk_at "go"
      refine ⟨ty_l (f3.get0 hl2), ?_⟩
      walk_at "go"
      refine ⟨p, q, _, _, rfl, .inr (.inl (.of hp3)), .inl (.of hq3), fun H4 r tz fk nr hr prz => ?_⟩
      have f4 : Fr [] _ H4 := ⟨fun b xs e => fk b _ e, fun b o e _ => fk b o e⟩
      have prz := zip_self prz
      have hlz : tz.length ≤ 3 := by rw [prz.length]; exact toldV_len am
      walk_at "go"
      refine g_extend (f4.get0 (f3.get0 hl2)) hr (small_of (by simp; omega)) ?_
      have f5 : Fr [lf] H4 (upd H4 lf (.lst (([] : List Addr).map V.ref ++ tz.map V.ref))) := Fr.put (f4.get0 (f3.get0 hl2)) (by intro xs q; cases q) (by simp)
      walk_at "go"
      refine ⟨tz.length, by omega, _, _, tz, rfl, ((fm.trans f3).trans f4).mut hlf0, by rw [upd_same]; simp, .inr ⟨toldV am, Paired.imp' prz fun _ _ _ z => f5.tup z, fun _ h => h, rfl, hlz⟩⟩
    · obtain ⟨xs', x, rfl⟩ := snoc_of xs (by rintro rfl; have := hpr.length; simp at this)
      obtain ⟨hpr', htx⟩ := Paired.unsnoc hpr
      have hpr2 := Paired.imp' hpr' fun _ _ _ z => fp.tup z
      have hall' : ∀ y ∈ xs', y ∈ toldV am := fun y hy => hall y (List.mem_append_left _ hy)
      refine ⟨t, _, rfl, .inl (.of (fp.tup htx)), rfl, ?_⟩
      walk_at "go"
      refine ⟨one (by simp), fun p1 n1 => ?_⟩
      have f3 : Fr [] H2 _ := Fr.new (o := .tup [.ty "tuple", .ty "list"]) n1
      have fin : ∀ (u3 u4 : Option V), ∃ m', m' < (ts' ++ [t]).length ∧ ∃ (u3' u4' : Option V) (ts : List Addr), [some (V.ref p), some (.ref q), some (.ref lf), u3, u4] = [some (V.ref p), some (.ref q), some (.ref lf), u3', u4'] ∧ Fr [] H (upd H2 p1 (.tup [.ty "tuple", .ty "list"])) ∧ (upd H2 p1 (.tup [.ty "tuple", .ty "list"])) lf = some (.lst (ts.map V.ref)) ∧
          ((∃ t0, ts = [t0] ∧ (upd H2 p1 (.tup [.ty "tuple", .ty "list"])) t0 = some (.tup [.ref p, .ref q]) ∧ m' = 100) ∨ ∃ xs, Paired (fun t x => (upd H2 p1 (.tup [.ty "tuple", .ty "list"])) t = some (.tup [x, x])) ts xs ∧ (∀ x ∈ xs, x ∈ toldV am) ∧ m' = ts.length ∧ m' ≤ 3) := fun u3 u4 =>
        ⟨ts'.length, by simp, u3, u4, ts', rfl, fm.trans f3, f3.get0 hl2, .inr ⟨xs', Paired.imp' hpr2 fun _ _ _ z => f3.tup z, hall', rfl, by rw [List.length_append] at hm3; omega⟩⟩
      rcases toldV_mem x (hall x (by simp)) with ⟨s0, rfl⟩ | ⟨i0, rfl⟩ | rfl
      · walk_at "go"
        refine g_isiT upd_same (.base (.str s0)) (b1 := false) (b2 := false) (by decide +kernel) (by decide +kernel) ?_
        walk_at "go"
        refine i_f rfl ?_
        walk_at "go"
        refine g_isi (.base (.str s0)) (b := true) (by decide +kernel) ?_
        walk_at "go"
        refine i_t rfl ?_
        walk_at "go"
        refine i_t rfl ?_
        walk_at "go"
        refine g_isi (.base (.str s0)) (b := true) (by decide +kernel) ?_
        walk_at "go"
        refine g_isi (.base (.str s0)) (b := true) (by decide +kernel) ?_
        walk_at "go"
        refine i_f (by rfl) ?_
        walk_at "go"
        refine i_f (by simp) ?_
        walk_at "go"
        exact fin _ _
      · walk_at "go"
        refine g_isiT upd_same (.base (.int i0)) (b1 := false) (b2 := false) (by decide +kernel) (by decide +kernel) ?_
        walk_at "go"
        refine i_f rfl ?_
        walk_at "go"
        refine g_isi (.base (.int i0)) (b := false) (by decide +kernel) ?_
        walk_at "go"
        refine i_f rfl ?_
        walk_at "go"
        refine i_f (by rfl) ?_
        walk_at "go"
        refine g_isi (.base (.int i0)) (b := true) (by decide +kernel) ?_
        walk_at "go"
        refine i_f (by rfl) ?_
        walk_at "go"
        refine g_isi (.base (.int i0)) (b := false) (by decide +kernel) ?_
        walk_at "go"
        refine g_isi (.base (.int i0)) (b := false) (by decide +kernel) ?_
        walk_at "go"
        refine i_f (by rfl) ?_
        walk_at "go"
        refine i_f (by simp) ?_
        walk_at "go"
        exact fin _ _
      · walk_at "go"
        refine g_isiT upd_same (.base (.bl true)) (b1 := false) (b2 := false) (by decide +kernel) (by decide +kernel) ?_
        walk_at "go"
        refine i_f rfl ?_
        walk_at "go"
        refine g_isi (.base (.bl true)) (b := false) (by decide +kernel) ?_
        walk_at "go"
        refine i_f rfl ?_
        walk_at "go"
        refine i_f (by rfl) ?_
        walk_at "go"
        refine g_isi (.base (.bl true)) (b := true) (by decide +kernel) ?_
        walk_at "go"
        refine i_f (by rfl) ?_
        walk_at "go"
        refine g_isi (.base (.bl true)) (b := true) (by decide +kernel) ?_
        walk_at "go"
        refine g_isi (.base (.bl true)) (b := true) (by decide +kernel) ?_
        walk_at "go"
        refine i_f (by rfl) ?_
        walk_at "go"
        refine i_f (by simp) ?_
        walk_at "go"
        exact fin _ _
end
end Fb
set_option Elab.async false
set_option linter.all false
set_option maxRecDepth 100000
set_option maxHeartbeats 4000000
/-! Lists as data, compared; what a statement put in weighs. -/
namespace Fb
open PySem PySem.Spec PyProof.Rows L2
def rEqP (K : PySem.W.Frag) : R2 := fun x y H Q => ∃ d e, Dp K H x d ∧ Dp K H y e ∧ d.plain = true ∧ e.plain = true ∧ d.depth ≤ 60 ∧ Q (.bl (PyData.eqv d e)) H
def rNeP (K : PySem.W.Frag) : R2 := fun x y H Q => ∃ d e, Dp K H x d ∧ Dp K H y e ∧ d.plain = true ∧ e.plain = true ∧ d.depth ≤ 60 ∧ Q (.bl (!PyData.eqv d e)) H
section
variable {X : Cx} {K : PySem.W.Frag}
theorem op_eqPK (hu : X.A.units + 64 < cLine) (hK : X.K = K := by rfl) : OpR X (compareOp .Eq) (rEqP K) := by
  subst hK
  intro pins s σ H x y v u Q I rx ry h
  obtain ⟨d, e, hd, he, sd, se, hz, q⟩ := h
  obtain ⟨as, r1⟩ := Dp.reads I d x v hd rx
  obtain ⟨bs, r2⟩ := Dp.reads I e y u he ry
  have hm := Nat.min_le_left d.depth e.depth
  exact PySem.SeqAt.eq_plain r1 r2 sd se (by omega) ⟨.bl _, H, I, rfl, q⟩
theorem op_nePK (hu : X.A.units + 64 < cLine) (hK : X.K = K := by rfl) : OpR X (compareOp .NotEq) (rNeP K) := by
  subst hK
  intro pins s σ H x y v u Q I rx ry h
  obtain ⟨d, e, hd, he, sd, se, hz, q⟩ := h
  obtain ⟨as, r1⟩ := Dp.reads I d x v hd rx
  obtain ⟨bs, r2⟩ := Dp.reads I e y u he ry
  have hm := Nat.min_le_left d.depth e.depth
  exact PySem.SeqAt.ne_plain r1 r2 sd se (by omega) ⟨.bl _, H, I, rfl, q⟩
theorem sl_listK (hK : X.K = K := by rfl) : SlR X (rSlL K) := hK ▸ sl_list
/-- a call of a def that may raise, where it does not -/
theorem pe_okL {k : Nat} {x : Str} {ps : List Str} {sp : Sp} {e : Expr} {es : List Expr} {t : TA} {p pos : Pos} (O : Ok X.prog X.w X.K X.mg X.base (L2.CX X.prog X.w) k x ps sp) (hr : Room k X.A) (ha : PA X (e :: es) t) (hg : Gl X x := by rfl) (hdb : (x == ("__debug__" : Str)) = false := by decide)
    (he : starEach (e :: es) X.env = (false, eval e X.env) :: starEach es X.env := by rfl) (hpl : (backTo pos (starEach es X.env)).any (·.1) = false := by rfl) :
    PE X (.Call (.Name x p) (e :: es) [] pos) (tCall sp [] E0 t) := by
  obtain ⟨f, fd, m, kp, b, F⟩ := O
  exact pe_call F hr hg m kp b .nil (passes_call (W := fun _ _ _ _ => False) takes0 fun _ _ _ _ h => h) ha hdb he hpl
end
def oD : Option Nat → PyData
  | some n => .int (n : Int)
  | none => .none
def mD (m : List (Option Nat)) : PyData := .tuple (m.map oD)
def aD (e : Str × Nat × Str) : PyData := .tuple [.str e.1, .int (e.2.1 : Int), .str e.2.2]
theorem plain_map {α : Type} {f : α → PyData} (h : ∀ x, (f x).plain = true) : ∀ l : List α, PyData.plainAll (l.map f) = true
  | [] => rfl
  | x :: l => by
    show ((f x).plain && PyData.plainAll (l.map f)) = true
    rw [h x, plain_map h l]; rfl
theorem depth_map {α : Type} {f : α → PyData} {n : Nat} (h : ∀ x, (f x).depth ≤ n) : ∀ l : List α, PyData.depthAll (l.map f) ≤ n
  | [] => Nat.zero_le _
  | x :: l => Nat.max_le.mpr ⟨h x, depth_map h l⟩
theorem plain_list {α : Type} {f : α → PyData} (h : ∀ x, (f x).plain = true) (l : List α) : (PyData.list (l.map f)).plain = true := plain_map h l
theorem depth_list {α : Type} {f : α → PyData} {n : Nat} (h : ∀ x, (f x).depth ≤ n) (l : List α) : (PyData.list (l.map f)).depth ≤ n + 1 := Nat.succ_le_succ (depth_map h l)
theorem oD_plain (o : Option Nat) : (oD o).plain = true := by cases o <;> rfl
theorem oD_depth (o : Option Nat) : (oD o).depth ≤ 0 := by cases o <;> exact Nat.le_refl _
theorem mD_plain (m : List (Option Nat)) : (mD m).plain = true := plain_map oD_plain m
theorem mD_depth (m : List (Option Nat)) : (mD m).depth ≤ 1 := Nat.succ_le_succ (depth_map oD_depth m)
theorem aD_plain (e : Str × Nat × Str) : (aD e).plain = true := rfl
theorem aD_depth (e : Str × Nat × Str) : (aD e).depth ≤ 1 := Nat.le_refl _
theorem nD_plain (n : Nat) : (nD n).plain = true := rfl
theorem nD_depth (n : Nat) : (nD n).depth ≤ 0 := Nat.le_refl _
theorem dp_oD {K : PySem.W.Frag} {H : Hp} : ∀ m : List (Option Nat), DpAll K H (m.map onv) (m.map oD)
  | [] => .nil
  | none :: m => .cons .non (dp_oD m)
  | some n :: m => .cons (.int (n : Int)) (dp_oD m)
theorem dp_mD {K : PySem.W.Frag} {H : Hp} : ∀ {ts : List Addr} {ms : List (List (Option Nat))}, Paired (fun t m => H t = some (.tup (m.map onv))) ts ms → DpAll K H (ts.map V.ref) (ms.map mD)
  | _, _, .nil => .nil
  | _, _, .cons e h => .cons (.tup (.inl (.of e)) (dp_oD _)) (dp_mD h)
theorem dp_aD {K : PySem.W.Frag} {H : Hp} : ∀ {ts : List Addr} {am : List (Str × Nat × Str)}, Paired (fun t (e : Str × Nat × Str) => H t = some (.tup [.str e.1, .int (e.2.1 : Int), .str e.2.2])) ts am → DpAll K H (ts.map V.ref) (am.map aD)
  | _, _, .nil => .nil
  | _, _, .cons e h => .cons (.tup (.inl (.of e)) (.cons (.str _) (.cons (.int _) (.cons (.str _) .nil)))) (dp_aD h)
theorem eqv_empty (l : List PyData) : PyData.eqv (.list l) (.list []) = l.isEmpty := by
  cases l with
  | nil => rfl
  | cons a l => rfl
theorem eqv_same {α : Type} {f : α → PyData} (h : ∀ x, (f x).plain = true) (l : List α) : PyData.eqv (.list (l.map f)) (.list (l.map f)) = true := PySem.SeqAt.eqv_refl_plain _ (plain_list h l)
/-! ### what is put in, weighed -/
mutual
theorem putS1_dep (g : Int) (m : Stm) (hm : depS m = 0) : ∀ (s : Stm) (c : Nat), depS (putS1 g m s c).1 ≤ depS s
  | .fn x ps b, c => by simp only [putS1, depS]; exact putB_dep g m hm b c
  | .ite a b d, c => by
    simp only [putS1, depS]
    exact Nat.max_le.mpr ⟨Nat.le_trans (putB_dep g m hm b c) (Nat.le_max_left _ _), Nat.le_trans (putB_dep g m hm d _) (Nat.le_max_right _ _)⟩
  | .while a b, c => by simp only [putS1, depS]; exact putB_dep g m hm b c
  | .times o x a b, c => by simp only [putS1, depS]; exact putB_dep g m hm b c
  | .let_ x a, c => by simp only [putS1]; exact Nat.le_refl _
  | .sum x s a b, c => by simp only [putS1]; exact Nat.le_refl _
  | .call x f as, c => by simp only [putS1]; exact Nat.le_refl _
  | .set x a, c => by simp only [putS1]; exact Nat.le_refl _
  | .tell a, c => by simp only [putS1]; exact Nat.le_refl _
  | .give a, c => by simp only [putS1]; exact Nat.le_refl _
theorem putB_dep (g : Int) (m : Stm) (hm : depS m = 0) : ∀ (b : List Stm) (c : Nat), depB (putB g m b c).1 ≤ depB b
  | [], c => by
    rw [putB_nil]
    split
    · simp only [depB, hm]; exact Nat.le_refl _
    · exact Nat.le_refl _
  | s :: b, c => by
    rw [putB_cons]
    have h1 := putS1_dep g m hm s (c + 1)
    have h2 := putB_dep g m hm b (putS1 g m s (c + 1)).2
    have h3 : depB ((putS1 g m s (c + 1)).1 :: (putB g m b (putS1 g m s (c + 1)).2).1) ≤ depB (s :: b) := by
      simp only [depB]
      exact Nat.max_le.mpr ⟨Nat.le_trans (Nat.add_le_add_left h1 1) (Nat.le_max_left _ _), Nat.le_trans h2 (Nat.le_max_right _ _)⟩
    split
    · show depB (m :: _) ≤ _
      rw [depB, hm]
      exact Nat.max_le.mpr ⟨Nat.le_trans (depB_pos b) (by simp only [depB]; exact Nat.le_max_right _ _), h3⟩
    · exact h3
end
theorem putB_w {g : Int} {m : Stm} {b : List Stm} (h1 : 0 ≤ g) (h2 : g < (pl b : Int)) : wB (putB g m b 0).1 = wB b + wL (opsS m) := by
  obtain ⟨u, v, e1, e2⟩ := putB_in g m b 0 (by omega) (by omega)
  unfold wB
  rw [e1, e2, wL_append, wL_append, wL_append]
  omega
end Fb
set_option Elab.async false
set_option linter.all false
set_option maxRecDepth 100000
set_option maxHeartbeats 4000000
namespace Fb
open PySem PySem.Spec PyProof.Rows L2
local macro_rules | `(tactic| walk_at "go1") => `(tactic| first
  | with_reducible refine g_seq ?_
  | with_reducible refine g_asg ?_
  | with_reducible refine g_name ?_
  | ((with_reducible refine' g_var ?h1 ?_); (case h1 => rfl))
  | with_reducible refine g_c ?_
  | with_reducible refine g_op ?_
  | with_reducible refine g_un ?_
  | with_reducible refine g_rU ?_
  | with_reducible refine g_yes ?_
  | with_reducible refine g_isN ?_
  | with_reducible refine g_notN ?_
  | with_reducible refine g_int1 ?_
  | with_reducible refine g_I0 ?_
  | ((with_reducible refine' g_eq ?h1 ?_); (case h1 => rfl))
  | ((with_reducible refine' g_ne ?h1 ?_); (case h1 => rfl))
  | with_reducible refine g_test ?_
  | with_reducible refine g_tb ?_
  | with_reducible refine g_bl ?_
  | with_reducible refine g_drop ?_
  | with_reducible refine g_ret ?_
  | with_reducible refine g_if ?_
  | with_reducible refine g_ife ?_
  | with_reducible refine g_and ?_
  | with_reducible refine g_or ?_
  | with_reducible refine g_not ?_
  | with_reducible refine g_next ?_
  | with_reducible refine g_nil ?_
  | with_reducible refine g_cons ?_
  | with_reducible refine g_cb ?_
  | with_reducible refine g_call ?_
  | with_reducible refine g_tup ?_
  | with_reducible refine g_lst ?_
  | with_reducible refine g_dget ?_
  | with_reducible refine g_dput ?_
  | with_reducible refine g_bm ?_
  | with_reducible refine g_lc ?_
  | with_reducible refine g_for ?_
  | with_reducible refine g_il ?_
  | with_reducible refine g_rng1 ?_
  | with_reducible refine g_gsub ?_
  | with_reducible refine g_din ?_
  | with_reducible refine g_disp ?_
  | with_reducible refine g_pairs ?_
  | with_reducible refine g_pairs0 ?_
  | with_reducible refine g_sl ?_
  | with_reducible refine g_part ?_
  | with_reducible refine g_part1 ?_
  | with_reducible refine g_nopart ?_
  | with_reducible refine g_andV ?_
  | with_reducible refine g_orV ?_
  | with_reducible refine g_notV ?_
  | with_reducible refine g_itp ?_
  | with_reducible refine g_par ?_
  | with_reducible refine g_par1 ?_
  | with_reducible refine g_par3 ?_
  | with_reducible refine g_par31 ?_
  | with_reducible refine g_gname ?_
  | with_reducible refine g_gcons ?_
  | with_reducible refine g_gnil ?_
  | with_reducible refine g_bm0 ?_)
local macro_rules | `(tactic| walk_at "go") => `(tactic| repeat walk_at "go1")
local macro_rules | `(tactic| walk_at "at") => `(tactic| repeat first
  | assumption
  | exact upd_same
  | with_reducible refine keep (by assumption) ?_
  | with_reducible refine keep_ne (by assumption) ?_
  | with_reducible refine Fr.get0 (by assumption) ?_
  | with_reducible refine Fr.get (by assumption) ?_ (by assumption)
  | with_reducible refine Fr.tup (by assumption) ?_)
local macro_rules | `(tactic| walk_at "fr") => `(tactic| repeat first
  | assumption
  | exact Fr.refl _ _
  | with_reducible refine Fr.trans ?_ (Fr.new (by assumption))
  | with_reducible refine Fr.trans ?_ (Fr.nil (by assumption))
  | with_reducible refine Fr.trans ?_ (by assumption))
local macro_rules | `(tactic| walk_at "gn") => `(tactic| repeat first
  | assumption
  | with_reducible refine Gn.fr0 ?_ (Fr.new (by assumption))
  | with_reducible refine Gn.fr0 ?_ (by assumption))
local macro_rules | `(tactic| walk_at "bt") => `(tactic| repeat first
  | assumption
  | with_reducible refine BAt.up (Fr.new (W := []) (by assumption)).1 _ _ ?_
  | with_reducible refine SAt.up (Fr.new (W := []) (by assumption)).1 _ _ ?_
  | with_reducible refine BAt.up (Fr.tupLe (by assumption)) _ _ ?_
  | with_reducible refine SAt.up (Fr.tupLe (by assumption)) _ _ ?_)
theorem cut_take (xs : List V) (k : Nat) : cutV xs none (some (k : Int)) = xs.take k := by
  unfold cutV
  rw [HT.sIx_none, HT.sIx_nat, List.drop_zero, Nat.sub_zero, Nat.min_def]
  split
  · rfl
  · rw [List.take_of_length_le (Nat.le_refl _), List.take_of_length_le (by omega)]
theorem cut_drop (xs : List V) (k : Nat) : cutV xs (some ((k : Int) + 1)) none = xs.drop (k + 1) := by
  unfold cutV
  rw [show ((k : Int) + 1) = ((k + 1 : Nat) : Int) from rfl, HT.sIx_none, HT.sIx_nat]
  rcases Nat.le_total (k + 1) xs.length with h | h
  · rw [Nat.min_eq_left h]
    exact List.take_of_length_le (by rw [List.length_drop]; omega)
  · rw [Nat.min_eq_right h, List.drop_of_length_le (Nat.le_refl _), List.drop_of_length_le h]; simp
/-- the first of what is amiss, or let by -/
theorem first_amiss {H : Hp} {ts : List Addr} {am : List (Str × Nat × Str)} {pt : Addr} (h : Paired (fun t (e : Str × Nat × Str) => H t = some (.tup [.str e.1, .int (e.2.1 : Int), .str e.2.2])) ts am) (hp : H pt = some (.tup [.str "let by", .bl true])) :
    ∃ t, atI (ts.map V.ref ++ [V.ref pt]) 0 = some (.ref t) ∧ H t = some (.tup (toldV am)) := by
  cases h with
  | nil => exact ⟨pt, rfl, hp⟩
  | cons e h => exact ⟨_, (atI_nat (by decide) (by simp; omega)).trans rfl, e⟩
def spotB (m2 m : List (List (Option Nat))) (i : Nat) : Bool := PyData.eqv (.list ((m2.take i ++ m2.drop (i + 1)).map mD)) (.list (m.map mD))
theorem Paired.tk {α β : Type} {F : α → β → Prop} : ∀ (i : Nat) {xs : List α} {ys : List β}, Paired F xs ys → Paired F (xs.take i) (ys.take i)
  | 0, _, _, _ => by rw [List.take_zero, List.take_zero]; exact .nil
  | _ + 1, _, _, .nil => .nil
  | i + 1, _, _, .cons r t => .cons r (Paired.tk i t)
theorem Paired.dp {α β : Type} {F : α → β → Prop} : ∀ (i : Nat) {xs : List α} {ys : List β}, Paired F xs ys → Paired F (xs.drop i) (ys.drop i)
  | 0, _, _, t => t
  | _ + 1, _, _, .nil => .nil
  | i + 1, _, _, .cons _ t => Paired.dp i t
theorem Paired.cut {α β : Type} {F : α → β → Prop} {i j : Nat} {xs : List α} {ys : List β} (h : Paired F xs ys) : Paired F (xs.take i ++ xs.drop j) (ys.take i ++ ys.drop j) := Paired.app (Paired.tk i h) (Paired.dp j h)
def spTellR : Sp := fun vs H Q _ => ∃ (pb : Addr) (x : Str) (g : Int) (ws : List V) (b : List Stm), vs = [.ref pb, .str x, .int g] ∧ H pb = some (.tup ws) ∧ BAt H b ws ∧ wB b ≤ 2500 ∧ depB b ≤ 7 ∧ (look0 b).am = [] ∧ 0 ≤ g ∧ g < (pl b : Int) ∧ ∀ H', Fr [] H H' → Q (.bl true) H'
section
variable {P : Program} {w : World} {K : PySem.W.Frag} {mg : Str → Option Value} {base : Heap}
theorem sc_law_tell_right : FnScope ["_law_program_here", "_law_name", "_law_goal", "_law_other", "_law_laid_here", "_law_before", "_law_told_here", "_law_found", "_law_k", "_law_spots"] ["_law_program_here", "_law_name", "_law_goal"] (defScope (topS 36)) := ⟨rfl, rfl, rfl, by decide +kernel, rfl, by decide +kernel, by decide +kernel⟩
theorem ok_tell_right (A : All K mg) {C B fI D fJ : Addr} (N : Np K mg C B fI) (NX : NpX K C B) (S : SiK K mg D) (M : SiM K D fJ) : Ok P w K mg base CX0 24 "_law_tell_right" ["_law_program_here", "_law_name", "_law_goal"] spTellR := by
  have O_put_in : Ok P w K mg base CX0 11 "_law_put_in" ["_law_block_here", "_law_count", "_law_goal", "_law_more"] (spPut 10) := ok_put_all A 10
  have O_laid : Ok P w K mg base CX0 23 "_law_laid" ["_law_program_here"] spLaid := ok_laid A
  have O_meant : Ok P w K mg base (L2.CX P w) 6 "meant" ["program"] spMeant0 := ok_meant A N S M A.meant
  have O_told : Ok P w K mg base CX0 7 "_law_told" ["_law_program_here"] spTold := ok_told A N NX S M A.look A.told
  have O_alike : Ok P w K mg base CX0 1 "_law_alike" ["_law_found", "_law_due"] spAlike := ok_alike A
  refine ok_of0 A.tell_right sc_law_tell_right (fun _ _ _ _ _ _ us hl => match us, hl with | [_, _, _], _ => rfl) (fun vs H Q E h => ?_) (fun f cdv Ar outer s H vs Q E hr h => ?_)
  · obtain ⟨_, _, _, _, _, rfl, _⟩ := h; rfl
  · obtain ⟨pb, x, g, ws, b, rfl, hpb, hbt, hwb, hdp, ham, g0, g1, k⟩ := h
    refine ⟨_, (pss_cons (ps_set (i := 3) sc_law_tell_right.nd rfl (Or.inl rfl) (pe_ok O_put_in (hr.mono (by omega)) (pa_cons (pv 0) (pa_cons (pe_lst (pa_cons pe_int pa_nil)) (pa_cons (pv 2) (pa_cons (pe_tup (pa_cons pe_str (pa_cons (pv 1) pa_nil))) pa_nil))))))
    (pss_cons (ps_asg (pe_tup (pa_cons (pe_ok O_laid (hr.mono (by omega)) (pa_cons (pv 3) pa_nil)) (pa_cons (pe_okL O_meant (hr.mono (by omega)) (pa_cons (pv 0) pa_nil)) pa_nil))) (pg_tupK (K := K) (n := 2) rfl (pgs_cons (pg_name (i := 4) sc_law_tell_right.nd rfl (Or.inl rfl)) (pgs_cons (pg_name (i := 5) sc_law_tell_right.nd rfl (Or.inr rfl)) pgs_nil))))
    (pss_cons (ps_set (i := 6) sc_law_tell_right.nd rfl (Or.inl rfl) (pe_ok O_told (hr.mono (by omega)) (pa_cons (pv 3) pa_nil)))
    (pss_cons (ps_if (pt_not (pt_val (pe_ok O_alike (hr.mono (by omega)) (pa_cons (pv 6) (pa_cons (pe_ix (ix_listK (K := K)) (pe_op op_cat (pe_dget (hu_of hr) (pv 4) pe_str (fun _ _ => rfl)) (pe_lst (pa_cons (pe_tup (pa_cons pe_str (pa_cons pe_bl pa_nil))) pa_nil))) pe_int (fun _ _ => rfl)) pa_nil))))) (pss_one (ps_ret pe_bl)) pss_nil)
    (pss_cons (ps_if (pt_cmpR op_ne (pe_ix (ix_tupK (K := K)) (pv 6) pe_int (fun _ _ => rfl)) pe_str (nomark _)) (pss_one (ps_ret (pe_and (pe_cmpR op_eq (pe_ix (ix_tupK (K := K)) (pv 6) pe_int (fun _ _ => rfl)) pe_str (nomark _)) (pe_one (pe_cmpR op_eq (pe_ix (ix_tupK (K := K)) (pv 6) pe_int (fun _ _ => rfl)) (pv 1) (nomark _)))))) pss_nil)
    (pss_cons (ps_set (i := 7) sc_law_tell_right.nd rfl (Or.inr rfl) (pe_okL O_meant (hr.mono (by omega)) (pa_cons (pv 3) pa_nil)))
    (pss_cons (ps_setLc (i := 9) (own := [("_law_k", 8)]) (g := gName 8) (by rfl) sc_law_tell_right.nd rfl rfl (sw_true rfl rfl rfl (by decide +kernel)) (pi_range1 (by rfl) A.range (pa_cons (pe_callB call_len_seq (by rfl) A.len boot_len (pa_cons (pv 7) pa_nil)) pa_nil)) (blkOk_by (own := [("_law_k", 8)]) (N := ["_law_program_here", "_law_name", "_law_goal", "_law_other", "_law_laid_here", "_law_before", "_law_told_here", "_law_found", "_law_k", "_law_spots"]) (sc := defScope (topS 36)) (by decide +kernel)) (fun _ _ _ _ _ => (pg_nameL (i := 8) sc_law_tell_right.nd rfl rfl)) (fun _ _ _ _ _ => (pts_one (pt_cmpR (op_eqPK (K := K) hr.units) (pe_op op_cat (pe_slice (sl_listK (K := K)) (pv 7) po_none (po_some (pv 8))) (pe_slice (sl_listK (K := K)) (pv 7) (po_some (pe_op op_add (pv 8) pe_int)) po_none)) (pv 5) (nomark _)))) (fun _ _ _ _ _ => (pv 8)))
    (pss_one (ps_ret (pe_and (pe_cmpR (op_eqPK (K := K) hr.units) (pv 7) (pe_dget (hu_of hr) (pv 4) pe_str (fun _ _ => rfl)) (nomark _)) (pe_one (pe_cmpR (op_nePK (K := K) hr.units) (pv 9) (pe_lst pa_nil) (nomark _))))))))))))), ?_⟩
    have one : ∀ {n : Nat}, n ≤ 10 → n ≤ sizeLine := fun h => small_of (by omega)
    have hw' : wB (putB g (.tell (.nm x)) b 0).1 ≤ 5000 := by rw [putB_w g0 g1]; have : wL (opsS (.tell (.nm x))) = 3 := by simp only [opsS, Atm.nms]; rfl
                                                              omega
    have hd' : depB (putB g (.tell (.nm x)) b 0).1 ≤ 7 := Nat.le_trans (putB_dep g _ (by simp only [depS]) b 0) hdp
    have htell := tell_in (x := x) ham g0 g1
    walk_at "go"
    refine ⟨one (by simp), fun p1 n1 => ?_⟩
    walk_at "go"
    refine ⟨one (by simp), fun p2 n2 => ?_⟩
    walk_at "go"
    have f2 : Fr [] H _ := (Fr.new (o := .lst [.int ((0 : Nat) : Int)]) n1).trans (Fr.new (o := .tup [.str "tell", .str x]) n2)
    refine ⟨pb, p1, ws, b, 0, g, .tell (.nm x), .ref p2, rfl, f2.tup hpb, hbt.up f2.tupLe, keep n2 upd_same, fun _ => by simp only [SAt]; exact ⟨p2, rfl, upd_same⟩, by omega, by omega, fun H3 po us f3 e3 bt3 _ => ?_⟩
    have f30 : Fr [] H H3 := fr_cut f3 f2 (fun a ha => by rw [List.mem_singleton.mp ha]; exact .inr n1)
    clear f3 f2 n2 n1
    generalize hb' : (putB g (.tell (.nm x)) b 0).1 = b' at *
    walk_at "go"
    refine ⟨po, us, b', rfl, e3, bt3, by omega, hw', fun H4 SS n4 st4 hn4 f4 => ?_⟩
    have f40 := f30.trans f4
    walk_at "go"
    refine ⟨pb, ws, b, rfl, f40.tup hpb, hbt.up f40.tupLe, by omega, by omega, ham, fun H5 me1 ts1 f5 e5 m5 => ?_⟩
    have f50 := f40.trans f5
    walk_at "go"
    refine ⟨one (by simp), fun p5 n5 => ?_⟩
    walk_at "go"
    refine ⟨p5, _, rfl, .inl (.of upd_same), rfl, ?_⟩
    walk_at "go"
    have f6 := Fr.new (W := []) (o := .tup [.ref SS.sd, .ref me1]) n5
    have f36 := (f4.trans f5).trans f6
    refine ⟨po, us, b', rfl, f36.tup e3, bt3.up f36.tupLe, hw', by omega, fun H7 p7 f7 e7 => ?_⟩
    have f37 := f36.trans f7
    have st7 := ((st4.fr0 f5).fr0 f6).fr0 f7
    have e57 := f7.get0 (f6.get0 e5)
    have m57 := Paired.imp' m5 fun _ _ _ z => f7.tup (f6.tup z)
    have f70 := f30.trans f37
    have e37 := f37.tup e3
    have bt37 := bt3.up f37.tupLe
    clear f6 f7 f5 f4 f50 f40 f36 f37 f30 st4 e5 m5 e3 bt3
    obtain ⟨tam, ea, pam⟩ := st7.amm
    walk_at "go"
    refine ⟨_, _, rfl, kvl st7.sd (stk_am SS), ?_⟩
    walk_at "go"
    refine ⟨one (by simp), fun p8 n8 => ?_⟩
    walk_at "go"
    refine ⟨one (by simp), fun p9 n9 => ?_⟩
    have f9 : Fr [] H7 _ := (Fr.new (o := .tup [.str "let by", .bl true]) n8).trans (Fr.new (o := .lst [.ref p8]) n9)
    have hal : tam.length ≤ 60000 := by rw [pam.length]; have := st7.len; omega
    refine g_cat (f9.get0 ea) upd_same (small_of (by simp; omega)) (fun pr nr => ?_)
    have f10 := f9.trans (Fr.new (o := .lst (tam.map V.ref ++ [.ref p8])) nr)
    walk_at "go"
    obtain ⟨t, et, ht⟩ := first_amiss (pt := p8) (Paired.imp' pam fun _ _ _ z => f10.tup z) (keep nr (keep n9 upd_same))
    refine g_ixL upd_same et ?_
    walk_at "go"
    refine ⟨p7, t, _, rfl, f10.tup e7, ht, fun H11 f11 => ?_⟩
    have f711 := f10.trans f11
    walk_at "go"
    refine i_f rfl ?_
    walk_at "go"
    have e711 := f711.tup e7
    rcases htell with ⟨a0, k0, hk0, ek0⟩ | ⟨k0, a0⟩
    rotate_left
    · rw [a0] at e711
      refine g_ixT e711 (v := .str "unknown") (by rfl) ?_
      walk_at "go"
      refine i_t (by decide +kernel) ?_
      walk_at "go"
      refine g_ixT e711 (v := .str "unknown") (by rfl) ?_
      walk_at "go"
      refine i_t (by simp) ?_
      walk_at "go"
      refine g_ixT e711 (v := .str x) (by rfl) ?_
      walk_at "go"
      have hd : decide (V.str x = V.str x) = true := by simp
      rw [hd]
      exact k _ (f70.trans f711)
    rw [a0] at e711
    refine g_ixT e711 (v := .str "let by") (by rfl) ?_
    walk_at "go"
    refine i_f (by decide +kernel) ?_
    walk_at "go"
    refine ⟨po, us, b', rfl, f711.tup e37, bt37.up f711.tupLe, hw', by omega, a0, fun H12 me2 ts2 f12 e12 m12 => ?_⟩
    have f712 := f711.trans f12
    have st12 := st7.fr0 f712
    have e512 := f712.get0 e57
    have m512 := Paired.imp' m57 fun _ _ _ z => f712.tup z
    have f120 := f70.trans f712
    have hl2 : ts2.length = (look0 b').means.length := m12.length
    have hl3 : ts2.length ≤ 60000 := by rw [hl2]; have := st12.len; omega
    clear f711 f712 f12 f11 f10 f9 st7 e57 m57
    walk_at "go"
    refine ⟨me2, _, rfl, .inl (.of e12), ?_⟩
    walk_at "go"
    refine ⟨_, rfl, by omega, by rw [List.length_map]; omega, ?_⟩
    have hn : (((ts2.map V.ref).length : Nat) : Int).toNat = ts2.length := by simp
    refine lc_rng (fun D0 i H' => Fr [] H12 H' ∧ H' D0 = some (.lst (((List.range i).filter (spotB (look0 b').means (look0 b).means)).map nV))) (fun D0 hD => ⟨Fr.new hD, upd_same⟩) (fun D0 H' hD pp => ?_) (fun D0 i H' hD hi pp => ?_)
    rotate_left
    · obtain ⟨fi, eD⟩ := pp
      rw [hn] at hi
      walk_at "go"
      refine ⟨rfl, ?_⟩
      walk_at "go"
      refine ⟨me2, _, rfl, .inl (.of (fi.get0 e12)), fun q1 m1 => ?_⟩
      walk_at "go"
      refine ⟨me2, _, rfl, .inl (.of (keep m1 (fi.get0 e12))), fun q2 m2 => ?_⟩
      rw [Int.zero_add, cut_take] at m2
      rw [Int.zero_add, cut_take, cut_drop]
      have hcz : ((ts2.map V.ref).take i).length + ((ts2.map V.ref).drop (i + 1)).length ≤ 60000 := by rw [List.length_take, List.length_drop, List.length_map]; omega
      refine g_cat (keep m2 upd_same) upd_same (small_of (by omega)) (fun q3 m3 => ?_)
      have f3 : Fr [] H' _ := ((Fr.new (o := .lst ((ts2.map V.ref).take i)) m1).trans (Fr.new (o := .lst ((ts2.map V.ref).drop (i + 1))) m2)).trans (Fr.new (o := .lst ((ts2.map V.ref).take i ++ (ts2.map V.ref).drop (i + 1))) m3)
      have ecat : (ts2.map V.ref).take i ++ (ts2.map V.ref).drop (i + 1) = (ts2.take i ++ ts2.drop (i + 1)).map V.ref := by rw [List.map_append, List.map_take, List.map_drop]
      have fi3 := fi.trans f3
      have m3t := Paired.cut (i := i) (j := i + 1) (Paired.imp' m12 fun _ _ _ z => fi3.tup z)
      have m3b := Paired.imp' m512 fun _ _ _ z => fi3.tup z
      have eD3 := f3.get0 eD
      have eq3 : (upd (upd (upd H' q1 (.lst ((ts2.map V.ref).take i))) q2 (.lst ((ts2.map V.ref).drop (i + 1)))) q3 (.lst ((ts2.map V.ref).take i ++ (ts2.map V.ref).drop (i + 1)))) q3 = some (.lst ((ts2.take i ++ ts2.drop (i + 1)).map V.ref)) := by rw [upd_same, ecat]
      generalize upd (upd (upd H' q1 (.lst ((ts2.map V.ref).take i))) q2 (.lst ((ts2.map V.ref).drop (i + 1)))) q3 (.lst ((ts2.map V.ref).take i ++ (ts2.map V.ref).drop (i + 1))) = H8 at *
      walk_at "go"
      refine ⟨.list (((look0 b').means.take i ++ (look0 b').means.drop (i + 1)).map mD), .list ((look0 b).means.map mD), .lst (.inl (.of eq3)) (dp_mD m3t), .lst (.inl (.of (fi3.get0 e512))) (dp_mD m3b), plain_list mD_plain _, plain_list mD_plain _, Nat.le_trans (depth_list mD_depth _) (by decide), ?_⟩
      walk_at "go"
      refine i_bool (fun ek => ?_) (fun ek => ?_)
      · walk_at "go"
        refine ⟨_, eD3, small_lt (by rw [List.length_map]; have := List.length_filter_le (spotB (look0 b').means (look0 b).means) (List.range i); rw [List.length_range] at this; omega), fi3.mut hD, ?_⟩
        rw [upd_same, List.range_succ, List.filter_append, List.map_append]
        rw [List.filter_cons_of_pos (show spotB (look0 b').means (look0 b).means i = true from ek)]
        rfl
      · refine ⟨fi3, ?_⟩
        rw [List.range_succ, List.filter_append, List.filter_cons_of_neg (show ¬ spotB (look0 b').means (look0 b).means i = true by rw [show spotB (look0 b').means (look0 b).means i = false from ek]; exact Bool.false_ne_true), List.filter_nil, List.append_nil]
        exact eD3
    obtain ⟨fi, eD⟩ := pp
    rw [hn] at eD
    have st13 := st12.fr0 fi
    obtain ⟨tme, eme, pme⟩ := st13.me
    walk_at "go"
    refine ⟨_, _, rfl, kvl st13.sd (stk_me SS), ?_⟩
    walk_at "go"
    refine ⟨.list ((look0 b').means.map mD), .list ((look0 b').means.map mD), .lst (.inl (.of (fi.get0 e12))) (dp_mD (Paired.imp' m12 fun _ _ _ z => fi.tup z)), .lst (.inl (.of eme)) (dp_mD pme), plain_list mD_plain _, plain_list mD_plain _, Nat.le_trans (depth_list mD_depth _) (by decide), ?_⟩
    rw [eqv_same mD_plain]
    walk_at "go"
    refine i_t rfl ?_
    walk_at "go"
    refine ⟨one (by simp), fun p15 n15 => ?_⟩
    walk_at "go"
    refine ⟨.list (((List.range ts2.length).filter (spotB (look0 b').means (look0 b).means)).map nD), .list [], .lst (.inl (.of (keep n15 eD))) (dp_ints _), .lst (.inl (.of upd_same)) .nil, plain_list nD_plain _, rfl, Nat.le_trans (depth_list nD_depth _) (by decide), ?_⟩
    rw [eqv_empty]
    have hne : (((List.range ts2.length).filter (spotB (look0 b').means (look0 b).means)).map nD).isEmpty = false := by
      rw [List.isEmpty_eq_false_iff]
      intro e
      have hmem : k0 ∈ (List.range ts2.length).filter (spotB (look0 b').means (look0 b).means) := by
        refine List.mem_filter.mpr ⟨List.mem_range.mpr (by rw [hl2]; exact hk0), ?_⟩
        unfold spotB
        rw [ek0]
        exact eqv_same mD_plain _
      rw [List.map_eq_nil_iff.mp e] at hmem
      cases hmem
    rw [hne]
    walk_at "go"
    exact k _ ((f120.trans fi).trans (Fr.new n15))
end
end Fb
set_option Elab.async false
set_option linter.all false
set_option maxRecDepth 100000
set_option maxHeartbeats 4000000
namespace Fb
open PySem PySem.Spec PyProof.Rows L2
local macro_rules | `(tactic| walk_at "go1") => `(tactic| first
  | with_reducible refine g_seq ?_
  | with_reducible refine g_asg ?_
  | with_reducible refine g_name ?_
  | ((with_reducible refine' g_var ?h1 ?_); (case h1 => rfl))
  | with_reducible refine g_c ?_
  | with_reducible refine g_op ?_
  | with_reducible refine g_un ?_
  | with_reducible refine g_rU ?_
  | with_reducible refine g_yes ?_
  | with_reducible refine g_isN ?_
  | with_reducible refine g_notN ?_
  | with_reducible refine g_int1 ?_
  | with_reducible refine g_I0 ?_
  | ((with_reducible refine' g_eq ?h1 ?_); (case h1 => rfl))
  | ((with_reducible refine' g_ne ?h1 ?_); (case h1 => rfl))
  | with_reducible refine g_test ?_
  | with_reducible refine g_tb ?_
  | with_reducible refine g_bl ?_
  | with_reducible refine g_drop ?_
  | with_reducible refine g_ret ?_
  | with_reducible refine g_if ?_
  | with_reducible refine g_ife ?_
  | with_reducible refine g_and ?_
  | with_reducible refine g_or ?_
  | with_reducible refine g_not ?_
  | with_reducible refine g_next ?_
  | with_reducible refine g_nil ?_
  | with_reducible refine g_cons ?_
  | with_reducible refine g_cb ?_
  | with_reducible refine g_call ?_
  | with_reducible refine g_tup ?_
  | with_reducible refine g_lst ?_
  | with_reducible refine g_dget ?_
  | with_reducible refine g_dput ?_
  | with_reducible refine g_bm ?_
  | with_reducible refine g_lc ?_
  | with_reducible refine g_for ?_
  | with_reducible refine g_il ?_
  | with_reducible refine g_rng1 ?_
  | with_reducible refine g_gsub ?_
  | with_reducible refine g_din ?_
  | with_reducible refine g_disp ?_
  | with_reducible refine g_pairs ?_
  | with_reducible refine g_pairs0 ?_
  | with_reducible refine g_sl ?_
  | with_reducible refine g_part ?_
  | with_reducible refine g_part1 ?_
  | with_reducible refine g_nopart ?_
  | with_reducible refine g_andV ?_
  | with_reducible refine g_orV ?_
  | with_reducible refine g_notV ?_
  | with_reducible refine g_itp ?_
  | with_reducible refine g_par ?_
  | with_reducible refine g_par1 ?_
  | with_reducible refine g_par3 ?_
  | with_reducible refine g_par31 ?_
  | with_reducible refine g_gname ?_
  | with_reducible refine g_gcons ?_
  | with_reducible refine g_gnil ?_
  | with_reducible refine g_bm0 ?_)
local macro_rules | `(tactic| walk_at "go") => `(tactic| repeat walk_at "go1")
local macro_rules | `(tactic| walk_at "at") => `(tactic| repeat first
  | assumption
  | exact upd_same
  | with_reducible refine keep (by assumption) ?_
  | with_reducible refine keep_ne (by assumption) ?_
  | with_reducible refine Fr.get0 (by assumption) ?_
  | with_reducible refine Fr.get (by assumption) ?_ (by assumption)
  | with_reducible refine Fr.tup (by assumption) ?_)
local macro_rules | `(tactic| walk_at "fr") => `(tactic| repeat first
  | assumption
  | exact Fr.refl _ _
  | with_reducible refine Fr.trans ?_ (Fr.new (by assumption))
  | with_reducible refine Fr.trans ?_ (Fr.nil (by assumption))
  | with_reducible refine Fr.trans ?_ (by assumption))
local macro_rules | `(tactic| walk_at "gn") => `(tactic| repeat first
  | assumption
  | with_reducible refine Gn.fr0 ?_ (Fr.new (by assumption))
  | with_reducible refine Gn.fr0 ?_ (by assumption))
local macro_rules | `(tactic| walk_at "bt") => `(tactic| repeat first
  | assumption
  | with_reducible refine BAt.up (Fr.new (W := []) (by assumption)).1 _ _ ?_
  | with_reducible refine SAt.up (Fr.new (W := []) (by assumption)).1 _ _ ?_
  | with_reducible refine BAt.up (Fr.tupLe (by assumption)) _ _ ?_
  | with_reducible refine SAt.up (Fr.tupLe (by assumption)) _ _ ?_)
section
variable {P : Program} {w : World} {K : PySem.W.Frag} {mg : Str → Option Value} {base : Heap}
theorem sc_law_let_right : FnScope ["_law_program_here", "_law_name", "_law_goal", "_law_other", "_law_laid_here"] ["_law_program_here", "_law_name", "_law_goal"] (defScope (topS 37)) := ⟨rfl, rfl, rfl, by decide +kernel, rfl, by decide +kernel, by decide +kernel⟩
theorem ok_let_right (A : All K mg) {C B fI D fJ : Addr} (N : Np K mg C B fI) (NX : NpX K C B) (S : SiK K mg D) (M : SiM K D fJ) : Ok P w K mg base CX0 24 "_law_let_right" ["_law_program_here", "_law_name", "_law_goal"] spTellR := by
  have O_put_in : Ok P w K mg base CX0 11 "_law_put_in" ["_law_block_here", "_law_count", "_law_goal", "_law_more"] (spPut 10) := ok_put_all A 10
  have O_laid : Ok P w K mg base CX0 23 "_law_laid" ["_law_program_here"] spLaid := ok_laid A
  have O_meant : Ok P w K mg base (L2.CX P w) 6 "meant" ["program"] spMeant0 := ok_meant A N S M A.meant
  have O_told : Ok P w K mg base CX0 7 "_law_told" ["_law_program_here"] spTold := ok_told A N NX S M A.look A.told
  have O_alike : Ok P w K mg base CX0 1 "_law_alike" ["_law_found", "_law_due"] spAlike := ok_alike A
  refine ok_of0 A.let_right sc_law_let_right (fun _ _ _ _ _ _ us hl => match us, hl with | [_, _, _], _ => rfl) (fun vs H Q E h => ?_) (fun f cdv Ar outer s H vs Q E hr h => ?_)
  · obtain ⟨_, _, _, _, _, rfl, _⟩ := h; rfl
  · obtain ⟨pb, x, g, ws, b, rfl, hpb, hbt, hwb, hdp, ham, g0, g1, k⟩ := h
    refine ⟨_, (pss_cons (ps_set (i := 3) sc_law_let_right.nd rfl (Or.inl rfl) (pe_ok O_put_in (hr.mono (by omega)) (pa_cons (pv 0) (pa_cons (pe_lst (pa_cons pe_int pa_nil)) (pa_cons (pv 2) (pa_cons (pe_tup (pa_cons pe_str (pa_cons (pv 1) (pa_cons pe_int pa_nil)))) pa_nil))))))
    (pss_cons (ps_set (i := 4) sc_law_let_right.nd rfl (Or.inl rfl) (pe_ok O_laid (hr.mono (by omega)) (pa_cons (pv 3) pa_nil)))
    (pss_cons (ps_if (pt_not (pt_val (pe_ok O_alike (hr.mono (by omega)) (pa_cons (pe_ok O_told (hr.mono (by omega)) (pa_cons (pv 3) pa_nil)) (pa_cons (pe_ix (ix_listK (K := K)) (pe_op op_cat (pe_dget (hu_of hr) (pv 4) pe_str (fun _ _ => rfl)) (pe_lst (pa_cons (pe_tup (pa_cons pe_str (pa_cons pe_bl pa_nil))) pa_nil))) pe_int (fun _ _ => rfl)) pa_nil))))) (pss_one (ps_ret pe_bl)) pss_nil)
    (pss_cons (ps_if (pt_cmpR (op_nePK (K := K) hr.units) (pe_dget (hu_of hr) (pv 4) pe_str (fun _ _ => rfl)) (pe_lst pa_nil) (nomark _)) (pss_one (ps_ret (pe_cmpR op_eq (pe_ix (ix_tupK (K := K)) (pe_ix (ix_listK (K := K)) (pe_dget (hu_of hr) (pv 4) pe_str (fun _ _ => rfl)) pe_int (fun _ _ => rfl)) pe_int (fun _ _ => rfl)) pe_str (nomark _)))) pss_nil)
    (pss_one (ps_ret (pe_cmpR (op_eqPK (K := K) hr.units) (pe_okL O_meant (hr.mono (by omega)) (pa_cons (pv 3) pa_nil)) (pe_dget (hu_of hr) (pv 4) pe_str (fun _ _ => rfl)) (nomark _)))))))), ?_⟩
    have one : ∀ {n : Nat}, n ≤ 10 → n ≤ sizeLine := fun h => small_of (by omega)
    have hw' : wB (putB g (.let_ x (.num 7)) b 0).1 ≤ 5000 := by rw [putB_w g0 g1]; have : wL (opsS (.let_ x (.num 7))) = 3 := by simp only [opsS, Atm.nms]; rfl
                                                                 omega
    have hd' : depB (putB g (.let_ x (.num 7)) b 0).1 ≤ 7 := Nat.le_trans (putB_dep g _ (by simp only [depS]) b 0) hdp
    have htw := let_in (x := x) ham g0 g1
    walk_at "go"
    refine ⟨one (by simp), fun p1 n1 => ?_⟩
    walk_at "go"
    refine ⟨one (by simp), fun p2 n2 => ?_⟩
    walk_at "go"
    have f2 : Fr [] H _ := (Fr.new (o := .lst [.int ((0 : Nat) : Int)]) n1).trans (Fr.new (o := .tup [.str "let", .str x, .int 7]) n2)
    refine ⟨pb, p1, ws, b, 0, g, .let_ x (.num 7), .ref p2, rfl, f2.tup hpb, hbt.up f2.tupLe, keep n2 upd_same, fun _ => by simp only [SAt]; exact ⟨p2, rfl, upd_same⟩, by omega, by omega, fun H3 po us f3 e3 bt3 _ => ?_⟩
    have f30 : Fr [] H H3 := fr_cut f3 f2 (fun a ha => by rw [List.mem_singleton.mp ha]; exact .inr n1)
    clear f3 f2 n2 n1
    generalize hb' : (putB g (.let_ x (.num 7)) b 0).1 = b' at *
    walk_at "go"
    refine ⟨po, us, b', rfl, e3, bt3, by omega, hw', fun H4 SS n4 st4 hn4 f4 => ?_⟩
    walk_at "go"
    refine ⟨po, us, b', rfl, f4.tup e3, bt3.up f4.tupLe, hw', by omega, fun H7 p7 f7 e7 => ?_⟩
    have f37 := f4.trans f7
    have st7 := st4.fr0 f7
    have f70 := f30.trans f37
    have e37 := f37.tup e3
    have bt37 := bt3.up f37.tupLe
    clear f7 f4 f37 f30 st4 e3 bt3
    obtain ⟨tam, ea, pam⟩ := st7.amm
    walk_at "go"
    refine ⟨_, _, rfl, kvl st7.sd (stk_am SS), ?_⟩
    walk_at "go"
    refine ⟨one (by simp), fun p8 n8 => ?_⟩
    walk_at "go"
    refine ⟨one (by simp), fun p9 n9 => ?_⟩
    have f9 : Fr [] H7 _ := (Fr.new (o := .tup [.str "let by", .bl true]) n8).trans (Fr.new (o := .lst [.ref p8]) n9)
    have hal : tam.length ≤ 60000 := by rw [pam.length]; have := st7.len; omega
    refine g_cat (f9.get0 ea) upd_same (small_of (by simp; omega)) (fun pr nr => ?_)
    have f10 := f9.trans (Fr.new (o := .lst (tam.map V.ref ++ [.ref p8])) nr)
    walk_at "go"
    obtain ⟨t, et, ht⟩ := first_amiss (pt := p8) (Paired.imp' pam fun _ _ _ z => f10.tup z) (keep nr (keep n9 upd_same))
    refine g_ixL upd_same et ?_
    walk_at "go"
    refine ⟨p7, t, _, rfl, f10.tup e7, ht, fun H11 f11 => ?_⟩
    have f711 := f10.trans f11
    walk_at "go"
    refine i_f rfl ?_
    walk_at "go"
    have st11 := st7.fr0 f711
    have ea11 := f711.get0 ea
    have pam11 := Paired.imp' pam fun _ _ _ z => f711.tup z
    refine ⟨_, _, rfl, kvl st11.sd (stk_am SS), ?_⟩
    walk_at "go"
    refine ⟨one (by simp), fun p12 n12 => ?_⟩
    walk_at "go"
    have f12 : Fr [] H11 _ := Fr.new (o := .lst []) n12
    refine ⟨.list ((look0 b').am.map aD), .list [], .lst (.inl (.of (f12.get0 ea11))) (dp_aD (Paired.imp' pam11 fun _ _ _ z => f12.tup z)), .lst (.inl (.of upd_same)) .nil, plain_list aD_plain _, rfl, Nat.le_trans (depth_list aD_depth _) (by decide), ?_⟩
    rw [eqv_empty]
    have st12 := st11.fr0 f12
    have f120 := (f70.trans f711).trans f12
    have e312 := f12.tup (f711.tup e37)
    have bt312 := (bt37.up f711.tupLe).up f12.tupLe
    have ea12 := f12.get0 ea11
    have pam12 := Paired.imp' pam11 fun _ _ _ z => f12.tup z
    cases hA : (look0 b').am with
    | cons e r =>
      have htw1 : e.1 = ("twice" : Str) := htw e (by rw [hA]; exact List.mem_cons_self)
      rw [hA] at pam12
      walk_at "go"
      refine i_t rfl ?_
      walk_at "go"
      refine ⟨_, _, rfl, kvl st12.sd (stk_am SS), ?_⟩
      walk_at "go"
      cases pam12 with
      | cons e1 pam12 =>
        refine g_ixL ea12 ((atI_nat (by decide) (by simp)).trans rfl) ?_
        walk_at "go"
        refine g_ixT e1 (by rfl) ?_
        walk_at "go"
        rw [htw1]
        have hd : decide (V.str "twice" = V.str "twice") = true := by simp
        rw [hd]
        exact k _ f120
    | nil =>
      walk_at "go"
      refine i_f rfl ?_
      walk_at "go"
      refine ⟨po, us, b', rfl, e312, bt312, hw', by omega, hA, fun H13 me2 ts2 f13 e13 m13 => ?_⟩
      have st13 := st12.fr0 f13
      obtain ⟨tme, eme, pme⟩ := st13.me
      walk_at "go"
      refine ⟨_, _, rfl, kvl st13.sd (stk_me SS), ?_⟩
      walk_at "go"
      refine ⟨.list ((look0 b').means.map mD), .list ((look0 b').means.map mD), .lst (.inl (.of e13)) (dp_mD m13), .lst (.inl (.of eme)) (dp_mD pme), plain_list mD_plain _, plain_list mD_plain _, Nat.le_trans (depth_list mD_depth _) (by decide), ?_⟩
      rw [eqv_same mD_plain]
      exact k _ (f120.trans f13)
end
end Fb
set_option Elab.async false
set_option linter.all false
set_option maxRecDepth 100000
set_option maxHeartbeats 4000000
/-! sorted(set(a list of texts)). -/
namespace Fb
open PySem PySem.Spec PyProof.Rows L2
/-- a set of at most n texts at a, that can be walked -/
def SetT (P : Program) (w : World) (h : Heap) (a : Addr) (n : Nat) : Prop :=
  ∃ o es ep t, h.get? a = some o ∧ o.ExactSet ∧ o.data = .set es ep t ∧ ElemsOf (PySem.strKind P w) es.toList ∧ es.size ≤ n ∧ t.fits es.size = true ∧ Ris t.place.toList ∧ (w.params.followText "set-order" = true ∨ t.led = true)
section
variable {P : Program} {w : World} {A : Around} {E : Value → Shared → Prop} {s : Shared} {a : Addr} {n : Nat}
theorem SetT.stay {h h' : Heap} (R : SetT P w h a n) (k : ∀ o, h.get? a = some o → h'.get? a = some o) : SetT P w h' a n := let ⟨o, es, ep, t, ho, r⟩ := R; ⟨o, es, ep, t, k o ho, r⟩
theorem setT_tail {g : Bool → Sem Unit} (hg : ∀ (b : Bool) (u : Shared) (Q' : Unit → Shared → Prop), Q' () u → wpAny (model P w) A (g b) Q' E u)
    {o : Obj} {es es1 : Array (Int × Value)} {ep : Nat} {t t2 : SetTable} (ho : s.heap.get? a = some o) (hex : o.ExactSet) (hd : o.data = .set es ep t) (he : ElemsOf (PySem.strKind P w) es1.toList) (hb : n < scanBound) (hn : es1.size ≤ n) (hf : t2.fits es1.size = true) (hr : Ris t2.place.toList)
    (hl : w.params.followText "set-order" = true ∨ t2.led = true) {dm : Bool} {R : Option Bool → Shared → Prop} (hR : ∀ h', Heap.SameBut a s.heap h' → SetT P w h' a n → R (some true) { s with heap := h' }) :
    wpAny (model P w) A (do
        storeSet a es1 t2
        if (!dm && t2.tooFull) = true then do
            g (relayAll t2 es1 (SetTable.grown es1.size)).2.2
            storeSet a (relayAll t2 es1 (SetTable.grown es1.size)).1 (relayAll t2 es1 (SetTable.grown es1.size)).2.1
            pure (some true)
          else pure (some true)) R E s := by
  have hb1 : es1.size < scanBound := Nat.lt_of_le_of_lt hn hb
  refine wpAny_bind (wpAny_storeSet_of ho hd ?_ (fits_of_scanBound hb1))
  have ho1 := store_at (es' := es1) (t' := t2) ho hd
  have sb1 := Heap.SameBut.update s.heap a (Obj.putSet es1 t2)
  refine wpAny_ite_split (fun _ => ?_) (fun _ => wpAny_pure (hR _ sb1 ⟨_, es1, _, t2, ho1, hex, rfl, he, hn, hf, hr, hl⟩))
  have pm := relayAll_perm t2 es1 (SetTable.grown es1.size)
  have hf3 := relayAll_fits t2 es1 (SetTable.grown es1.size)
  have hr3 := relayAll_ris t2 es1 (SetTable.grown es1.size)
  have hl3 := relayAll_led t2 es1 (SetTable.grown es1.size)
  revert pm hf3 hr3 hl3
  generalize relayAll t2 es1 (SetTable.grown es1.size) = Z
  rcases Z with ⟨es2, t3, gave⟩
  intro pm hf3 hr3 hl3
  have hsz : es2.size = es1.size := by rw [← Array.length_toList, pm.length_eq, Array.length_toList]
  refine wpAny_bind (hg _ _ _ (wpAny_bind (wpAny_storeSet_of ho1 rfl ?_ (fits_of_scanBound (by rw [show (es2, t3, gave).1.size = es1.size from hsz]; exact hb1)))))
  exact wpAny_pure (hR _ (sb1.trans (Heap.SameBut.update _ a _)) ⟨_, es2, _, t3, store_at (es' := es2) (t' := t3) ho1 rfl, hex, rfl, he.perm pm, by rw [hsz]; exact hn, hf3, hr3, hl.imp id fun z => hl3.trans z⟩)
theorem setT_add {x : Str} {tk : Tok} {Q : Bool → Shared → Prop} (R : SetT P w s.heap a n) (room : n + 1 < scanBound) (hQ : ∀ (b : Bool) (h' : Heap), Heap.SameBut a s.heap h' → SetT P w h' a (n + 1) → Q b { s with heap := h' }) :
    wpAny (model P w) A (setAddHashed a (.str x tk) ((PySem.strKind P w).hash x)) Q E s := by
  obtain ⟨o, es, ep, t, ho, hex, hd, hel, hn, hf, hr, hl⟩ := R
  have hsc : (Value.str x tk).scannable = true := rfl
  have hb : es.size < scanBound := Nat.lt_of_le_of_lt hn (Nat.lt_of_succ_lt room)
  have hkey := strKind_is P w x tk
  unfold setAddHashed setAddHashedIn
  refine wpAny_holding (wpAny_bind (wpAny_setState_of ho hd hf ?_))
  dsimp only
  rw [byScan_of hsc hb hel]
  simp only [↓reduceIte]
  unfold setAddByScan
  refine wpAny_bind (wpAny_bind (wpAny_rule (wpAny_bind (wpAny_setScan_of hkey ho hd hf hel ?_))))
  have fin : ∀ (h' : Heap), Heap.SameBut a s.heap h' → SetT P w h' a (n + 1) → Q true { s with heap := h' } := hQ true
  cases List.findIdx? (fun e => (PySem.strKind P w).is x e.2) es.toList with
  | some j =>
    dsimp only
    exact wpAny_pure (wpAny_pure (hQ false s.heap (Heap.SameBut.refl a s.heap) ⟨o, es, ep, t, ho, hex, hd, hel, Nat.le_succ_of_le hn, hf, hr, hl⟩))
  | none =>
    dsimp only
    have hrule : ∀ (b : Bool) (u : Shared) (Q' : Unit → Shared → Prop), Q' () u → wpAny (model P w) A (match b with | true => rule "set.scan.the-table-gave-way" | false => pure ()) Q' E u :=
      fun b u Q' q => match b with | true => wpAny_rule q | false => wpAny_pure q
    have pm := layNew_perm t es ((PySem.strKind P w).hash x) (.str x tk)
    have hf1 := layNew_fits t es ((PySem.strKind P w).hash x) (.str x tk)
    have hr1 := layNew_ris t es ((PySem.strKind P w).hash x) (.str x tk) hr
    have hl1 := layNew_led t es ((PySem.strKind P w).hash x) (.str x tk)
    revert pm hf1 hr1 hl1
    generalize layNew t es ((PySem.strKind P w).hash x) (.str x tk) = Z
    rcases Z with ⟨es1, t1, dm, gave⟩
    intro pm hf1 hr1 hl1
    dsimp only at pm hf1 hr1 hl1 ⊢
    rw [Array.toList_push] at pm
    have g1 : ElemsOf (PySem.strKind P w) es1.toList := (hel.push hkey hsc).perm pm
    have hsz : es1.size ≤ n + 1 := by
      have e := pm.length_eq
      rw [List.length_append, Array.length_toList, Array.length_toList, List.length_singleton] at e
      omega
    have hled : w.params.followText "set-order" = true ∨ t1.led = true := hl.imp id fun z => hl1.trans z
    refine wpAny_bind (hrule _ _ _ ?_)
    split
    · refine wpAny_bind ?_
      rw [hashByValue_scannable 8 hsc]
      refine wpAny_pure ?_
      refine setT_tail ?_ ho hex hd g1 room hsz ?_ ?_ ?_ ?_
      · intro b u Q' q; cases b <;> first | exact wpAny_pure q | exact wpAny_rule q
      · first | (split <;> first | exact hf1 | exact SetTable.fits_plain_off hf1) | exact hf1
      · first | (split <;> exact hr1) | exact hr1
      · first | (split <;> exact hled) | exact hled
      · intro h' sb r; dsimp only; exact wpAny_pure (fin h' sb r)
    · refine wpAny_bind (wpAny_pure ?_)
      simp only [↓reduceIte]
      refine setT_tail ?_ ho hex hd g1 room hsz hf1 hr1 hled ?_
      · intro b u Q' q; cases b <;> first | exact wpAny_pure q | exact wpAny_rule q
      · intro h' sb r; dsimp only; exact wpAny_pure (fin h' sb r)
theorem setT_code (v : Value) {Q₁ : Value → Shared → Prop} (h : Q₁ (.ref s.heap.objs.size) { s with heap := s.heap.push { cls := .type "set", dict := none, data := .set #[] 0 (.fresh 0 0 (!w.params.followText "set-order")) } }) :
    codeAny (model P w) A (.call (.builtin "set.__new__") ⟨[.type "set", v], []⟩) (wants Q₁ E) s := by
  refine codeAny_of_tree ?_
  show wpAny _ A.in1 (checkBuiltinCall "set.__new__" ⟨[.type "set", v], []⟩ >>= fun _ => again (.builtin "set.__new__" ⟨[.type "set", v], []⟩)) _ _ s
  refine wpAny_bind (wpAny_of_eq (PySem.F.newCall_set_1 v) (wpAny_pure ⟨plainId_quiet F.plain_set_new _, codeAny_builtin F.entry_set_new ?_⟩))
  rw [Around.under_plainId F.plain_set_new _]
  unfold Builtin.«set.__new__» Builtin.Frozenset.newClass
  have hself := sub_set_self
  obtain ⟨hp, g, d, tk, os⟩ := s
  dsimp only
  wp_walk
  refine wpAny_askSetting (wpAny_pure ?_)
  dsimp only
  simp only [newObj]
  exact wpAny_bind (wpAny_alloc (wpAny_pure (wpAny_pure h)))
theorem setT_fresh (h : Heap) : SetT P w (h.push { cls := .type "set", dict := none, data := .set #[] 0 (.fresh 0 0 (!w.params.followText "set-order")) }) h.objs.size 0 := by
  refine ⟨_, #[], 0, _, Heap.get?_push_size _ rfl, ⟨rfl, rfl, rfl⟩, rfl, (fun e he => by simp at he), Nat.le_refl _, rfl, List.Pairwise.nil, ?_⟩
  show _ ∨ (!w.params.followText "set-order") = true
  cases w.params.followText "set-order" with
  | false => exact .inr rfl
  | true => exact .inl rfl
end
section
variable {prog : Program} {w : World} {A : Around} {I : Addr} {fp wr : List Addr} {G : Array GenState → Array GenState → Prop} {n : Nat} {T : Nat → Value → Prop} {St : Nat → Shared → Prop}
theorem setT_loop {R : Result → Shared → Prop} (W : WalksS prog w A.in1 I fp wr G n T St) (S : Addr) (hS : S ∉ fp) (hv : ∀ i v, T i v → ∃ x t, v = .str x t) (hb : n + 1 < scanBound) : ∀ (k i : Nat) (s : Shared), n - i = k → i ≤ n → St i s → SetT prog w s.heap S i →
    (∀ s', Moved (S :: wr) G s s' → SetT prog w s'.heap S n → R (.ok (.ret .none)) s') → codeAny (model prog w) A (.builtin "set.update.loop" ⟨[.ref S, .ref I], []⟩) R s := by
  have hSw : S ∉ wr := fun h => hS (W.sub _ h)
  have sub : ∀ b ∈ wr, b ∈ S :: wr := fun b hb => List.mem_cons_of_mem _ hb
  intro k
  induction k with
  | zero =>
    intro i s hk hi st hs hR
    obtain rfl : i = n := by omega
    refine codeAny_builtin PyProof.Rows.F.entry_set_update_loop ?_
    rw [Around.under_plainId PyProof.Rows.F.plain_set_update_loop _]
    show wpAny _ A.in1 (pyNext (.ref I) >>= _) _ _ s
    exact wpAny_bind (W.done s _ _ st fun s' hm => wpAny_pure (hR s' (hm.mono sub) (hs.stay fun o e => hm.heap S _ hSw e)))
  | succ k ih =>
    intro i s hk hi st hs hR
    have hlt : i < n := by omega
    refine codeAny_builtin PyProof.Rows.F.entry_set_update_loop ?_
    rw [Around.under_plainId PyProof.Rows.F.plain_set_update_loop _]
    show wpAny _ A.in1 (pyNext (.ref I) >>= _) _ _ s
    refine wpAny_bind (W.item i s _ _ hlt st fun v s' hT st' hm => ?_)
    obtain ⟨x, t, rfl⟩ := hv i v hT
    have hs' := hs.stay fun o e => hm.heap S _ hSw e
    show wpAny _ A.in1 (holding [Value.str x t] (setAdd S (.str x t)) >>= _) _ _ s'
    refine wpAny_bind (wpAny_holding ?_)
    unfold setAdd
    refine wpAny_holding (wpAny_bind ((PySem.strKind prog w).pyHash (k := x) (strKind_is _ _ _ _) ?_))
    refine setT_add (s := { s' with toks := s'.toks + 1 }) hs' (by omega) fun b h' sb hs2 => ?_
    refine wpAny_pure ⟨plainId_quiet PyProof.Rows.F.plain_set_update_loop _, ih (i + 1) _ (by omega) hlt (W.frame _ s' _ _ st' (Nat.le_succ _) fun b hb o e => (sb.2 b (fun z : b = S => hS (by rw [← z]; exact hb))).trans e) hs2 fun s'' hm2 hs3 => ?_⟩
    exact hR s'' (Moved.trans W.gtrans ((hm.mono sub).then_heap (Nat.le_succ _) fun b o hb e => (sb.2 b (fun z : b = S => hb (by rw [z]; exact List.mem_cons_self))).trans e) hm2) hs3
end
section
variable {prog : Program} {w : World} {A : Around} {E : Value → Shared → Prop} {s : Shared}
theorem call_setT {l : Addr} {items : Array Value} {Q : Value → Shared → Prop} (hh : A.handled = none) (hl : s.heap.IsList l items) (hi : ∀ v ∈ items.toList, ∃ x t, v = Value.str x t) (hb : items.size + 1 < scanBound)
    (h : ∀ (h' : Heap) (tk : Nat), SetT prog w h' s.heap.objs.size items.size → (∀ b o, s.heap.get? b = some o → h'.get? b = some o) → Q (.ref s.heap.objs.size) { s with heap := h', toks := tk }) :
    wpAny (model prog w) A (call (.type "set") [.ref l]) Q E s := by
  obtain ⟨c, tl, hmro⟩ := PySem.F.called_set.mro
  have hmade := PySem.F.called_set.made
  have hsubt := PySem.F.called_set.sub
  refine wpAny_call (codeAny_of_tree ?_)
  show wpAny _ _ (callAny (.type "set") _) _ _ _
  refine wpAny_pure ⟨Code.quiet_builtin _ (by decide +kernel), codeAny_builtin PySem.F.entry_type_call ?_⟩
  rw [Around.under_plain (weight_type_call_type "set" [.ref l] []) rfl]
  have c1 := PySem.F.called_set.notType
  have c2 := PySem.F.called_set.canCreate
  have c3 := PySem.F.typeCall_set_1 (.ref l)
  repeat (any_goals (first | assumption | wp_step))
  have fr0 := setT_fresh (P := prog) (w := w) s.heap
  have hS : (s.heap.push { cls := .type "set", dict := none, data := .set #[] 0 (.fresh 0 0 (!w.params.followText "set-order")) }).get? s.heap.objs.size = some { cls := .type "set", dict := none, data := .set #[] 0 (.fresh 0 0 (!w.params.followText "set-order")) } := Heap.get?_push_size _ rfl
  have up : ∀ b o, s.heap.get? b = some o → (s.heap.push { cls := .type "set", dict := none, data := .set #[] 0 (.fresh 0 0 (!w.params.followText "set-order")) }).get? b = some o := fun b o e => Heap.get?_push_of_some _ e
  refine codeAny_mono (setT_code (.ref l) (E := E) (Q₁ := fun obj u => obj = .ref s.heap.objs.size ∧ u = { s with heap := s.heap.push { cls := .type "set", dict := none, data := .set #[] 0 (.fresh 0 0 (!w.params.followText "set-order")) } }) ⟨rfl, rfl⟩) fun r u hr => ?_
  generalize hh1 : s.heap.push { cls := .type "set", dict := none, data := .set #[] 0 (.fresh 0 0 (!w.params.followText "set-order")) } = h1 at *
  have hsz : h1.objs.size = s.heap.objs.size + 1 := by rw [← hh1]; exact Heap.size_push ..
  cases r with
  | error e => exact hr
  | ok fl =>
    cases fl with
    | ret obj =>
      obtain ⟨rfl, rfl⟩ := hr
      have hT : Shared.TypeIs { s with heap := h1 } (.ref s.heap.objs.size) "set" := ⟨_, hS, rfl⟩
      have b1 := PySem.F.called_set.init.lookup
      have b2 := PySem.F.called_set.init.bind (.ref s.heap.objs.size)
      repeat (any_goals (first | assumption | wp_step))
      refine codeAny_mono (codeAny_call_builtin (R := wants (fun r u => r = .none ∧ ∃ h' tk, u = { s with heap := h', toks := tk } ∧ SetT prog w h' s.heap.objs.size items.size ∧ (∀ b o, s.heap.get? b = some o → h'.get? b = some o)) E) PySem.F.called_set.init.plain PySem.F.entry_set_init (check_set_init_1 hT ?_)) fun r₂ s₂ hr₂ => ?_
      · obtain ⟨⟨cls, dd, dt, sl⟩, hol, hcl, nl, hdl⟩ := hl
        simp only at hcl hdl
        subst hcl; subst hdl
        have hol1 := up _ _ hol
        have d1 := PySem.F.sub_list_set
        have d2 := PySem.F.sub_list_frozenset
        have d3 : (Value.type "list" == Value.type "dict") = false := by decide
        have hl1 : h1.IsList l items := ⟨_, hol1, rfl, nl, rfl⟩
        unfold Builtin.«set.__init__» noKeywords Builtin.Frozenset.updateFrom
        generalize hPI : pyIter = PI
        wp_walk
        subst hPI
        refine wpAny_pyIter_list hl1 (wpAny_bind (wpAny_runValue ?_))
        have hlS : l < s.heap.objs.size := Heap.lt_size hol
        have hne : l ≠ h1.objs.size := by rw [hsz]; exact Nat.ne_of_lt (Nat.lt_succ_of_lt hlS)
        have hSf : s.heap.objs.size ∉ [h1.objs.size, l] := by
          rw [hsz]
          simp only [List.mem_cons, List.not_mem_nil, or_false, not_or]
          exact ⟨Nat.ne_of_lt (Nat.lt_succ_self _), Nat.ne_of_gt hlS⟩
        refine setT_loop ((Walks.list (by simp [hh]) _ l hne items).toS) s.heap.objs.size hSf (fun i v e => hi v (by rw [← Array.getElem?_toList] at e; exact List.mem_of_getElem? e)) hb (items.size - 0) 0 _ rfl (Nat.zero_le _) ⟨⟨_, Heap.get?_push_size _ rfl, rfl, rfl⟩, hl1.push _⟩ (fr0.stay fun o e => Heap.get?_push_of_some _ e) fun s' hm hs' => ?_
        obtain ⟨h', g', d', tk', os'⟩ := s'
        obtain rfl : g' = s.gens := hm.gens
        obtain rfl : d' = s.drawn := hm.drawn
        obtain rfl : os' = s.os := hm.os
        show wpAny _ _ _ _ _ _
        refine wpAny_pure ?_
        show wpAny _ _ (ret Value.none) _ _ _
        refine wpAny_pure ⟨rfl, h', tk', rfl, hs', fun b o e => ?_⟩
        have hlt := Heap.lt_size e
        refine hm.heap b o ?_ (Heap.get?_push_of_some _ (up b o e))
        simp only [List.mem_cons, List.not_mem_nil, or_false, not_or]
        exact ⟨Nat.ne_of_lt hlt, by rw [hsz]; exact Nat.ne_of_lt (Nat.lt_succ_of_lt hlt)⟩
      · cases r₂ with
        | error e => exact hr₂
        | ok fl₂ =>
          cases fl₂ with
          | ret r =>
            obtain ⟨rfl, h', tk, rfl, hs', hk'⟩ := hr₂
            repeat (any_goals (first | assumption | wp_step))
            exact h _ _ hs' hk'
          | _ => exact hr₂.elim
    | _ => exact hr.elim
end
end Fb
set_option Elab.async false
set_option linter.all false
set_option maxRecDepth 100000
set_option maxHeartbeats 4000000
/-! sorted(set(texts)) as a rule. -/
namespace Fb
open PySem PySem.Spec PyProof.Rows L2
theorem strsAre_ex : ∀ {vs : List Value}, (∀ v ∈ vs, ∃ x t, v = Value.str x t) → ∃ ks, StrsAre vs ks
  | [], _ => ⟨[], .nil⟩
  | v :: vs, h => by
    obtain ⟨x, t, rfl⟩ := h v List.mem_cons_self
    obtain ⟨ks, hk⟩ := strsAre_ex (vs := vs) fun u hu => h u (List.mem_cons_of_mem _ hu)
    exact ⟨x :: ks, .cons x t hk⟩
theorem strsAre_len {vs : List Value} {ks : List Str} (h : StrsAre vs ks) : vs.length = ks.length := by
  induction h with
  | nil => rfl
  | cons n t h ih => rw [List.length_cons, List.length_cons, ih]
section
variable {P : Program} {w : World} {A : Around} {E : Value → Shared → Prop} {s : Shared} {a : Addr} {n : Nat}
theorem sorted_T {Q : Value → Shared → Prop} (R : SetT P w s.heap a n) (hh : A.handled = none) (hb : n < scanBound)
    (hQ : ∀ s' p (out : Array Value) (c : Nat) (ys : List Str), (∀ b o, s.heap.get? b = some o → s'.heap.get? b = some o) → s'.gens = s.gens → s'.os = s.os → s.heap.objs.size ≤ p → s'.heap.get? p = some (seqObj "list" out c) → StrsAre out.toList ys → ys.length ≤ n → Q (.ref p) s') :
    wpAny (model P w) A (call (.builtin "sorted") [.ref a]) Q E s := by
  obtain ⟨o, es, ep, t, ho, hex, hd, hel, hn, hf, hr, hl⟩ := R
  refine Calls.call_function_entry kind_sorted plain_sorted entry_sorted (args_sorted1 _) ?_
  unfold Builtin.«sorted»
  refine wpAny_bind (m := checkCount "sorted" 1 1 _) (wpAny_pure ?_)
  refine wpAny_bind (collect_set (A := A.in1) hh ⟨o, ho, hex.1, hd⟩ hf (Nat.lt_of_le_of_lt hn hb) hr hl fun s1 vs k1 hz g1 o1 pm => ?_)
  obtain ⟨ks, hS⟩ := strsAre_ex (vs := vs) fun v hv => by
    obtain ⟨e, he, rfl⟩ := List.mem_map.mp (pm.mem_iff.mp hv)
    obtain ⟨⟨x, hx, _⟩, _⟩ := hel e he
    obtain ⟨t, ht⟩ := Value.isStrOf_shape hx
    exact ⟨x, t, ht⟩
  have hvn : vs.length ≤ n := by rw [pm.length_eq, List.length_map, Array.length_toList]; exact hn
  have hvz : vs.length ≤ sizeLine := Nat.le_trans hvn (fits_of_scanBound hb)
  refine wpAny_bind (wpAny_newList ?_ hvz)
  have hoL : (s1.heap.push (seqObj "list" vs.toArray 0)).get? s1.heap.objs.size = some (seqObj "list" vs.toArray 0) := Heap.get?_push_size _ rfl
  refine wpAny_bind (wpAny_holding (wpAny_call_entry slot_list_sort ⟨_, hoL, rfl⟩ entry_list_sort
    (list_sort_treeKAny strKind_oneLt (s := { s1 with heap := s1.heap.push (seqObj "list" vs.toArray 0) }) hoL hS.keysOf (fun v₁ v₂ rest e => keyKind_strs (by rw [← e]; exact hS)) hvz fun st' hp hs => ⟨_, rfl, ?_⟩) (args_list_sort _)))
  obtain ⟨ys, y1, y2, y3⟩ := sorted_out_str hS hp hs
  obtain ⟨c, hc⟩ := sortedHeap_at (vs := vs) (out := (arrOf st').map (·.2)) hoL
  refine wpAny_pure ⟨_, rfl, hQ _ s1.heap.objs.size _ c ys (fun b u e => ?_) g1 o1 hz hc y1 (by rw [y2.length_eq, ← strsAre_len hS]; exact hvn)⟩
  have q := k1 b u e
  have hlt := Heap.lt_size q
  show (sortedHeap (s1.heap.push (seqObj "list" vs.toArray 0)) s1.heap.objs.size vs ((arrOf st').map (·.2))).get? b = some u
  rw [sortedHeap_old (Nat.ne_of_lt hlt) (by rw [size_push']; exact Nat.lt_succ_of_lt hlt)]
  exact Heap.get?_push_of_some _ q
end
section
variable {X : Cx}
/-- sorted(set(e)), e a list of texts -/
def tSortSet (te : TE) : TE := fun σ H Q => te σ H fun x H1 => ∃ a xs, x = .ref a ∧ H1 a = some (.lst (List.map V.str xs)) ∧ xs.length ≤ 4000 ∧ ∀ p ys, H1 p = none → ys.length ≤ xs.length → Q (.ref p) (upd H1 p (.lst (List.map V.str ys)))
theorem pe_sortset {e : Expr} {te : TE} {p p2 pos pos2 : Pos} (hg : Gl X "sorted") (hm : X.mg "sorted" = none) (hg2 : Gl X "set") (hm2 : X.mg "set" = none) (he : PE X e te) (hc : X.calm = true := by rfl)
    (hs : starEach [e] X.env = (false, eval e X.env) :: starEach [] X.env := by rfl)
    (hs2 : starEach [.Call (.Name "set" p2) [e] [] pos2] X.env = (false, eval (.Call (.Name "set" p2) [e] [] pos2) X.env) :: starEach [] X.env := by rfl) :
    PE X (.Call (.Name "sorted" p) [.Call (.Name "set" p2) [e] [] pos2] [] pos) (tSortSet te) := by
  refine ⟨fun pins s σ H Q I h => ?_⟩
  refine Call_ (ld_blt I hg hm boot_sorted (PyProof.Rows.callWith_builtin1 (args_cons (Call_ (ld_blt I hg2 hm2 boot_set (PyProof.Rows.callWith_type1 (args_cons (thn (he.run pins s σ H _ I h) fun u s1 ⟨v, H1, I1, r1, q1⟩ => args_nil ?_) hs) hs rfl))) hs2) hs2 rfl))
  obtain ⟨a, xs, rfl, ha, hxz, q⟩ := q1
  obtain rfl : u = Value.ref a := r1
  obtain ⟨its, rv, pl, hz⟩ := I1.list (.inl (.of ha))
  have hlen : its.toArray.size = xs.length := by rw [List.size_toArray, ← rv.length, List.length_map]
  refine call_setT (I1.ok.hd hc) pl.isList (fun v hv => ?_) (by rw [hlen]; unfold scanBound; omega) fun h' tk hT hk => args_nil ?_
  · have hv : v ∈ its := by simpa using hv
    obtain ⟨x, hx, r⟩ : ∃ x ∈ xs.map V.str, RelV x v := by
      have gen : ∀ {ys : List V} {us : List Value}, Vals ys us → ∀ v ∈ us, ∃ x ∈ ys, RelV x v := by
        intro ys us hr
        induction hr with
        | nil => intro v hv; cases hv
        | cons r _ ih =>
          intro v hv
          rcases List.mem_cons.mp hv with rfl | hv
          · exact ⟨_, List.mem_cons_self, r⟩
          · obtain ⟨x, hx, rx⟩ := ih v hv
            exact ⟨x, List.mem_cons_of_mem _ hx, rx⟩
      exact gen rv v hv
    obtain ⟨z, _, rfl⟩ := List.mem_map.mp hx
    obtain ⟨t, rfl⟩ := r
    exact ⟨z, t, rfl⟩
  have I2 : Inv X pins σ H1 { s1 with heap := h', toks := tk } := I1.kept (t' := tk) hk
  rw [hlen] at hT
  refine sorted_T (s := { s1 with heap := h', toks := tk }) hT (I1.ok.hd hc) (by unfold scanBound; omega) fun s' pN out c ys k g o hp hget hi hl => ?_
  have hn : H1 pN = none := I2.hok.fresh hp
  have hys : (ys.map V.str).length ≤ sizeLine := by rw [List.length_map, sizeLine_eq]; omega
  have J : Inv X pins σ (upd H1 pN (.lst (ys.map V.str))) { ({ s1 with heap := h', toks := tk } : Shared) with heap := s'.heap, gens := s'.gens, drawn := s'.drawn, toks := s'.toks } :=
    I2.call (ch := []) (Un.laid k hp hn) (I2.hok.laid k hp ⟨hys, out.toList, c, vals_of_strs hi, by rw [Array.toArray_toList]; exact hget⟩) (by rw [g]; exact I2.bare) (fun _ z => nomatch z)
  have e2 : s' = { ({ s1 with heap := h', toks := tk } : Shared) with heap := s'.heap, gens := s'.gens, drawn := s'.drawn, toks := s'.toks } := by
    obtain ⟨h1, g1, d1, t1, o1⟩ := s'
    obtain rfl : o1 = s1.os := o
    rfl
  rw [e2]
  exact ⟨.ref pN, _, J, rfl, q pN ys hn hl⟩
end
end Fb
set_option Elab.async false
set_option linter.all false
set_option maxRecDepth 100000
set_option maxHeartbeats 4000000
namespace Fb
open PySem PySem.Spec PyProof.Rows L2
local macro_rules | `(tactic| walk_at "go1") => `(tactic| first
  | with_reducible refine g_seq ?_
  | with_reducible refine g_asg ?_
  | with_reducible refine g_name ?_
  | ((with_reducible refine' g_var ?h1 ?_); (case h1 => rfl))
  | with_reducible refine g_c ?_
  | with_reducible refine g_op ?_
  | with_reducible refine g_un ?_
  | with_reducible refine g_rU ?_
  | with_reducible refine g_yes ?_
  | with_reducible refine g_isN ?_
  | with_reducible refine g_notN ?_
  | with_reducible refine g_int1 ?_
  | with_reducible refine g_I0 ?_
  | ((with_reducible refine' g_eq ?h1 ?_); (case h1 => rfl))
  | ((with_reducible refine' g_ne ?h1 ?_); (case h1 => rfl))
  | with_reducible refine g_test ?_
  | with_reducible refine g_tb ?_
  | with_reducible refine g_bl ?_
  | with_reducible refine g_drop ?_
  | with_reducible refine g_ret ?_
  | with_reducible refine g_if ?_
  | with_reducible refine g_ife ?_
  | with_reducible refine g_and ?_
  | with_reducible refine g_or ?_
  | with_reducible refine g_not ?_
  | with_reducible refine g_next ?_
  | with_reducible refine g_nil ?_
  | with_reducible refine g_cons ?_
  | with_reducible refine g_cb ?_
  | with_reducible refine g_call ?_
  | with_reducible refine g_tup ?_
  | with_reducible refine g_lst ?_
  | with_reducible refine g_dget ?_
  | with_reducible refine g_dput ?_
  | with_reducible refine g_bm ?_
  | with_reducible refine g_lc ?_
  | with_reducible refine g_for ?_
  | with_reducible refine g_il ?_
  | with_reducible refine g_rng1 ?_
  | with_reducible refine g_gsub ?_
  | with_reducible refine g_din ?_
  | with_reducible refine g_disp ?_
  | with_reducible refine g_pairs ?_
  | with_reducible refine g_pairs0 ?_
  | with_reducible refine g_sl ?_
  | with_reducible refine g_part ?_
  | with_reducible refine g_part1 ?_
  | with_reducible refine g_nopart ?_
  | with_reducible refine g_andV ?_
  | with_reducible refine g_orV ?_
  | with_reducible refine g_notV ?_
  | with_reducible refine g_itp ?_
  | with_reducible refine g_par ?_
  | with_reducible refine g_par1 ?_
  | with_reducible refine g_par3 ?_
  | with_reducible refine g_par31 ?_
  | with_reducible refine g_gname ?_
  | with_reducible refine g_gcons ?_
  | with_reducible refine g_gnil ?_
  | with_reducible refine g_bm0 ?_)
local macro_rules | `(tactic| walk_at "go") => `(tactic| repeat walk_at "go1")
local macro_rules | `(tactic| walk_at "at") => `(tactic| repeat first
  | assumption
  | exact upd_same
  | with_reducible refine keep (by assumption) ?_
  | with_reducible refine keep_ne (by assumption) ?_
  | with_reducible refine Fr.get0 (by assumption) ?_
  | with_reducible refine Fr.get (by assumption) ?_ (by assumption)
  | with_reducible refine Fr.tup (by assumption) ?_)
local macro_rules | `(tactic| walk_at "fr") => `(tactic| repeat first
  | assumption
  | exact Fr.refl _ _
  | with_reducible refine Fr.trans ?_ (Fr.new (by assumption))
  | with_reducible refine Fr.trans ?_ (Fr.nil (by assumption))
  | with_reducible refine Fr.trans ?_ (by assumption))
local macro_rules | `(tactic| walk_at "gn") => `(tactic| repeat first
  | assumption
  | with_reducible refine Gn.fr0 ?_ (Fr.new (by assumption))
  | with_reducible refine Gn.fr0 ?_ (by assumption))
local macro_rules | `(tactic| walk_at "bt") => `(tactic| repeat first
  | assumption
  | with_reducible refine BAt.up (Fr.new (W := []) (by assumption)).1 _ _ ?_
  | with_reducible refine SAt.up (Fr.new (W := []) (by assumption)).1 _ _ ?_
  | with_reducible refine BAt.up (Fr.tupLe (by assumption)) _ _ ?_
  | with_reducible refine SAt.up (Fr.tupLe (by assumption)) _ _ ?_)
theorem run1_mks (o : Op) (s : Sn) : (run1 o s).mks.length ≤ s.mks.length + wO o := by
  cases o with
  | S us => exact Nat.le_add_right _ _
  | O => exact Nat.le_add_right _ _
  | C => exact Nat.le_refl _
  | M x =>
    obtain ⟨sc, mks, a1, a2, a3⟩ := s
    cases sc with
    | nil => exact Nat.le_add_right _ _
    | cons c r =>
      show (mks ++ [x]).length ≤ mks.length + 1
      rw [List.length_append]; exact Nat.le_refl _
theorem run_mks : ∀ (os : List Op) (s : Sn), (run os s).mks.length ≤ s.mks.length + wL os
  | [], s => Nat.le_refl _
  | o :: os, s => by
    have h1 := run_mks os (run1 o s)
    have h2 := run1_mks o s
    rw [wL_cons]
    show (run os (run1 o s)).mks.length ≤ _
    omega
mutual
theorem plS_w : ∀ s : Stm, 1 + plS s ≤ 2 * wL (opsS s)
  | .fn x ps b => by have := pl_w b; simp only [plS, opsS, wL_cons, wL_append, wL_Ms, wO]; unfold wB at this; omega
  | .ite a b d => by have := pl_w b; have := pl_w d; simp only [plS, opsS, wL_cons, wL_append, wO]; unfold wB at *; omega
  | .while a b => by have := pl_w b; simp only [plS, opsS, wL_cons, wL_append, wO]; unfold wB at this; omega
  | .times true x a b => by have := pl_w b; simp only [plS, opsS, wL_cons, wL_append, wO]; unfold wB at this; omega
  | .times false x a b => by have := pl_w b; simp only [plS, opsS, wL_cons, wL_append, wO]; unfold wB at this; omega
  | .let_ x a => by simp only [plS, opsS, wL_cons, wO]; omega
  | .sum x s a b => by simp only [plS, opsS, wL_cons, wO]; omega
  | .call x f as => by simp only [plS, opsS, wL_cons, wO]; omega
  | .set x a => by simp only [plS, opsS, wL_cons, wO]; omega
  | .tell a => by simp only [plS, opsS, wL_cons, wO]; omega
  | .give a => by simp only [plS, opsS, wL_cons, wO]; omega
theorem pl_w : ∀ b : List Stm, pl b ≤ 2 * wB b + 1
  | [] => by simp only [pl]; omega
  | s :: b => by
    have h1 := plS_w s
    have h2 := pl_w b
    rw [wB_cons]
    simp only [pl]
    unfold wB at *
    rw [ops_one]
    omega
end
theorem pl_pos : ∀ b : List Stm, 1 ≤ pl b
  | [] => by simp only [pl]; omega
  | s :: b => by have := pl_pos b; simp only [pl]; omega
theorem g_sortset {σ : L2.St} {H : Hp} {Q : VK} {te : TE} (q : te σ H fun x H1 => ∃ a xs, x = .ref a ∧ H1 a = some (.lst (List.map V.str xs)) ∧ xs.length ≤ 4000 ∧ ∀ p ys, H1 p = none → ys.length ≤ xs.length → Q (.ref p) (upd H1 p (.lst (List.map V.str ys)))) : tSortSet te σ H Q := q
def spLaw (K : PySem.W.Frag) : Sp := fun vs H Q _ => ∃ (a : Addr) (ns : List Int), vs = [.ref a] ∧ SqL K H a (ns.map V.int) ∧ ∀ H', Q (.bl true) H'
section
variable {P : Program} {w : World} {K : PySem.W.Frag} {mg : Str → Option Value} {base : Heap}
theorem sc_law : FnScope ["_law_script", "_law_deal_here", "_law_program_here", "_law_one", "_law_names", "_law_count", "_law_turn", "_law_name", "_law_goal"] ["_law_script"] (defScope (topS 38)) := ⟨rfl, rfl, rfl, by decide +kernel, rfl, by decide +kernel, by decide +kernel⟩
theorem fn_law {f : Addr} {fd : FuncData} (F : FunD K "law" "law" (defArgs (topS 38)) (defBody (topS 38)) (defScope (topS 38)) [] [] f fd) (A : All K mg) {C B fI D fJ : Addr} (N : Np K mg C B fI) (NX : NpX K C B) (S : SiK K mg D) (M : SiM K D fJ) : FnOk P w K mg base CX0 25 f fd ["_law_script"] (spLaw K) := by
  have O_deal : Ok P w K mg base CX0 1 "_law_deal" ["_law_script"] (spDeal K) := ok_deal A
  have O_draw : Ok P w K mg base CX0 1 "_law_draw" ["_law_deal_here", "_law_many"] spDraw := ok_draw A
  have O_let_by : Ok P w K mg base CX0 19 "_law_let_by" ["_law_deal_here", "_law_size"] spProg := ok_let_by A
  have O_laid : Ok P w K mg base CX0 23 "_law_laid" ["_law_program_here"] spLaid := ok_laid A
  have O_put_in : Ok P w K mg base CX0 11 "_law_put_in" ["_law_block_here", "_law_count", "_law_goal", "_law_more"] (spPut 10) := ok_put_all A 10
  have O_tell_right : Ok P w K mg base CX0 24 "_law_tell_right" ["_law_program_here", "_law_name", "_law_goal"] spTellR := ok_tell_right A N NX S M
  have O_let_right : Ok P w K mg base CX0 24 "_law_let_right" ["_law_program_here", "_law_name", "_law_goal"] spTellR := ok_let_right A N NX S M
  refine F.ok sc_law (fun vs H Q E h => ?_) (fun cdv Ar outer s H vs Q E hr h => ?_)
  · obtain ⟨_, _, rfl, _⟩ := h; rfl
  · obtain ⟨a, ns, rfl, hs, k⟩ := h
    refine ⟨_, PSs.nox (pss_cons (ps_set (i := 1) sc_law.nd rfl (Or.inl rfl) (pe_ok O_deal (hr.mono (by omega)) (pa_cons (pv 0) pa_nil)))
    (pss_cons (ps_set (i := 2) sc_law.nd rfl (Or.inl rfl) (pe_ok O_let_by (hr.mono (by omega)) (pa_cons (pv 1) (pa_cons (pe_op op_add pe_int (pe_ok O_draw (hr.mono (by omega)) (pa_cons (pv 1) (pa_cons pe_int pa_nil)))) pa_nil))))
    (pss_cons (ps_set (i := 4) sc_law.nd rfl (Or.inl rfl) (pe_op op_cat (pe_sortset (by rfl) A.sorted (by rfl) A.set (pe_lc (own := [("_law_one", 3)]) (g := gName 3) (by rfl) sc_law.nd (pi_list (pe_dget (hu_of hr) (pe_ok O_laid (hr.mono (by omega)) (pa_cons (pv 2) pa_nil)) pe_str (fun _ _ => rfl))) (blkOk_by (own := [("_law_one", 3)]) (N := ["_law_script", "_law_deal_here", "_law_program_here", "_law_one", "_law_names", "_law_count", "_law_turn", "_law_name", "_law_goal"]) (sc := defScope (topS 38)) (by decide +kernel)) (fun _ _ _ _ _ => (pg_nameL (i := 3) sc_law.nd rfl rfl)) (fun _ _ _ _ _ => pts_nil) (fun _ _ _ _ _ => (pe_ix (ix_tupK (K := K)) (pv 3) pe_int (fun _ _ => rfl))))) (pe_lst (pa_cons pe_str pa_nil))))
    (pss_cons (ps_set (i := 5) sc_law.nd rfl (Or.inl rfl) (pe_lst (pa_cons pe_int pa_nil)))
    (pss_cons (ps_expr (pe_ok O_put_in (hr.mono (by omega)) (pa_cons (pv 2) (pa_cons (pv 5) (pa_cons (pe_op op_sub pe_int pe_int) (pa_cons (pe_tup pa_nil) pa_nil))))))
    (pss_cons (ps_for PassesOwn.never rfl (pi_range1 (by rfl) A.range (pa_cons pe_int pa_nil)) (pg_name (i := 6) sc_law.nd rfl (Or.inl rfl)) (pss_cons (ps_par (i := 7) (j := 8) rfl sc_law.nd rfl rfl (by decide) rfl rfl (pa_cons (pe_ix (ix_listK (K := K)) (pv 4) (pe_ok O_draw (hr.mono (by omega)) (pa_cons (pv 1) (pa_cons (pe_callB call_len_seq (by rfl) A.len boot_len (pa_cons (pv 4) pa_nil)) pa_nil))) (fun _ _ => rfl)) (pa_cons (pe_ok O_draw (hr.mono (by omega)) (pa_cons (pv 1) (pa_cons (pe_ix (ix_listK (K := K)) (pv 5) pe_int (fun _ _ => rfl)) pa_nil))) pa_nil)) (by rfl))
    (pss_one (ps_if (pw_or (pt_not (pt_val (pe_ok O_tell_right (hr.mono (by omega)) (pa_cons (pv 2) (pa_cons (pv 7) (pa_cons (pv 8) pa_nil)))))) (pw_or1 (pt_not (pt_val (pe_ok O_let_right (hr.mono (by omega)) (pa_cons (pv 2) (pa_cons (pv 7) (pa_cons (pv 8) pa_nil)))))))).pt (pss_one (ps_ret pe_bl)) pss_nil))))
    (pss_one (ps_ret pe_bl)))))))), ?_⟩
    have one : ∀ {n : Nat}, n ≤ 10 → n ≤ sizeLine := fun h => small_of (by omega)
    walk_at "go"
    refine ⟨a, ns, rfl, hs, fun H1 d l f1 dl1 => ?_⟩
    walk_at "go"
    refine ⟨d, l, 16, rfl, dl1, by decide, by decide, fun i0 H2 i0a i0b dl2 f2 => ?_⟩
    walk_at "go"
    refine ⟨d, l, 1 + i0, rfl, dl2, by omega, by omega, fun H3 pb vs b names dl3 f3 e3 bt3 am3 nl3 mk3 w3 d3 => ?_⟩
    clear f1 f2 f3 dl1 dl2 hs
    walk_at "go"
    with_reducible refine g_sortset ?_
    walk_at "go"
    refine ⟨pb, vs, b, rfl, e3, bt3, by omega, by omega, fun H4 SS n4 st4 hn4 f4 => ?_⟩
    walk_at "go"
    refine ⟨_, _, rfl, kvl st4.sd (stk_mk SS), ?_⟩
    obtain ⟨tmk, emk, pmk⟩ := st4.mkk
    have hmk : (look0 b).mks.length ≤ 2500 := by have := run_mks (ops b) sn0; unfold wB at w3; have h0 : sn0.mks.length = 0 := rfl; unfold look0; omega
    refine lc_list (xs := tmk.map V.ref) (fun D0 i H' => Fr [] H4 H' ∧ H' D0 = some (.lst (((look0 b).mks.take i).map V.str))) emk (fun D0 hD => ⟨Fr.new hD, upd_same⟩) (fun D0 i H' hD pp => pp.1.get0 emk) (fun D0 H' hD pp => ?_) (fun D0 i x H' hD hx pp => ?_)
    rotate_left
    · obtain ⟨fi, eD⟩ := pp
      obtain ⟨t, ht, rfl⟩ := map_at hx
      obtain ⟨z, hz, k1, g1, et⟩ := Paired.at pmk ht
      have hil : i < (look0 b).mks.length := (List.getElem?_eq_some_iff.mp hz).1
      walk_at "go"
      refine ⟨rfl, ?_⟩
      walk_at "go"
      refine i_t rfl ?_
      walk_at "go"
      refine g_ixT (fi.tup et) (v := .str z) (by rfl) ?_
      refine ⟨_, eD, small_lt (by rw [List.length_map, List.length_take]; omega), fi.mut hD, ?_⟩
      rw [upd_same, List.take_add_one, hz, List.map_append]
      rfl
    obtain ⟨fi, eD⟩ := pp
    rw [List.length_map, pmk.length, List.take_length] at eD
    have f34 := f4.trans fi
    walk_at "go"
    refine ⟨D0, (look0 b).mks, rfl, eD, by omega, fun pn ys npn hys => ?_⟩
    walk_at "go"
    refine ⟨one (by simp), fun p1 n1 => ?_⟩
    refine g_cat (keep n1 upd_same) upd_same (small_of (by simp; omega)) (fun nl nnl => ?_)
    walk_at "go"
    have enl : (upd (upd (upd H' pn (.lst (List.map V.str ys))) p1 (.lst [.str "q"])) nl (.lst (List.map V.str ys ++ [V.str "q"]))) nl = some (.lst ((ys ++ [("q" : Str)]).map V.str)) := by rw [upd_same, List.map_append]; rfl
    have f6 : Fr [] H3 _ := ((f34.trans (Fr.new (o := .lst (List.map V.str ys)) npn)).trans (Fr.new (o := .lst [.str "q"]) n1)).trans (Fr.new (o := .lst (List.map V.str ys ++ [V.str "q"])) nnl)
    have hzl : (ys ++ [("q" : Str)]).length ≤ 3000 ∧ 1 ≤ (ys ++ [("q" : Str)]).length := by rw [List.length_append]; simp; omega
    have dnl : nl ∉ [d, l] := dl_ne dl3 (by
      cases eh : H3 nl with
      | none => rfl
      | some o =>
        have f5 := ((f34.trans (Fr.new (o := .lst (List.map V.str ys)) npn)).trans (Fr.new (o := .lst [.str "q"]) n1)).get0 eh
        rw [f5] at nnl; cases nnl)
    generalize ys ++ [("q" : Str)] = zs at *
    generalize upd (upd (upd H' pn (.lst (List.map V.str ys))) p1 (.lst [.str "q"])) nl (.lst (List.map V.str ys ++ [V.str "q"])) = H6 at *
    refine ⟨one (by simp), fun cn ncn => ?_⟩
    walk_at "go"
    refine ⟨one (by simp), fun pe npe => ?_⟩
    walk_at "go"
    have f8 : Fr [] H3 _ := (f6.trans (Fr.new (o := .lst [.int ((0 : Nat) : Int)]) ncn)).trans (Fr.new (o := .tup []) npe)
    have dcn : cn ∉ [d, l] := dl_ne dl3 (f6.none ncn)
    refine ⟨pb, cn, vs, b, 0, -1, .tell (.num 0), .ref pe, rfl, f8.tup e3, bt3.up f8.tupLe, keep npe upd_same, fun z => absurd z (by decide), by omega, by omega, fun H9 pr us f9 e9 bt9 ec9 => ?_⟩
    rw [putB_count, Nat.zero_add] at ec9
    have f89 : Fr [] H3 H9 := fr_cut f9 f8 (fun a ha => by rw [List.mem_singleton.mp ha]; exact .inr (f6.none ncn))
    have enl9 : H9 nl = some (.lst (zs.map V.str)) := f9.get (keep npe (keep ncn enl)) (fun z => by
      have z := List.mem_singleton.mp z
      rw [z] at enl; rw [enl] at ncn; cases ncn)
    have dl9 := dl3.fr0 f89
    have e39 := f89.tup e3
    have bt39 := bt3.up f89.tupLe
    have hpl := pl_w b
    have hpl1 := pl_pos b
    clear f9 f8 f6 f34 fi f4 f89 enl npe ncn e3 bt3
    walk_at "go"
    refine ⟨8, rfl, by decide, by decide, ?_⟩
    refine for_rng (fun i σ' H' => ∃ (u6 u7 u8 : Option V), σ' = [some (.ref a), some (.ref d), some (.ref pb), none, some (.ref nl), some (.ref cn), u6, u7, u8] ∧ Fr [d, l] H9 H' ∧ DealAt H' d l) ⟨_, _, _, rfl, Fr.refl _ _, dl9⟩ (fun σ' H' pp => ?_) (fun i σ' H' hi pp => ?_)
    · obtain ⟨u6, u7, u8, rfl, f10, dl10⟩ := pp
      walk_at "go"
      exact k _
    · obtain ⟨u6, u7, u8, rfl, f10, dl10⟩ := pp
      walk_at "go"
      refine ⟨nl, _, rfl, .inl (.of (f10.get enl9 dnl)), ?_⟩
      walk_at "go"
      refine ⟨d, l, _, rfl, dl10, by rw [List.length_map]; omega, by rw [List.length_map]; omega, fun i1 H11 i1a i1b dl11 f11 => ?_⟩
      have f911 := f10.trans f11
      rw [List.length_map] at i1b
      obtain ⟨x, hx⟩ : ∃ x, atI (zs.map V.str) i1 = some (.str x) := by
        have h := atI_nat (xs := zs.map V.str) i1a (by rw [List.length_map]; exact i1b)
        rw [List.getElem_map] at h
        exact ⟨_, h⟩
      refine g_ixL (f911.get enl9 dnl) hx ?_
      walk_at "go"
      refine g_ixL (f911.get ec9 dcn) (by rfl) ?_
      walk_at "go"
      refine ⟨d, l, _, rfl, dl11, by omega, by omega, fun g H12 ga gb dl12 f12 => ?_⟩
      have f912 := f911.trans f12
      walk_at "go"
      refine ⟨pb, x, g, vs, b, rfl, f912.tup e39, bt39.up f912.tupLe, by omega, by omega, am3, ga, gb, fun H13 f13 => ?_⟩
      walk_at "go"
      refine i_f rfl ?_
      walk_at "go"
      have f913 := f912.trans f13.nil
      refine ⟨pb, x, g, vs, b, rfl, f913.tup e39, bt39.up f913.tupLe, by omega, by omega, am3, ga, gb, fun H14 f14 => ?_⟩
      walk_at "go"
      refine i_f rfl ?_
      walk_at "go"
      exact ⟨_, _, _, rfl, f913.trans f14.nil, (dl12.fr0 f13).fr0 f14⟩
end
end Fb
set_option Elab.async false
set_option linter.all false
set_option maxRecDepth 100000
set_option maxHeartbeats 0
/-! The head: the top run once, the facts that the walk asks, the end. -/
namespace FbHd
open PySem PySem.Spec PyProof.Rows L2 Fb
def dG (x : Str) (i : Nat) : He.DefD := ⟨(x, none), x, x, defArgs (topS i), defBody (topS i), defScope (topS i), [], []⟩
def dM (c x q : Str) (i j : Nat) : He.DefD := ⟨(c, some x), x, q, defArgs (inClass (topS i) j), defBody (inClass (topS i) j), defScope (inClass (topS i) j), [], []⟩
def fn : List He.DefD := [
  dM "NoProgram" "__init__" "NoProgram.__init__" 2 0, dG "atoms_of" 4, dG "uses_of" 5, dG "meant_by" 7,
  dM "Sight" "__init__" "Sight.__init__" 8 0, dM "Sight" "put_block" "Sight.put_block" 8 1, dM "Sight" "make" "Sight.make" 8 2, dM "Sight" "use" "Sight.use" 8 3,
  dM "Sight" "make_all" "Sight.make_all" 8 4, dM "Sight" "go_through" "Sight.go_through" 8 5, dG "look" 9, dG "meant" 10,
  dG "_law_deal" 12, dG "_law_draw" 13, dG "_law_words" 14, dG "_law_atom" 15, dG "_law_named" 16, dG "_law_takes" 17, dG "_law_simple" 18, dG "_law_fn" 19,
  dG "_law_loop" 20, dG "_law_piece" 21, dG "_law_block" 22, dG "_law_planted" 23, dG "_law_program" 24, dG "_law_alike" 25, dG "_law_used" 26, dG "_law_make" 27,
  dG "_law_ground" 28, dG "_law_lay_blocks" 29, dG "_law_lay" 30, dG "_law_laid" 31, dG "_law_few" 32, dG "_law_let_by" 33, dG "_law_put_in" 34, dG "_law_told" 35,
  dG "_law_tell_right" 36, dG "_law_let_right" 37, dG "law" 38]
def fa : List He.Fa := [
  .free "reversed", .free "str", .free "list", .free "zip", .free "len", .free "set", .free "tuple", .free "int", .free "isinstance", .free "range", .free "bool", .free "dict", .free "sorted", .free "max",
  .glo "atoms_of", .glo "uses_of", .glo "meant_by", .glo "look", .glo "meant", .glo "Sight", .glo "NoProgram", .glo "BindError",
  .glo "_law_deal", .glo "_law_draw", .glo "_law_words", .glo "_law_atom", .glo "_law_named", .glo "_law_takes", .glo "_law_simple", .glo "_law_fn",
  .glo "_law_loop", .glo "_law_piece", .glo "_law_block", .glo "_law_planted", .glo "_law_program", .glo "_law_alike", .glo "_law_used", .glo "_law_make",
  .glo "_law_ground", .glo "_law_lay_blocks", .glo "_law_lay", .glo "_law_laid", .glo "_law_few", .glo "_law_let_by", .glo "_law_put_in", .glo "_law_told",
  .glo "_law_tell_right", .glo "_law_let_right", .glo "law",
  .cls "Sight", .mkr "Sight", .meth "Sight" "put_block", .meth "Sight" "make", .meth "Sight" "use", .meth "Sight" "make_all", .meth "Sight" "go_through",
  .noat "Sight" "at", .noat "Sight" "many", .noat "Sight" "means", .noat "Sight" "left",
  .noat "NoProgram" "word", .noat "NoProgram" "at", .noat "NoProgram" "name"]
/-- what NoProgram must say -/
def aC (K : PySem.W.Frag) : Addr := He.ga K "NoProgram"
def aB (K : PySem.W.Frag) : Addr := He.ga K "BindError"
def clsB (K : PySem.W.Frag) (C : Addr) : Bool := match K.lookup C with
  | some ⟨.type "type", _, .cls cd, sl⟩ => (match cd.mro, sl.toList with
    | .ref C' :: bm, [_, _, _, _, some (.builtin n), _] => C' == C && (n == "ValueError.__new__" && (!cd.hasDel && (cd.hasDict && PySem.HandSPX.refsVE bm)))
    | _, _ => false)
  | _ => false
theorem clsB_ok {K : PySem.W.Frag} {C : Addr} (q : clsB K C = true) : ∃ nm qn N bs bm sn sub ab col dd k0 k1 k2 k3 k5, K.lookup C = some (excClassObj nm qn C N bs bm true sn sub ab col dd k0 k1 k2 k3 k5 "ValueError.__new__") ∧ PySem.HandSPX.refsVE bm = true := by
  unfold clsB at q
  split at q
  · rename_i dd cd sl ho
    split at q
    · rename_i C' bm k0 k1 k2 k3 n k5 hm hs
      simp only [Bool.and_eq_true, beq_iff_eq, Bool.not_eq_true'] at q
      obtain ⟨rfl, rfl, hdel, hdct, hr⟩ := q
      obtain ⟨nm, bs, mro, ns, qn, hd, sn, sub, ab, col, del⟩ := cd
      dsimp only at hm hdel hdct
      subst hm hdel hdct
      obtain ⟨l⟩ := sl
      simp only at hs
      subst hs
      exact ⟨nm, qn, ns, bs, bm, sn, sub, ab, col, dd, k0, k1, k2, k3, k5, ho, hr⟩
    · cases q
  · cases q
def fcB (K : PySem.W.Frag) (B : Addr) : Bool := match PySem.W.findCls K (.ref B) (.type "type") "__init__" with
  | some (.val (.builtin i)) => i == "ValueError.__init__"
  | _ => false
theorem fcB_ok {K : PySem.W.Frag} {B : Addr} (q : fcB K B = true) : PySem.W.findCls K (.ref B) (.type "type") "__init__" = some (.val (.builtin "ValueError.__init__")) := by
  unfold fcB at q
  split at q
  · rename_i i e
    rw [beq_iff_eq] at q
    rw [e, q]
  · cases q
def oB (a b : Option Bool) : Bool := decide (a = b)
def vB (a b : Option Value) : Bool := decide (a = b)
def chk (K : PySem.W.Frag) : List Bool := [
  clsB K (aC K),
  He.eqO (PySem.W.findIn K (.ref (aC K)) "__setattr__") (some (some (.builtin "object.__setattr__"))),
  oB (PySem.W.subIn K (.ref (aC K)) (.type "BaseException")) (some true),
  vB (PySem.W.typeIn K (.ref (aC K))) (some (.type "type")),
  PySem.W.keepIn K (.ref (aC K)),
  PySem.W.readsIn K (aB K) (.type "type"),
  fcB K (aB K),
  He.eqO (PySem.W.specialIn K (.ref (aB K)) "__getattribute__") (some (some (.builtin "type.__getattribute__"))),
  He.eqO (PySem.W.findIn K (.ref (aC K)) "__init__") (some (some (.ref (He.ma K (aC K) "__init__")))),
  vB (PySem.W.typeIn K (.ref (He.ma K (aC K) "__init__"))) (some (.type "function")),
  xfB K (aC K),
  He.eqO (PySem.W.findIn K (.ref (aC K)) "__class__") (some (some (.builtin "object.__class__"))),
  He.eqO (PySem.W.specialIn K (.builtin "object.__class__") "__get__") (some (some (.builtin "getset_descriptor.__get__"))),
  oB (PySem.W.takesIn K (.builtin "object.__class__")) (some true),
  oB (PySem.W.mroIn K (aC K) (.type "object")) (some true),
  oB (PySem.W.exmOne K (.ref (aC K)) (.ref (aB K))) (some true)]
def exB (K : PySem.W.Frag) : Bool := (chk K).all id
abbrev R : PySem.W.OpenRow := PySem.W.OpenLaw.row PySem.Challenge.rw_fourbind_k16_whole_what_is_in_sight
def frS (g : Addr → Option Obj) : PySem.W.Frag := He.frT g (cStatics :: He.asD g 5)
def obS (g : Addr → Option Obj) : He.AlT × Bool := (He.obsT fa fn [] (frS g), exB (frS g))
abbrev hk : PySem.W.Hook where
  α := He.AlT × Bool
  obs := fun s => obS s.heap.get?
  val := fun w => (He.valT fn [] w, true)
  says := fun w h => ∃ K : PySem.W.Frag, K.In h ∧ He.SaysT fa fn [] w K ∧ exB K = true
  of := fun _ _ e => ⟨_, He.frT_in, congrArg (fun z : He.AlT × Bool => z.1) e, congrArg (fun z : He.AlT × Bool => z.2) e⟩
  keeps := fun _ _ _ ⟨K, hK, c⟩ k => ⟨K, PySem.W.Frag.In.keeps hK k, c⟩
def ob (s : PySem.W.SharedT) : He.AlT × Bool := obS (HandSHeadRun.getT s)
theorem ob_eq (s : PySem.W.SharedT) : ob s = hk.obs s.abs := congrArg obS (funext (HandSHeadRun.getT_eq s))
def names : List PySem.Str := (["BindError", "NoProgram", "atoms_of", "uses_of", "meant_by", "Sight", "look", "meant", "_law_deal", "_law_draw", "_law_words", "_law_atom", "_law_named", "_law_takes", "_law_simple", "_law_fn", "_law_loop", "_law_piece", "_law_block", "_law_planted"] : List PySem.Str) ++
  (["_law_program", "_law_alike", "_law_used", "_law_make", "_law_ground", "_law_lay_blocks", "_law_lay", "_law_laid", "_law_few", "_law_let_by", "_law_put_in", "_law_told", "_law_tell_right", "_law_let_right"] : List PySem.Str)
theorem run (w : World) : HandSHeadRun.RunEq R (PySem.W.view R.prog [38]) hk ob 3000 names w := by
  intro os
  kernel_rfl
end FbHd
set_option Elab.async false
set_option linter.all false
set_option maxRecDepth 100000
set_option maxHeartbeats 0
namespace FbHd
open PySem PySem.Spec PyProof.Rows L2 Fb
theorem fdOf {K : PySem.W.Frag} {h : Heap} {mg : Str → Option Value} (X : K.In h) (G : h.Ns mainGlobals mg) {x : Str} {i : Nat} (d : ∃ fd, FunD K x x (defArgs (topS i)) (defBody (topS i)) (defScope (topS i)) [] [] (He.ga K x) fd) (c : (He.Fa.glo x).ok K = true) : Fd K mg x (topS i) := by
  obtain ⟨fd, F⟩ := d
  exact ⟨_, fd, F, He.glo_ok X G c⟩
theorem facts {w : World} {K : PySem.W.Frag} {h : Heap} {mg : Str → Option Value} (X : K.In h) (G : h.Ns mainGlobals mg) (ct : He.SaysT fa fn [] w K) (more : exB K = true) :
    All K mg ∧ Np K mg (aC K) (aB K) (He.ma K (aC K) "__init__") ∧ NpX K (aC K) (aB K) ∧ SiK K mg (He.ga K "Sight") ∧ SiM K (He.ga K "Sight") (He.ma K (He.ga K "Sight") "__init__") := by
  have D := ct.d
  have e : ∀ i : Nat, ∀ b : Bool, (chk K)[i]? = some b → b = true := fun i b hb => List.all_eq_true.mp more b (List.mem_of_getElem? hb)
  have c0 := e 0 _ rfl
  have c1 := e 1 _ rfl
  have c2 := e 2 _ rfl
  have c3 := e 3 _ rfl
  have c4 := e 4 _ rfl
  have c5 := e 5 _ rfl
  have c6 := e 6 _ rfl
  have c7 := e 7 _ rfl
  have c8 := e 8 _ rfl
  have c9 := e 9 _ rfl
  have c10 := e 10 _ rfl
  have c11 := e 11 _ rfl
  have c12 := e 12 _ rfl
  have c13 := e 13 _ rfl
  have c14 := e 14 _ rfl
  have c15 := e 15 _ rfl
  have sub : PySem.W.subIn K (.ref (aC K)) (.type "BaseException") = some true := of_decide_eq_true c2
  have XF : XfC K (aC K) := xfB_ok c10
  refine ⟨⟨He.free_ok X G (D.fact 4 (f := .free "len") rfl),
    He.free_ok X G (D.fact 9 (f := .free "range") rfl),
    He.free_ok X G (D.fact 13 (f := .free "max") rfl),
    He.free_ok X G (D.fact 7 (f := .free "int") rfl),
    He.free_ok X G (D.fact 6 (f := .free "tuple") rfl),
    He.free_ok X G (D.fact 12 (f := .free "sorted") rfl),
    He.free_ok X G (D.fact 2 (f := .free "list") rfl),
    He.free_ok X G (D.fact 0 (f := .free "reversed") rfl),
    He.free_ok X G (D.fact 3 (f := .free "zip") rfl),
    He.free_ok X G (D.fact 5 (f := .free "set") rfl),
    He.free_ok X G (D.fact 11 (f := .free "dict") rfl),
    He.free_ok X G (D.fact 8 (f := .free "isinstance") rfl),
    He.free_ok X G (D.fact 1 (f := .free "str") rfl),
    He.free_ok X G (D.fact 10 (f := .free "bool") rfl),
    fdOf X G (D.def_ 12 (d := dG "_law_deal" 12) rfl) (D.fact 22 (f := .glo "_law_deal") rfl),
    fdOf X G (D.def_ 13 (d := dG "_law_draw" 13) rfl) (D.fact 23 (f := .glo "_law_draw") rfl),
    fdOf X G (D.def_ 14 (d := dG "_law_words" 14) rfl) (D.fact 24 (f := .glo "_law_words") rfl),
    fdOf X G (D.def_ 15 (d := dG "_law_atom" 15) rfl) (D.fact 25 (f := .glo "_law_atom") rfl),
    fdOf X G (D.def_ 16 (d := dG "_law_named" 16) rfl) (D.fact 26 (f := .glo "_law_named") rfl),
    fdOf X G (D.def_ 17 (d := dG "_law_takes" 17) rfl) (D.fact 27 (f := .glo "_law_takes") rfl),
    fdOf X G (D.def_ 18 (d := dG "_law_simple" 18) rfl) (D.fact 28 (f := .glo "_law_simple") rfl),
    fdOf X G (D.def_ 19 (d := dG "_law_fn" 19) rfl) (D.fact 29 (f := .glo "_law_fn") rfl),
    fdOf X G (D.def_ 20 (d := dG "_law_loop" 20) rfl) (D.fact 30 (f := .glo "_law_loop") rfl),
    fdOf X G (D.def_ 21 (d := dG "_law_piece" 21) rfl) (D.fact 31 (f := .glo "_law_piece") rfl),
    fdOf X G (D.def_ 22 (d := dG "_law_block" 22) rfl) (D.fact 32 (f := .glo "_law_block") rfl),
    fdOf X G (D.def_ 23 (d := dG "_law_planted" 23) rfl) (D.fact 33 (f := .glo "_law_planted") rfl),
    fdOf X G (D.def_ 24 (d := dG "_law_program" 24) rfl) (D.fact 34 (f := .glo "_law_program") rfl),
    fdOf X G (D.def_ 25 (d := dG "_law_alike" 25) rfl) (D.fact 35 (f := .glo "_law_alike") rfl),
    fdOf X G (D.def_ 26 (d := dG "_law_used" 26) rfl) (D.fact 36 (f := .glo "_law_used") rfl),
    fdOf X G (D.def_ 27 (d := dG "_law_make" 27) rfl) (D.fact 37 (f := .glo "_law_make") rfl),
    fdOf X G (D.def_ 28 (d := dG "_law_ground" 28) rfl) (D.fact 38 (f := .glo "_law_ground") rfl),
    fdOf X G (D.def_ 29 (d := dG "_law_lay_blocks" 29) rfl) (D.fact 39 (f := .glo "_law_lay_blocks") rfl),
    fdOf X G (D.def_ 30 (d := dG "_law_lay" 30) rfl) (D.fact 40 (f := .glo "_law_lay") rfl),
    fdOf X G (D.def_ 31 (d := dG "_law_laid" 31) rfl) (D.fact 41 (f := .glo "_law_laid") rfl),
    fdOf X G (D.def_ 32 (d := dG "_law_few" 32) rfl) (D.fact 42 (f := .glo "_law_few") rfl),
    fdOf X G (D.def_ 33 (d := dG "_law_let_by" 33) rfl) (D.fact 43 (f := .glo "_law_let_by") rfl),
    fdOf X G (D.def_ 34 (d := dG "_law_put_in" 34) rfl) (D.fact 44 (f := .glo "_law_put_in") rfl),
    fdOf X G (D.def_ 35 (d := dG "_law_told" 35) rfl) (D.fact 45 (f := .glo "_law_told") rfl),
    fdOf X G (D.def_ 36 (d := dG "_law_tell_right" 36) rfl) (D.fact 46 (f := .glo "_law_tell_right") rfl),
    fdOf X G (D.def_ 37 (d := dG "_law_let_right" 37) rfl) (D.fact 47 (f := .glo "_law_let_right") rfl),
    fdOf X G (D.def_ 38 (d := dG "law" 38) rfl) (D.fact 48 (f := .glo "law") rfl),
    fdOf X G (D.def_ 1 (d := dG "atoms_of" 4) rfl) (D.fact 14 (f := .glo "atoms_of") rfl),
    fdOf X G (D.def_ 2 (d := dG "uses_of" 5) rfl) (D.fact 15 (f := .glo "uses_of") rfl),
    fdOf X G (D.def_ 3 (d := dG "meant_by" 7) rfl) (D.fact 16 (f := .glo "meant_by") rfl),
    fdOf X G (D.def_ 10 (d := dG "look" 9) rfl) (D.fact 17 (f := .glo "look") rfl),
    fdOf X G (D.def_ 11 (d := dG "meant" 10) rfl) (D.fact 18 (f := .glo "meant") rfl)⟩,
    ⟨He.glo_ok X G (D.fact 20 (f := .glo "NoProgram") rfl), He.glo_ok X G (D.fact 21 (f := .glo "BindError") rfl), ⟨clsB_ok c0, He.eqO_ok c1, sub, of_decide_eq_true c3, c4⟩, ⟨⟨_, c5, fcB_ok c6⟩, He.eqO_ok c7⟩, He.eqO_ok c8, of_decide_eq_true c9, D.def_ 0 (d := dM "NoProgram" "__init__" "NoProgram.__init__" 2 0) rfl, He.noat_ok (D.fact 60 (f := .noat "NoProgram" "word") rfl), He.noat_ok (D.fact 61 (f := .noat "NoProgram" "at") rfl), He.noat_ok (D.fact 62 (f := .noat "NoProgram" "name") rfl)⟩,
    ⟨⟨XF.ga, XF.gg, sub, XF.hdC, He.eqO_ok c11, He.eqO_ok c12, of_decide_eq_true c13, of_decide_eq_true c14⟩, XF, of_decide_eq_true c15⟩,
    ⟨He.glo_ok X G (D.fact 19 (f := .glo "Sight") rfl), He.cls_ok (D.fact 49 (f := .cls "Sight") rfl), He.noat_ok (D.fact 56 (f := .noat "Sight" "at") rfl), He.noat_ok (D.fact 57 (f := .noat "Sight" "many") rfl), He.noat_ok (D.fact 58 (f := .noat "Sight" "means") rfl), He.noat_ok (D.fact 59 (f := .noat "Sight" "left") rfl),
      ⟨_, He.meth_ok (D.fact 51 (f := .meth "Sight" "put_block") rfl), D.def_ 5 (d := dM "Sight" "put_block" "Sight.put_block" 8 1) rfl⟩,
      ⟨_, He.meth_ok (D.fact 52 (f := .meth "Sight" "make") rfl), D.def_ 6 (d := dM "Sight" "make" "Sight.make" 8 2) rfl⟩,
      ⟨_, He.meth_ok (D.fact 53 (f := .meth "Sight" "use") rfl), D.def_ 7 (d := dM "Sight" "use" "Sight.use" 8 3) rfl⟩,
      ⟨_, He.meth_ok (D.fact 54 (f := .meth "Sight" "make_all") rfl), D.def_ 8 (d := dM "Sight" "make_all" "Sight.make_all" 8 4) rfl⟩,
      ⟨_, He.meth_ok (D.fact 55 (f := .meth "Sight" "go_through") rfl), D.def_ 9 (d := dM "Sight" "go_through" "Sight.go_through" 8 5) rfl⟩⟩,
    ⟨He.mkr_ok (D.fact 50 (f := .mkr "Sight") rfl), D.def_ 4 (d := dM "Sight" "__init__" "Sight.__init__" 8 0) rfl⟩⟩
end FbHd
open PySem PySem.W PySem.Calls PyProof.Rows
theorem PySem.Challenge.cw_fourbind_k16_whole_what_is_in_sight_holds : PySem.Challenge.rw_fourbind_k16_whole_what_is_in_sight.Holds := by
  w_on; o_law
  refine HandSHeadRun.head_any (r := OpenLaw.row PySem.Challenge.rw_fourbind_k16_whole_what_is_in_sight) (q := view (OpenLaw.row PySem.Challenge.rw_fourbind_k16_whole_what_is_in_sight).prog [38]) (H := FbHd.hk) (ob := FbHd.ob) (M := 3000) (loose := FbHd.names) (d := HandSHeadRun.topDef (OpenLaw.row PySem.Challenge.rw_fourbind_k16_whole_what_is_in_sight).prog 38) (kwd := []) FbHd.ob_eq
    (by kernel_rfl) (fun s => by kernel_rfl) FbHd.run (by kernel_rfl) (by kernel_rfl) (by kernel_rfl) (by rfl) (by first | assumption | decide +kernel) (by decide +kernel) ⟨rfl, rfl, rfl, rfl, rfl, by decide +kernel⟩ ?hw ?hc
  case hw => w_witness2
  case hc =>
    refine L2.walk_ofE (l := PySem.Challenge.rw_fourbind_k16_whole_what_is_in_sight) (n := 63) (k := 25) (x := "_law_script") (CX := L2.CX0) rfl (by decide) (by kernel_rfl) ⟨rfl, by decide, by decide⟩ ?F (fun _ _ _ _ z => z)
    intro w mg fa h Y G hmg0
    obtain ⟨K, KX, c, cm⟩ := Y
    have hmg : mg ("law" : PySem.Str) = some (.ref fa) := by
      have e : (HandSHeadRun.topDef (OpenLaw.row PySem.Challenge.rw_fourbind_k16_whole_what_is_in_sight).prog 38).name = ("law" : PySem.Str) := by kernel_rfl
      rw [← e]
      exact hmg0
    obtain ⟨A, N, NX, S, M⟩ := FbHd.facts KX G c cm
    obtain ⟨fd, F⟩ := c.d.def_ 38 (d := FbHd.dG "law" 38) rfl
    have e0 := hmg.symm.trans (He.glo_ok KX G (c.d.fact 48 (f := .glo "law") rfl))
    cases e0
    have b := L2.FunD.bindsA (ps := ["_law_script"]) F fun _ _ _ _ _ _ us hl => match us, hl with | [_], _ => rfl
    exact ⟨K, fd, Fb.spLaw K, KX, fun s v => b s [v] rfl, fun H a ns hl _ hS => ⟨a, ns, rfl, hS, fun _ => rfl⟩, fun base _ _ => Fb.fn_law F A N NX S M⟩
