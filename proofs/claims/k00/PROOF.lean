import PyProof.Rows.All
import Wide.All
import OpenK.AllK
import Wide.FinOn
import HandS.ForMost
import HandS.Defaults
import HandS.Codes
import HandS.More
import HandS.Star
import HandS.IterVal
import HandS.IsInst
import HandS.Wide
import HandS.TupAny
import KE.KExcInit
import HandS.ExcValue
import HandS.ExcInit
import HandS.ExcIs
import HandS.ExcField
import HandS.Ends
import HandS.HeadEnd
import HandS.RaiseMore
import HandS.Steps
import HandS.Text
import HandS.Iter
import HandS.Zip
import PyProof.ReprRoads
import PyProof.ReprLen
import KE.KStateDown
import HandS.Head0
import HandS.Head1
import HandS.Head2
import HandS.HeadHook1
import HandS.HeadHook2
import HandS.HeadNt
import PySem.Challenge.RW_loopgrowth_k00_errors
set_option Elab.async false
set_option linter.all false
set_option maxRecDepth 100000
set_option maxHeartbeats 4000000
/-! Rd: readings of the hand layer answered from the head, one lemma a reading. -/
namespace Rd
open PySem L2
/-! ### named readings of built-in calls -/
def rInt1 : List V → Hp → VK → Prop := fun xs H Q => (∃ i, xs = [.int i] ∧ Q (.int i) H) ∨ ∃ k, xs = [.bl k] ∧ Q (.int (if k then 1 else 0)) H
def rAbs : List V → Hp → VK → Prop := fun xs H Q => ∃ i, xs = [.int i] ∧ Q (.int (if i < 0 then -i else i)) H
def rMax2 : List V → Hp → VK → Prop := fun xs H Q => ∃ i j, xs = [.int i, .int j] ∧ Q (.int (if j > i then j else i)) H
def rMin2 : List V → Hp → VK → Prop := fun xs H Q => ∃ i j, xs = [.int i, .int j] ∧ Q (.int (if j < i then j else i)) H
def rLen (K : PySem.W.Frag) : List V → Hp → VK → Prop := fun xs H Q => ∃ x n, xs = [x] ∧ LenV K x H n ∧ Q (.int n) H
section
variable {X : Cx}
theorem c_int : CallR X (.type "int") rInt1 := call_int1
theorem c_abs : CallR X (.builtin "abs") rAbs := call_abs
theorem c_max2 (hc : X.calm = true) : CallR X (.builtin "max") rMax2 := call_max2 hc
theorem c_min2 (hc : X.calm = true) : CallR X (.builtin "min") rMin2 := call_min2 hc
theorem c_len : CallR X (.builtin "len") (rLen X.K) := call_len
/-- ** of great ints -/
theorem op_powW : OpR X (binaryOp .Pow) (rI (fun i j => 0 ≤ j ∧ (Builtin.Int.intBits i : Int) * j ≤ 2 ^ 27) fun i j => .int (i ^ j.toNat)) :=
  opI fun _ _ _ _ _ _ _ hc q => PyProof.Rows.pow_int hc.1 hc.2 q
end
theorem cxK {CX : CXT} {P : Program} {w : World} {K : PySem.W.Frag} {mg : Str → Option Value} {base : Heap} {N : List Str} {qual : Str} {scope : Scope} {f : Addr} {cd : Value} {A : Around} {outer : List Env} {s : Shared} {H : Hp} {E : XK} :
  (cxOf CX P w K mg base N qual scope f cd A outer s H E).K = K := rfl
theorem noxK {X : Cx} : X.nox.K = X.K := rfl
/-! ### expressions, from the head -/
section
variable {K : PySem.W.Frag} {σ : L2.St} {H : Hp} {Q : VK} {QB : Bool → Hp → Prop} {QA : List V → Hp → Prop} {i : Nat} {v x y : V} {ta tb tc te : TE} {r : R2} {t u tA tB' : TT} {tr : TA} {D : Ends} {s1 s2 : TS} {g : TG}
theorem rd_var (h : σ[i]? = some (some v)) (q : Q v H) : tVar i σ H Q := ⟨v, h, q⟩
theorem rd_c (q : Q v H) : tC v σ H Q := q
theorem rd_op (q : ta σ H fun x H1 => tb σ H1 fun y H2 => r x y H2 Q) : tOp r ta tb σ H Q := q
theorem rd_un {r : V → Hp → VK → Prop} (q : ta σ H fun x H1 => r x H1 Q) : tUn r ta σ H Q := q
theorem rd_I0 {g : Int → Int → V} {a b : Int} (q : Q (g a b) H) : rI0 g (.int a) (.int b) H Q := ⟨a, b, rfl, rfl, q⟩
theorem rd_I {C : Int → Int → Prop} {g : Int → Int → V} {a b : Int} (c : C a b) (q : Q (g a b) H) : rI C g (.int a) (.int b) H Q := ⟨a, b, rfl, rfl, c, q⟩
theorem rd_U {g : Int → V} {a : Int} (q : Q (g a) H) : rU g (.int a) H Q := ⟨a, rfl, q⟩
theorem rd_eq (h : scal x y = true) (q : Q (.bl (decide (x = y))) H) : rEq x y H Q := ⟨h, q⟩
theorem rd_ne (h : scal x y = true) (q : Q (.bl (!decide (x = y))) H) : rNe x y H Q := ⟨h, q⟩
theorem rd_ixL {p : Addr} {xs : List V} {j : Int} (h : SqL K H p xs) (ha : atI xs j = some v) (q : Q v H) : rIxL K (.ref p) (.int j) H Q := ⟨p, xs, j, v, rfl, rfl, h, ha, q⟩
theorem rd_ixT {p : Addr} {xs : List V} {j : Int} (h : SqT K H p xs) (ha : atI xs j = some v) (q : Q v H) : rIxT K (.ref p) (.int j) H Q := ⟨p, xs, j, v, rfl, rfl, h, ha, q⟩
theorem at0 {α : Type} {v0 : α} {r : List α} : atI (v0 :: r) 0 = some v0 := atI_nat (j := 0) rfl
theorem at1 {α : Type} {v0 v1 : α} {r : List α} : atI (v0 :: v1 :: r) 1 = some v1 := atI_nat (j := 1) rfl
theorem at2 {α : Type} {v0 v1 v2 : α} {r : List α} : atI (v0 :: v1 :: v2 :: r) 2 = some v2 := atI_nat (j := 2) rfl
theorem at3 {α : Type} {v0 v1 v2 v3 : α} {r : List α} : atI (v0 :: v1 :: v2 :: v3 :: r) 3 = some v3 := atI_nat (j := 3) rfl
theorem at4 {α : Type} {v0 v1 v2 v3 v4 : α} {r : List α} : atI (v0 :: v1 :: v2 :: v3 :: v4 :: r) 4 = some v4 := atI_nat (j := 4) rfl
theorem ixN_nat {n j : Nat} (h : j < n) : ixN n (j : Int) = some j := by
  unfold ixN
  rw [if_pos (by omega), if_pos (by omega)]; simp
theorem rd_sub {to ti : TE} {t : TSet} {QS : L2.St → Hp → Prop} (q : to σ H fun o H1 => ti σ H1 fun i H2 => t o i v H2 fun H3 => QS σ H3) : gSub to ti t v σ H QS := q
theorem rd_setL {p : Addr} {xs : List V} {k : Nat} {QH : Hp → Prop} (h : H p = some (.lst xs)) (hk : k < xs.length) (q : QH (upd H p (.lst (xs.set k v)))) : rSetL (.ref p) (.int (k : Nat)) v H QH := ⟨p, xs, k, k, rfl, rfl, h, ixN_nat hk, q⟩
theorem rd_cb {r : List V → Hp → VK → Prop} (q : tr σ H fun vs H1 => r vs H1 Q) : tCB r tr σ H Q := q
theorem rd_nil (q : QA [] H) : tNil σ H QA := q
theorem rd_cons (q : ta σ H fun x H1 => tr σ H1 fun xs H2 => QA (x :: xs) H2) : tCons ta tr σ H QA := q
theorem rd_int {a : Int} (q : Q (.int a) H) : rInt1 [.int a] H Q := .inl ⟨a, rfl, q⟩
theorem rd_intB {b : Bool} (q : Q (.int (if b then 1 else 0)) H) : rInt1 [.bl b] H Q := .inr ⟨b, rfl, q⟩
theorem rd_abs {a : Int} (q : Q (.int (if a < 0 then -a else a)) H) : rAbs [.int a] H Q := ⟨a, rfl, q⟩
theorem rd_max2 {a b : Int} (q : Q (.int (if b > a then b else a)) H) : rMax2 [.int a, .int b] H Q := ⟨a, b, rfl, q⟩
theorem rd_min2 {a b : Int} (q : Q (.int (if b < a then b else a)) H) : rMin2 [.int a, .int b] H Q := ⟨a, b, rfl, q⟩
theorem rd_lenL {p : Addr} {xs : List V} (h : SqL K H p xs) (q : Q (.int (xs.length : Nat)) H) : rLen K [.ref p] H Q := ⟨_, _, rfl, .inl ⟨xs, h, rfl⟩, q⟩
theorem rd_lenT {p : Addr} {xs : List V} (h : SqT K H p xs) (q : Q (.int (xs.length : Nat)) H) : rLen K [.ref p] H Q := ⟨_, _, rfl, .inr ⟨xs, h, rfl⟩, q⟩
theorem rd_call {sp : Sp} {dvs : List V} {E : XK} (q : tr σ H fun vs H1 => sp (vs ++ dvs) H1 Q E) : tCall sp dvs E tr σ H Q := q
theorem rd_ifE (q : t σ H fun c H1 => if c = true then ta σ H1 Q else tb σ H1 Q) : tIf t ta tb σ H Q := q
/-! tests -/
theorem rd_test (q : te σ H fun x H' => ∃ k, x = .bl k ∧ QB k H') : tTest te σ H QB := q
theorem rd_tB (q : te σ H fun x H' => ∃ k, x = .bl k ∧ QB k H') : tB te σ H QB := q
theorem rd_bl {b : Bool} (q : QB b H) : ∃ k, V.bl b = .bl k ∧ QB k H := ⟨b, rfl, q⟩
theorem rd_blV {b : Bool} {P : Bool → Prop} (q : P b) : ∃ k, V.bl b = .bl k ∧ P k := ⟨b, rfl, q⟩
theorem rd_and (q : t σ H fun c H1 => if c = true then u σ H1 QB else QB false H1) : tAnd t u σ H QB := q
theorem rd_or (q : t σ H fun c H1 => if c = true then QB true H1 else u σ H1 QB) : tOr t u σ H QB := q
theorem rd_not (q : t σ H fun c H1 => QB (!c) H1) : tNot t σ H QB := q
theorem rd_andV (q : ta σ H fun x H1 => ∃ c, x = .bl c ∧ if c = true then tb σ H1 Q else Q (.bl false) H1) : tAndV ta tb σ H Q := q
theorem rd_orV (q : ta σ H fun x H1 => ∃ c, x = .bl c ∧ if c = true then Q (.bl true) H1 else tb σ H1 Q) : tOrV ta tb σ H Q := q
theorem rd_notV (q : ta σ H fun x H1 => ∃ c, x = .bl c ∧ Q (.bl (!c)) H1) : tNotV ta σ H Q := q
/-! statements -/
theorem rd_seq (q : s1 { nx := s2 D, rt := D.rt, bk := D.bk, ct := D.ct } σ H) : tSeq s1 s2 D σ H := q
theorem rd_asg (q : te σ H fun x H1 => g x σ H1 D.nx) : tAsg te g D σ H := q
theorem rd_name0 {QS : L2.St → Hp → Prop} {z : Option V} (q : QS (some v :: σ) H) : gName 0 v (z :: σ) H QS := q
theorem rd_nameS {QS : L2.St → Hp → Prop} {z : Option V} (q : gName i v σ H fun σ' H' => QS (z :: σ') H') : gName (i + 1) v (z :: σ) H QS := q
theorem rd_next (q : D.nx σ H) : tNext D σ H := q
theorem rd_ret (q : te σ H D.rt) : tRet te D σ H := q
theorem rd_drop (q : te σ H fun _ H1 => D.nx σ H1) : tDrop te D σ H := q
theorem rd_ifS (q : t σ H fun b H1 => if b = true then s1 D σ H1 else s2 D σ H1) : tIfS t s1 s2 D σ H := q
end
/-! ### promises -/
theorem rd_start' {g : TG} {x : V} {QS : L2.St → Hp → Prop} {σ : L2.St} {H : Hp} (σ' : L2.St) (e : σ = σ') (h : g x σ' H QS) : g x σ H QS := by subst e; exact h
theorem rd_start {t : TS} {D : Ends} {σ : L2.St} {H : Hp} (σ' : L2.St) (e : σ = σ') (h : t D σ' H) : t D σ H := by subst e; exact h
/-- a promise by its arguments: a stands for what the arguments tell -/
def mkSp {α : Type} (args : α → List V) (pre : α → Hp → VK → XK → Prop) : Sp := fun vs H Q E => ∃ a : α, vs = args a ∧ pre a H Q E
theorem rd_sp {α : Type} {args : α → List V} {pre : α → Hp → VK → XK → Prop} {vs : List V} {H : Hp} {Q : VK} {E : XK} (a : α) (e : vs = args a) (h : pre a H Q E) : mkSp args pre vs H Q E := ⟨a, e, h⟩
/-- room for k calls, where no repr is under way -/
structure RoomG (k : Nat) (A : Around) : Prop extends Room k A where
  gd : A.guards = some []
theorem RoomG.mono {j k : Nat} {A : Around} (r : RoomG k A) (h : j ≤ k) : RoomG j A := ⟨r.toRoom.mono h, r.gd⟩
theorem RoomG.deeper {k : Nat} {A : Around} (r : RoomG (k + 1) A) (env : Env) : RoomG k (A.deeper env) := ⟨r.toRoom.deeper env, r.gd⟩
theorem RoomG.make {k : Nat} {A : Around} (r : RoomG (k + 1) A) (C : Addr) (us : List Value) (kw : List (Str × Value)) : RoomG k (A.under (.builtin "type.__call__" ⟨.ref C :: us, kw⟩)) := by
  refine ⟨r.toRoom.make C us kw, ?_⟩
  have e := r.gd
  simpa [Around.under, Code.guards, Code.isGuard, guardIds, pushGuards] using e
/-- a promise by positional values -/
def FnG (P : Program) (w : World) (K : PySem.W.Frag) (mg : Str → Option Value) (base : Heap) (CX : CXT) (k : Nat) (f : Addr) (sp : Sp) : Prop :=
  ∀ (A : Around) (outer : List Env) (s : Shared) (H : Hp) (us : List Value) (vs : List V) (Q : VK) (E : XK), RoomG k A → Env0 P w K mg base A outer s H → Vals vs us → sp vs H Q E →
    codeAny (model P w) A (.call (.ref f) ⟨us, []⟩) (CR CX outer P w H s Q E) s
/-- the def st at f -/
def HasAt (K : PySem.W.Frag) (f : Addr) (x qual : Str) (st : Stmt) : Prop := ∃ fd, FunD K x qual (defArgs st) (defBody st) (defScope st) [] [] f fd
/-- the module's def x, at any place -/
def Has (K : PySem.W.Frag) (mg : Str → Option Value) (x : Str) (st : Stmt) : Prop := ∃ f, HasAt K f x x st ∧ mg x = some (.ref f) ∧ PySem.W.keepIn K (.ref f) = true
/-- a def's promise, by the module's name x -/
def Fn (P : Program) (w : World) (K : PySem.W.Frag) (mg : Str → Option Value) (base : Heap) (CX : CXT) (k : Nat) (x : Str) (sp : Sp) : Prop :=
  ∃ f, FnG P w K mg base CX k f sp ∧ mg x = some (.ref f) ∧ PySem.W.keepIn K (.ref f) = true
section
variable {P : Program} {w : World} {K : PySem.W.Frag} {mg : Str → Option Value} {base : Heap} {CX : CXT} {k : Nat} {f : Addr} {x qual : Str} {st : Stmt} {N ps : List Str} {sp : Sp}
theorem FnG.mono {j : Nat} (F : FnG P w K mg base CX j f sp) (h : j ≤ k) : FnG P w K mg base CX k f sp := fun A outer s H us vs Q E hr => F A outer s H us vs Q E (hr.mono h)
theorem FnG.imp {sp' : Sp} (F : FnG P w K mg base CX k f sp) (h : ∀ vs H Q E, sp' vs H Q E → sp vs H Q E) : FnG P w K mg base CX k f sp' := fun A outer s H us vs Q E hr e0 r hs => F A outer s H us vs Q E hr e0 r (h _ _ _ _ hs)
/-- a def that is called by position and without defaults -/
theorem HasAt.fnX {α : Type} {args : α → List V} {pre : α → Hp → VK → XK → Prop} (h : HasAt K f x qual st) (S : FnScope N ps (defScope st)) (hl : ∀ a, (args a).length = ps.length)
    (hb : ∀ (kV doc pm : Value) (an : Option Addr) (cdv ct : Value) (us : List Value), us.length = ps.length → bindArgs (PySem.W.fnOf x qual (defArgs st) (defBody st) (defScope st) .none kV doc pm an cdv ct) ⟨us, []⟩ = pure (ps.zip us))
    (body : ∀ (cdv : Value) (A : Around) (outer : List Env) (s : Shared) (H : Hp) (Q : VK) (E : XK) (a : α), RoomG k (A.deeper (PyProof.Rows.envOfC qual (defScope st) s.heap.objs.size f cdv)) → pre a H Q E →
      ∃ t, PSs (cxOf CX P w K mg base N qual (defScope st) f cdv A outer s H E) (defBody st) t ∧ t { nx := fun _ H' => Q .non H', rt := Q } (start N (args a)) H) :
    FnG P w K mg base CX (k + 1) f (mkSp args pre) := by
  obtain ⟨fd, F⟩ := h
  obtain ⟨oc, od, dV, kV, doc, pm, an, cdv, ct, osl, e, lk, hcd, hD, hK⟩ := F.ex
  subst e
  rcases hD with ⟨_, e⟩ | ⟨e, _⟩
  · subst e
    intro A outer s H us vs Q E hr e0 r hsp
    obtain ⟨a, rfl, ha⟩ := hsp
    have hu : us.length = ps.length := by rw [← Vals.length r]; exact hl a
    refine StX.run_bnd lk hcd S hr.toRoom e0 (G := fun xs H2 => xs = args a ∧ H2 = H) (fun A' Ex Q' hq => ?_) fun s2 H2 xs hx hr' => ?_
    · rw [hb kV doc pm an cdv ct us hu]
      exact PySem.wpAny_pure (hq s H _ us e0 Un.refl rfl (fun _ _ z => z) r (hl a) ⟨rfl, rfl⟩)
    · obtain ⟨rfl, rfl⟩ := hx
      exact body cdv A outer s2 H2 Q E a ⟨hr', hr.gd⟩ ha
  · exact absurd rfl e
/-- .. which lets nothing out -/
theorem HasAt.fn {α : Type} {args : α → List V} {pre : α → Hp → VK → XK → Prop} (h : HasAt K f x qual st) (S : FnScope N ps (defScope st)) (hl : ∀ a, (args a).length = ps.length)
    (hb : ∀ (kV doc pm : Value) (an : Option Addr) (cdv ct : Value) (us : List Value), us.length = ps.length → bindArgs (PySem.W.fnOf x qual (defArgs st) (defBody st) (defScope st) .none kV doc pm an cdv ct) ⟨us, []⟩ = pure (ps.zip us))
    (body : ∀ (cdv : Value) (A : Around) (outer : List Env) (s : Shared) (H : Hp) (Q : VK) (E : XK) (a : α), RoomG k (A.deeper (PyProof.Rows.envOfC qual (defScope st) s.heap.objs.size f cdv)) → pre a H Q E →
      ∃ t, PSs (cxOf CX0 P w K mg base N qual (defScope st) f cdv A outer s H E).nox (defBody st) t ∧ t { nx := fun _ H' => Q .non H', rt := Q } (start N (args a)) H) :
    FnG P w K mg base CX0 (k + 1) f (mkSp args pre) := by
  refine HasAt.fnX h S hl hb fun cdv A outer s H Q E a hr ha => ?_
  obtain ⟨t, h1, h2⟩ := body cdv A outer s H Q E a hr ha
  exact ⟨t, h1.nox, h2⟩
theorem Has.fnX {α : Type} {args : α → List V} {pre : α → Hp → VK → XK → Prop} (h : Has K mg x st) (S : FnScope N ps (defScope st)) (hl : ∀ a, (args a).length = ps.length)
    (hb : ∀ (kV doc pm : Value) (an : Option Addr) (cdv ct : Value) (us : List Value), us.length = ps.length → bindArgs (PySem.W.fnOf x x (defArgs st) (defBody st) (defScope st) .none kV doc pm an cdv ct) ⟨us, []⟩ = pure (ps.zip us))
    (body : ∀ (f : Addr) (cdv : Value) (A : Around) (outer : List Env) (s : Shared) (H : Hp) (Q : VK) (E : XK) (a : α), RoomG k (A.deeper (PyProof.Rows.envOfC x (defScope st) s.heap.objs.size f cdv)) → pre a H Q E →
      ∃ t, PSs (cxOf CX P w K mg base N x (defScope st) f cdv A outer s H E) (defBody st) t ∧ t { nx := fun _ H' => Q .non H', rt := Q } (start N (args a)) H) :
    Fn P w K mg base CX (k + 1) x (mkSp args pre) := by
  obtain ⟨f, F, hm, hk⟩ := h
  exact ⟨f, F.fnX S hl hb (body f), hm, hk⟩
theorem Has.fn {α : Type} {args : α → List V} {pre : α → Hp → VK → XK → Prop} (h : Has K mg x st) (S : FnScope N ps (defScope st)) (hl : ∀ a, (args a).length = ps.length)
    (hb : ∀ (kV doc pm : Value) (an : Option Addr) (cdv ct : Value) (us : List Value), us.length = ps.length → bindArgs (PySem.W.fnOf x x (defArgs st) (defBody st) (defScope st) .none kV doc pm an cdv ct) ⟨us, []⟩ = pure (ps.zip us))
    (body : ∀ (f : Addr) (cdv : Value) (A : Around) (outer : List Env) (s : Shared) (H : Hp) (Q : VK) (E : XK) (a : α), RoomG k (A.deeper (PyProof.Rows.envOfC x (defScope st) s.heap.objs.size f cdv)) → pre a H Q E →
      ∃ t, PSs (cxOf CX0 P w K mg base N x (defScope st) f cdv A outer s H E).nox (defBody st) t ∧ t { nx := fun _ H' => Q .non H', rt := Q } (start N (args a)) H) :
    Fn P w K mg base CX0 (k + 1) x (mkSp args pre) := by
  obtain ⟨f, F, hm, hk⟩ := h
  exact ⟨f, F.fn S hl hb (body f), hm, hk⟩
end
section
variable {X : Cx} {CX : CXT} {k : Nat} {x : Str} {sp : Sp} {E : XK} {p pos : Pos} {e : Expr} {es : List Expr} {t : TA}
/-- the callee runs -/
theorem run_fnG {pins : List (Addr × Obj)} {σ : L2.St} {H : Hp} {s : Shared} {f : Addr} {Q : VK} {us : List Value} {vs : List V} (F : FnG X.prog X.w X.K X.mg X.base CX k f sp) (hr : RoomG k X.A) (hx : Passes CX X E) (I : Inv X pins σ H s) (r : Vals vs us) (h : sp vs H Q E) :
    codeAny (model X.prog X.w) X.A (.call (.ref f) ⟨us, []⟩) (fun r s' => match r with | .ok (.ret v) => EP X pins σ Q v s' | .ok _ => False | .error e => X.xe e s') s := by
  refine codeAny_mono (F X.A X.stack s H us vs Q E hr I.env0 r h) fun r s' hq => ?_
  match r, hq with
  | .error e, hq => exact hx pins σ H s e s' I hq
  | .ok (.ret u), hq => exact I.after hq
  | .ok .next, hq => exact False.elim hq
  | .ok .brk, hq => exact False.elim hq
  | .ok .cont, hq => exact False.elim hq
/-- f(..) by position -/
def tFn (sp : Sp) (E : XK) (t : TA) : TE := fun σ H Q => t σ H fun vs H1 => sp vs H1 Q E
theorem pe_fnX (h : Fn X.prog X.w X.K X.mg X.base CX k x sp) (hr : RoomG k X.A) (hg : Gl X x) (hx : Passes CX X E) (ha : PA X (e :: es) t) (hdb : (x == ("__debug__" : Str)) = false := by decide) (he : starEach (e :: es) X.env = (false, eval e X.env) :: starEach es X.env := by rfl)
    (hpl : (backTo pos (starEach es X.env)).any (·.1) = false := by rfl) : PE X (.Call (.Name x p) (e :: es) [] pos) (tFn sp E t) := by
  obtain ⟨f, F, hm, hk⟩ := h
  refine ⟨fun pins s σ H Q I h => ?_⟩
  refine wpAny_Call_Name_kw (ld_glob I hg hm ?_ hdb)
  refine PySem.W.callWith_K (h₀ := X.base) I.ok.mod.kin hk (thn (ha.run pos pins s σ H _ I h) fun us s1 ⟨vs, H1, I1, r, q⟩ => ⟨I1.kIn, ?_⟩) he hpl
  exact wpAny_call (run_fnG F hr hx I1 r q)
theorem pe_fnX0 (h : Fn X.prog X.w X.K X.mg X.base CX k x sp) (hr : RoomG k X.A) (hg : Gl X x) (hx : Passes CX X E) (hdb : (x == ("__debug__" : Str)) = false := by decide) : PE X (.Call (.Name x p) [] [] pos) (tFn sp E tNil) := by
  obtain ⟨f, F, hm, hk⟩ := h
  refine ⟨fun pins s σ H Q I h => ?_⟩
  refine wpAny_Call_Name_kw (ld_glob I hg hm ?_ hdb)
  exact PySem.W.callWith_K0 I.kIn hk (wpAny_call (run_fnG (us := []) F hr hx I .nil h))
theorem pe_fn (h : Fn X.prog X.w X.K X.mg X.base CX0 k x sp) (hr : RoomG k X.A) (hg : Gl X x) (ha : PA X (e :: es) t) (hdb : (x == ("__debug__" : Str)) = false := by decide) (he : starEach (e :: es) X.env = (false, eval e X.env) :: starEach es X.env := by rfl)
    (hpl : (backTo pos (starEach es X.env)).any (·.1) = false := by rfl) : PE X (.Call (.Name x p) (e :: es) [] pos) (tFn sp E0 t) := pe_fnX h hr hg pass0 ha hdb he hpl
theorem pe_fn0 (h : Fn X.prog X.w X.K X.mg X.base CX0 k x sp) (hr : RoomG k X.A) (hg : Gl X x) (hdb : (x == ("__debug__" : Str)) = false := by decide) : PE X (.Call (.Name x p) [] [] pos) (tFn sp E0 tNil) := pe_fnX0 h hr hg pass0 hdb
theorem rd_fn {σ : L2.St} {H : Hp} {Q : VK} (q : t σ H fun vs H1 => sp vs H1 Q E) : tFn sp E t σ H Q := q
end
/-! ### heaps -/
theorem same_new {H : Hp} {p : Addr} {o : HO} (h : H p = none) : Same H (upd H p o) := fun b u e => by
  rw [upd_ne (ne_of_none e h)]
  exact e
/-- a new object, told by what it is -/
theorem new_of {H : Hp} {o : HO} {Q : V → Hp → Prop} (h : ∀ p H', H p = none → Same H H' → H' p = some o → Q (.ref p) H') : ∀ p, H p = none → Q (.ref p) (upd H p o) := fun p hp => h p _ hp (same_new hp) upd_same
theorem rd_new {n : Nat} {H : Hp} {o : HO} {Q : V → Hp → Prop} (hn : n ≤ sizeLine) (h : ∀ p H', H p = none → Same H H' → H' p = some o → Q (.ref p) H') : n ≤ sizeLine ∧ ∀ p, H p = none → Q (.ref p) (upd H p o) := ⟨hn, new_of h⟩
theorem Same.at {H H' : Hp} (e : Same H H') {b : Addr} {o : HO} (h : H b = some o) : H' b = some o := e b o h
theorem Same.sqT {K : PySem.W.Frag} {H H' : Hp} {a : Addr} {xs : List V} (e : Same H H') (h : SqT K H a xs) : SqT K H' a xs := by
  rcases h with (h | ⟨o, h⟩) | h
  · exact .inl (.inl (e _ _ h))
  · exact .inl (.inr ⟨o, e _ _ h⟩)
  · exact .inr h
/-- a list that is not at p stays -/
theorem sq_upd {K : PySem.W.Frag} {H : Hp} {a p : Addr} {xs : List V} {o : HO} (hne : a ≠ p) (h : SqL K H a xs) : SqL K (upd H p o) a xs := by
  rcases h with (h | ⟨o', h⟩) | h
  · exact .inl (.inl (by rw [upd_ne hne]; exact h))
  · exact .inl (.inr ⟨o', by rw [upd_ne hne]; exact h⟩)
  · exact .inr h
theorem small64 {n : Nat} (h : n ≤ 100000) : n ≤ sizeLine := Nat.le_trans h (by decide)
/-! ### displays: a new tuple, a new list -/
def rMkTup : List V → Hp → VK → Prop := fun xs H Q => xs.length ≤ sizeLine ∧ ∀ p, H p = none → Q (.ref p) (upd H p (.tup xs))
def rMkLst : List V → Hp → VK → Prop := fun xs H Q => xs.length ≤ sizeLine ∧ ∀ p, H p = none → Q (.ref p) (upd H p (.lst xs))
section
variable {X : Cx} {es : List Expr} {t : TA} {k : Nat} {pos : Pos} {H : Hp} {Q : VK} {xs : List V}
theorem pe_tup (h : PA X es t) : PE X (.Tuple es k pos) (tCB rMkTup t) := L2.pe_tup h
theorem pe_lst (h : PA X es t) : PE X (.List es pos) (tCB rMkLst t) := L2.pe_lst h
theorem rd_mkTup (hn : xs.length ≤ sizeLine) (q : ∀ p H', H p = none → Same H H' → H' p = some (.tup xs) → Q (.ref p) H') : rMkTup xs H Q := ⟨hn, fun p hp => q p _ hp (same_new hp) upd_same⟩
theorem rd_mkLst (hn : xs.length ≤ sizeLine) (q : ∀ p H', H p = none → Same H H' → H' p = some (.lst xs) → Q (.ref p) H') : rMkLst xs H Q := ⟨hn, fun p hp => q p _ hp (same_new hp) upd_same⟩
end
/-! ### isinstance -/
/-- isinstance(v, n) for a built-in class n -/
def Isi (K : PySem.W.Frag) (H : Hp) (v : V) (n : String) (b : Bool) : Prop := ∃ t, TyX K H v t ∧ PySem.W.kitOne K t (.type n) = some b
section
variable {K : PySem.W.Frag} {H : Hp} {Q : VK} {v : V} {n : String} {b : Bool} {a : Addr} {xs : List V}
theorem rd_isi (h : Isi K H v n b) (q : Q (.bl b) H) : rIsi K [v, .ty n] H Q := by
  obtain ⟨t, h1, h2⟩ := h
  exact ⟨v, .ty n, t, .type n, b, rfl, .ty n, h1, h2, q⟩
theorem ty_tup (h : SqT K H a xs) : TyX K H (.ref a) (.type "tuple") := by
  rcases h with (h | ⟨o, h⟩) | ⟨o, its, n, h1, h2, _⟩
  · exact .base (.tup h)
  · exact .fTuple h
  · exact .kTuple h1 h2
theorem ty_lst (h : SqL K H a xs) : TyX K H (.ref a) (.type "list") := by
  rcases h with (h | ⟨o, h⟩) | ⟨o, its, n, h1, h2, _⟩
  · exact .base (.lst h)
  · exact .base (.frz h)
  · exact .kList h1 h2
theorem isi_of {t : String} (h : TyX K H v (.type t)) (hk : kitB t n = some b) : Isi K H v n b := ⟨_, h, kit_ty hk⟩
theorem isi_int {i : Int} (hk : kitB "int" n = some b) : Isi K H (.int i) n b := isi_of (.base (.int i)) hk
theorem isi_bl {i : Bool} (hk : kitB "bool" n = some b) : Isi K H (.bl i) n b := isi_of (.base (.bl i)) hk
theorem isi_str {x : Str} (hk : kitB "str" n = some b) : Isi K H (.str x) n b := isi_of (.base (.str x)) hk
theorem isi_non (hk : kitB "NoneType" n = some b) : Isi K H .non n b := isi_of (.base .non) hk
theorem isi_tup (h : SqT K H a xs) (hk : kitB "tuple" n = some b) : Isi K H (.ref a) n b := isi_of (ty_tup h) hk
theorem isi_lst (h : SqL K H a xs) (hk : kitB "list" n = some b) : Isi K H (.ref a) n b := isi_of (ty_lst h) hk
theorem isi_dK {kvs : List (Key × V)} (h : H a = some (.dK kvs)) (hk : kitB "dict" n = some b) : Isi K H (.ref a) n b := isi_of (.base (.dK h)) hk
theorem kk_int_int : kitB "int" "int" = some true := by decide +kernel
theorem kk_int_bool : kitB "int" "bool" = some false := by decide +kernel
theorem kk_bool_int : kitB "bool" "int" = some true := by decide +kernel
theorem kk_bool_bool : kitB "bool" "bool" = some true := by decide +kernel
theorem kk_str_int : kitB "str" "int" = some false := by decide +kernel
theorem kk_none_int : kitB "NoneType" "int" = some false := by decide +kernel
theorem kk_tup_int : kitB "tuple" "int" = some false := by decide +kernel
theorem kk_lst_int : kitB "list" "int" = some false := by decide +kernel
theorem kk_dict_int : kitB "dict" "int" = some false := by decide +kernel
theorem kk_tup_tup : kitB "tuple" "tuple" = some true := by decide +kernel
theorem c_isi {X : Cx} : CallR X (.builtin "isinstance") (rIsi X.K) := call_isi
theorem c_all {X : Cx} (hc : X.calm = true) : CallR X (.builtin "all") (rAll X.K) := cr_all hc
theorem rd_all {bs : List Bool} (h : SqL K H a (bs.map V.bl)) (q : Q (.bl (bs.all id)) H) : rAll K [.ref a] H Q := ⟨a, bs, rfl, h, q⟩
end
/-! ### loops and comprehensions over what stays -/
section
variable {K : PySem.W.Frag} {σ : L2.St} {H : Hp} {Q : VK} {g : TG} {te tl : TE} {tt : TT} {ta : TA} {vs : List Nat} {a : Addr} {xs : List V} {D : Ends} {tb : TS} {wi : TI}
/-- what is walked: value by value -/
def rIT (K : PySem.W.Frag) (x : V) (H : Hp) (R : It → Hp → Prop) : Prop := ∃ a, x = .ref a ∧ (∃ xs, SqT K H a xs) ∧ R (Itt K a) H
def rIL (K : PySem.W.Frag) (x : V) (H : Hp) (R : It → Hp → Prop) : Prop := ∃ a, x = .ref a ∧ (∃ xs, SqL K H a xs) ∧ R (Itl K a) H
def rIR1 (vs : List V) (H : Hp) (R : It → Hp → Prop) : Prop := ∃ j : Int, vs = [.int j] ∧ -(2 ^ 62) ≤ j ∧ j < 2 ^ 62 ∧ R (Itr 0 j.toNat) H
def rIR2 (vs : List V) (H : Hp) (R : It → Hp → Prop) : Prop := ∃ i j : Int, vs = [.int i, .int j] ∧ (-(2 ^ 62) ≤ i ∧ i < 2 ^ 62 ∧ -(2 ^ 62) ≤ j ∧ j < 2 ^ 62) ∧ R (Itr i (j - i).toNat) H
theorem rd_iTup {R : It → Hp → Prop} (q : tl σ H fun x H1 => rIT K x H1 R) : iTup K tl σ H R := q
theorem rd_iList {R : It → Hp → Prop} (q : tl σ H fun x H1 => rIL K x H1 R) : iList K tl σ H R := q
theorem rd_iRng1 {R : It → Hp → Prop} (q : ta σ H fun vs H1 => rIR1 vs H1 R) : iRng1 ta σ H R := q
theorem rd_iRng2 {R : It → Hp → Prop} (q : ta σ H fun vs H1 => rIR2 vs H1 R) : iRng2 ta σ H R := q
theorem rd_IT {R : It → Hp → Prop} (h : SqT K H a xs) (q : R (Itt K a) H) : rIT K (.ref a) H R := ⟨a, rfl, ⟨xs, h⟩, q⟩
theorem rd_IL {R : It → Hp → Prop} (h : SqL K H a xs) (q : R (Itl K a) H) : rIL K (.ref a) H R := ⟨a, rfl, ⟨xs, h⟩, q⟩
theorem rd_IR1 {R : It → Hp → Prop} {j : Int} (h0 : -(2 ^ 62) ≤ j) (h1 : j < 2 ^ 62) (q : R (Itr 0 j.toNat) H) : rIR1 [.int j] H R := ⟨j, rfl, h0, h1, q⟩
theorem rd_IR2 {R : It → Hp → Prop} {i j : Int} (h : -(2 ^ 62) ≤ i ∧ i < 2 ^ 62 ∧ -(2 ^ 62) ≤ j ∧ j < 2 ^ 62) (q : R (Itr i (j - i).toNat) H) : rIR2 [.int i, .int j] H R := ⟨i, j, rfl, h, q⟩
/-- a comprehension's, a loop's turns over J -/
def rLc (g : TG) (tt : TT) (te : TE) (vs : List Nat) (σ : L2.St) (Q : VK) (J : It) (H : Hp) : Prop := ∀ D, H D = none → ∃ W : Nat → Nat → Hp → Prop, (∃ m, W 0 m (upd H D (.lst []))) ∧ ∀ i m H, W i m H →
  (J.stop i H ∧ Q (.ref D) H) ∨ (J.go i H ∧ ∃ Nx : Hp → Prop, (∀ H', Nx H' → ∃ m', m' < m ∧ W (i + 1) m' H') ∧ ∀ x H', J.yld i H x H' → g x (wipe σ vs) H' fun σ2 H2 => wipe σ2 vs = wipe σ vs ∧ tt σ2 H2 fun b H3 =>
    if b = true then te σ2 H3 fun y H4 => ∃ acc, H4 D = some (.lst acc) ∧ acc.length < sizeLine ∧ Nx (upd H4 D (.lst (acc ++ [y]))) else Nx H3)
def rFor (g : TG) (tb : TS) (D : Ends) (σ : L2.St) (J : It) (H : Hp) : Prop := ∃ W : Nat → Nat → L2.St → Hp → Prop, (∃ m, W 0 m σ H) ∧ ∀ i m σ H, W i m σ H →
  (J.stop i H ∧ D.nx σ H) ∨ (J.go i H ∧ ∃ N : L2.St → Hp → Prop, (∀ σ' H', N σ' H' → ∃ m', m' < m ∧ W (i + 1) m' σ' H') ∧ ∀ x H', J.yld i H x H' → g x σ H' fun σ2 H2 => tb { D with nx := N, ct := N, bk := D.nx } σ2 H2)
theorem rd_lc (q : wi σ H fun J H1 => rLc g tt te vs σ Q J H1) : tLc wi g tt te vs σ H Q := q
theorem rd_for (q : wi σ H fun J H1 => rFor g tb D σ J H1) : tFor wi g tb D σ H := q
theorem for_tup (Pv : Nat → L2.St → Hp → Prop) (h0 : Pv 0 σ H) (hl : ∀ i σ H, i ≤ xs.length → Pv i σ H → SqT K H a xs)
    (hs : ∀ i x σ H, xs[i]? = some x → Pv i σ H → g x σ H fun σ2 H2 => tb { nx := Pv (i + 1), rt := D.rt, ct := Pv (i + 1), bk := D.nx } σ2 H2) (hd : ∀ σ H, Pv xs.length σ H → D.nx σ H) : rFor g tb D σ (Itt K a) H := L2.for_tup Pv h0 hl hs hd
theorem for_list (Pv : Nat → L2.St → Hp → Prop) (h0 : Pv 0 σ H) (hl : ∀ i σ H, i ≤ xs.length → Pv i σ H → SqL K H a xs)
    (hs : ∀ i x σ H, xs[i]? = some x → Pv i σ H → g x σ H fun σ2 H2 => tb { nx := Pv (i + 1), rt := D.rt, ct := Pv (i + 1), bk := D.nx } σ2 H2) (hd : ∀ σ H, Pv xs.length σ H → D.nx σ H) : rFor g tb D σ (Itl K a) H := L2.for_list Pv h0 hl hs hd
theorem for_range {lo : Int} {n : Nat} (Pv : Nat → L2.St → Hp → Prop) (h0 : Pv 0 σ H)
    (hs : ∀ i σ H, i < n → Pv i σ H → g (.int (lo + i)) σ H fun σ2 H2 => tb { nx := Pv (i + 1), rt := D.rt, ct := Pv (i + 1), bk := D.nx } σ2 H2) (hd : ∀ σ H, Pv n σ H → D.nx σ H) : rFor g tb D σ (Itr lo n) H := L2.for_range Pv h0 hs hd
/-- what a comprehension makes, item by item, of things that stay: f of each item -/
theorem lc_pure {J : It} (f : V → V) (hz : xs.length ≤ 100000)
    (go : ∀ i H1, i < xs.length → Same H H1 → J.go i H1) (stop : ∀ H1, Same H H1 → J.stop xs.length H1) (yld : ∀ i H1 x H2, i < xs.length → Same H H1 → J.yld i H1 x H2 → H2 = H1 ∧ xs[i]? = some x)
    (step : ∀ x H1 (N : V → Hp → Prop), x ∈ xs → Same H H1 → (∀ H2, Same H1 H2 → N (f x) H2) → g x (wipe σ vs) H1 fun σ2 H2 => wipe σ2 vs = wipe σ vs ∧ te σ2 H2 N)
    (done : ∀ D H', H D = none → Same H H' → H' D = some (.lst (xs.map f)) → Q (.ref D) H') : rLc g tYes te vs σ Q J H := by
  intro D hD
  let Pv : Nat → Hp → Prop := fun i H1 => Same H H1 ∧ H1 D = some (.lst ((xs.take i).map f))
  refine ⟨fun i m H1 => m = xs.length - i ∧ i ≤ xs.length ∧ Pv i H1, ⟨xs.length, by simp, Nat.zero_le _, same_new hD, by rw [upd_same]; rfl⟩, ?_⟩
  rintro i m H1 ⟨rfl, hi, s1, hd1⟩
  by_cases hlt : i < xs.length
  · refine .inr ⟨go i H1 hlt s1, Pv (i + 1), fun H' p' => ⟨xs.length - (i + 1), by omega, rfl, hlt, p'⟩, fun x H' y => ?_⟩
    obtain ⟨rfl, ex⟩ := yld i H1 x H' hlt s1 y
    refine step x H' _ (List.mem_of_getElem? ex) s1 fun H2 s2 => ?_
    have hz2 : ((xs.take i).map f).length < sizeLine := by
      rw [List.length_map, List.length_take]
      exact Nat.lt_of_le_of_lt (Nat.le_trans (Nat.min_le_right _ _) hz) (by decide)
    refine ⟨_, s2 _ _ hd1, hz2, ?_⟩
    refine ⟨fun b o e => ?_, ?_⟩
    · rw [upd_ne (ne_of_none e hD)]
      exact s2 _ _ (s1 _ _ e)
    · rw [upd_same, List.take_add_one, ex, List.map_append]
      rfl
  · have e : i = xs.length := by omega
    subst e
    refine .inl ⟨stop H1 s1, done D H1 hD s1 ?_⟩
    rw [hd1, List.take_length]
/-- .. over a tuple, a list -/
theorem lc_tup (f : V → V) (hz : xs.length ≤ 100000) (hS : SqT K H a xs)
    (step : ∀ x H1 (N : V → Hp → Prop), x ∈ xs → Same H H1 → (∀ H2, Same H1 H2 → N (f x) H2) → g x (wipe σ vs) H1 fun σ2 H2 => wipe σ2 vs = wipe σ vs ∧ te σ2 H2 N)
    (done : ∀ D H', H D = none → Same H H' → H' D = some (.lst (xs.map f)) → Q (.ref D) H') : rLc g tYes te vs σ Q (Itt K a) H := by
  refine lc_pure (xs := xs) f hz (fun i H1 hi s1 => ?_) (fun H1 s1 => ?_) (fun i H1 x H2 hi s1 y => ?_) step done
  · exact ⟨xs, xs[i], Same.sqT s1 hS, by simp [hi]⟩
  · exact ⟨xs, Same.sqT s1 hS, Nat.le_refl _⟩
  · obtain ⟨e, y⟩ := y
    exact ⟨e, y xs (Same.sqT s1 hS)⟩
theorem lc_lst (f : V → V) (hz : xs.length ≤ 100000) (hS : SqL K H a xs)
    (step : ∀ x H1 (N : V → Hp → Prop), x ∈ xs → Same H H1 → (∀ H2, Same H1 H2 → N (f x) H2) → g x (wipe σ vs) H1 fun σ2 H2 => wipe σ2 vs = wipe σ vs ∧ te σ2 H2 N)
    (done : ∀ D H', H D = none → Same H H' → H' D = some (.lst (xs.map f)) → Q (.ref D) H') : rLc g tYes te vs σ Q (Itl K a) H := by
  refine lc_pure (xs := xs) f hz (fun i H1 hi s1 => ?_) (fun H1 s1 => ?_) (fun i H1 x H2 hi s1 y => ?_) step done
  · exact ⟨xs, xs[i], L2.Same.seq s1 hS, by simp [hi]⟩
  · exact ⟨xs, L2.Same.seq s1 hS, Nat.le_refl _⟩
  · obtain ⟨e, y⟩ := y
    exact ⟨e, y xs (L2.Same.seq s1 hS)⟩
end
section
variable {σ : L2.St} {H : Hp} {c : TT} {tb : TS} {D : Ends}
/-- while: W with its measure -/
theorem rd_while (W : Nat → L2.St → Hp → Prop) (m : Nat) (w0 : W m σ H)
    (step : ∀ m σ H, W m σ H → c σ H fun b H1 => if b = true then ∃ N : L2.St → Hp → Prop, (∀ σ' H', N σ' H' → ∃ m', m' < m ∧ W m' σ' H') ∧ tb { nx := N, rt := D.rt, bk := D.nx, ct := N } σ H1 else D.nx σ H1) : tWhile c tb D σ H :=
  ⟨W, ⟨m, w0⟩, step⟩
theorem rd_turn {W : Nat → L2.St → Hp → Prop} {m : Nat} {rt : VK} {bk : L2.St → Hp → Prop} (q : tb { nx := fun σ' H' => ∃ m', m' < m ∧ W m' σ' H', rt := rt, bk := bk, ct := fun σ' H' => ∃ m', m' < m ∧ W m' σ' H' } σ H) :
    ∃ N : L2.St → Hp → Prop, (∀ σ' H', N σ' H' → ∃ m', m' < m ∧ W m' σ' H') ∧ tb { nx := N, rt := rt, bk := bk, ct := N } σ H := ⟨_, fun _ _ h => h, q⟩
theorem rd_aug {i : Nat} {x : V} {te : TE} {ti : TIp} (h : σ[i]? = some (some x)) (q : te σ H fun y H1 => ti x y H1 fun z H2 => D.nx (σ.set i (some z)) H2) : tAug i te ti D σ H := ⟨x, h, q⟩
theorem rd_ipI {f : Int → Int → Int} {Q : VK} {a b : Int} (q : Q (.int (f a b)) H) : ipI f (.int a) (.int b) H Q := ⟨a, b, rfl, rfl, q⟩
theorem rd_slice {X : V → Option Int → Option Int → Hp → VK → Prop} {Q : VK} {x : V} {lo hi : Option Int} (q : X x lo hi H Q) : X x lo hi H Q := q
theorem rd_slA {K : PySem.W.Frag} {a : Addr} {xs : List V} {lo hi : Option Int} {Q : VK} (h : SqT K H a xs) (q1 : HT.sIx xs.length 0 lo = 0 ∧ HT.sIx xs.length xs.length hi = xs.length → Q (.ref a) H)
    (q2 : ¬ (HT.sIx xs.length 0 lo = 0 ∧ HT.sIx xs.length xs.length hi = xs.length) → ∀ p, H p = none → Q (.ref p) (upd H p (.tup (cutV xs lo hi)))) : rSlA K (.ref a) lo hi H Q := ⟨a, xs, rfl, h, q1, q2⟩
/-- a slice, told by what it is -/
theorem rd_cut {K : PySem.W.Frag} {a : Addr} {xs : List V} {lo hi : Option Int} {Q : VK} (h : SqT K H a xs) (q : ∀ p H', Same H H' → SqT K H' p (cutV xs lo hi) → Q (.ref p) H') : rSlA K (.ref a) lo hi H Q := by
  refine rd_slA h (fun e => q a H (Same.refl H) ?_) fun _ p hp => q p _ (same_new hp) (SqT.of upd_same)
  unfold cutV
  rw [e.1, e.2, List.drop_zero, Nat.sub_zero, List.take_length]
  exact h
theorem cut_to (xs : List V) (n : Nat) (h : n ≤ xs.length) : cutV xs none (some (n : Int)) = xs.take n := by
  unfold cutV HT.sIx
  dsimp only
  rw [if_neg (by omega), List.drop_zero]
  congr 1
  omega
theorem rd_nx {n : L2.St → Hp → Prop} {r : VK} {b c : L2.St → Hp → Prop} (q : n σ H) : (Ends.mk n r b c).nx σ H := q
theorem rd_bk {n : L2.St → Hp → Prop} {r : VK} {b c : L2.St → Hp → Prop} (q : b σ H) : (Ends.mk n r b c).bk σ H := q
theorem rd_ct {n : L2.St → Hp → Prop} {r : VK} {b c : L2.St → Hp → Prop} (q : c σ H) : (Ends.mk n r b c).ct σ H := q
theorem rd_rt {n : L2.St → Hp → Prop} {r : VK} {b c : L2.St → Hp → Prop} {v : V} (q : r v H) : (Ends.mk n r b c).rt v H := q
theorem rd_sl {r : V → Option Int → Option Int → Hp → VK → Prop} {ta : TE} {tl th : TO} {Q : VK} (q : ta σ H fun x H1 => tl σ H1 fun lo H2 => th σ H2 fun hi H3 => r x lo hi H3 Q) : tSl r ta tl th σ H Q := q
theorem rd_noPart {Q : Option Int → Hp → Prop} (q : Q none H) : tNoPart σ H Q := q
theorem rd_part {t : TE} {Q : Option Int → Hp → Prop} (q : t σ H fun x H1 => ∃ i, x = .int i ∧ Q (some i) H1) : tPart t σ H Q := q
theorem rd_intV {a : Int} {P : Int → Prop} (q : P a) : ∃ k, V.int a = .int k ∧ P k := ⟨a, rfl, q⟩
end
end Rd
set_option Elab.async false
set_option linter.all false
set_option maxRecDepth 100000
set_option maxHeartbeats 4000000
/-! Rx: exceptions held as values: made with and without an own __init__, asked by isinstance, their fields read. -/
namespace Rd
open PySem PySem.Spec PyProof.Rows L2
abbrev keMro : List Value := [.type "KeyError", .type "LookupError", .type "Exception", .type "BaseException", .type "object"]
/-- what B.__init__ is -/
structure IniW (B initId : String) : Prop where
  kind : builtinKind initId = some .slot
  split : splitId initId = some (B, "__init__")
  row : Manifest.signature? initId = some ⟨.positional, "*", B, .self, [⟨"args", .varPos, false⟩]⟩
  plain : plainId initId = true
  entry : entryFor table initId = some Builtin.«BaseException.__init__»
  star : (B != "*") = true
theorem ini_of {B newId initId : String} {bmB : List Value} (F : ExcBaseFacts B newId initId bmB) : IniW B initId := ⟨F.initKind, F.initSplit, F.initRow, F.init.plain, F.initEntry, F.noStar⟩
theorem ini_Key : IniW "KeyError" "KeyError.__init__" := ⟨by kernel_rfl, by kernel_rfl, by kernel_rfl, by decide +kernel, entryFor_alias (id' := "BaseException.__init__") (by rw [fastTable_eq_tree]; kernel_rfl) (by first | rfl | decide +kernel) (by decide +kernel) (by rw [fastTable_eq_tree]; kernel_rfl), by decide +kernel⟩
/-! ### a class whose __new__ is that of a base's base -/
section
variable {prog : Program} {w : World} {A : Around} {E : Value → Shared → Prop} {R : Result → Shared → Prop} {h : Heap} {g : Array GenState} {d : Drawn} {t : Nat} {os : OsState}
variable {nm q : Str} {C N : Addr} {bs bm bmB : List Value} {hdct : Bool} {sn : List Str} {sub : List Value} {ab : Bool} {col : Option Bool} {dd : Option Addr} {k0 k1 k2 k3 k5 : Option Value} {B newId initId i0 : String}
theorem xw_new (F : ExcBaseFacts B newId i0 bmB) (hB : bm.contains (.type B) = true) (hA : bm.contains (.type "AttributeError") = false) (hN : bm.contains (.type "NameError") = false) {us : List Value}
    (hC : h.get? C = some (excClassObj nm q C N bs bm hdct sn sub ab col dd k0 k1 k2 k3 k5 newId)) (hz : us.length ≤ sizeLine)
    (hq : R (.ok (.ret (.ref (h.objs.size + 1)))) ⟨(h.push (PySem.W.kdv_tup us)).push (HandSPX.excO C h.objs.size), g, d, t, os⟩) : codeAny (model prog w) A (.call (.builtin newId) ⟨.ref C :: us, []⟩) R ⟨h, g, d, t, os⟩ := by
  have c1 : (Value.ref C :: bm).contains (.type B) = true := by rw [List.contains_cons, hB, Bool.or_true]
  have c2 : (Value.ref C :: bm).contains (.type "AttributeError") = false := by rw [List.contains_cons, hA]; rfl
  have c3 : (Value.ref C :: bm).contains (.type "NameError") = false := by rw [List.contains_cons, hN]; rfl
  have st := F.noStar
  have en := F.ends
  have chk : ∀ {M : Model} {A : Around} {E : Value → Shared → Prop} {Q : Unit → Shared → Prop}, Q () ⟨h, g, d, t, os⟩ → wpAny M A (checkBuiltinCall newId ⟨.ref C :: us, []⟩) Q E ⟨h, g, d, t, os⟩ := fun {M A E Q} z => by
    simp only [checkBuiltinCall, F.newKind, F.newSplit, F.newRow]
    repeat (first | refine wpAny_loadPart_at hC ?_ | (refine wpAny_isSubtype_exc hC ?_; rw [c1]) | refine wpAny_staticBase_exc hC ?_ | refine wpAny_madeBy_exc hC ?_ | wp_step | simp only [bne_self_eq_false, Bool.false_eq_true, if_false])
    exact z
  refine codeAny_call_builtin_code (Code.quiet_builtin _ F.quiet) (chk (codeAny_builtinAt F.entry ?_))
  unfold Builtin.«BaseException.__new__»
  refine PySem.wpAt_bind (show PySem.wpAt _ _ _ (stack >>= _) _ _ _ from PySem.wpAt_bind (PySem.wpAt_stack fun p below => PySem.wpAt_of_wpAny ?_))
  wp_walk
  refine PySem.wpAt_of_wpAny ?_
  rw [F.owner]
  repeat (first | with_reducible refine wpAny_loadPart_at hC ?_ | with_reducible refine wpAny_madeHere_exc F.canon hC ?_ | (with_reducible refine wpAny_isSubtype_exc hC ?_; first | rw [c1] | rw [c2] | rw [c3]) | wp_step)
  show R _ _
  rw [Heap.size_push]
  exact hq
end
theorem es_Key : StoreFacts "KeyError" keMro "object.__setattr__" "object" := {
  mro := by kernel_rfl, entry := F.store_object.entry, kind := by decide +kernel, split := by decide +kernel, hasOwner := by decide +kernel, args := fun a b c => by unfold argsOk; kernel_rfl, passes := fun self => by kernel_rfl,
  slot := .of (n := "__setattr__") (owner := "object") (by rw [typeLookup_type, builtinLookup_eq_fast]; kernel_rfl) (by decide +kernel) (by decide +kernel) (by decide +kernel) (by first | exact .inl (by decide +kernel) | exact .inr (by decide +kernel)) (by rw [isSubtype_type]; kernel_rfl) }
section
variable {prog : Program} {w : World} {A : Around} {E : Value → Shared → Prop} {R : Result → Shared → Prop} {h : Heap} {g : Array GenState} {d : Drawn} {t : Nat} {os : OsState}
variable {nm q : Str} {C N fI : Addr} {bs bm bmB us : List Value} {hdct : Bool} {sn : List Str} {sub : List Value} {ab : Bool} {col : Option Bool} {dd : Option Addr} {k0 k1 k2 k3 k5 : Option Value} {B newId initId i0 : String}
/-- C(us..): made by the base's __new__, then the own __init__ -/
theorem xw_call (F : ExcBaseFacts B newId i0 bmB) (hB : bm.contains (.type B) = true) (hA : bm.contains (.type "AttributeError") = false) (hN : bm.contains (.type "NameError") = false)
    (hC : h.get? C = some (excClassObj nm q C N bs bm hdct sn sub ab col dd k0 k1 k2 k3 k5 newId)) (hi : PySem.W.Looks (model prog w) h (typeLookup (.ref C) "__init__") (some (.ref fI)))
    (hb : ∀ self, PySem.W.Looks (model prog w) h (bindSpecial (.ref fI) self) (.ref fI, [self])) (hz : us.length ≤ sizeLine)
    (hq : codeAny (model prog w) (A.under (.builtin "type.__call__" ⟨.ref C :: us, []⟩)) (.call (.ref fI) ⟨.ref (h.objs.size + 1) :: us, []⟩) (PySem.W.InitBack (h.objs.size + 1) R) ⟨(h.push (PySem.W.kdv_tup us)).push (HandSPX.excO C h.objs.size), g, d, t, os⟩) :
    codeAny (model prog w) A (.call (.ref C) ⟨us, []⟩) R ⟨h, g, d, t, os⟩ := by
  have f1 := tc_lookup
  have f2 := tc_bind (.ref C)
  have ty : (⟨h, g, d, t, os⟩ : Shared).TypeIs (.ref C) "type" := ⟨_, hC, rfl⟩
  refine codeAny_of_tree (show wpAny _ _ (callAny (.ref C) _) _ _ _ from ?_)
  repeat (any_goals (first | assumption | with_reducible refine wpAny_loadPart_at hC ?_ | wp_step))
  refine ⟨rfl, codeAny_call_builtin_at (Code.quiet_builtin _ (by decide +kernel)) entry_typeCall (wpAny_check_type_call_sub hC ?_)⟩
  repeat (first | with_reducible refine wpAny_madeBy_exc hC ?_ | with_reducible refine wpAny_loadPart_at hC ?_ | wp_step)
  refine xw_new F hB hA hN hC hz (show wpAny _ _ _ _ _ _ from ?_)
  have kk : ∀ b o, h.get? b = some o → ((h.push (PySem.W.kdv_tup us)).push (HandSPX.excO C h.objs.size)).get? b = some o := fun b o e => Heap.get?_push_of_some _ (Heap.get?_push_of_some _ e)
  have hC2 := kk _ _ hC
  have hg : ((h.push (PySem.W.kdv_tup us)).push (HandSPX.excO C h.objs.size)).get? (h.objs.size + 1) = some (HandSPX.excO C h.objs.size) := by heap_get
  have cc : (Value.ref C :: bm).contains (.ref C) = true := by simp
  unfold isInstance
  repeat (first | with_reducible refine wpAny_loadPart_at hg ?_ | wp_step)
  refine (show wpAny _ _ (isSubtype (Value.ref C) (Value.ref C)) _ _ (⟨(h.push (PySem.W.kdv_tup us)).push (HandSPX.excO C h.objs.size), g, d, t, os⟩ : Shared) from wpAny_isSubtype_exc hC2 ?_)
  rw [cc]
  repeat wp_step
  refine (show wpAny _ _ (typeLookup (.ref C) _) _ _ _ from (hi.keeps kk).at (wpAny_holding (wpAny_bind (((hb (.ref (h.objs.size + 1))).keeps kk).at ?_))))
  refine wpAny_bind (wpAny_call (codeAny_mono hq fun r s' z => ?_))
  match r, z with
  | .error e, z => exact z
  | .ok .next, z => exact z.elim
  | .ok .brk, z => exact z.elim
  | .ok .cont, z => exact z.elim
  | .ok (.ret v), z =>
    obtain ⟨rfl, z⟩ := z
    first | exact wpAny_pure (wpAny_pure z) | (wp_walk; exact z)
/-- B.__init__(e, ..) -/
theorem xw_init (F : IniW B initId) (hB : bm.contains (.type B) = true) {e t0 : Addr} (hC : h.get? C = some (excClassObj nm q C N bs bm hdct sn sub ab col dd k0 k1 k2 k3 k5 newId)) (he : h.get? e = some (HandSPX.excO C t0)) (hz : us.length ≤ sizeLine)
    (hq : ∀ h' t1, (∀ b o, b ≠ e → h.get? b = some o → h'.get? b = some o) → h'.get? e = some (HandSPX.excO C t1) → R (.ok (.ret .none)) ⟨h', g, d, t, os⟩) : codeAny (model prog w) A (.call (.builtin initId) ⟨.ref e :: us, []⟩) R ⟨h, g, d, t, os⟩ := by
  have c1 : (Value.ref C :: bm).contains (.type B) = true := by rw [List.contains_cons, hB, Bool.or_true]
  have st := F.star
  have chk : ∀ {M : Model} {A : Around} {E : Value → Shared → Prop} {Q : Unit → Shared → Prop}, Q () ⟨h, g, d, t, os⟩ → wpAny M A (checkBuiltinCall initId ⟨.ref e :: us, []⟩) Q E ⟨h, g, d, t, os⟩ := fun {M A E Q} z => by
    simp only [checkBuiltinCall, F.kind, F.split, F.row]
    repeat (first | (with_reducible refine wpAny_loadPart_at he ?_) | with_reducible refine wpAny_loadPart_at hC ?_ | (with_reducible refine wpAny_isSubtype_exc hC ?_; rw [c1]) | wp_step)
    refine wpAny_onRaise ?_
    have ck : ∀ (a b : String) (n : Nat), Bind.check ⟨.positional, "*", B, .self, [⟨"args", .varPos, false⟩]⟩ a b n (List.map (fun x => x.fst) ({ pos := Value.ref e :: us } : Args).kw) = pure () := fun a b n => check_star_args _ _ _ _ _ _
    rw [ck]
    exact wpAny_pure z
  refine codeAny_call_builtin F.plain F.entry (chk ?_)
  wp_walk
  refine hq _ h.objs.size (fun b o hb ho => ?_) ((Heap.get?_update_self _ (Heap.get?_push_of_some _ he) rfl).trans rfl)
  exact (Heap.get?_update_other _ _ (Ne.symm hb)).trans (Heap.get?_push_of_some _ ho)
end
/-- an exception class with an own __init__, by its base's mro -/
structure XiC (K : PySem.W.Frag) (C : Addr) (bmB : List Value) (newId : String) : Prop where
  cl : PySem.W.excInitIn K C bmB newId = true
  ov : PySem.W.excOver K C bmB = true
  sa : PySem.W.findIn K (.ref C) "__setattr__" = some (some (.builtin "object.__setattr__"))
  hd : PySem.W.hasDictIn K C = true
  kp : PySem.W.keepIn K (.ref C) = true
section
variable {X : Cx} {pins : List (Addr × Obj)} {σ : L2.St} {H : Hp} {s : Shared} {a C : Addr} {f : Str} {y : V} {u : Value} {B newId initId : String} {bmB : List Value} {E : Value → Shared → Prop} {A : Around}
/-- the first field -/
theorem xi_store {Q : Unit → Shared → Prop} (SF : StoreFacts B bmB "object.__setattr__" "object") (T : XiC X.K C bmB newId) (I : Inv X pins σ H s) (e : H a = some (exo a C none)) (hno : PySem.W.takerIn X.K C f = some none) (ry : RelV y u)
    (h : ∀ dx s', H dx = none → dx ≠ a → Inv X pins σ (upd (upd H dx (exd dx [(f, y)])) a (exo a C (some dx))) s' → Q () s') : wpAny (model X.prog X.w) A (setAttr (.ref a) f u) Q E s := by
  obtain ⟨t1, ho⟩ := exo_at I.hok e
  obtain ⟨cd, hc, hd⟩ := PySem.W.any_some T.hd
  obtain ⟨hp, g, d, t, os⟩ := s
  refine PySem.W.set_plain I.kIn (od := none) ⟨ho, rfl, rfl, True.intro⟩ T.sa ?_
  refine PySem.W.osa_openX (od := none) SF I.kIn ⟨ho, rfl, rfl, True.intro⟩ T.ov hno fun b => ?_
  have hcls : PySem.W.Looks (model X.prog X.w) hp (classData C) cd := PySem.W.looks_clsIn I.kIn hc
  have hxs : a ≠ hp.objs.size := Nat.ne_of_lt (Heap.lt_size ho)
  refine wpAny_bind (wpAny_pure (wpAny_bind (PySem.W.instanceDict_exc (s := ⟨hp, g, d, t + 1, os⟩) ho hcls hd ?_)))
  show wpAny _ _ (Builtin.ObjectAttr.storeInDict hp.objs.size (.str f t) f u) _ _ _
  have hx1 : (hp.push (PySem.W.dictOf [] 0)).get? a = some _ := Heap.get?_push_of_some _ ho
  refine HandSPX.store_in_new (hp := (hp.push (PySem.W.dictOf [] 0)).update a fun o => { o with dict := some hp.objs.size }) ?_ fun h' tk' hn hs => ?_
  · exact ⟨_, #[], _, (Heap.get?_update_ne _ _ _ _ hxs.symm).trans (Heap.get?_push_at rfl rfl), rfl, fun e he => absurd he (by simp), fun _ => rfl⟩
  have k : ∀ b o, b ≠ a → hp.get? b = some o → h'.get? b = some o := fun b o hb q => (hs.2 b (Nat.ne_of_lt (Heap.lt_size q))).trans ((Heap.get?_update_ne _ _ _ _ hb).trans (Heap.get?_push_of_some _ q))
  have hx : h'.get? a = some ({ cls := .ref C, dict := some hp.objs.size, data := .fields #[.ref t1, .none, .none, .none, .bool false, .none] } : Obj) := (hs.2 a hxs).trans (Heap.get?_update_self _ hx1 rfl)
  have hnd : H hp.objs.size = none := I.hok.fresh (Nat.le_refl _)
  have nd : ∀ {b : Addr} {o : Obj}, hp.get? b = some o → b ≠ hp.objs.size := fun {b o} q => Nat.ne_of_lt (Heap.lt_size q)
  have na : ∀ {b : Addr}, H b = none → b ≠ a := fun {b} n z => by rw [z, e] at n; cases n
  have exA : ∃ o', h'.get? a = some o' := ⟨_, hx⟩
  have U : Un X.fs [] H (upd (upd H hp.objs.size (exd hp.objs.size [(f, y)])) a (exo a C (some hp.objs.size))) hp h' := {
    keep := fun b o q n _ _ => k b o (na n) q, slot := fun b o q n _ _ => ⟨o.slots, k b o (na n) q⟩, free := fun b o q n _ => by rw [upd_ne (na n), upd_ne (nd q)]; exact n,
    there := fun b o q _ => (Classical.em (b = a)).elim (fun hb => hb ▸ exA) fun hb => ⟨o, k b o hb q⟩,
    tups := fun b xs q => by rw [upd_ne (at_ne e q exo_tup), upd_ne (ne_of_none q hnd)]; exact q,
    frzs := fun b o v q => by rw [upd_ne (at_ne e q exo_frz), upd_ne (ne_of_none q hnd)]; exact q,
    tbls := fun b ps q => ⟨#[], by rw [upd_ne (at_ne e q exo_tbl), upd_ne (ne_of_none q hnd), q]; simp⟩ }
  refine h hp.objs.size _ hnd hxs.symm (I.un (t' := tk') U fun b o q => ?_)
  by_cases hb : b = a
  · subst hb; rw [upd_same] at q; cases q; exact exo_ok hx
  rw [upd_ne hb] at q
  by_cases hdd : b = hp.objs.size
  · subst hdd; rw [upd_same] at q; cases q; exact exd_ok hn (relO_put (fs := []) ry fun g => True.intro)
  rw [upd_ne hdd] at q
  refine (I.hok b o q).stay (fun c v hc z => k c v (by rcases hc with hc | hc; · exact hc ▸ hb
                                                       · exact at_ne e hc exo_own) z) (fun c hc => ?_) fun c xs hc => ?_
  · rw [upd_ne (at_ne e hc exo_own), upd_ne (ne_of_none hc hnd)]; exact hc
  · rw [upd_ne (at_ne e hc exo_tup), upd_ne (ne_of_none hc hnd)]; exact hc
/-- B.__init__(self, ..) -/
theorem xi_base {us : List Value} {Q : Value → Shared → Prop} (FB : IniW B initId) (hB : bmB.contains (.type B) = true) (T : XiC X.K C bmB newId) (I : Inv X pins σ H s) (e : H a = some (exo a C none)) (hl : us.length ≤ sizeLine) (h : ∀ s', Inv X pins σ H s' → Q .none s') :
    wpAny (model X.prog X.w) A (call (.builtin initId) (.ref a :: us)) Q E s := by
  obtain ⟨nm, N, q, bs, bm, hdct, sn, sub, ab, col, dd, k0, k1, k2, k3, k5, hC, hT⟩ := PySem.W.excInit_of I.kIn T.cl
  obtain ⟨t1, ho⟩ := exo_at I.hok e
  obtain ⟨hp, g, d, t, os⟩ := s
  refine wpAny_call (xw_init FB ((hT B).trans hB) hC ho hl fun h' t2 k hx => ?_)
  have J := I.write (t' := t) (x := a) (e := a) (o := exo a C none) (by rw [e]; exact True.intro) (.inl rfl) k ⟨_, hx⟩ (exo_ok hx)
  rw [show upd H a (exo a C none) = H from funext fun b => if hb : b = a then by rw [hb, upd_same, e] else upd_ne hb] at J
  exact h _ J
end
/-! ### rules -/
def tXiB (C : Addr) (ta : TA) : TE := fun σ H Q => ta σ H fun vs H1 => ∃ (a : Addr) (ws : List V), vs = .ref a :: ws ∧ ws.length ≤ 1000 ∧ H1 a = some (exo a C none) ∧ Q .non H1
def tXiS (C : Addr) (f : Str) (to te : TE) : TS := fun D σ H => te σ H fun y H1 => to σ H1 fun x H2 => ∃ a : Addr, x = .ref a ∧ H2 a = some (exo a C none) ∧ ∀ dx, H2 dx = none → dx ≠ a → D.nx σ (upd (upd H2 dx (exd dx [(f, y)])) a (exo a C (some dx)))
def tXiM (C : Addr) (sp : Sp) (E : XK) (ta : TA) : TE := fun σ H Q => ta σ H fun vs H1 => vs.length ≤ 1000 ∧ ∀ a, H1 a = none → sp (.ref a :: vs) (upd H1 a (exo a C none)) (fun v H2 => v = .non ∧ Q (.ref a) H2) E
section
variable {X : Cx} {o e : Expr} {es : List Expr} {to te : TE} {ta : TA} {f x : Str} {p p' p1 p2 pos : Pos} {B newId initId : String} {bmB : List Value} {C fI : Addr} {CX : CXT} {k : Nat} {sp : Sp} {E : XK}
theorem pe_xiB {b : Str} {pl : Sem Bool} (FB : IniW B initId) (bB : bmB.contains (.type B) = true) (T : XiC X.K C bmB newId) (hg : Gl X b) (hm : X.mg b = none) (hB : bootBuiltins b = some (.type B)) (hn : b ≠ "__name__") (hdb : (b == ("__debug__" : Str)) = false)
    (ty : typeOf (.type B) = pure (.type "type")) (hst : Manifest.isStub B = false) (hh : PySem.W.handedIn (.builtin initId) = true) (vV : PySem.W.findCls X.K (.type B) (.type "type") "__init__" = some (.val (.builtin initId))) (ha : PA X (e :: es) ta)
    (hc : eval (.Call (.Attribute (.Name b p1) "__init__" p2) (e :: es) [] pos) X.env = (do
      let ov ← eval (.Name b p1) X.env; standAt p2.atName; let (f, first) ← holding [ov] (getMethod ov "__init__" pl)
      callWith pos f first (backTo pos (starEach (e :: es) X.env)) (backToKw pos (keywordEach [] X.env))) := by rfl)
    (he : starEach (e :: es) X.env = (false, eval e X.env) :: starEach es X.env := by rfl) (hpl : (backTo pos (starEach es X.env)).any (·.1) = false := by rfl) :
    PE X (.Call (.Attribute (.Name b p1) "__init__" p2) (e :: es) [] pos) (tXiB C ta) := by
  refine ⟨fun pins s σ H Q I h => ?_⟩
  refine PySem.W.methodCall_KW (ld_blt I hg hm hB ?_ hn hdb) hc
  obtain ⟨m, fr⟩ := I.fr
  refine PySem.W.method_type fr I.ok.mod.kin ty hst vV hh ?_
  show wpAny _ _ (callWith pos (Value.builtin initId) [] (backTo pos (starEach (e :: es) X.env)) []) _ _ _
  refine PyProof.Rows.callWith_method1 (thn (ha.run pos pins _ σ H _ (I.tok _) h) fun us s1 ⟨vs, H1, I1, r1, a, ws, ev, hl, ea, q⟩ => ?_) he hpl
  subst ev
  cases r1 with
  | @cons _ u0 _ ur ra rw' =>
    obtain rfl : u0 = Value.ref a := ra
    exact xi_base FB bB T I1 ea (by rw [← Paired.length rw', sizeLine_eq]; omega) fun s' J => ⟨.non, H1, J, rfl, q⟩
theorem ps_xiS (SF : StoreFacts B bmB "object.__setattr__" "object") (T : XiC X.K C bmB newId) (hno : PySem.W.takerIn X.K C f = some none) (ho : PE X o to) (he : PE X e te) (hs : swapsWith e (some (.Attribute o f p')) pos.line X.env = pure false := by rfl) :
    PS X (.Assign [.Attribute o f p'] e pos) (tXiS C f to te) := by
  refine ⟨fun pins s σ H D I h => ?_⟩
  refine plainObj_wpAny_Assign_Attribute (thn (he.run pins s σ H _ I h) fun v s1 ⟨y, H1, I1, r1, q1⟩ => thn (ho.run pins s1 σ H1 _ I1 q1) fun u s2 ⟨x, H2, I2, r2, a, ex, ea, q⟩ => ?_) hs
  subst ex
  obtain rfl : u = Value.ref a := r2
  exact xi_store SF T I2 ea hno r1 fun dx s' n ne J => ⟨σ, _, J, q dx n ne⟩
theorem pe_xiM {BN i0 : String} {bmN : List Value} (FB : ExcBaseFacts BN newId i0 bmN) (bB : bmB.contains (.type BN) = true) (bA : bmB.contains (.type "AttributeError") = false) (bN : bmB.contains (.type "NameError") = false) (T : XiC X.K C bmB newId) (iC : PySem.W.findIn X.K (.ref C) "__init__" = some (some (.ref fI))) (tI : PySem.W.typeIn X.K (.ref fI) = some (.type "function"))
    (F1 : FnG X.prog X.w X.K X.mg X.base CX k fI sp) (hr : RoomG (k + 1) X.A) (hx : Passes CX X E) (hg : Gl X x) (hm : X.mg x = some (.ref C)) (ha : PA X (e :: es) ta)
    (hdb : (x == ("__debug__" : Str)) = false := by decide) (he : starEach (e :: es) X.env = (false, eval e X.env) :: starEach es X.env := by rfl) (hpl : (backTo pos (starEach es X.env)).any (·.1) = false := by rfl) :
    PE X (.Call (.Name x p) (e :: es) [] pos) (tXiM C sp E ta) := by
  refine ⟨fun pins s σ H Q I h => ?_⟩
  refine wpAny_Call_Name_kw (ld_glob I hg hm ?_ hdb)
  refine PySem.W.callWith_K (h₀ := X.base) I.ok.mod.kin T.kp (thn (ha.run pos pins s σ H _ I h) fun us s1 ⟨vs, H1, I1, r1, hz, q1⟩ => ⟨I1.kIn, ?_⟩) he hpl
  show wpAny _ _ (call (.ref C) us) _ _ _
  obtain ⟨nm, N, q, bs, bm, hdct, sn, sub, ab, col, dd, k0, k1, k2, k3, k5, hC, hT⟩ := PySem.W.excInit_of I1.kIn T.cl
  obtain ⟨hp, g, dr, tk, os⟩ := s1
  let n := hp.objs.size + 1
  have hn : H1 n = none := I1.hok.fresh (Nat.le_succ _)
  have kk : ∀ b o, hp.get? b = some o → ((hp.push (PySem.W.kdv_tup us)).push (HandSPX.excO C hp.objs.size)).get? b = some o := fun b o e => Heap.get?_push_of_some _ (Heap.get?_push_of_some _ e)
  have hget : ((hp.push (PySem.W.kdv_tup us)).push (HandSPX.excO C hp.objs.size)).get? n = some (HandSPX.excO C hp.objs.size) := by show Heap.get? _ (hp.objs.size + 1) = _; heap_get
  have I2 := I1.laid (t' := tk) (a := n) (o := exo n C none) kk (Nat.le_succ _) (exo_ok hget)
  have r2 : Vals (V.ref n :: vs) (Value.ref n :: us) := .cons rfl r1
  refine wpAny_call (xw_call FB ((hT _).trans bB) ((hT _).trans bA) ((hT _).trans bN) hC (PySem.W.looks_findIn I1.kIn iC) (fun self => PySem.W.bind_fn I1.kIn self tI) (by rw [← Paired.length r1, sizeLine_eq]; omega)
    (codeAny_mono (F1 _ X.stack _ _ (Value.ref n :: us) _ _ E (hr.make C us []) (I2.env0.make C us []) r2 (q1 n hn)) fun r s' hq' => ?_))
  match r, hq' with
  | .error er, hq' => exact hx pins σ _ _ er s' I2 hq'
  | .ok (.ret u), hq' =>
    obtain ⟨v, H', I3, rv, ev, q3⟩ := I2.after hq'
    subst ev
    exact ⟨rv, ⟨V.ref n, H', I3, rfl, q3⟩⟩
  | .ok .next, hq' => exact False.elim hq'
  | .ok .brk, hq' => exact False.elim hq'
  | .ok .cont, hq' => exact False.elim hq'
end
/-! ### what they are -/
/-- at a: an exception of the class at D -/
def Ex (H : Hp) (a D : Addr) : Prop := H a = some (ExO (.ref D) a) ∨ ∃ (d : Addr) (fs : List (Str × V)), H a = some (exo a D (some d)) ∧ H d = some (exd d fs)
/-- .. with the field f -/
def ExF (H : Hp) (a D : Addr) (f : Str) (v : V) : Prop := ∃ (d : Addr) (fs : List (Str × V)), H a = some (exo a D (some d)) ∧ H d = some (exd d fs) ∧ fs.lookup f = some v
theorem ExF.ex {H : Hp} {a D : Addr} {f : Str} {v : V} (h : ExF H a D f v) : Ex H a D := by
  obtain ⟨d, fs, h1, h2, _⟩ := h
  exact .inr ⟨d, fs, h1, h2⟩
theorem Ex.same {H H' : Hp} {a D : Addr} (h : Ex H a D) (s : Same H H') : Ex H' a D := by
  rcases h with h | ⟨d, fs, h1, h2⟩
  · exact .inl (s _ _ h)
  · exact .inr ⟨d, fs, s _ _ h1, s _ _ h2⟩
theorem ExF.same {H H' : Hp} {a D : Addr} {f : Str} {v : V} (h : ExF H a D f v) (s : Same H H') : ExF H' a D f v := by
  obtain ⟨d, fs, h1, h2, h3⟩ := h
  exact ⟨d, fs, s _ _ h1, s _ _ h2, h3⟩
section
variable {X : Cx} {pins : List (Addr × Obj)} {σ : L2.St} {H : Hp} {s : Shared} {a D : Addr}
theorem Ex.inst (I : Inv X pins σ H s) (h : Ex H a D) : ∃ ox od, PySem.W.InstAt s.heap a ox D od := by
  rcases h with h | ⟨d, fs, h1, h2⟩
  · obtain ⟨⟨oe, vs, g, z, hd, _⟩, _⟩ := (show ObjOk X.prog X.w H s.heap a (ExO (.ref D) a) from I.hok a _ h)
    exact ⟨oe, none, g, z.1, by unfold PySem.W.notCls; rw [hd] <;> rfl, by rw [z.2]; trivial⟩
  · obtain ⟨t1, g⟩ := exo_at I.hok h1
    obtain ⟨mA, ⟨o, _, _, e, _⟩, _⟩ := exd_at I.hok h2
    exact ⟨_, some o, g, rfl, rfl, e⟩
end
section
variable {K : PySem.W.Frag} {D : Addr} {prog : Program} {w : World} {A : Around} {E : Value → Shared → Prop} {s : Shared} {x : Addr} {ox : Obj} {od : Option Obj}
theorem find_data {C : Addr} {name : Str} {a g : Value} (hc : (PySem.W.clsIn K C).isSome = true) (ha : PySem.W.findIn K (.ref C) name = some (some a)) (hg : PySem.W.specialIn K a "__get__" = some (some g)) (ht : PySem.W.takesIn K a = some true) : PySem.W.findObj K C od name = some (.bind g a) := by
  obtain ⟨cd, hc⟩ := Option.isSome_iff_exists.mp hc
  simp only [PySem.W.findObj, hc, ha, hg, ht, Option.bind_some, Option.bind_eq_bind, Option.map_some]
  try simp [hg, ht]
set_option maxHeartbeats 400000 in
/-- e.__class__ -/
theorem ask_class {Q : Option Value → Shared → Prop} (C : ExcC K D) (X : K.In s.heap) (I : PySem.W.InstAt s.heap x ox D od) (h : Q (some (.ref D)) { s with toks := s.toks + 1 }) : wpAny (model prog w) A (getAttr? (.ref x) "__class__") Q E s := by
  have hf : PySem.W.findObj K D od "__class__" = some (.bind (.builtin "getset_descriptor.__get__") (.builtin "object.__class__")) := find_data (by obtain ⟨cd, hc, _⟩ := PySem.W.any_some C.hd; rw [hc]; rfl) C.ha C.hn C.ht
  obtain ⟨hp, g, d, t, os⟩ := s
  have l0 := I.type (M := model prog w)
  have l1 := PySem.W.looks_findIn (M := model prog w) X C.hg
  have l2 := PySem.W.looks_findIn (M := model prog w) X C.hk
  have l3 := PySem.W.looks_find (M := model prog w) X I hf
  have sub : PySem.W.Looks (model prog w) hp (isInstance (.ref x) (.type "BaseException")) true := l0.andThen (PySem.W.looks_subIn X C.hs)
  have n2 : (Value.builtin "BaseException.__getattribute__" == Value.builtin "object.__getattribute__") = false := by decide +kernel
  have n1 : (onTheHeap (Value.ref D) && Value.builtin "BaseException.__getattribute__" == Value.builtin "object.__getattribute__") = false := (congrArg (fun b => onTheHeap (Value.ref D) && b) n2).trans rfl
  unfold getAttr? getAttrBy? getAttrBy
  refine wpAny_bind (wpAny_mkText (wpAny_bind (wpAny_attempt (wpAny_holding (wpAny_bind (l0.at (wpAny_bind (l1.at ?_))))))))
  show wpAny _ _ (if (onTheHeap (.ref D) && Value.builtin "BaseException.__getattribute__" == Value.builtin "object.__getattribute__") = true then _ else _) _ _ _
  rw [n1, if_neg Bool.false_ne_true]
  unfold getAttrByItsOwn hookBefore
  refine wpAny_bind ?_
  rw [if_pos (show onTheHeap (Value.ref D) = true from rfl)]
  refine l2.at (wpAny_bind (wpAny_attempt (wpAny_holding ?_)))
  unfold callGetattribute
  rw [show (false && onTheHeap (Value.builtin "BaseException.__getattribute__")) = false from rfl, if_neg Bool.false_ne_true]
  unfold boundAndCalled
  rw [PySem.F.excAttr_ValueError.ga.bind (.ref x)]
  refine wpAny_bind (wpAny_pure ?_)
  show wpAny _ _ (call (.builtin "BaseException.__getattribute__") [Value.ref x, .str "__class__" t]) _ _ _
  refine wpAny_call (codeAny_call_builtin F.excAttr_ValueError.ga.plain F.entry_bexc_ga ?_)
  refine @PySem.W.check_slot (model prog w) _ _ (⟨hp, g, d, t + 1, os⟩ : Shared) "BaseException.__getattribute__" "BaseException" "__getattribute__" (Value.ref x) [.str "__class__" t] [] _ (by decide +kernel) (by decide +kernel) sub (PySem.F.args_bexc_ga (.ref x) (.str "__class__" t)) ?_
  unfold Builtin.«object.__getattribute__»
  refine wpAny_bind (wpAny_of_eq (a := ((Value.ref x : Value), [Value.str "__class__" t])) (by first | rfl | (simp only [slotArgs]; rfl)) ?_)
  refine wpAny_bind (wpAny_pure (wpAny_bind (l0.at (wpAny_bind (l3.at ?_)))))
  show wpAny _ _ (holding [.builtin "object.__class__"] (call (.builtin "getset_descriptor.__get__") [.builtin "object.__class__", .ref x, .ref D]) >>= ret) _ _ _
  refine wpAny_bind (wpAny_holding (wpAny_call (PySem.W.class_get (s := ⟨hp, g, d, t + 1, os⟩) (od := od) (ox := ox) X I C.hm ?_)))
  refine wpAny_pure ?_
  show wpAny _ _ (handedOut (Value.ref D)) _ _ _
  rw [PySem.W.handedOut_of (v := .ref D) rfl]
  first | exact wpAny_pure (wpAny_pure h) | exact wpAny_pure h | exact wpAny_pure (wpAny_bind (wpAny_pure (wpAny_pure h)))
theorem kit_ex (C : ExcC K D) : PySem.W.KitX K (.ref x) (.ref D) (fun h => PySem.W.InstAt h x ox D od) where
  ty := fun _ _ _ I => I.type
  ca := fun X I k => ask_class C X I k
  it := fun _ _ X _ => by
    obtain ⟨cd, hc, _⟩ := PySem.W.any_some C.hd
    unfold PySem.W.clsIn at hc
    split at hc
    · rename_i c' d' cd' sl' ho
      exact fun A' Q' E' s' k q => by unfold isType loadHead; exact wpAny_bind (wpAny_loadPart (k _ _ (X _ _ ho)) (wpAny_pure q))
    · cases hc
  ne := fun h tp dd its n sl X htp => by
    obtain ⟨cd, hc, _⟩ := PySem.W.any_some C.hd
    refine Bool.eq_false_iff.mpr fun q => ?_
    have e : D = tp := Value.ref.inj (beq_iff_eq.mp q)
    subst e
    unfold PySem.W.clsIn at hc
    split at hc
    · rename_i c' d' cd' sl' ho
      exact nomatch (X _ _ ho).symm.trans htp
    · cases hc
end
/-- isinstance(e, c), e an exception that is held -/
def rIsX (K : PySem.W.Frag) : List V → Hp → VK → Prop := fun xs H Q => ∃ (a D : Addr) (c : V) (cv : Value) (b : Bool), xs = [.ref a, c] ∧ Ex H a D ∧ ExcC K D ∧ (∀ u, RelV c u → u = cv) ∧ PySem.W.kitOne K (.ref D) cv = some b ∧ Q (.bl b) H
theorem c_isX {X : Cx} : CallR X (.builtin "isinstance") (rIsX X.K) := by
  intro pins s σ H xs us Q I r h
  obtain ⟨a, D, c, cv, b, rfl, hE, hC, hcv, e, q⟩ := h
  cases r with
  | cons rx rr =>
    cases rr with
    | cons rt rr =>
      cases rr
      cases rx
      have ec := hcv _ rt
      subst ec
      obtain ⟨ox, od, J⟩ := hE.inst I
      exact PySem.W.kia_one (kit_ex hC) I.kIn J e (fun z => nomatch z) fun tk => ⟨.bl b, H, I.kept (t' := tk) fun _ _ z => z, rfl, q⟩
section
variable {K : PySem.W.Frag} {H : Hp} {Q : VK} {a D C : Addr} {b : Bool} {n : String}
theorem rd_isXr (h : Ex H a D) (hC : ExcC K D) (hk : PySem.W.kitOne K (.ref D) (.ref C) = some b) (q : Q (.bl b) H) : rIsX K [.ref a, .ref C] H Q := ⟨a, D, _, .ref C, b, rfl, h, hC, fun u r => r, hk, q⟩
theorem rd_isXt (h : Ex H a D) (hC : ExcC K D) (hk : PySem.W.kitOne K (.ref D) (.type n) = some b) (q : Q (.bl b) H) : rIsX K [.ref a, .ty n] H Q := ⟨a, D, _, .type n, b, rfl, h, hC, fun u r => r, hk, q⟩
end
/-- e.f -/
def rXf (K : PySem.W.Frag) (f : Str) : V → Hp → VK → Prop := fun x H Q => ∃ (a C : Addr) (v : V), x = .ref a ∧ XfC K C ∧ PySem.W.findIn K (.ref C) f = some none ∧ ExF H a C f v ∧ Q v H
theorem pe_xfv {X : Cx} {e : Expr} {te : TE} {pos : Pos} {n : Str} (he : PE X e te) (hb : attributeBase e n X.env (eval e X.env) = eval e X.env := by rfl) : PE X (.Attribute e n pos) (tUn (rXf X.K n) te) := by
  refine ⟨fun pins s σ H Q I h => ?_⟩
  refine attr_of hb (thn (he.run pins s σ H _ I h) fun u s1 ⟨x, H1, I1, rx, a, C, v, ex, T, hno, ⟨dd, fs, h1, h2, l⟩, q⟩ => ?_)
  subst ex
  obtain rfl : u = Value.ref a := rx
  obtain ⟨t1, g⟩ := exo_at I1.hok h1
  obtain ⟨mA, hns, hr⟩ := exd_at I1.hok h2
  obtain ⟨od, ho, hl⟩ := lookIn_ns hns
  obtain ⟨u, hu, ru⟩ := RelO.some_of (v := v) (o := mA n) (by rw [← l]; exact hr n)
  have J : PySem.W.InstAt s1.heap a _ C (some od) := ⟨g, rfl, rfl, ho⟩
  exact HandSPX.exc_get I1.kIn J T.ga T.gg T.exC (PySem.W.findObj_own T.hdC hno rfl (by rw [hl, hu])) (handed_of ru) ⟨v, H1, I1.tok _, ru, q⟩
theorem rd_xf {K : PySem.W.Frag} {f : Str} {a C : Addr} {v : V} {H : Hp} {Q : VK} (T : XfC K C) (hno : PySem.W.findIn K (.ref C) f = some none) (h : ExF H a C f v) (q : Q v H) : rXf K f (.ref a) H Q := ⟨a, C, v, rfl, T, hno, h, q⟩
/-! ### made, told by what it is -/
/-- X(e), X without an own __init__ -/
def rEx1 (C : Addr) : V → Hp → VK → Prop := fun _ H Q => ∀ a, H a = none → Q (.ref a) (upd H a (ExO (.ref C) a))
theorem pe_ex1 {X : Cx} {C : Addr} {bmB : List Value} {B newId initId : String} {x : Str} {e : Expr} {ta : TE} {p pos : Pos} (F : ExcBaseFacts B newId initId bmB) (q : PySem.W.excIn X.K C bmB newId = true) (g : X.mg x = some (.ref C) ∧ PySem.W.keepIn X.K (.ref C) = true) (hg : Gl X x)
    (he : PE X e ta) (hs : starEach [e] X.env = (false, eval e X.env) :: starEach [] X.env := by rfl) (hdb : (x == ("__debug__" : Str)) = false := by decide) : PE X (.Call (.Name x p) [e] [] pos) (tUn (rEx1 C) ta) := pe_exc1 F q g.1 g.2 hg he hs hdb
theorem rd_ex1 {C : Addr} {x : V} {H : Hp} {Q : VK} (q : ∀ a H', H a = none → Same H H' → Ex H' a C → Q (.ref a) H') : rEx1 C x H Q := fun a ha => q a _ ha (same_new ha) (.inl upd_same)
/-- the promise of an __init__ that keeps its argument as f -/
def spXi (C : Addr) (f : Str) : Sp := mkSp (fun (a : Addr × V) => [.ref a.1, a.2]) fun a H Q _ => H a.1 = some (exo a.1 C none) ∧ ∀ H', (∀ b o, b ≠ a.1 → H b = some o → H' b = some o) → ExF H' a.1 C f a.2 → Q .non H'
def rXiM (C : Addr) (sp : Sp) (E : XK) : List V → Hp → VK → Prop := fun vs H Q => vs.length ≤ 1000 ∧ ∀ a, H a = none → sp (.ref a :: vs) (upd H a (exo a C none)) (fun v H2 => v = .non ∧ Q (.ref a) H2) E
theorem rd_tXiM {C : Addr} {sp : Sp} {E : XK} {ta : TA} {σ : L2.St} {H : Hp} {Q : VK} (q : ta σ H fun vs H1 => rXiM C sp E vs H1 Q) : tXiM C sp E ta σ H Q := q
theorem rd_xiM {C : Addr} {f : Str} {E : XK} {v : V} {H : Hp} {Q : VK} (q : ∀ a H', H a = none → Same H H' → ExF H' a C f v → Q (.ref a) H') : rXiM C (spXi C f) E [v] H Q := by
  refine ⟨by show 1 ≤ 1000; decide, fun a ha => rd_sp (a, v) rfl ⟨upd_same, fun H' k h => ⟨rfl, q a H' ha (fun b o e => ?_) h⟩⟩⟩
  exact k b o (ne_of_none e ha) (by rw [upd_ne (ne_of_none e ha)]; exact e)
theorem rd_tXiB {C : Addr} {ta : TA} {σ : L2.St} {H : Hp} {Q : VK} (q : ta σ H fun vs H1 => ∃ (a : Addr) (ws : List V), vs = .ref a :: ws ∧ ws.length ≤ 1000 ∧ H1 a = some (exo a C none) ∧ Q .non H1) : tXiB C ta σ H Q := q
theorem rd_tXiS {C : Addr} {f : Str} {to te : TE} {D : Ends} {σ : L2.St} {H : Hp} (q : te σ H fun y H1 => to σ H1 fun x H2 => ∃ a : Addr, x = .ref a ∧ H2 a = some (exo a C none) ∧ ∀ dx, H2 dx = none → dx ≠ a → D.nx σ (upd (upd H2 dx (exd dx [(f, y)])) a (exo a C (some dx)))) : tXiS C f to te D σ H := q
end Rd
set_option Elab.async false
set_option linter.all false
set_option maxRecDepth 100000
set_option maxHeartbeats 4000000
/-! Rg: the end of a walk whose promises know that no repr is under way. -/
namespace Rd
open PySem PySem.Spec PyProof.Rows L2
theorem roomG_caller {k : Nat} (h : Room k callerA) : RoomG k callerA := ⟨h, rfl⟩
section
variable {P : Program} {w : World} {K : PySem.W.Frag} {mg mb : Str → Option Value} {CX : CXT} {k : Nat} {fa a : Addr} {sp : Sp} {s₁ : Shared} {vs : List Value} {ns : List Int}
/-- the law is called, its script at a being the one thing that is tracked -/
theorem law_at (H : Hp) (KX : K.In s₁.heap) (hns : s₁.heap.Ns mainGlobals mg) (hb : s₁.heap.Ns builtinsNs mb) (hbb : ∀ x : Str, x ≠ "__name__" → mb x = bootBuiltins x) (hlim : s₁.heap.NoLimit) (hg : s₁.gens = #[])
    (ha : s₁.heap.get? a = some { cls := .type "list", data := .seq vs.toArray }) (hr : RoomG k callerA) (F : ∀ base : Heap, FnG P w K mg base CX k fa sp) (hok : HOk P w H s₁.heap)
    (only : ∀ b, H b ≠ none → b = a ∧ K.lookup a = none ∧ ∃ o xs, H b = some (.frz o (.lst xs))) (hsp : sp [.ref a] H (fun v _ => v = .bl true) fun _ _ _ => False) (hCX : ∀ e s', ¬ CX [] H s₁ (fun _ _ _ => False) e s') :
    codeAny (model P w) callerA (.call (.ref fa) ⟨[.ref a], []⟩) (fun r s' => r = .ok (.ret (.bool true)) ∧ OldK s₁.heap s'.heap ∧ s'.os = s₁.os ∧ AllBare s'.gens) s₁ := by
  -- what is no list is not tracked
  have free : ∀ {b o es ep}, s₁.heap.get? b = some o → o.data = .dict es ep → H b = none := by
    intro b o es ep e d
    refine Classical.byContradiction fun n => ?_
    rw [(only b n).1, ha] at e
    injection e with e
    rw [← e] at d
    exact nomatch (show Data.seq vs.toArray _ = Data.dict es ep from d)
  have names : ∀ {b m}, s₁.heap.Ns b m → (hidT s₁.heap H).Ns b m := by
    rintro b m ⟨o, es, ep, e, d, r⟩
    exact ⟨o, es, ep, hidT_get e (free e d), d, r⟩
  have kin : K.In (hidT s₁.heap H) := by
    intro b o e
    refine hidT_get (KX b o e) (Classical.byContradiction fun n => ?_)
    obtain ⟨rfl, hk, _⟩ := only b n
    exact nomatch hk.symm.trans e
  obtain ⟨mc, lim1, lim2⟩ := hlim
  have md : Mod K mg (hidT s₁.heap H) := ⟨kin, names hns, ⟨mb, names hb, hbb⟩, mc, names lim1, lim2⟩
  have env : Env0 P w K mg (hidT s₁.heap H) callerA [] s₁ H :=
    { frames := rfl, mod := md, bs := fun b o e => of_hidT e, bsz := Nat.le_of_eq (hidT_size _ _), funs := trivial, frf := fun b hb => absurd (show b ∈ ([] : List Addr) from hb) (by simp), hok := hok, bare := .of_eq hg }
  refine codeAny_mono (F _ callerA [] s₁ H [.ref a] [.ref a] _ _ hr env (.cons rfl .nil) hsp) fun r s' h => ?_
  match r, h with
  | .error e, h => exact (hCX e s' h).elim
  | .ok .next, h => exact False.elim h
  | .ok .brk, h => exact False.elim h
  | .ok .cont, h => exact False.elim h
  | .ok (.ret u), h =>
    obtain ⟨v, H', os, bare, un, hok', rv, q⟩ := h
    have qv : v = .bl true := q
    rw [qv] at rv
    obtain rfl : u = Value.bool true := rv
    refine ⟨rfl, OldK.of_keep fun b o e => ?_, os, bare⟩
    by_cases n : H b = none
    · exact un.keep b o e n (fun z => absurd (show b ∈ ([] : List Addr) from z) (by simp)) (by simp)
    · obtain ⟨_, _, ob, xs, z⟩ := only b n
      obtain ⟨e1, _⟩ := hok b _ z
      obtain ⟨e2, _⟩ := hok' b _ (un.frzs b ob _ z)
      rw [e] at e1
      injection e1 with e1
      rw [e1]
      exact e2
end
theorem walk_ofG {l : PySem.W.OpenLaw} {n k : Nat} {q : Program} {loose : List Str} {XP : (Str → Option Value) → Heap → Prop} {YP : World → Heap → Prop} {d : DefRec} (hn : l.most = some n) (hn2 : n ≤ sizeLine) (hdf : d.params.defaults = []) (hr : RoomG k callerA)
    (F : ∀ (w : World) (mg : Str → Option Value) (fa : Addr) (h : Heap), YP w h → h.Ns mainGlobals mg → mg d.name = some (.ref fa) → ∃ (K : PySem.W.Frag) (sp : Sp), K.In h ∧
      (∀ (H : Hp) (a : Addr) (ns : List Int), ns.length ≤ n → SqL K H a (ns.map V.int) → sp [.ref a] H (fun v _ => v = .bl true) fun _ _ _ => False) ∧ ∀ base : Heap, FnG l.prog w K mg base CX0 k fa sp) :
    PySem.W.WalkO q loose XP YP l.row.toRowW d [] (fun f vs => PySem.call f vs) := by
  refine Att.attach_call hn hdf fun w s₀ s₁ mg mb fa o pm cd doc a vs ns G Y ho hd hcd hmg hobj hints hlen hg => ?_
  obtain ⟨K, sp, KX, hsp, hF⟩ := F w mg fa _ Y G.T.g hmg
  have rv := vals_ints hints
  have hl : (ns.map V.int).length ≤ sizeLine := by rw [List.length_map]; exact Nat.le_trans hlen hn2
  cases hk : K.lookup a with
  | some o =>
    have e := (KX a o hk).symm.trans hobj
    injection e with e
    subst e
    exact law_at (fun _ => none) KX G.T.g G.T.b G.T.builtins G.T.nolimit hg hobj hr hF (fun b u z => nomatch (show (none : Option HO) = some u from z)) (fun b z => absurd rfl z)
      (hsp _ a ns hlen (.inr ⟨_, vs.toArray, _, hk, rfl, rfl, rfl, by rw [List.size_toArray, hints.length]; exact Nat.le_trans hlen hn2, by simpa using rv⟩)) fun e s' z => z
  | none =>
    let H : Hp := fun b => if b = a then some (.frz { cls := .type "list", data := .seq vs.toArray } (.lst (ns.map V.int))) else none
    have hA : H a = some (.frz { cls := .type "list", data := .seq vs.toArray } (.lst (ns.map V.int))) := if_pos rfl
    have hN : ∀ {b}, b ≠ a → H b = none := fun h => if_neg h
    refine law_at H KX G.T.g G.T.b G.T.builtins G.T.nolimit hg hobj hr hF (fun b u z => ?_) (fun b z => ?_) (hsp H a ns hlen (.inl (.inr ⟨_, hA⟩))) fun e s' z => z
    · by_cases hb : b = a
      · subst hb
        obtain rfl := Option.some.inj (hA.symm.trans z)
        exact ⟨hobj, hl, vs, _, rv, hobj⟩
      · exact nomatch (hN hb).symm.trans z
    · by_cases hb : b = a
      · subst hb
        exact ⟨rfl, hk, _, _, hA⟩
      · exact absurd (hN hb) z
end Rd
set_option Elab.async false
set_option linter.all false
set_option maxRecDepth 100000
set_option maxHeartbeats 4000000
/-! Rl: lists: made of others, appended to, popped, compared, filtered. -/
namespace Rd
open PySem PySem.Spec PyProof.Rows L2
/-- a module's class or def as a value -/
theorem pe_glr {X : Cx} {x : Str} {a : Addr} {pos : Pos} (hg : Gl X x) (hm : X.mg x = some (.ref a)) (hd : (x == ("__debug__" : Str)) = false := by decide) : PE X (.Name x pos) (tC (.ref a)) := pe_glob (v := .ref a) hg hm rfl hd
/-- a module's number -/
theorem pe_gli {X : Cx} {x : Str} {i : Int} {pos : Pos} (hg : Gl X x) (hm : ∃ t, X.mg x = some (.int i t)) (hd : (x == ("__debug__" : Str)) = false := by decide) : PE X (.Name x pos) (tC (.int i)) := by
  obtain ⟨t, hm⟩ := hm
  exact pe_glob (v := .int i) hg hm ⟨t, rfl⟩ hd
theorem pe_gls {X : Cx} {x z : Str} {pos : Pos} (hg : Gl X x) (hm : ∃ t, X.mg x = some (.str z t)) (hd : (x == ("__debug__" : Str)) = false := by decide) : PE X (.Name x pos) (tC (.str z)) := by
  obtain ⟨t, hm⟩ := hm
  exact pe_glob (v := .str z) hg hm ⟨t, rfl⟩ hd
def rListOf (K : PySem.W.Frag) : List V → Hp → VK → Prop := fun xs H Q => ∃ p ys, xs = [.ref p] ∧ (SqL K H p ys ∨ SqT K H p ys) ∧ ∀ l, H l = none → Q (.ref l) (upd H l (.lst ys))
def rTupleOf (K : PySem.W.Frag) : List V → Hp → VK → Prop := fun xs H Q => ∃ p ys, xs = [.ref p] ∧ ((SqL K H p ys ∧ ∀ l, H l = none → Q (.ref l) (upd H l (.tup ys))) ∨ (SqT K H p ys ∧ Q (.ref p) H))
def rRepI : List V → Hp → VK → Prop := fun xs H Q => ∃ i, xs = [.int i] ∧ i.natAbs.log2 < 1920 ∧ Q (.str (toString i)) H
section
variable {X : Cx} {K : PySem.W.Frag} {H : Hp} {Q : VK} {a : Addr} {xs : List V} {v : V} {σ : L2.St}
theorem c_list : CallR X (.type "list") (rListOf X.K) := call_list_of
theorem c_tuple : CallR X (.type "tuple") (rTupleOf X.K) := call_tuple_of
theorem c_reprI : CallR X (.builtin "repr") rRepI := SkE.call_repr_int
theorem rd_listL (h : SqL K H a xs) (q : ∀ l H', H l = none → Same H H' → H' l = some (.lst xs) → Q (.ref l) H') : rListOf K [.ref a] H Q := ⟨a, xs, rfl, .inl h, fun l hl => q l _ hl (same_new hl) upd_same⟩
theorem rd_listT (h : SqT K H a xs) (q : ∀ l H', H l = none → Same H H' → H' l = some (.lst xs) → Q (.ref l) H') : rListOf K [.ref a] H Q := ⟨a, xs, rfl, .inr h, fun l hl => q l _ hl (same_new hl) upd_same⟩
theorem rd_tupleL (h : SqL K H a xs) (q : ∀ l H', H l = none → Same H H' → H' l = some (.tup xs) → Q (.ref l) H') : rTupleOf K [.ref a] H Q := ⟨a, xs, rfl, .inl ⟨h, fun l hl => q l _ hl (same_new hl) upd_same⟩⟩
theorem rd_tupleT (h : SqT K H a xs) (q : Q (.ref a) H) : rTupleOf K [.ref a] H Q := ⟨a, xs, rfl, .inr ⟨h, q⟩⟩
theorem rd_reprI {i : Int} (h : i.natAbs.log2 < 1920) (q : Q (.str (toString i)) H) : rRepI [.int i] H Q := ⟨i, rfl, h, q⟩
/-! methods of lists -/
theorem rd_bm {T : String} {r : V → List V → Hp → VK → Prop} {to : TE} {t : TA} (q : to σ H fun x H1 => tyV K T x H1 ∧ t σ H1 fun xs H2 => r x xs H2 Q) : tBM K T r to t σ H Q := q
theorem rd_bm0 {T : String} {r : V → List V → Hp → VK → Prop} {to : TE} (q : to σ H fun x H1 => tyV K T x H1 ∧ r x [] H1 Q) : tBM0 K T r to σ H Q := q
theorem tyL (h : SqL K H a xs) : tyV K "list" (.ref a) H := .inl ⟨rfl, _, h⟩
theorem rd_append {y : V} (h : H a = some (.lst xs)) (hz : xs.length < sizeLine) (q : Q .non (upd H a (.lst (xs ++ [y])))) : rAppend (.ref a) [y] H Q := ⟨a, xs, y, rfl, rfl, h, hz, q⟩
theorem rd_pop {y : V} (h : H a = some (.lst xs)) (hy : xs[xs.length - 1]? = some y) (q : Q y (upd H a (.lst xs.dropLast))) : rPop (.ref a) [] H Q := ⟨a, xs, y, rfl, rfl, h, hy, q⟩
theorem rd_cat {b : Addr} {ys : List V} (h1 : H a = some (.lst xs)) (h2 : H b = some (.lst ys)) (hz : xs.length + ys.length ≤ sizeLine) (q : ∀ p H', H p = none → Same H H' → H' p = some (.lst (xs ++ ys)) → Q (.ref p) H') : rCat (.ref a) (.ref b) H Q :=
  ⟨a, b, xs, ys, rfl, rfl, h1, h2, hz, fun p hp => q p _ hp (same_new hp) upd_same⟩
/-! deep data -/
theorem dpI (ns : List Int) : DpAll K H (ns.map V.int) (ns.map PyData.int) := by
  induction ns with
  | nil => exact .nil
  | cons n r ih => exact .cons (.int n) ih
theorem rd_eqD {x y : V} {d e : PyData} (h1 : Dp K H x d) (h2 : Dp K H y e) (s1 : SeqAt.shaped d = true) (s2 : SeqAt.shaped e = true) (q : Q (.bl (PyData.eqv d e)) H) : rEqD K x y H Q := ⟨d, e, h1, h2, s1, s2, q⟩
theorem rd_neD {x y : V} {d e : PyData} (h1 : Dp K H x d) (h2 : Dp K H y e) (s1 : SeqAt.shaped d = true) (s2 : SeqAt.shaped e = true) (q : Q (.bl (!PyData.eqv d e)) H) : rNeD K x y H Q := ⟨d, e, h1, h2, s1, s2, q⟩
theorem canI : ∀ ns : List Int, PyData.canLayAll0 (ns.map PyData.int) = true
  | [] => rfl
  | _ :: r => canI r
theorem depI : ∀ ns : List Int, PyData.depthAll (ns.map PyData.int) = 0
  | [] => rfl
  | _ :: r => by
    show max 0 (PyData.depthAll (r.map PyData.int)) = 0
    rw [depI r]; rfl
theorem shLI (ns : List Int) : SeqAt.shaped (.list (ns.map PyData.int)) = true := by
  unfold SeqAt.shaped
  rw [show PyData.canLay0 (.list (ns.map PyData.int)) = true from canI ns, show PyData.depth (.list (ns.map PyData.int)) = 1 by show PyData.depthAll (ns.map PyData.int) + 1 = 1; rw [depI]]
  rfl
theorem shTI (ns : List Int) : SeqAt.shaped (.tuple (ns.map PyData.int)) = true := by
  unfold SeqAt.shaped
  rw [show PyData.canLay0 (.tuple (ns.map PyData.int)) = true from canI ns, show PyData.depth (.tuple (ns.map PyData.int)) = 1 by show PyData.depthAll (ns.map PyData.int) + 1 = 1; rw [depI]]
  rfl
theorem rd_isN {x : V} (q : Q (.bl (decide (x = .non))) H) : rIsN x .non H Q := ⟨rfl, q⟩
theorem rd_notN {x : V} (q : Q (.bl (!decide (x = .non))) H) : rNotN x .non H Q := ⟨rfl, q⟩
end
/-! ### comprehensions with a test -/
section
variable {K : PySem.W.Frag} {σ : L2.St} {H : Hp} {Q : VK} {g : TG} {te : TE} {tt : TT} {vs : List Nat} {a : Addr} {xs : List V}
theorem lc_filt {J : It} (pr : V → Bool) (f : V → V) (hz : xs.length ≤ 100000)
    (go : ∀ i H1, i < xs.length → Same H H1 → J.go i H1) (stop : ∀ H1, Same H H1 → J.stop xs.length H1) (yld : ∀ i H1 x H2, i < xs.length → Same H H1 → J.yld i H1 x H2 → H2 = H1 ∧ xs[i]? = some x)
    (step : ∀ x H1 (N : Hp → Prop) (M : V → Hp → Prop), x ∈ xs → Same H H1 → (pr x = false → ∀ H2, Same H1 H2 → N H2) → (pr x = true → ∀ H2, Same H1 H2 → M (f x) H2) → g x (wipe σ vs) H1 fun σ2 H2 => wipe σ2 vs = wipe σ vs ∧ tt σ2 H2 fun b H3 => if b = true then te σ2 H3 M else N H3)
    (done : ∀ D H', H D = none → Same H H' → H' D = some (.lst ((xs.filter pr).map f)) → Q (.ref D) H') : rLc g tt te vs σ Q J H := by
  intro D hD
  let Pv : Nat → Hp → Prop := fun i H1 => Same H H1 ∧ H1 D = some (.lst (((xs.take i).filter pr).map f))
  refine ⟨fun i m H1 => m = xs.length - i ∧ i ≤ xs.length ∧ Pv i H1, ⟨xs.length, by simp, Nat.zero_le _, same_new hD, by rw [upd_same]; rfl⟩, ?_⟩
  rintro i m H1 ⟨rfl, hi, s1, hd1⟩
  by_cases hlt : i < xs.length
  · refine .inr ⟨go i H1 hlt s1, Pv (i + 1), fun H' p' => ⟨xs.length - (i + 1), by omega, rfl, hlt, p'⟩, fun x H' y => ?_⟩
    obtain ⟨rfl, ex⟩ := yld i H1 x H' hlt s1 y
    have et : ((xs.take (i + 1)).filter pr).map f = ((xs.take i).filter pr).map f ++ (if pr x = true then [f x] else []) := by
      rw [List.take_add_one, ex, List.filter_append, List.map_append]
      congr 1
      show (([x] : List V).filter pr).map f = _
      by_cases hp : pr x = true
      · rw [if_pos hp, List.filter_cons, if_pos hp]; rfl
      · rw [if_neg hp, List.filter_cons, if_neg hp]; rfl
    refine step x H' _ _ (List.mem_of_getElem? ex) s1 (fun hp H2 s2 => ?_) (fun hp H2 s2 => ?_)
    · refine ⟨s1.trans s2, ?_⟩
      rw [et, if_neg (by rw [hp]; exact Bool.false_ne_true), List.append_nil]
      exact s2 _ _ hd1
    · have hz2 : (((xs.take i).filter pr).map f).length < sizeLine := by
        rw [List.length_map]
        exact Nat.lt_of_le_of_lt (Nat.le_trans (List.length_filter_le _ _) (Nat.le_trans (by rw [List.length_take]; exact Nat.min_le_right _ _) hz)) (by decide)
      refine ⟨_, s2 _ _ hd1, hz2, fun b o e => ?_, ?_⟩
      · rw [upd_ne (ne_of_none e hD)]
        exact s2 _ _ (s1 _ _ e)
      · rw [upd_same, et, if_pos hp]
  · have e : i = xs.length := by omega
    subst e
    refine .inl ⟨stop H1 s1, done D H1 hD s1 ?_⟩
    rw [hd1, List.take_length]
theorem lc_lstP (pr : V → Bool) (f : V → V) (hz : xs.length ≤ 100000) (hS : SqL K H a xs)
    (step : ∀ x H1 (N : Hp → Prop) (M : V → Hp → Prop), x ∈ xs → Same H H1 → (pr x = false → ∀ H2, Same H1 H2 → N H2) → (pr x = true → ∀ H2, Same H1 H2 → M (f x) H2) → g x (wipe σ vs) H1 fun σ2 H2 => wipe σ2 vs = wipe σ vs ∧ tt σ2 H2 fun b H3 => if b = true then te σ2 H3 M else N H3)
    (done : ∀ D H', H D = none → Same H H' → H' D = some (.lst ((xs.filter pr).map f)) → Q (.ref D) H') : rLc g tt te vs σ Q (Itl K a) H := by
  refine lc_filt (xs := xs) pr f hz (fun i H1 hi s1 => ?_) (fun H1 s1 => ?_) (fun i H1 x H2 hi s1 y => ?_) step done
  · exact ⟨xs, xs[i], L2.Same.seq s1 hS, by simp [hi]⟩
  · exact ⟨xs, L2.Same.seq s1 hS, Nat.le_refl _⟩
  · obtain ⟨e, y⟩ := y
    exact ⟨e, y xs (L2.Same.seq s1 hS)⟩
theorem lc_tupP (pr : V → Bool) (f : V → V) (hz : xs.length ≤ 100000) (hS : SqT K H a xs)
    (step : ∀ x H1 (N : Hp → Prop) (M : V → Hp → Prop), x ∈ xs → Same H H1 → (pr x = false → ∀ H2, Same H1 H2 → N H2) → (pr x = true → ∀ H2, Same H1 H2 → M (f x) H2) → g x (wipe σ vs) H1 fun σ2 H2 => wipe σ2 vs = wipe σ vs ∧ tt σ2 H2 fun b H3 => if b = true then te σ2 H3 M else N H3)
    (done : ∀ D H', H D = none → Same H H' → H' D = some (.lst ((xs.filter pr).map f)) → Q (.ref D) H') : rLc g tt te vs σ Q (Itt K a) H := by
  refine lc_filt (xs := xs) pr f hz (fun i H1 hi s1 => ?_) (fun H1 s1 => ?_) (fun i H1 x H2 hi s1 y => ?_) step done
  · exact ⟨xs, xs[i], Same.sqT s1 hS, by simp [hi]⟩
  · exact ⟨xs, Same.sqT s1 hS, Nat.le_refl _⟩
  · obtain ⟨e, y⟩ := y
    exact ⟨e, y xs (Same.sqT s1 hS)⟩
end
end Rd
set_option Elab.async false
set_option linter.all false
set_option maxRecDepth 100000
set_option maxHeartbeats 4000000
/-! Rp: repr of data, enumerate and zip, targets in pairs, join. -/
namespace Rd
open PySem PySem.Spec PyProof.Rows L2
/-! ### repr -/
section
variable {K : PySem.W.Frag} {H : Hp}
mutual
theorem noDict : ∀ (d : PyData) (v : V), Dp K H v d → d.hasDict = false
  | .none, _, _ => rfl
  | .bool _, _, _ => rfl
  | .int _, _, _ => rfl
  | .str _, _, _ => rfl
  | .list ds, _, h => by cases h with | lst _ h => exact noDictAll ds _ h
  | .tuple ds, _, h => by cases h with | tup _ h => exact noDictAll ds _ h
  | .dict _, _, h => nomatch h
theorem noDictAll : ∀ (ds : List PyData) (vs : List V), DpAll K H vs ds → PyData.hasDictAll ds = false
  | [], _, _ => rfl
  | d :: ds, _, h => by
    cases h with
    | cons h1 h2 =>
      show (d.hasDict || PyData.hasDictAll ds) = false
      rw [noDict d _ h1, noDictAll ds _ h2]
      rfl
end
end
def rRepD (K : PySem.W.Frag) : List V → Hp → VK → Prop := fun xs H Q => ∃ a d, xs = [.ref a] ∧ Dp K H (.ref a) d ∧ d.showable = true ∧ d.depth ≤ 60 ∧ d.shown.length ≤ sizeLine ∧ Q (.str d.shown) H
theorem c_reprD {X : Cx} (hg : X.A.guards = some []) (hu : X.A.units + 64 < cLine) : CallR X (.builtin "repr") (rRepD X.K) := by
  intro pins s σ H xs us Q I r h
  obtain ⟨a, d, rfl, hd, hs, hz, hl, q⟩ := h
  cases r with
  | cons rx rr =>
    cases rr
    cases rx
    obtain ⟨as, rd⟩ := Dp.reads I d _ _ hd rfl
    exact repr_of_reads' rd hs (fun e => by rw [noDict d _ hd] at e; cases e) hg (by omega) (fun _ _ e => e) (fun h' u tk hk => ⟨.str _, H, I.kept hk, ⟨_, rfl⟩, q⟩) hl
theorem rd_reprD {K : PySem.W.Frag} {H : Hp} {Q : VK} {a : Addr} {d : PyData} (h : Dp K H (.ref a) d) (hs : d.showable = true) (hz : d.depth ≤ 60) (hl : d.shown.length ≤ sizeLine) (q : Q (.str d.shown) H) : rRepD K [.ref a] H Q := ⟨a, d, rfl, h, hs, hz, hl, q⟩
/-! ### data of tuples -/
mutual
/-- v is the data d, in which there is no list -/
inductive Dt (K : PySem.W.Frag) (H : Hp) : V → PyData → Prop
  | non : Dt K H .non .none
  | bl (b : Bool) : Dt K H (.bl b) (.bool b)
  | int (i : Int) : Dt K H (.int i) (.int i)
  | str (x : Str) : Dt K H (.str x) (.str x)
  | tup {a : Addr} {xs : List V} {ds : List PyData} : SqT K H a xs → DtAll K H xs ds → Dt K H (.ref a) (.tuple ds)
inductive DtAll (K : PySem.W.Frag) (H : Hp) : List V → List PyData → Prop
  | nil : DtAll K H [] []
  | cons {v : V} {vs : List V} {d : PyData} {ds : List PyData} : Dt K H v d → DtAll K H vs ds → DtAll K H (v :: vs) (d :: ds)
end
section
variable {K : PySem.W.Frag} {H H' : Hp}
mutual
theorem Dt.dp : ∀ (d : PyData) (v : V), Dt K H v d → Dp K H v d
  | .none, _, h => by cases h; exact .non
  | .bool _, _, h => by cases h; exact .bl _
  | .int _, _, h => by cases h; exact .int _
  | .str _, _, h => by cases h; exact .str _
  | .list _, _, h => nomatch h
  | .tuple ds, _, h => by cases h with | tup h1 h2 => exact .tup h1 (DtAll.dp ds _ h2)
  | .dict _, _, h => nomatch h
theorem DtAll.dp : ∀ (ds : List PyData) (vs : List V), DtAll K H vs ds → DpAll K H vs ds
  | [], _, h => by cases h; exact .nil
  | d :: ds, _, h => by cases h with | cons h1 h2 => exact .cons (Dt.dp d _ h1) (DtAll.dp ds _ h2)
end
mutual
theorem Dt.mono' (m : ∀ a xs, SqT K H a xs → SqT K H' a xs) : ∀ (d : PyData) (v : V), Dt K H v d → Dt K H' v d
  | .none, _, h => by cases h; exact .non
  | .bool _, _, h => by cases h; exact .bl _
  | .int _, _, h => by cases h; exact .int _
  | .str _, _, h => by cases h; exact .str _
  | .list _, _, h => nomatch h
  | .tuple ds, _, h => by cases h with | tup h1 h2 => exact .tup (m _ _ h1) (DtAll.mono' m ds _ h2)
  | .dict _, _, h => nomatch h
theorem DtAll.mono' (m : ∀ a xs, SqT K H a xs → SqT K H' a xs) : ∀ (ds : List PyData) (vs : List V), DtAll K H vs ds → DtAll K H' vs ds
  | [], _, h => by cases h; exact .nil
  | d :: ds, _, h => by cases h with | cons h1 h2 => exact .cons (Dt.mono' m d _ h1) (DtAll.mono' m ds _ h2)
end
theorem Dt.same {d : PyData} {v : V} (h : Dt K H v d) (s : Same H H') : Dt K H' v d := h.mono' (fun _ _ q => Same.sqT s q)
end
/-- short enough to be shown -/
structure Small (d : PyData) : Prop where
  sh : d.showable = true
  dp : d.depth ≤ 8
  lf : d.leavesShort 300 = true
  wt : d.weight ≤ 300
theorem small_int {i : Int} (h : i.natAbs.log2 < 250) : Small (.int i) := by
  refine ⟨decide_eq_true (by omega), by show 0 ≤ 8; decide, ?_, ?_⟩
  · refine decide_eq_true ?_
    have e := int_text_length_le (k := 250) (by decide) h
    have e2 : (PyData.shown (.int i)).length = (toString i).length := by
      show (Str.ofString (toString i)).length = _
      exact PySem.ofString_length _
    rw [e2]
    omega
  · show (if i == 0 then 0 else i.natAbs.log2 + 1) ≤ 300
    split <;> omega
theorem small_all : ∀ (ds : List PyData), (∀ d ∈ ds, Small d) → PyData.showableAll ds = true ∧ PyData.depthAll ds ≤ 8 ∧ PyData.leavesShortAll 300 ds = true ∧ PyData.weightAll ds ≤ 301 * ds.length
  | [], _ => ⟨rfl, by show 0 ≤ 8; decide, rfl, by show 0 ≤ _; exact Nat.zero_le _⟩
  | d :: ds, h => by
    obtain ⟨h1, h2, h3, h4⟩ := small_all ds fun e he => h e (List.mem_cons_of_mem _ he)
    have hd := h d List.mem_cons_self
    refine ⟨?_, ?_, ?_, ?_⟩
    · show (d.showable && PyData.showableAll ds) = true
      rw [hd.sh, h1]; rfl
    · show max d.depth (PyData.depthAll ds) ≤ 8
      exact Nat.max_le.mpr ⟨hd.dp, h2⟩
    · show (d.leavesShort 300 && PyData.leavesShortAll 300 ds) = true
      rw [hd.lf, h3]; rfl
    · show d.weight + 1 + PyData.weightAll ds ≤ 301 * (ds.length + 1)
      have := hd.wt
      omega
theorem rd_reprL {K : PySem.W.Frag} {H : Hp} {Q : VK} {a : Addr} {ds : List PyData} (h : Dp K H (.ref a) (.list ds)) (hs : ∀ d ∈ ds, Small d) (hn : ds.length ≤ 100) (q : Q (.str (PyData.list ds).shown) H) : rRepD K [.ref a] H Q := by
  obtain ⟨h1, h2, h3, h4⟩ := small_all ds hs
  refine rd_reprD h h1 (show PyData.depthAll ds + 1 ≤ 60 by omega) ?_ q
  have hw : (PyData.list ds).weight ≤ 30100 := Nat.le_trans h4 (by omega)
  have := PyData.shown_le 300 (by decide) (.list ds) h3
  have e := sizeLine_eq
  have h5 : (300 + 2) * (PyData.list ds).weight ≤ 302 * 30100 := Nat.mul_le_mul (Nat.le_refl _) hw
  omega
/-! ### pairs as targets -/
section
variable {K : PySem.W.Frag} {σ : L2.St} {H : Hp} {QS : L2.St → Hp → Prop} {t : TGs} {g : TG} {a : Addr} {xs : List V} {v : V} {n : Nat}
theorem rd_gTup (h : SqT K H a xs) (hn : xs.length = n) (q : t xs σ H QS) : gTup K n t (.ref a) σ H QS := ⟨a, xs, rfl, h, hn, q⟩
theorem rd_gCons (q : g v σ H fun σ' H' => t xs σ' H' QS) : gCons g t (v :: xs) σ H QS := ⟨v, xs, rfl, q⟩
theorem rd_gNil (q : QS σ H) : gNil [] σ H QS := ⟨rfl, q⟩
end
/-- a pair as target in a comprehension, where the part K is told -/
theorem pg_tupK {X : Cx} {K : PySem.W.Frag} {es : List Expr} {k : Nat} {t : TGs} {n : Nat} {pos : Pos} (hK : X.K = K) (hc : X.calm = true) (h : PGs X es t) (hn : (assignEach es X.env).length = n := by rfl) (hst : (assignEach es X.env).findIdx? (·.1) = none := by rfl) : PG X (.Tuple es k pos) (gTup K n t) := by
  subst hK
  exact pg_tup hc h hn hst
/-! ### enumerate, zip -/
section
variable {K : PySem.W.Frag} {σ : L2.St} {H : Hp} {Q : VK} {g : TG} {te : TE} {tt : TT} {ta : TA} {vs : List Nat} {a b : Addr} {xs ys : List V} {D : Ends} {tb : TS}
def rIE (K : PySem.W.Frag) (vs : List V) (H : Hp) (R : It → Hp → Prop) : Prop := ∃ a xs, vs = [.ref a] ∧ SqL K H a xs ∧ R (Ite K a) H
def rIZ (K : PySem.W.Frag) (vs : List V) (H : Hp) (R : It → Hp → Prop) : Prop := ∃ a b xs ys, vs = [.ref a, .ref b] ∧ SqL K H a xs ∧ SqL K H b ys ∧ R (Itz K a b) H
theorem rd_iEnum {R : It → Hp → Prop} (q : ta σ H fun vs H1 => rIE K vs H1 R) : iEnum K ta σ H R := q
theorem rd_iZip {R : It → Hp → Prop} (q : ta σ H fun vs H1 => rIZ K vs H1 R) : iZip K ta σ H R := q
theorem rd_IE {R : It → Hp → Prop} (h : SqL K H a xs) (q : R (Ite K a) H) : rIE K [.ref a] H R := ⟨a, xs, rfl, h, q⟩
theorem rd_IZ {R : It → Hp → Prop} (h1 : SqL K H a xs) (h2 : SqL K H b ys) (q : R (Itz K a b) H) : rIZ K [.ref a, .ref b] H R := ⟨a, b, xs, ys, rfl, h1, h2, q⟩
theorem for_enum (Pv : Nat → L2.St → Hp → Prop) (h0 : Pv 0 σ H) (hl : ∀ i σ H, i ≤ xs.length → Pv i σ H → SqL K H a xs)
    (hs : ∀ i x σ H T H', xs[i]? = some x → Pv i σ H → H T = none → Same H H' → H' T = some (.tup [.int (i : Nat), x]) → g (.ref T) σ H' fun σ2 H2 => tb { nx := Pv (i + 1), rt := D.rt, ct := Pv (i + 1), bk := D.nx } σ2 H2)
    (hd : ∀ σ H, Pv xs.length σ H → D.nx σ H) : rFor g tb D σ (Ite K a) H := by
  refine ⟨fun i m σ1 H1 => m = xs.length - i ∧ i ≤ xs.length ∧ Pv i σ1 H1, ⟨_, rfl, Nat.zero_le _, h0⟩, ?_⟩
  rintro i m σ1 H1 ⟨rfl, hi, p⟩
  have hq := hl i σ1 H1 hi p
  by_cases hlt : i < xs.length
  · refine .inr ⟨⟨xs, xs[i], hq, List.getElem?_eq_getElem hlt⟩, Pv (i + 1), fun σ' H' p' => ⟨xs.length - (i + 1), by omega, rfl, hlt, p'⟩, fun v H' y => ?_⟩
    obtain ⟨T, x, rfl, hT, rfl, hx⟩ := y
    exact hs i x σ1 H1 T _ (hx xs hq) p hT (same_new hT) upd_same
  · obtain rfl : i = xs.length := by omega
    exact .inl ⟨⟨xs, hq, Nat.le_refl _⟩, hd σ1 H1 p⟩
/-- a comprehension with a test over what stays: the items are told by zs -/
theorem lc_gen {α : Type} {J : It} (zs : List α) (is : α → V → Hp → Prop) (pr : α → Bool) (f : α → V) (hz : zs.length ≤ 100000)
    (go : ∀ i H1, i < zs.length → Same H H1 → J.go i H1) (stop : ∀ H1, Same H H1 → J.stop zs.length H1) (yld : ∀ i H1 x H2 z, zs[i]? = some z → Same H H1 → J.yld i H1 x H2 → Same H1 H2 ∧ is z x H2)
    (step : ∀ z x H1 (N : Hp → Prop) (M : V → Hp → Prop), z ∈ zs → Same H H1 → is z x H1 → (pr z = false → ∀ H2, Same H1 H2 → N H2) → (pr z = true → ∀ H2, Same H1 H2 → M (f z) H2) →
      g x (wipe σ vs) H1 fun σ2 H2 => wipe σ2 vs = wipe σ vs ∧ tt σ2 H2 fun b H3 => if b = true then te σ2 H3 M else N H3)
    (done : ∀ D H', H D = none → Same H H' → H' D = some (.lst ((zs.filter pr).map f)) → Q (.ref D) H') : rLc g tt te vs σ Q J H := by
  intro D hD
  let Pv : Nat → Hp → Prop := fun i H1 => Same H H1 ∧ H1 D = some (.lst (((zs.take i).filter pr).map f))
  refine ⟨fun i m H1 => m = zs.length - i ∧ i ≤ zs.length ∧ Pv i H1, ⟨zs.length, by simp, Nat.zero_le _, same_new hD, by rw [upd_same]; rfl⟩, ?_⟩
  rintro i m H1 ⟨rfl, hi, s1, hd1⟩
  by_cases hlt : i < zs.length
  · refine .inr ⟨go i H1 hlt s1, Pv (i + 1), fun H' p' => ⟨zs.length - (i + 1), by omega, rfl, hlt, p'⟩, fun x H' y => ?_⟩
    have ez : zs[i]? = some zs[i] := List.getElem?_eq_getElem hlt
    obtain ⟨s2, hx⟩ := yld i H1 x H' _ ez s1 y
    have et : ((zs.take (i + 1)).filter pr).map f = ((zs.take i).filter pr).map f ++ (if pr zs[i] = true then [f zs[i]] else []) := by
      rw [List.take_add_one, ez, List.filter_append, List.map_append]
      congr 1
      show (([zs[i]] : List α).filter pr).map f = _
      by_cases hp : pr zs[i] = true
      · rw [if_pos hp, List.filter_cons, if_pos hp]; rfl
      · rw [if_neg hp, List.filter_cons, if_neg hp]; rfl
    refine step zs[i] x H' _ _ (List.getElem_mem hlt) (s1.trans s2) hx (fun hp H2 s3 => ?_) (fun hp H2 s3 => ?_)
    · refine ⟨(s1.trans s2).trans s3, ?_⟩
      rw [et, if_neg (by rw [hp]; exact Bool.false_ne_true), List.append_nil]
      exact s3 _ _ (s2 _ _ hd1)
    · have hz2 : (((zs.take i).filter pr).map f).length < sizeLine := by
        rw [List.length_map]
        exact Nat.lt_of_le_of_lt (Nat.le_trans (List.length_filter_le _ _) (Nat.le_trans (by rw [List.length_take]; exact Nat.min_le_right _ _) hz)) (by decide)
      refine ⟨_, s3 _ _ (s2 _ _ hd1), hz2, fun b o e => ?_, ?_⟩
      · rw [upd_ne (ne_of_none e hD)]
        exact s3 _ _ (s2 _ _ (s1 _ _ e))
      · rw [upd_same, et, if_pos hp]
  · obtain rfl : i = zs.length := by omega
    refine .inl ⟨stop H1 s1, done D H1 hD s1 ?_⟩
    rw [hd1, List.take_length]
/-- [.. for x, y in zip(..) if ..] -/
theorem lc_zip (hl : xs.length = ys.length) (pr : V × V → Bool) (f : V × V → V) (hz : xs.length ≤ 100000) (h1 : SqL K H a xs) (h2 : SqL K H b ys)
    (step : ∀ (z : V × V) T H1 (N : Hp → Prop) (M : V → Hp → Prop), z ∈ xs.zip ys → Same H H1 → H1 T = some (.tup [z.1, z.2]) → (pr z = false → ∀ H2, Same H1 H2 → N H2) → (pr z = true → ∀ H2, Same H1 H2 → M (f z) H2) →
      g (.ref T) (wipe σ vs) H1 fun σ2 H2 => wipe σ2 vs = wipe σ vs ∧ tt σ2 H2 fun b H3 => if b = true then te σ2 H3 M else N H3)
    (done : ∀ D H', H D = none → Same H H' → H' D = some (.lst (((xs.zip ys).filter pr).map f)) → Q (.ref D) H') : rLc g tt te vs σ Q (Itz K a b) H := by
  have lz : (xs.zip ys).length = xs.length := by rw [List.length_zip]; omega
  refine lc_gen (xs.zip ys) (fun z v H2 => ∃ T, v = .ref T ∧ H2 T = some (.tup [z.1, z.2])) pr f (by omega) (fun i H1 hi s1 => ?_) (fun H1 s1 => ?_) (fun i H1 x H2 z ez s1 y => ?_) (fun z x H1 N M hz' s1 hx hN hM => ?_) done
  · exact ⟨xs, ys, xs[i]'(by omega), ys[i]'(by omega), L2.Same.seq s1 h1, L2.Same.seq s1 h2, List.getElem?_eq_getElem _, List.getElem?_eq_getElem _⟩
  · exact ⟨xs, ys, L2.Same.seq s1 h1, L2.Same.seq s1 h2, .inl (by omega)⟩
  · obtain ⟨T, u, v, rfl, hT, rfl, hu, hv⟩ := y
    have e1 := hu xs (L2.Same.seq s1 h1)
    have e2 := hv ys (L2.Same.seq s1 h2)
    have : (xs.zip ys)[i]? = some (u, v) := by rw [List.getElem?_zip_eq_some]; exact ⟨e1, e2⟩
    rw [this] at ez
    injection ez with ez
    subst ez
    exact ⟨same_new hT, T, rfl, upd_same⟩
  · obtain ⟨T, rfl, hT⟩ := hx
    exact step z T H1 N M hz' s1 hT hN hM
end
section
variable {K : PySem.W.Frag} {σ : L2.St} {H : Hp} {Q : VK} {g : TG} {te : TE} {vs : List Nat}
/-- [.. for i in range(..)] of things that stay -/
theorem lc_rng {lo : Int} {n : Nat} (f : Nat → V) (hz : n ≤ 100000)
    (step : ∀ (i : Nat) H1 (N : V → Hp → Prop), i < n → Same H H1 → (∀ H2, Same H1 H2 → N (f i) H2) → g (.int (lo + i)) (wipe σ vs) H1 fun σ2 H2 => wipe σ2 vs = wipe σ vs ∧ te σ2 H2 N)
    (done : ∀ D H', H D = none → Same H H' → H' D = some (.lst ((List.range n).map f)) → Q (.ref D) H') : rLc g tYes te vs σ Q (Itr lo n) H := by
  refine lc_gen (List.range n) (fun z v _ => z < n ∧ v = .int (lo + z)) (fun _ => true) f (by rw [List.length_range]; exact hz) (fun i H1 hi s1 => ?_) (fun H1 s1 => ?_) (fun i H1 x H2 z ez s1 y => ?_) (fun z x H1 N M hz' s1 hx hN hM => ?_) (fun D H' h1 h2 h3 => ?_)
  · rw [List.length_range] at hi
    exact hi
  · rw [List.length_range]
    exact Nat.le_refl n
  · obtain ⟨rfl, rfl⟩ := y
    obtain ⟨hi, e⟩ := List.getElem?_eq_some_iff.mp ez
    rw [List.getElem_range] at e
    subst e
    rw [List.length_range] at hi
    exact ⟨Same.refl _, hi, rfl⟩
  · obtain ⟨hi, rfl⟩ := hx
    exact step z H1 M hi s1 (hM rfl)
  · refine done D H' h1 h2 ?_
    rw [h3, List.filter_eq_self.mpr fun _ _ => rfl]
end
section
variable {K : PySem.W.Frag} {σ : L2.St} {H : Hp} {Q : VK} {g : TG} {te : TE} {vs : List Nat} {a : Addr}
/-- [.. for x in a list], the items told by zs -/
theorem lc_lstA {α : Type} (zs : List α) (val : α → V) (f : α → V) (hz : zs.length ≤ 100000) (hS : SqL K H a (zs.map val))
    (step : ∀ z H1 (N : V → Hp → Prop), z ∈ zs → Same H H1 → (∀ H2, Same H1 H2 → N (f z) H2) → g (val z) (wipe σ vs) H1 fun σ2 H2 => wipe σ2 vs = wipe σ vs ∧ te σ2 H2 N)
    (done : ∀ D H', H D = none → Same H H' → H' D = some (.lst (zs.map f)) → Q (.ref D) H') : rLc g tYes te vs σ Q (Itl K a) H := by
  refine lc_gen zs (fun z v _ => v = val z) (fun _ => true) f hz (fun i H1 hi s1 => ?_) (fun H1 s1 => ?_) (fun i H1 x H2 z ez s1 y => ?_) (fun z x H1 N M hz' s1 hx hN hM => ?_) (fun D H' h1 h2 h3 => ?_)
  · exact ⟨zs.map val, val zs[i], L2.Same.seq s1 hS, by rw [List.getElem?_map, List.getElem?_eq_getElem hi]; rfl⟩
  · exact ⟨zs.map val, L2.Same.seq s1 hS, by rw [List.length_map]; exact Nat.le_refl _⟩
  · obtain ⟨rfl, y⟩ := y
    have e := y _ (L2.Same.seq s1 hS)
    rw [List.getElem?_map, ez] at e
    exact ⟨Same.refl _, (Option.some.inj e).symm⟩
  · subst hx
    exact step z H1 M hz' s1 (hM rfl)
  · refine done D H' h1 h2 ?_
    rw [h3, List.filter_eq_self.mpr fun _ _ => rfl]
end
section
variable {K : PySem.W.Frag} {σ : L2.St} {H : Hp} {Q : VK} {g : TG} {te : TE} {vs : List Nat}
/-- [.. for i in range(..)], each turn of which may change the heap -/
theorem lc_rngI {lo : Int} {n : Nat} (P : Nat → Addr → List V → Hp → Prop) (h0 : ∀ D, H D = none → P 0 D [] (upd H D (.lst [])))
    (step : ∀ (i : Nat) D acc H1 (N : VK), i < n → H D = none → P i D acc H1 → (∀ y H3, H3 D = some (.lst acc) → acc.length < sizeLine → P (i + 1) D (acc ++ [y]) (upd H3 D (.lst (acc ++ [y]))) → N y H3) →
      g (.int (lo + i)) (wipe σ vs) H1 fun σ2 H2 => wipe σ2 vs = wipe σ vs ∧ te σ2 H2 N)
    (done : ∀ D acc H1, H D = none → P n D acc H1 → Q (.ref D) H1) : rLc g tYes te vs σ Q (Itr lo n) H := by
  intro D hD
  refine ⟨fun i m H1 => m = n - i ∧ i ≤ n ∧ ∃ acc, P i D acc H1, ⟨n, rfl, Nat.zero_le _, [], h0 D hD⟩, ?_⟩
  rintro i m H1 ⟨rfl, hi, acc, p⟩
  by_cases hlt : i < n
  · refine .inr ⟨hlt, fun H2 => ∃ acc, P (i + 1) D acc H2, fun H' p' => ⟨n - (i + 1), by omega, rfl, hlt, p'⟩, fun x H' y => ?_⟩
    obtain ⟨rfl, rfl⟩ := y
    exact step i D acc H' _ hlt hD p fun y H3 h1 h2 h3 => ⟨acc, h1, h2, _, h3⟩
  · obtain rfl : i = n := by omega
    exact .inl ⟨Nat.le_refl _, done D acc H1 hD p⟩
end
/-! bools as data -/
theorem dpB {K : PySem.W.Frag} {H : Hp} (bs : List Bool) : DpAll K H (bs.map V.bl) (bs.map PyData.bool) := by
  induction bs with
  | nil => exact .nil
  | cons n r ih => exact .cons (.bl n) ih
theorem canB : ∀ bs : List Bool, PyData.canLayAll0 (bs.map PyData.bool) = true
  | [] => rfl
  | _ :: r => canB r
theorem depB : ∀ bs : List Bool, PyData.depthAll (bs.map PyData.bool) = 0
  | [] => rfl
  | _ :: r => by
    show max 0 (PyData.depthAll (r.map PyData.bool)) = 0
    rw [depB r]; rfl
theorem shLB (bs : List Bool) : SeqAt.shaped (.list (bs.map PyData.bool)) = true := by
  unfold SeqAt.shaped
  rw [show PyData.canLay0 (.list (bs.map PyData.bool)) = true from canB bs, show PyData.depth (.list (bs.map PyData.bool)) = 1 by show PyData.depthAll (bs.map PyData.bool) + 1 = 1; rw [depB]]
  rfl
theorem eqLB (bs : List Bool) : PyData.eqv (.list (bs.map PyData.bool)) (.list (bs.map PyData.bool)) = true := SeqAt.eqv_refl _ (canB bs)
/-! ### join, sum, in -/
section
variable {K : PySem.W.Frag} {σ : L2.St} {H : Hp} {Q : VK} {a : Addr} {xs : List V} {x y : V}
def rJoin (K : PySem.W.Frag) : V → List V → Hp → VK → Prop := fun x xs H Q => ∃ a p, ∃ ys : List Str, x = .str a ∧ xs = [.ref p] ∧ (SqL K H p (ys.map V.str) ∨ SqT K H p (ys.map V.str)) ∧ (ys.map (·.length)).sum + ys.length * a.length ≤ 16777216 ∧ Q (.str (Txt.join a ys)) H
theorem pe_join {X : Cx} {o e : Expr} {to te : TE} {apos pos : Pos} (ho : PE X o to) (he : PE X e te) (hs : starEach [e] X.env = [(false, eval e X.env)] := by rfl) (hbase : attributeBase o "join" X.env (eval o X.env) = eval o X.env := by rfl) (hline : (apos.endLine == pos.line) = true := by rfl) :
    PE X (.Call (.Attribute o "join" apos) [e] [] pos) (tM1 (rJoin X.K) to te) := L2.pe_join ho he hs hbase hline
theorem rd_m1 {r : V → List V → Hp → VK → Prop} {to te : TE} (q : to σ H fun x H1 => (∃ a, x = .str a) ∧ te σ H1 fun y H2 => r x [y] H2 Q) : tM1 r to te σ H Q := q
theorem rd_strV {z : Str} {P : Prop} (q : P) : (∃ a, V.str z = .str a) ∧ P := ⟨⟨z, rfl⟩, q⟩
theorem rd_joinL {z : Str} {ys : List Str} (h : SqL K H a (ys.map V.str)) (hz : (ys.map (·.length)).sum + ys.length * z.length ≤ 16777216) (q : Q (.str (Txt.join z ys)) H) : rJoin K (.str z) [.ref a] H Q := ⟨z, a, ys, rfl, rfl, .inl h, hz, q⟩
theorem rd_sum {ns : List Int} (h : SqL K H a (ns.map V.int)) (q : Q (.int ns.sum) H) : rSum K [.ref a] H Q := ⟨a, ns, rfl, h, q⟩
theorem rd_inL {neg : Bool} (h : SqL K H a xs) (fx : flatV x = true) (fs : xs.all flatV = true) (q : Q (.bl (if neg then !inV x xs else inV x xs)) H) : rIn K neg x (.ref a) H Q := ⟨a, xs, rfl, .inl h, fx, fs, q⟩
theorem rd_inT {neg : Bool} (h : SqT K H a xs) (fx : flatV x = true) (fs : xs.all flatV = true) (q : Q (.bl (if neg then !inV x xs else inV x xs)) H) : rIn K neg x (.ref a) H Q := ⟨a, xs, rfl, .inr h, fx, fs, q⟩
end
end Rd
set_option Elab.async false
set_option linter.all false
set_option maxRecDepth 100000
set_option maxHeartbeats 4000000
namespace M
open PySem L2
local macro_rules | `(tactic| walk_at "rdc") => `(tactic| first | exact Or.inl ⟨by decide, by decide⟩ | exact Or.inr ⟨by decide, by decide⟩ | exact ⟨by decide, by decide, by decide⟩ | exact ⟨by decide, by decide⟩ | decide | omega | assumption | (refine Or.inl ⟨?_, ?_⟩ <;> omega) | (refine Or.inr ⟨?_, ?_⟩ <;> omega) | (refine ⟨?_, ?_⟩ <;> omega))
local macro_rules | `(tactic| walk_at "rd1") => `(tactic| with_reducible first
  | refine Rd.rd_seq ?_ | refine Rd.rd_asg ?_ | refine Rd.rd_op ?_ | (refine' Rd.rd_var ?vh ?_; (case vh => with_unfolding_all rfl)) | refine Rd.rd_c ?_ | refine Rd.rd_I0 ?_ | refine Rd.rd_name0 ?_ | refine Rd.rd_nameS ?_ | refine Rd.rd_fn ?_
  | refine Rd.rd_cb ?_ | refine Rd.rd_cons ?_ | refine Rd.rd_nil ?_ | refine Rd.rd_int ?_ | refine Rd.rd_intB ?_ | refine Rd.rd_abs ?_ | refine Rd.rd_max2 ?_ | refine Rd.rd_min2 ?_
  | refine Rd.rd_call ?_ | refine Rd.rd_ifE ?_ | refine Rd.rd_test ?_ | refine Rd.rd_tB ?_ | refine Rd.rd_blV ?_ | refine Rd.rd_and ?_ | refine Rd.rd_or ?_ | refine Rd.rd_not ?_
  | refine Rd.rd_andV ?_ | refine Rd.rd_orV ?_ | refine Rd.rd_notV ?_ | refine Rd.rd_next ?_ | refine Rd.rd_ret ?_ | refine Rd.rd_drop ?_ | refine Rd.rd_ifS ?_ | refine Rd.rd_nx ?_ | refine Rd.rd_rt ?_ | refine Rd.rd_sl ?_ | refine Rd.rd_noPart ?_ | refine Rd.rd_part ?_ | refine Rd.rd_intV ?_ | refine Rd.rd_lc ?_ | (refine' Rd.rd_aug ?vh ?_; (case vh => with_unfolding_all rfl)) | refine Rd.rd_ipI ?_ | refine Rd.rd_for ?_ | (refine' Rd.rd_IT ?ln ?_; (case ln => with_unfolding_all walk_at "at")) | (refine' Rd.rd_IL ?ln ?_; (case ln => with_unfolding_all walk_at "at")) | refine Rd.rd_iTup ?_ | refine Rd.rd_iList ?_ | refine Rd.rd_iRng1 ?_ | refine Rd.rd_iRng2 ?_ | refine Rd.rd_isi (Rd.isi_int Rd.kk_int_int) ?_ | refine Rd.rd_isi (Rd.isi_int Rd.kk_int_bool) ?_ | refine Rd.rd_methR ?_ | refine Rd.rd_cmeth ?_ | refine Rd.rd_fldS ?_ | refine Rd.rd_fld ?_ | (refine' Rd.rd_mkVS ?vh ?_; (case vh => with_unfolding_all rfl)) | (refine' Rd.rd_starT ?ln ?_; (case ln => with_unfolding_all walk_at "at")) | refine Rd.rd_iEnum ?_ | refine Rd.rd_iZip ?_ | (refine' Rd.rd_IE ?ln ?_; (case ln => with_unfolding_all walk_at "at")) | (refine' Rd.rd_IZ ?ln ?lm ?_; (case ln => with_unfolding_all walk_at "at"); (case lm => with_unfolding_all walk_at "at")) | (refine' Rd.rd_gTup ?ln ?lk ?_; (case ln => with_unfolding_all walk_at "at"); (case lk => with_unfolding_all rfl)) | refine Rd.rd_gCons ?_ | refine Rd.rd_gNil ?_ | refine Rd.rd_m1 ?_ | refine Rd.rd_strV ?_ | refine Rd.rd_tXiM ?_ | refine Rd.rd_tXiB ?_ | refine Rd.rd_tXiS ?_ | refine Rd.rd_bm ?_ | refine Rd.rd_bm0 ?_ | refine Rd.rd_isN ?_ | refine Rd.rd_notN ?_ | refine Rd.rd_sub ?_ | refine Rd.rd_un ?_ | refine Rd.rd_U ?_
  | (refine' Rd.rd_eq ?sc ?_; (case sc => with_unfolding_all rfl)) | (refine' Rd.rd_ne ?sc ?_; (case sc => with_unfolding_all rfl))
  | (refine' Rd.rd_I ?cc ?_; (case cc => with_unfolding_all walk_at "rdc"))
  | (refine' Rd.rd_lenL ?ln ?_; (case ln => with_unfolding_all walk_at "at")) | (refine' Rd.rd_lenT ?ln ?_; (case ln => with_unfolding_all walk_at "at"))
  | (refine' Rd.rd_ixL ?ln ?ia ?_; (case ln => with_unfolding_all walk_at "at"); (case ia => with_unfolding_all first | exact Rd.at0 | exact Rd.at1 | exact Rd.at2 | exact Rd.at3 | exact Rd.at4 | rfl)) | (refine' Rd.rd_ixT ?ln ?ia ?_; (case ln => with_unfolding_all walk_at "at"); (case ia => with_unfolding_all first | exact Rd.at0 | exact Rd.at1 | exact Rd.at2 | exact Rd.at3 | exact Rd.at4 | rfl)))
local macro_rules | `(tactic| walk_at "at") => `(tactic| first | assumption | (apply SqL.of; assumption) | (apply SqT.of; assumption) | (apply SqL.of; exact upd_same) | (apply SqT.of; exact upd_same))
local macro_rules | `(tactic| walk_at "rd") => `(tactic| repeat walk_at "rd1")
def top (i : Nat) : Stmt := PySem.Challenge.pw_loopgrowth_k00_errors.main.body.getD i (.Pass ⟨0, 0, 0, 0⟩)
structure Glob (mg : Str → Option Value) : Prop where
  len : mg "len" = none
  int : mg "int" = none
  abs : mg "abs" = none
  max : mg "max" = none
  min : mg "min" = none
  range : mg "range" = none
  isinstance : mg "isinstance" = none
  sum : mg "sum" = none
  zip : mg "zip" = none
  enumerate : mg "enumerate" = none
  repr : mg "repr" = none
  ValueError : mg "ValueError" = none
  IndexError : mg "IndexError" = none
  KeyError : mg "KeyError" = none
  LookupError : mg "LookupError" = none
  RuntimeError : mg "RuntimeError" = none
  ArithmeticError : mg "ArithmeticError" = none
  OverflowError : mg "OverflowError" = none
/-! ### the law's dice -/
abbrev s__law_dice : Stmt := top 16
theorem sc__law_dice : FnScope ["_law_script", "_law_at", "_law_cell", "_law_great", "_law_mixed"] ["_law_script", "_law_at"] (defScope s__law_dice) := ⟨rfl, rfl, rfl, by decide +kernel, rfl, by decide +kernel, by decide +kernel⟩
abbrev s__law_roll : Stmt := top 17
theorem sc__law_roll : FnScope ["_law_dice_here", "_law_total", "_law_found", "_law_one", "_law_two"] ["_law_dice_here", "_law_total"] (defScope s__law_roll) := ⟨rfl, rfl, rfl, by decide +kernel, rfl, by decide +kernel, by decide +kernel⟩
abbrev s__law_one_of : Stmt := top 18
theorem sc__law_one_of : FnScope ["_law_dice_here", "_law_items"] ["_law_dice_here", "_law_items"] (defScope s__law_one_of) := ⟨rfl, rfl, rfl, by decide +kernel, rfl, by decide +kernel, by decide +kernel⟩
/-- dice at p -/
def Dice (H : Hp) (p : Addr) : Prop := ∃ x y z : Int, H p = some (.lst [.int x, .int y, .int z])
/-- but for the dice at p all is as it was -/
structure Rolled (p : Addr) (H H' : Hp) : Prop where
  keep : ∀ b o, b ≠ p → H b = some o → H' b = some o
  dice : Dice H' p
theorem rolled_upd {p : Addr} {H : Hp} {x y z : Int} : Rolled p H (upd H p (.lst [.int x, .int y, .int z])) := ⟨fun b o hb e => by rw [upd_ne hb]; exact e, x, y, z, upd_same⟩
theorem Rolled.sqL {K : PySem.W.Frag} {p a : Addr} {H H' : Hp} {xs : List V} (r : Rolled p H H') (hne : a ≠ p) (h : SqL K H a xs) : SqL K H' a xs := by
  rcases h with (h | ⟨o', h⟩) | h
  · exact .inl (.inl (r.keep _ _ hne h))
  · exact .inl (.inr ⟨o', r.keep _ _ hne h⟩)
  · exact .inr h
theorem Dice.same {H H' : Hp} {p : Addr} (h : Dice H p) (s : Same H H') : Dice H' p := by
  obtain ⟨x, y, z, e⟩ := h
  exact ⟨x, y, z, s _ _ e⟩
theorem Dice.ne {H : Hp} {p l : Addr} (h : Dice H p) (hl : H l = none) : l ≠ p := by
  obtain ⟨x, y, z, e⟩ := h
  exact (ne_of_none e hl).symm
theorem Rolled.refl {p : Addr} {H : Hp} (h : Dice H p) : Rolled p H H := ⟨fun _ _ _ e => e, h⟩
theorem Rolled.trans {p : Addr} {H H1 H2 : Hp} (a : Rolled p H H1) (b : Rolled p H1 H2) : Rolled p H H2 := ⟨fun c o hc e => b.keep c o hc (a.keep c o hc e), b.dice⟩
theorem Rolled.same {p : Addr} {H H1 H2 : Hp} (a : Rolled p H H1) (b : Same H1 H2) : Rolled p H H2 := ⟨fun c o hc e => b c o (a.keep c o hc e), a.dice.same b⟩
theorem Rolled.pre {p : Addr} {H H1 H2 : Hp} (a : Same H H1) (b : Rolled p H1 H2) : Rolled p H H2 := ⟨fun c o hc e => b.keep c o hc (a c o e), b.dice⟩
/-- a thing of one's own changes -/
theorem Rolled.mut {p l : Addr} {H H1 : Hp} {o : HO} (a : Rolled p H H1) (hl : H l = none) (hp : l ≠ p) : Rolled p H (upd H1 l o) := by
  obtain ⟨x, y, z, e⟩ := a.dice
  exact ⟨fun c u hc q => by rw [upd_ne (ne_of_none q hl)]; exact a.keep c u hc q, x, y, z, by rw [upd_ne hp.symm]; exact e⟩
theorem Rolled.sqT {K : PySem.W.Frag} {p a : Addr} {H H' : Hp} {xs : List V} (r : Rolled p H H') (hD : Dice H p) (h : SqT K H a xs) : SqT K H' a xs := by
  obtain ⟨x, y, z, e⟩ := hD
  rcases h with (h | ⟨o', h⟩) | h
  · exact .inl (.inl (r.keep _ _ (ne_of h e (by intro q; cases q)) h))
  · exact .inl (.inr ⟨o', r.keep _ _ (ne_of h e (by intro q; cases q)) h⟩)
  · exact .inr h
def spDice (K : PySem.W.Frag) : Sp := Rd.mkSp (fun (a : Addr × List Int × Nat) => [.ref a.1, .int a.2.2]) fun a H Q _ => SqL K H a.1 (a.2.1.map V.int) ∧ ∀ p H', H p = none → Same H H' → Dice H' p → Q (.ref p) H'
def spRoll : Sp := Rd.mkSp (fun (a : Addr × Int) => [.ref a.1, .int a.2]) fun a H Q _ => Dice H a.1 ∧ 0 < a.2 ∧ a.2 < 1073741824 ∧ ∀ r H', 0 ≤ r → r < a.2 → Rolled a.1 H H' → Q (.int r) H'
def spOneOf (K : PySem.W.Frag) : Sp := Rd.mkSp (fun (a : Addr × Addr × List V) => [.ref a.1, .ref a.2.1]) fun a H Q _ => Dice H a.1 ∧ a.2.1 ≠ a.1 ∧ SqL K H a.2.1 a.2.2 ∧ 0 < a.2.2.length ∧ a.2.2.length < 1000 ∧
  ∀ v H', v ∈ a.2.2 → Rolled a.1 H H' → Q v H'
theorem rd_roll {H : Hp} {Q : VK} {E : XK} {d : Addr} {n : Int} (hD : Dice H d) (h0 : 0 < n) (h1 : n < 1073741824) (q : ∀ r H', 0 ≤ r → r < n → Rolled d H H' → Q (.int r) H') : spRoll [.ref d, .int n] H Q E := Rd.rd_sp (d, n) rfl ⟨hD, h0, h1, q⟩
/-- one of the items of a list that is none of the dice -/
theorem rd_one {K : PySem.W.Frag} {H : Hp} {Q : VK} {E : XK} {d m : Addr} {xs : List V} (hD : Dice H d) (hm : m ≠ d) (h : SqL K H m xs) (h0 : 0 < xs.length) (h1 : xs.length < 1000) (q : ∀ v H', v ∈ xs → Rolled d H H' → Q v H') : spOneOf K [.ref d, .ref m] H Q E :=
  Rd.rd_sp (d, m, xs) rfl ⟨hD, hm, h, h0, h1, q⟩
section
variable {P : Program} {w : World} {K : PySem.W.Frag} {mg : Str → Option Value} {base : Heap}
theorem ok_dice (F : Rd.Has K mg "_law_dice" s__law_dice) (g : Glob mg) : Rd.Fn P w K mg base CX0 1 "_law_dice" (spDice K) := by
  refine F.fn sc__law_dice (fun _ => rfl) (fun _ _ _ _ _ _ us hl => match us, hl with | [_, _], _ => rfl) fun f cdv A outer s H Q E a hr h => ?_
  obtain ⟨a, ns, i⟩ := a
  obtain ⟨hS, k⟩ := h
  refine ⟨_, (pss_cons (ps_set (i := 2) sc__law_dice.nd rfl (Or.inl rfl) (pe_op op_add (pe_op op_mul pe_int (pv 1)) pe_int))
      (C8.pss_cut (ps_if (pt_cmpR op_lt (pv 1) (pe_callB Rd.c_len (by rfl) g.len (by decide +kernel) (pa_cons (pv 0) pa_nil)) (nomark _)) (pss_one (ps_set (i := 2) sc__law_dice.nd rfl (Or.inl rfl) (pe_ix ix_list (pv 0) (pv 1) (fun _ _ => rfl)))) pss_nil)
      (pss_cons (ps_set (i := 3) sc__law_dice.nd rfl (Or.inl rfl) (pe_op op_mod (pe_callTy Rd.c_int (by rfl) g.int (by decide +kernel) (pa_cons (pe_callB Rd.c_abs (by rfl) g.abs (by decide +kernel) (pa_cons (pv 2) pa_nil)) pa_nil)) (pe_op Rd.op_powW (pe_op op_pow pe_int pe_int) pe_int)))
      (pss_cons (ps_set (i := 4) sc__law_dice.nd rfl (Or.inl rfl) (pe_op op_add (pe_op op_add (pe_op op_add (pe_op op_mul (pe_op op_mod (pe_callTy Rd.c_int (by rfl) g.int (by decide +kernel) (pa_cons (pv 3) pa_nil)) pe_int) pe_int) (pe_op op_mul pe_int (pv 1))) (pe_op op_mul pe_int (pe_callTy Rd.c_int (by rfl) g.int (by decide +kernel) (pa_cons (pe_cmpR op_lt (pv 2) pe_int (nomark _)) pa_nil)))) pe_int))
      (pss_one (ps_ret (Rd.pe_lst (pa_cons (pe_callB (Rd.c_max2 rfl) (by rfl) g.max (by decide +kernel) (pa_cons pe_int (pa_cons (pe_op op_sub (pv 3) (pe_op op_pow pe_int pe_int)) pa_nil))) (pa_cons (pe_op op_mod (pe_callTy Rd.c_int (by rfl) g.int (by decide +kernel) (pa_cons (pv 4) pa_nil)) pe_int) (pa_cons pe_int pa_nil)))))))))), ?_⟩
  try simp only [Rd.noxK, Rd.cxK]
  refine Rd.rd_start [some (V.ref a), some (V.int i), none, none, none] rfl ?_
  walk_at "rd"
  refine ⟨fun σ' H' => H' = H ∧ ∃ c : Int, σ' = [some (.ref a), some (.int i), some (.int c), none, none], ?_, ?_⟩
  · walk_at "rd"
    refine ite2 (fun hc => ?_) (fun _ => ?_)
    · have hl : i < ns.length := by simpa using hc
      walk_at "rd"
      refine Rd.rd_ixL hS (atI_nat (v := V.int (ns[i]'hl)) (by rw [List.getElem?_map, List.getElem?_eq_getElem hl]; rfl)) ?_
      walk_at "rd"
      exact ⟨rfl, _, rfl⟩
    · walk_at "rd"
      exact ⟨rfl, _, rfl⟩
  · rintro σ' H' ⟨rfl, c, rfl⟩
    walk_at "rd"
    exact Rd.rd_mkLst (by show 3 ≤ sizeLine; decide) fun p H' hp s' h' => k p H' hp s' ⟨_, _, _, h'⟩
theorem ok_roll (F : Rd.Has K mg "_law_roll" s__law_roll) (g : Glob mg) : Rd.Fn P w K mg base CX0 1 "_law_roll" spRoll := by
  refine F.fn sc__law_roll (fun _ => rfl) (fun _ _ _ _ _ _ us hl => match us, hl with | [_, _], _ => rfl) fun f cdv A outer s H Q E a hr h => ?_
  obtain ⟨a, n⟩ := a
  obtain ⟨⟨x, y, z, hD⟩, h0, h1, k⟩ := h
  dsimp only at hD h0 h1 k
  refine ⟨_, (pss_cons (ps_if (pt_cmpR op_gt (pe_ix ix_list (pv 0) pe_int (fun _ _ => rfl)) pe_int (nomark _)) (pss_cons (ps_set (i := 2) sc__law_roll.nd rfl (Or.inl rfl) (pe_op op_mod (pe_callTy Rd.c_int (by rfl) g.int (by decide +kernel) (pa_cons (pe_ix ix_list (pv 0) pe_int (fun _ _ => rfl)) pa_nil)) (pv 1)))
      (pss_cons (ps_asg (pe_op op_fdiv (pe_ix ix_list (pv 0) pe_int (fun _ _ => rfl)) (pv 1)) (pg_sub (pv 0) pe_int set_list))
      (pss_one (ps_ret (pv 2))))) pss_nil)
      (pss_cons (ps_asg (pe_op op_add (pe_ix ix_list (pv 0) pe_int (fun _ _ => rfl)) pe_int) (pg_sub (pv 0) pe_int set_list))
      (pss_cons (ps_set (i := 3) sc__law_roll.nd rfl (Or.inl rfl) (pe_op op_mod (pe_callTy Rd.c_int (by rfl) g.int (by decide +kernel) (pa_cons (pe_op op_add (pe_ix ix_list (pv 0) pe_int (fun _ _ => rfl)) (pe_op op_mul pe_int (pe_ix ix_list (pv 0) pe_int (fun _ _ => rfl)))) pa_nil)) pe_int))
      (pss_cons (ps_set (i := 4) sc__law_roll.nd rfl (Or.inl rfl) (pe_op op_add (pe_op op_mul (pe_op op_mod (pe_callTy Rd.c_int (by rfl) g.int (by decide +kernel) (pa_cons (pe_op op_mul (pv 3) (pv 3)) pa_nil)) pe_int) (pv 3)) (pe_op op_mul pe_int (pe_ix ix_list (pv 0) pe_int (fun _ _ => rfl)))))
      (pss_cons (ps_set (i := 4) sc__law_roll.nd rfl (Or.inl rfl) (pe_op op_mod (pe_callTy Rd.c_int (by rfl) g.int (by decide +kernel) (pa_cons (pv 4) pa_nil)) pe_int))
      (pss_one (ps_ret (pe_op op_mod (pe_callTy Rd.c_int (by rfl) g.int (by decide +kernel) (pa_cons (pe_op op_fdiv (pv 4) pe_int) pa_nil)) (pv 1))))))))), ?_⟩
  try simp only [Rd.noxK, Rd.cxK]
  refine Rd.rd_start [some (V.ref a), some (V.int n), none, none, none] rfl ?_
  walk_at "rd"
  refine ite2 (fun hc => ?_) (fun _ => ?_)
  · walk_at "rd"
    refine Rd.rd_setL (k := 0) hD (by simp) ?_
    walk_at "rd"
    exact k _ _ (Int.emod_nonneg _ (by omega)) (Int.emod_lt_of_pos _ h0) rolled_upd
  · walk_at "rd"
    refine Rd.rd_setL (k := 2) hD (by simp) ?_
    walk_at "rd"
    exact k _ _ (Int.emod_nonneg _ (by omega)) (Int.emod_lt_of_pos _ h0) rolled_upd
theorem ok_one_of (F : Rd.Has K mg "_law_one_of" s__law_one_of) (g : Glob mg) (c__law_roll : Rd.Fn P w K mg base CX0 1 "_law_roll" spRoll) : Rd.Fn P w K mg base CX0 2 "_law_one_of" (spOneOf K) := by
  refine F.fn sc__law_one_of (fun _ => rfl) (fun _ _ _ _ _ _ us hl => match us, hl with | [_, _], _ => rfl) fun f cdv A outer s H Q E a hr h => ?_
  obtain ⟨a, b, xs⟩ := a
  obtain ⟨hD, hne, hS, h0, h1, k⟩ := h
  dsimp only at hD hne hS h0 h1 k
  refine ⟨_, (pss_one (ps_ret (pe_ix ix_list (pv 1) (Rd.pe_fn c__law_roll (hr.mono (by decide)) (by rfl) (pa_cons (pv 0) (pa_cons (pe_callB Rd.c_len (by rfl) g.len (by decide +kernel) (pa_cons (pv 1) pa_nil)) pa_nil))) (fun _ _ => rfl)))), ?_⟩
  try simp only [Rd.noxK, Rd.cxK]
  refine Rd.rd_start [some (V.ref a), some (V.ref b)] rfl ?_
  walk_at "rd"
  refine Rd.rd_sp (a, (xs.length : Int)) rfl ⟨hD, by show (0 : Int) < xs.length; omega, by show (xs.length : Int) < _; omega, fun r H' hr0 hr1 hR => ?_⟩
  dsimp only at hr1 hR ⊢
  obtain ⟨j, rfl⟩ : ∃ j : Nat, r = (j : Int) := ⟨r.toNat, by omega⟩
  have hj : j < xs.length := by omega
  refine Rd.rd_ixL (hR.sqL hne hS) (atI_nat (v := xs[j]) (List.getElem?_eq_getElem hj)) ?_
  exact k _ _ (List.getElem_mem hj) hR
end
/-! ### the error classes -/
def errNm : Nat → Str
  | 0 => "LoopError" | 1 => "InvalidSystem" | 2 => "InvalidGraph" | 3 => "InvalidRecipe" | 4 => "InvalidBalance" | 5 => "InvalidOperation" | 6 => "InvalidEdit" | 7 => "ParseError" | 8 => "InvalidCommand"
  | 9 => "InvalidNumber" | 10 => "UnknownName" | 11 => "TooMany" | 12 => "NotEnough" | _ => "NothingToUndo"
def errBl : Nat → String
  | 0 => "ValueError" | 1 => "IndexError" | 2 => "KeyError" | 3 => "LookupError" | 4 => "RuntimeError" | 5 => "ArithmeticError" | _ => "OverflowError"
/-- is class c one of class j -/
def errKin (c j : Nat) : Bool := c == j || (j == 0 && decide (c < 9))
def errKinB (c j : Nat) : Bool := if c < 9 then j == 0 else if c == 9 then j == 1 || j == 3 else if c == 10 then j == 2 || j == 3 else if c == 11 then j == 5 || j == 6 else if c == 12 then j == 5 else j == 3
def errFl : Nat → Str
  | 0 => "value" | 1 => "name" | 2 => "limit" | 3 => "counter" | _ => "many"
abbrev veM : List Value := [.type "ValueError", .type "Exception", .type "BaseException", .type "object"]
abbrev ieM : List Value := [.type "IndexError", .type "LookupError", .type "Exception", .type "BaseException", .type "object"]
abbrev oeM : List Value := [.type "OverflowError", .type "ArithmeticError", .type "Exception", .type "BaseException", .type "object"]
abbrev aeM : List Value := [.type "ArithmeticError", .type "Exception", .type "BaseException", .type "object"]
abbrev leM : List Value := [.type "LookupError", .type "Exception", .type "BaseException", .type "object"]
structure ErrT (K : PySem.W.Frag) (mg : Str → Option Value) (ga fi : Nat → Addr) : Prop where
  g : ∀ i, i < 14 → mg (errNm i) = some (.ref (ga i)) ∧ PySem.W.keepIn K (.ref (ga i)) = true
  p : ∀ i, i < 9 → PySem.W.excIn K (ga i) veM "ValueError.__new__" = true
  c : ∀ i, i < 14 → ExcC K (ga i)
  k : ∀ i, i < 14 → ∀ j, j < 14 → PySem.W.kitOne K (.ref (ga i)) (.ref (ga j)) = some (errKin i j)
  b : ∀ i, i < 14 → ∀ j, j < 7 → PySem.W.kitOne K (.ref (ga i)) (.type (errBl j)) = some (errKinB i j)
  n : ∀ i, i < 5 → PySem.W.findIn K (.ref (ga (i + 9))) "__init__" = some (some (.ref (fi i))) ∧ PySem.W.typeIn K (.ref (fi i)) = some (.type "function")
  t : ∀ i, i < 5 → PySem.W.takerIn K (ga (i + 9)) (errFl i) = some none
  f : ∀ i, i < 5 → PySem.W.findIn K (.ref (ga (i + 9))) (errFl i) = some none
  x : ∀ i, i < 5 → XfC K (ga (i + 9))
  i_InvalidNumber : Rd.XiC K (ga 9) ieM "IndexError.__new__"
  i_UnknownName : Rd.XiC K (ga 10) Rd.keMro "LookupError.__new__"
  i_TooMany : Rd.XiC K (ga 11) oeM "OverflowError.__new__"
  i_NotEnough : Rd.XiC K (ga 12) aeM "ArithmeticError.__new__"
  i_NothingToUndo : Rd.XiC K (ga 13) leM "LookupError.__new__"
  v0 : PySem.W.findCls K (.type "IndexError") (.type "type") "__init__" = some (.val (.builtin "IndexError.__init__"))
  v1 : PySem.W.findCls K (.type "KeyError") (.type "type") "__init__" = some (.val (.builtin "KeyError.__init__"))
  v2 : PySem.W.findCls K (.type "OverflowError") (.type "type") "__init__" = some (.val (.builtin "OverflowError.__init__"))
  v3 : PySem.W.findCls K (.type "ArithmeticError") (.type "type") "__init__" = some (.val (.builtin "ArithmeticError.__init__"))
  v4 : PySem.W.findCls K (.type "LookupError") (.type "type") "__init__" = some (.val (.builtin "LookupError.__init__"))
abbrev s_InvalidNumber___init__ : Stmt := inClass (top 10) 0
theorem sc_InvalidNumber___init__ : FnScope ["self", "value"] ["self", "value"] (defScope s_InvalidNumber___init__) := ⟨rfl, rfl, rfl, by decide +kernel, rfl, by decide +kernel, by decide +kernel⟩
abbrev s_UnknownName___init__ : Stmt := inClass (top 11) 0
theorem sc_UnknownName___init__ : FnScope ["self", "name"] ["self", "name"] (defScope s_UnknownName___init__) := ⟨rfl, rfl, rfl, by decide +kernel, rfl, by decide +kernel, by decide +kernel⟩
abbrev s_TooMany___init__ : Stmt := inClass (top 12) 0
theorem sc_TooMany___init__ : FnScope ["self", "limit"] ["self", "limit"] (defScope s_TooMany___init__) := ⟨rfl, rfl, rfl, by decide +kernel, rfl, by decide +kernel, by decide +kernel⟩
abbrev s_NotEnough___init__ : Stmt := inClass (top 13) 0
theorem sc_NotEnough___init__ : FnScope ["self", "counter"] ["self", "counter"] (defScope s_NotEnough___init__) := ⟨rfl, rfl, rfl, by decide +kernel, rfl, by decide +kernel, by decide +kernel⟩
abbrev s_NothingToUndo___init__ : Stmt := inClass (top 14) 0
theorem sc_NothingToUndo___init__ : FnScope ["self", "many"] ["self", "many"] (defScope s_NothingToUndo___init__) := ⟨rfl, rfl, rfl, by decide +kernel, rfl, by decide +kernel, by decide +kernel⟩
section
variable {P : Program} {w : World} {K : PySem.W.Frag} {mg : Str → Option Value} {base : Heap} {ga fi : Nat → Addr}
theorem ok_xi_InvalidNumber (h : Rd.HasAt K (fi 0) "__init__" "InvalidNumber.__init__" s_InvalidNumber___init__) (g : Glob mg) (T : ErrT K mg ga fi) : Rd.FnG P w K mg base CX0 1 (fi 0) (Rd.spXi (ga 9) "value") := by
  refine h.fn sc_InvalidNumber___init__ (fun _ => rfl) (fun _ _ _ _ _ _ us hl => match us, hl with | [_, _], _ => rfl) fun cdv A outer s H Q E a hr hp => ?_
  obtain ⟨a, v⟩ := a
  obtain ⟨h0, k⟩ := hp
  refine ⟨_, pss_cons (ps_expr (Rd.pe_xiB (Rd.ini_of PySem.F.excBase_IndexError) (by decide +kernel) T.i_InvalidNumber (by rfl) g.IndexError (by kernel_rfl) (by decide) (by decide) (by kernel_rfl) (by decide +kernel) (by decide +kernel) T.v0 (pa_cons (pv 0) (pa_cons pe_str pa_nil)))) (pss_one (Rd.ps_xiS F.store_IndexError T.i_InvalidNumber (T.t 0 (by decide)) (pv 0) (pv 1))), ?_⟩
  refine Rd.rd_start [some (V.ref a), some v] rfl ?_
  walk_at "rd"
  refine ⟨a, _, rfl, by show 1 ≤ 1000; decide, h0, ?_⟩
  walk_at "rd"
  refine ⟨a, rfl, h0, fun dx hd hne => ?_⟩
  refine k _ (fun b o hb e => ?_) ⟨dx, [("value", v)], upd_same, ?_, rfl⟩
  · rw [upd_ne hb, upd_ne (ne_of_none e hd)]; exact e
  · rw [upd_ne hne, upd_same]
theorem ok_xi_UnknownName (h : Rd.HasAt K (fi 1) "__init__" "UnknownName.__init__" s_UnknownName___init__) (g : Glob mg) (T : ErrT K mg ga fi) : Rd.FnG P w K mg base CX0 1 (fi 1) (Rd.spXi (ga 10) "name") := by
  refine h.fn sc_UnknownName___init__ (fun _ => rfl) (fun _ _ _ _ _ _ us hl => match us, hl with | [_, _], _ => rfl) fun cdv A outer s H Q E a hr hp => ?_
  obtain ⟨a, v⟩ := a
  obtain ⟨h0, k⟩ := hp
  refine ⟨_, pss_cons (ps_expr (Rd.pe_xiB Rd.ini_Key (by decide +kernel) T.i_UnknownName (by rfl) g.KeyError (by kernel_rfl) (by decide) (by decide) (by kernel_rfl) (by decide +kernel) (by decide +kernel) T.v1 (pa_cons (pv 0) (pa_cons pe_str pa_nil)))) (pss_one (Rd.ps_xiS Rd.es_Key T.i_UnknownName (T.t 1 (by decide)) (pv 0) (pv 1))), ?_⟩
  refine Rd.rd_start [some (V.ref a), some v] rfl ?_
  walk_at "rd"
  refine ⟨a, _, rfl, by show 1 ≤ 1000; decide, h0, ?_⟩
  walk_at "rd"
  refine ⟨a, rfl, h0, fun dx hd hne => ?_⟩
  refine k _ (fun b o hb e => ?_) ⟨dx, [("name", v)], upd_same, ?_, rfl⟩
  · rw [upd_ne hb, upd_ne (ne_of_none e hd)]; exact e
  · rw [upd_ne hne, upd_same]
theorem ok_xi_TooMany (h : Rd.HasAt K (fi 2) "__init__" "TooMany.__init__" s_TooMany___init__) (g : Glob mg) (T : ErrT K mg ga fi) : Rd.FnG P w K mg base CX0 1 (fi 2) (Rd.spXi (ga 11) "limit") := by
  refine h.fn sc_TooMany___init__ (fun _ => rfl) (fun _ _ _ _ _ _ us hl => match us, hl with | [_, _], _ => rfl) fun cdv A outer s H Q E a hr hp => ?_
  obtain ⟨a, v⟩ := a
  obtain ⟨h0, k⟩ := hp
  refine ⟨_, pss_cons (ps_expr (Rd.pe_xiB (Rd.ini_of PySem.F.excBase_OverflowError) (by decide +kernel) T.i_TooMany (by rfl) g.OverflowError (by kernel_rfl) (by decide) (by decide) (by kernel_rfl) (by decide +kernel) (by decide +kernel) T.v2 (pa_cons (pv 0) (pa_cons pe_str pa_nil)))) (pss_one (Rd.ps_xiS F.store_OverflowError T.i_TooMany (T.t 2 (by decide)) (pv 0) (pv 1))), ?_⟩
  refine Rd.rd_start [some (V.ref a), some v] rfl ?_
  walk_at "rd"
  refine ⟨a, _, rfl, by show 1 ≤ 1000; decide, h0, ?_⟩
  walk_at "rd"
  refine ⟨a, rfl, h0, fun dx hd hne => ?_⟩
  refine k _ (fun b o hb e => ?_) ⟨dx, [("limit", v)], upd_same, ?_, rfl⟩
  · rw [upd_ne hb, upd_ne (ne_of_none e hd)]; exact e
  · rw [upd_ne hne, upd_same]
theorem ok_xi_NotEnough (h : Rd.HasAt K (fi 3) "__init__" "NotEnough.__init__" s_NotEnough___init__) (g : Glob mg) (T : ErrT K mg ga fi) : Rd.FnG P w K mg base CX0 1 (fi 3) (Rd.spXi (ga 12) "counter") := by
  refine h.fn sc_NotEnough___init__ (fun _ => rfl) (fun _ _ _ _ _ _ us hl => match us, hl with | [_, _], _ => rfl) fun cdv A outer s H Q E a hr hp => ?_
  obtain ⟨a, v⟩ := a
  obtain ⟨h0, k⟩ := hp
  refine ⟨_, pss_cons (ps_expr (Rd.pe_xiB (Rd.ini_of PySem.F.excBase_ArithmeticError) (by decide +kernel) T.i_NotEnough (by rfl) g.ArithmeticError (by kernel_rfl) (by decide) (by decide) (by kernel_rfl) (by decide +kernel) (by decide +kernel) T.v3 (pa_cons (pv 0) (pa_cons pe_str pa_nil)))) (pss_one (Rd.ps_xiS F.store_ArithmeticError T.i_NotEnough (T.t 3 (by decide)) (pv 0) (pv 1))), ?_⟩
  refine Rd.rd_start [some (V.ref a), some v] rfl ?_
  walk_at "rd"
  refine ⟨a, _, rfl, by show 1 ≤ 1000; decide, h0, ?_⟩
  walk_at "rd"
  refine ⟨a, rfl, h0, fun dx hd hne => ?_⟩
  refine k _ (fun b o hb e => ?_) ⟨dx, [("counter", v)], upd_same, ?_, rfl⟩
  · rw [upd_ne hb, upd_ne (ne_of_none e hd)]; exact e
  · rw [upd_ne hne, upd_same]
theorem ok_xi_NothingToUndo (h : Rd.HasAt K (fi 4) "__init__" "NothingToUndo.__init__" s_NothingToUndo___init__) (g : Glob mg) (T : ErrT K mg ga fi) : Rd.FnG P w K mg base CX0 1 (fi 4) (Rd.spXi (ga 13) "many") := by
  refine h.fn sc_NothingToUndo___init__ (fun _ => rfl) (fun _ _ _ _ _ _ us hl => match us, hl with | [_, _], _ => rfl) fun cdv A outer s H Q E a hr hp => ?_
  obtain ⟨a, v⟩ := a
  obtain ⟨h0, k⟩ := hp
  refine ⟨_, pss_cons (ps_expr (Rd.pe_xiB (Rd.ini_of PySem.F.excBase_LookupError) (by decide +kernel) T.i_NothingToUndo (by rfl) g.LookupError (by kernel_rfl) (by decide) (by decide) (by kernel_rfl) (by decide +kernel) (by decide +kernel) T.v4 (pa_cons (pv 0) (pa_cons pe_str pa_nil)))) (pss_one (Rd.ps_xiS F.store_LookupError T.i_NothingToUndo (T.t 4 (by decide)) (pv 0) (pv 1))), ?_⟩
  refine Rd.rd_start [some (V.ref a), some v] rfl ?_
  walk_at "rd"
  refine ⟨a, _, rfl, by show 1 ≤ 1000; decide, h0, ?_⟩
  walk_at "rd"
  refine ⟨a, rfl, h0, fun dx hd hne => ?_⟩
  refine k _ (fun b o hb e => ?_) ⟨dx, [("many", v)], upd_same, ?_, rfl⟩
  · rw [upd_ne hb, upd_ne (ne_of_none e hd)]; exact e
  · rw [upd_ne hne, upd_same]
end
end M
set_option Elab.async false
set_option linter.all false
set_option maxRecDepth 100000
set_option maxHeartbeats 4000000
namespace M
open PySem L2
local macro_rules | `(tactic| walk_at "rdc") => `(tactic| first | exact Or.inl ⟨by decide, by decide⟩ | exact Or.inr ⟨by decide, by decide⟩ | exact ⟨by decide, by decide, by decide⟩ | exact ⟨by decide, by decide⟩ | decide | omega | assumption | (refine Or.inl ⟨?_, ?_⟩ <;> omega) | (refine Or.inr ⟨?_, ?_⟩ <;> omega) | (refine ⟨?_, ?_⟩ <;> omega))
local macro_rules | `(tactic| walk_at "rd1") => `(tactic| with_reducible first
  | refine Rd.rd_seq ?_ | refine Rd.rd_asg ?_ | refine Rd.rd_op ?_ | (refine' Rd.rd_var ?vh ?_; (case vh => with_unfolding_all rfl)) | refine Rd.rd_c ?_ | refine Rd.rd_I0 ?_ | refine Rd.rd_name0 ?_ | refine Rd.rd_nameS ?_ | refine Rd.rd_fn ?_
  | refine Rd.rd_cb ?_ | refine Rd.rd_cons ?_ | refine Rd.rd_nil ?_ | refine Rd.rd_int ?_ | refine Rd.rd_intB ?_ | refine Rd.rd_abs ?_ | refine Rd.rd_max2 ?_ | refine Rd.rd_min2 ?_
  | refine Rd.rd_call ?_ | refine Rd.rd_ifE ?_ | refine Rd.rd_test ?_ | refine Rd.rd_tB ?_ | refine Rd.rd_blV ?_ | refine Rd.rd_and ?_ | refine Rd.rd_or ?_ | refine Rd.rd_not ?_
  | refine Rd.rd_andV ?_ | refine Rd.rd_orV ?_ | refine Rd.rd_notV ?_ | refine Rd.rd_next ?_ | refine Rd.rd_ret ?_ | refine Rd.rd_drop ?_ | refine Rd.rd_ifS ?_ | refine Rd.rd_nx ?_ | refine Rd.rd_rt ?_ | refine Rd.rd_sl ?_ | refine Rd.rd_noPart ?_ | refine Rd.rd_part ?_ | refine Rd.rd_intV ?_ | refine Rd.rd_lc ?_ | (refine' Rd.rd_aug ?vh ?_; (case vh => with_unfolding_all rfl)) | refine Rd.rd_ipI ?_ | refine Rd.rd_for ?_ | (refine' Rd.rd_IT ?ln ?_; (case ln => with_unfolding_all walk_at "at")) | (refine' Rd.rd_IL ?ln ?_; (case ln => with_unfolding_all walk_at "at")) | refine Rd.rd_iTup ?_ | refine Rd.rd_iList ?_ | refine Rd.rd_iRng1 ?_ | refine Rd.rd_iRng2 ?_ | refine Rd.rd_isi (Rd.isi_int Rd.kk_int_int) ?_ | refine Rd.rd_isi (Rd.isi_int Rd.kk_int_bool) ?_ | refine Rd.rd_methR ?_ | refine Rd.rd_cmeth ?_ | refine Rd.rd_fldS ?_ | refine Rd.rd_fld ?_ | (refine' Rd.rd_mkVS ?vh ?_; (case vh => with_unfolding_all rfl)) | (refine' Rd.rd_starT ?ln ?_; (case ln => with_unfolding_all walk_at "at")) | refine Rd.rd_iEnum ?_ | refine Rd.rd_iZip ?_ | (refine' Rd.rd_IE ?ln ?_; (case ln => with_unfolding_all walk_at "at")) | (refine' Rd.rd_IZ ?ln ?lm ?_; (case ln => with_unfolding_all walk_at "at"); (case lm => with_unfolding_all walk_at "at")) | (refine' Rd.rd_gTup ?ln ?lk ?_; (case ln => with_unfolding_all walk_at "at"); (case lk => with_unfolding_all rfl)) | refine Rd.rd_gCons ?_ | refine Rd.rd_gNil ?_ | refine Rd.rd_m1 ?_ | refine Rd.rd_strV ?_ | refine Rd.rd_tXiM ?_ | refine Rd.rd_tXiB ?_ | refine Rd.rd_tXiS ?_ | refine Rd.rd_bm ?_ | refine Rd.rd_bm0 ?_ | refine Rd.rd_isN ?_ | refine Rd.rd_notN ?_ | refine Rd.rd_sub ?_ | refine Rd.rd_un ?_ | refine Rd.rd_U ?_
  | (refine' Rd.rd_eq ?sc ?_; (case sc => with_unfolding_all rfl)) | (refine' Rd.rd_ne ?sc ?_; (case sc => with_unfolding_all rfl))
  | (refine' Rd.rd_I ?cc ?_; (case cc => with_unfolding_all walk_at "rdc"))
  | (refine' Rd.rd_lenL ?ln ?_; (case ln => with_unfolding_all walk_at "at")) | (refine' Rd.rd_lenT ?ln ?_; (case ln => with_unfolding_all walk_at "at"))
  | (refine' Rd.rd_ixL ?ln ?ia ?_; (case ln => with_unfolding_all walk_at "at"); (case ia => with_unfolding_all first | exact Rd.at0 | exact Rd.at1 | exact Rd.at2 | exact Rd.at3 | exact Rd.at4 | rfl)) | (refine' Rd.rd_ixT ?ln ?ia ?_; (case ln => with_unfolding_all walk_at "at"); (case ia => with_unfolding_all first | exact Rd.at0 | exact Rd.at1 | exact Rd.at2 | exact Rd.at3 | exact Rd.at4 | rfl)))
local macro_rules | `(tactic| walk_at "at") => `(tactic| first | assumption | (apply SqL.of; assumption) | (apply SqT.of; assumption) | (apply SqL.of; exact upd_same) | (apply SqT.of; exact upd_same))
local macro_rules | `(tactic| walk_at "rd") => `(tactic| repeat walk_at "rd1")
/-! ### the law's own defs -/
abbrev s__law_built_in : Stmt := top 19
theorem sc__law_built_in : FnScope ["_law_e", "_law_found", "_law_bit", "_law_one"] ["_law_e"] (defScope s__law_built_in) := ⟨rfl, rfl, rfl, by decide +kernel, rfl, by decide +kernel, by decide +kernel⟩
abbrev s__law_kinds : Stmt := top 20
theorem sc__law_kinds : FnScope ["_law_e", "_law_found"] ["_law_e"] (defScope s__law_kinds) := ⟨rfl, rfl, rfl, by decide +kernel, rfl, by decide +kernel, by decide +kernel⟩
abbrev s__law_messages_right : Stmt := top 21
theorem sc__law_messages_right : FnScope ["_law_words", "_law_some", "_law_at", "_law_e", "_law_one"] ["_law_words"] (defScope s__law_messages_right) := ⟨rfl, rfl, rfl, by decide +kernel, rfl, by decide +kernel, by decide +kernel⟩
def bitsL : List Int := [1, 2, 4, 8, 16, 32, 64]
def bitsOf (c : Nat) : Int := (((bitsL.zip ((List.range 7).map (errKinB c))).filter fun z => z.2).map fun z => z.1).sum
def kindL (c : Nat) : List Bool := (List.range 13).map fun j => errKin c (j + 1)
def spBuiltIn (ga : Nat → Addr) : Sp := Rd.mkSp (fun (a : Addr × Nat) => [.ref a.1]) fun a H Q _ => a.2 < 14 ∧ Rd.Ex H a.1 (ga a.2) ∧ ∀ H', Same H H' → Q (.int (bitsOf a.2)) H'
def spKinds (ga : Nat → Addr) : Sp := Rd.mkSp (fun (a : Addr × Nat) => [.ref a.1]) fun a H Q _ => a.2 < 14 ∧ Rd.Ex H a.1 (ga a.2) ∧ ∀ p H', H p = none → Same H H' → H' p = some (.lst ((kindL a.2).map V.bl)) → Q (.ref p) H'
theorem bits_eq : ∀ c, c < 14 → ((([V.int 1, V.int 2, V.int 4, V.int 8, V.int 16, V.int 32, V.int 64] : List V).zip ([V.bl (errKinB c 0), V.bl (errKinB c 1), V.bl (errKinB c 2), V.bl (errKinB c 3)] ++ [V.bl (errKinB c 4), V.bl (errKinB c 5), V.bl (errKinB c 6)])).filter fun z => decide (z.2 = .bl true)).map (fun z => z.1) =
    (((bitsL.zip ((List.range 7).map (errKinB c))).filter fun z => z.2).map fun z => z.1).map V.int := by decide +kernel
section
variable {P : Program} {w : World} {K : PySem.W.Frag} {mg : Str → Option Value} {base : Heap} {ga fi : Nat → Addr}
theorem ok_built_in (F : Rd.Has K mg "_law_built_in" s__law_built_in) (g : Glob mg) (T : ErrT K mg ga fi) : Rd.Fn P w K mg base CX0 1 "_law_built_in" (spBuiltIn ga) := by
  refine F.fn sc__law_built_in (fun _ => rfl) (fun _ _ _ _ _ _ us hl => match us, hl with | [_], _ => rfl) fun f cdv A outer s H Q E a hr h => ?_
  obtain ⟨a, c⟩ := a
  obtain ⟨hc, hE, k⟩ := h
  dsimp only at hc hE k
  refine ⟨_, (pss_cons (ps_set (i := 1) sc__law_built_in.nd rfl (Or.inl rfl) (Rd.pe_lst (pa_cons (pe_callB Rd.c_isX (by rfl) g.isinstance (by decide +kernel) (pa_cons (pv 0) (pa_cons (pe_bltn (v := .ty "ValueError") (by rfl) g.ValueError (by decide +kernel) rfl) pa_nil))) (pa_cons (pe_callB Rd.c_isX (by rfl) g.isinstance (by decide +kernel) (pa_cons (pv 0) (pa_cons (pe_bltn (v := .ty "IndexError") (by rfl) g.IndexError (by decide +kernel) rfl) pa_nil))) (pa_cons (pe_callB Rd.c_isX (by rfl) g.isinstance (by decide +kernel) (pa_cons (pv 0) (pa_cons (pe_bltn (v := .ty "KeyError") (by rfl) g.KeyError (by decide +kernel) rfl) pa_nil))) (pa_cons (pe_callB Rd.c_isX (by rfl) g.isinstance (by decide +kernel) (pa_cons (pv 0) (pa_cons (pe_bltn (v := .ty "LookupError") (by rfl) g.LookupError (by decide +kernel) rfl) pa_nil))) pa_nil))))))
      (pss_cons (ps_set (i := 1) sc__law_built_in.nd rfl (Or.inl rfl) (pe_op op_cat (pv 1) (Rd.pe_lst (pa_cons (pe_callB Rd.c_isX (by rfl) g.isinstance (by decide +kernel) (pa_cons (pv 0) (pa_cons (pe_bltn (v := .ty "RuntimeError") (by rfl) g.RuntimeError (by decide +kernel) rfl) pa_nil))) (pa_cons (pe_callB Rd.c_isX (by rfl) g.isinstance (by decide +kernel) (pa_cons (pv 0) (pa_cons (pe_bltn (v := .ty "ArithmeticError") (by rfl) g.ArithmeticError (by decide +kernel) rfl) pa_nil))) (pa_cons (pe_callB Rd.c_isX (by rfl) g.isinstance (by decide +kernel) (pa_cons (pv 0) (pa_cons (pe_bltn (v := .ty "OverflowError") (by rfl) g.OverflowError (by decide +kernel) rfl) pa_nil))) pa_nil))))))
      (pss_one (ps_ret (pe_callB (cr_sum rfl) (by rfl) g.sum (by decide +kernel) (pa_cons (pe_lc (own := [("_law_bit", 2), ("_law_one", 3)]) (by rfl) sc__law_built_in.nd (pi_zip (by rfl) g.zip (pa_cons (Rd.pe_lst (pa_cons pe_int (pa_cons pe_int (pa_cons pe_int (pa_cons pe_int (pa_cons pe_int (pa_cons pe_int (pa_cons pe_int pa_nil)))))))) (pa_cons (pv 1) pa_nil))) (blkOk_by (own := [("_law_bit", 2), ("_law_one", 3)]) (N := ["_law_e", "_law_found", "_law_bit", "_law_one"]) (sc := defScope s__law_built_in) (by decide +kernel)) (fun _ _ _ _ _ => (Rd.pg_tupK (K := K) (n := 2) (by rfl) rfl (pgs_cons (pg_name (i := 2) sc__law_built_in.nd rfl (Or.inl rfl)) (pgs_cons (pg_name (i := 3) sc__law_built_in.nd rfl (Or.inl rfl)) pgs_nil)))) (fun _ _ _ _ _ => (pts_one (pt_val (pv 3)))) (fun _ _ _ _ _ => (pv 2))) pa_nil)))))), ?_⟩
  try simp only [Rd.noxK, Rd.cxK]
  refine Rd.rd_start [some (V.ref a), none, none, none] rfl ?_
  walk_at "rd"
  refine Rd.rd_isXt hE (T.c c hc) (T.b c hc 0 (by decide)) ?_
  walk_at "rd"
  refine Rd.rd_isXt hE (T.c c hc) (T.b c hc 1 (by decide)) ?_
  walk_at "rd"
  refine Rd.rd_isXt hE (T.c c hc) (T.b c hc 2 (by decide)) ?_
  walk_at "rd"
  refine Rd.rd_isXt hE (T.c c hc) (T.b c hc 3 (by decide)) ?_
  walk_at "rd"
  refine Rd.rd_mkLst (by show 4 ≤ sizeLine; decide) fun p1 H1 n1 s1 h1 => ?_
  walk_at "rd"
  have hE1 := hE.same s1
  refine Rd.rd_isXt hE1 (T.c c hc) (T.b c hc 4 (by decide)) ?_
  walk_at "rd"
  refine Rd.rd_isXt hE1 (T.c c hc) (T.b c hc 5 (by decide)) ?_
  walk_at "rd"
  refine Rd.rd_isXt hE1 (T.c c hc) (T.b c hc 6 (by decide)) ?_
  walk_at "rd"
  refine Rd.rd_mkLst (by show 3 ≤ sizeLine; decide) fun p2 H2 n2 s2 h2 => ?_
  refine Rd.rd_cat (s2 _ _ h1) h2 (by show 4 + 3 ≤ sizeLine; decide) fun p3 H3 n3 s3 h3 => ?_
  walk_at "rd"
  refine Rd.rd_mkLst (by show 7 ≤ sizeLine; decide) fun p4 H4 n4 s4 h4 => ?_
  walk_at "rd"
  refine Rd.rd_IZ (SqL.of h4) (SqL.of (s4 _ _ h3)) ?_
  refine Rd.lc_zip (a := p4) (b := p3) (by rfl) (fun z => decide (z.2 = .bl true)) (fun z => z.1) (by show 7 ≤ 100000; decide) (SqL.of h4) (SqL.of (s4 _ _ h3)) (fun z U H5 N M hz s5 hU hN hM => ?_) (fun D H5 hD s5 h5 => ?_)
  · have hb : ∃ b, z.2 = .bl b := by
      have hm := List.of_mem_zip (a := z.1) (b := z.2) hz
      have h2 := hm.2
      simp only [List.cons_append, List.nil_append, List.mem_cons, List.not_mem_nil, or_false] at h2
      rcases h2 with e | e | e | e | e | e | e <;> exact ⟨_, e⟩
    obtain ⟨b, hb⟩ := hb
    obtain ⟨v, _⟩ := z
    dsimp only at hb hU hN hM
    subst hb
    refine Rd.rd_start' [some (V.ref a), some (V.ref p3), none, none] rfl ?_
    walk_at "rd"
    refine ⟨rfl, ?_⟩
    walk_at "rd"
    refine ite2 (fun hb => ?_) fun hb => ?_
    · walk_at "rd"
      exact hM (by subst hb; exact decide_eq_true rfl) H5 (Same.refl H5)
    · exact hN (decide_eq_false fun e => hb (V.bl.inj e)) H5 (Same.refl H5)
  · walk_at "rd"
    refine Rd.rd_sum (ns := ((bitsL.zip ((List.range 7).map (errKinB c))).filter fun z => z.2).map fun z => z.1) (SqL.of ?_) ?_
    · rw [h5]
      exact congrArg (fun z => some (HO.lst z)) (bits_eq c hc)
    · walk_at "rd"
      exact k H5 (((((s1.trans s2).trans s3).trans s4)).trans s5)
theorem ok_kinds (F : Rd.Has K mg "_law_kinds" s__law_kinds) (g : Glob mg) (T : ErrT K mg ga fi) : Rd.Fn P w K mg base CX0 1 "_law_kinds" (spKinds ga) := by
  refine F.fn sc__law_kinds (fun _ => rfl) (fun _ _ _ _ _ _ us hl => match us, hl with | [_], _ => rfl) fun f cdv A outer s H Q E a hr h => ?_
  obtain ⟨a, c⟩ := a
  obtain ⟨hc, hE, k⟩ := h
  dsimp only at hc hE k
  refine ⟨_, (pss_cons (ps_set (i := 1) sc__law_kinds.nd rfl (Or.inl rfl) (Rd.pe_lst (pa_cons (pe_callB Rd.c_isX (by rfl) g.isinstance (by decide +kernel) (pa_cons (pv 0) (pa_cons (Rd.pe_glr (by rfl) (T.g 1 (by decide)).1) pa_nil))) (pa_cons (pe_callB Rd.c_isX (by rfl) g.isinstance (by decide +kernel) (pa_cons (pv 0) (pa_cons (Rd.pe_glr (by rfl) (T.g 2 (by decide)).1) pa_nil))) (pa_cons (pe_callB Rd.c_isX (by rfl) g.isinstance (by decide +kernel) (pa_cons (pv 0) (pa_cons (Rd.pe_glr (by rfl) (T.g 3 (by decide)).1) pa_nil))) pa_nil)))))
      (pss_cons (ps_set (i := 1) sc__law_kinds.nd rfl (Or.inl rfl) (pe_op op_cat (pv 1) (Rd.pe_lst (pa_cons (pe_callB Rd.c_isX (by rfl) g.isinstance (by decide +kernel) (pa_cons (pv 0) (pa_cons (Rd.pe_glr (by rfl) (T.g 4 (by decide)).1) pa_nil))) (pa_cons (pe_callB Rd.c_isX (by rfl) g.isinstance (by decide +kernel) (pa_cons (pv 0) (pa_cons (Rd.pe_glr (by rfl) (T.g 5 (by decide)).1) pa_nil))) (pa_cons (pe_callB Rd.c_isX (by rfl) g.isinstance (by decide +kernel) (pa_cons (pv 0) (pa_cons (Rd.pe_glr (by rfl) (T.g 6 (by decide)).1) pa_nil))) pa_nil))))))
      (pss_cons (ps_set (i := 1) sc__law_kinds.nd rfl (Or.inl rfl) (pe_op op_cat (pv 1) (Rd.pe_lst (pa_cons (pe_callB Rd.c_isX (by rfl) g.isinstance (by decide +kernel) (pa_cons (pv 0) (pa_cons (Rd.pe_glr (by rfl) (T.g 7 (by decide)).1) pa_nil))) (pa_cons (pe_callB Rd.c_isX (by rfl) g.isinstance (by decide +kernel) (pa_cons (pv 0) (pa_cons (Rd.pe_glr (by rfl) (T.g 8 (by decide)).1) pa_nil))) (pa_cons (pe_callB Rd.c_isX (by rfl) g.isinstance (by decide +kernel) (pa_cons (pv 0) (pa_cons (Rd.pe_glr (by rfl) (T.g 9 (by decide)).1) pa_nil))) pa_nil))))))
      (pss_cons (ps_set (i := 1) sc__law_kinds.nd rfl (Or.inl rfl) (pe_op op_cat (pv 1) (Rd.pe_lst (pa_cons (pe_callB Rd.c_isX (by rfl) g.isinstance (by decide +kernel) (pa_cons (pv 0) (pa_cons (Rd.pe_glr (by rfl) (T.g 10 (by decide)).1) pa_nil))) (pa_cons (pe_callB Rd.c_isX (by rfl) g.isinstance (by decide +kernel) (pa_cons (pv 0) (pa_cons (Rd.pe_glr (by rfl) (T.g 11 (by decide)).1) pa_nil))) (pa_cons (pe_callB Rd.c_isX (by rfl) g.isinstance (by decide +kernel) (pa_cons (pv 0) (pa_cons (Rd.pe_glr (by rfl) (T.g 12 (by decide)).1) pa_nil))) pa_nil))))))
      (pss_one (ps_ret (pe_op op_cat (pv 1) (Rd.pe_lst (pa_cons (pe_callB Rd.c_isX (by rfl) g.isinstance (by decide +kernel) (pa_cons (pv 0) (pa_cons (Rd.pe_glr (by rfl) (T.g 13 (by decide)).1) pa_nil))) pa_nil))))))))), ?_⟩
  try simp only [Rd.noxK, Rd.cxK]
  refine Rd.rd_start [some (V.ref a), none] rfl ?_
  walk_at "rd"
  refine Rd.rd_isXr hE (T.c c hc) (T.k c hc 1 (by decide)) ?_
  walk_at "rd"
  refine Rd.rd_isXr hE (T.c c hc) (T.k c hc 2 (by decide)) ?_
  walk_at "rd"
  refine Rd.rd_isXr hE (T.c c hc) (T.k c hc 3 (by decide)) ?_
  walk_at "rd"
  refine Rd.rd_mkLst (by show 3 ≤ sizeLine; decide) fun p1 H1 n1 s1 h1 => ?_
  walk_at "rd"
  have hE1 := hE.same s1
  refine Rd.rd_isXr hE1 (T.c c hc) (T.k c hc 4 (by decide)) ?_
  walk_at "rd"
  refine Rd.rd_isXr hE1 (T.c c hc) (T.k c hc 5 (by decide)) ?_
  walk_at "rd"
  refine Rd.rd_isXr hE1 (T.c c hc) (T.k c hc 6 (by decide)) ?_
  walk_at "rd"
  refine Rd.rd_mkLst (by show 3 ≤ sizeLine; decide) fun p2 H2 n2 s2 h2 => ?_
  refine Rd.rd_cat (s2 _ _ h1) h2 (by show 3 + 3 ≤ sizeLine; decide) fun p3 H3 n3 s3 h3 => ?_
  walk_at "rd"
  have hE3 := (hE1.same s2).same s3
  refine Rd.rd_isXr hE3 (T.c c hc) (T.k c hc 7 (by decide)) ?_
  walk_at "rd"
  refine Rd.rd_isXr hE3 (T.c c hc) (T.k c hc 8 (by decide)) ?_
  walk_at "rd"
  refine Rd.rd_isXr hE3 (T.c c hc) (T.k c hc 9 (by decide)) ?_
  walk_at "rd"
  refine Rd.rd_mkLst (by show 3 ≤ sizeLine; decide) fun p4 H4 n4 s4 h4 => ?_
  refine Rd.rd_cat (s4 _ _ h3) h4 (by show 6 + 3 ≤ sizeLine; decide) fun p5 H5 n5 s5 h5 => ?_
  walk_at "rd"
  have hE5 := (hE3.same s4).same s5
  refine Rd.rd_isXr hE5 (T.c c hc) (T.k c hc 10 (by decide)) ?_
  walk_at "rd"
  refine Rd.rd_isXr hE5 (T.c c hc) (T.k c hc 11 (by decide)) ?_
  walk_at "rd"
  refine Rd.rd_isXr hE5 (T.c c hc) (T.k c hc 12 (by decide)) ?_
  walk_at "rd"
  refine Rd.rd_mkLst (by show 3 ≤ sizeLine; decide) fun p6 H6 n6 s6 h6 => ?_
  refine Rd.rd_cat (s6 _ _ h5) h6 (by show 9 + 3 ≤ sizeLine; decide) fun p7 H7 n7 s7 h7 => ?_
  walk_at "rd"
  have hE7 := (hE5.same s6).same s7
  refine Rd.rd_isXr hE7 (T.c c hc) (T.k c hc 13 (by decide)) ?_
  walk_at "rd"
  refine Rd.rd_mkLst (by show 1 ≤ sizeLine; decide) fun p8 H8 n8 s8 h8 => ?_
  refine Rd.rd_cat (s8 _ _ h7) h8 (by show 12 + 1 ≤ sizeLine; decide) fun p9 H9 n9 s9 h9 => ?_
  walk_at "rd"
  have sA : Same H H8 := ((((((s1.trans s2).trans s3).trans s4).trans s5).trans s6).trans s7).trans s8
  refine k p9 H9 ?_ (sA.trans s9) h9
  refine Classical.byContradiction fun n => ?_
  obtain ⟨o, e⟩ := Option.ne_none_iff_exists'.mp n
  rw [sA _ _ e] at n9
  cases n9
theorem kind_at : ∀ i, i < 8 → (List.range 13).map (fun (j : Nat) => V.bl (decide (V.int (0 + (j : Int)) = V.int (i : Nat)))) = (kindL (i + 1)).map V.bl := by decide +kernel
theorem kind_at8 : ∀ i, i < 5 → (List.range 13).map (fun (j : Nat) => V.bl (decide (V.int (0 + (j : Int)) = V.int ((i : Nat) + 8)))) = (kindL (i + 9)).map V.bl := by decide +kernel
theorem kin_lo : ∀ i, i < 8 → errKin (i + 1) 0 = true := by decide
theorem bits_at : ∀ i, i < 8 → bitsOf (i + 1) = 1 := by decide +kernel
theorem ok_messages (F : Rd.Has K mg "_law_messages_right" s__law_messages_right) (g : Glob mg) (T : ErrT K mg ga fi) (c__law_built_in : Rd.Fn P w K mg base CX0 1 "_law_built_in" (spBuiltIn ga)) (c__law_kinds : Rd.Fn P w K mg base CX0 1 "_law_kinds" (spKinds ga)) :
    Rd.Fn P w K mg base CX0 2 "_law_messages_right" (Rd.mkSp (fun (a : Str) => [.str a]) fun a H Q _ => ∀ H', Same H H' → Q (.bl true) H') := by
  refine F.fn sc__law_messages_right (fun _ => rfl) (fun _ _ _ _ _ _ us hl => match us, hl with | [_], _ => rfl) fun f cdv A outer s H Q E a hr k => ?_
  refine ⟨_, (pss_cons (ps_set (i := 1) sc__law_messages_right.nd rfl (Or.inl rfl) (Rd.pe_lst (pa_cons (Rd.pe_ex1 PySem.F.excBase_ValueError (T.p 1 (by decide)) (T.g 1 (by decide)) (by rfl) (pv 0)) (pa_cons (Rd.pe_ex1 PySem.F.excBase_ValueError (T.p 2 (by decide)) (T.g 2 (by decide)) (by rfl) (pv 0)) (pa_cons (Rd.pe_ex1 PySem.F.excBase_ValueError (T.p 3 (by decide)) (T.g 3 (by decide)) (by rfl) (pv 0)) (pa_cons (Rd.pe_ex1 PySem.F.excBase_ValueError (T.p 4 (by decide)) (T.g 4 (by decide)) (by rfl) (pv 0)) pa_nil))))))
      (pss_cons (ps_set (i := 1) sc__law_messages_right.nd rfl (Or.inl rfl) (pe_op op_cat (pv 1) (Rd.pe_lst (pa_cons (Rd.pe_ex1 PySem.F.excBase_ValueError (T.p 5 (by decide)) (T.g 5 (by decide)) (by rfl) (pv 0)) (pa_cons (Rd.pe_ex1 PySem.F.excBase_ValueError (T.p 6 (by decide)) (T.g 6 (by decide)) (by rfl) (pv 0)) (pa_cons (Rd.pe_ex1 PySem.F.excBase_ValueError (T.p 7 (by decide)) (T.g 7 (by decide)) (by rfl) (pv 0)) (pa_cons (Rd.pe_ex1 PySem.F.excBase_ValueError (T.p 8 (by decide)) (T.g 8 (by decide)) (by rfl) (pv 0)) pa_nil)))))))
      (pss_cons (ps_for PassesOwn.never rfl (pi_enum (by rfl) g.enumerate (pa_cons (pv 1) pa_nil)) (pg_tup rfl (pgs_cons (pg_name (i := 2) sc__law_messages_right.nd rfl (Or.inr rfl)) (pgs_cons (pg_name (i := 3) sc__law_messages_right.nd rfl (Or.inl rfl)) pgs_nil))) (pss_one (ps_if (PW.pt (pw_or (pt_not (pt_val (pe_callB Rd.c_isX (by rfl) g.isinstance (by decide +kernel) (pa_cons (pv 3) (pa_cons (Rd.pe_glr (by rfl) (T.g 0 (by decide)).1) pa_nil))))) (pw_or (pt_cmpR op_ne (Rd.pe_fn c__law_built_in (hr.mono (by decide)) (by rfl) (pa_cons (pv 3) pa_nil)) pe_int (nomark _)) (pw_or1 (pt_cmpR (op_neD hr.units) (Rd.pe_fn c__law_kinds (hr.mono (by decide)) (by rfl) (pa_cons (pv 3) pa_nil)) (pe_lc (own := [("_law_one", 4)]) (by rfl) sc__law_messages_right.nd (pi_range1 (by rfl) g.range (pa_cons pe_int pa_nil)) (blkOk_by (own := [("_law_one", 4)]) (N := ["_law_words", "_law_some", "_law_at", "_law_e", "_law_one"]) (sc := defScope s__law_messages_right) (by decide +kernel)) (fun _ _ _ _ _ => (pg_name (i := 4) sc__law_messages_right.nd rfl (Or.inl rfl))) (fun _ _ _ _ _ => pts_nil) (fun _ _ _ _ _ => (pe_cmpR op_eq (pv 4) (pv 2) (nomark _)))) (nomark _)))))) (pss_one (ps_ret pe_bl)) pss_nil)))
      (pss_one (ps_ret (pe_and (pe_cmpR op_eq (Rd.pe_fn c__law_built_in (hr.mono (by decide)) (by rfl) (pa_cons (Rd.pe_ex1 PySem.F.excBase_ValueError (T.p 0 (by decide)) (T.g 0 (by decide)) (by rfl) (pv 0)) pa_nil)) pe_int (nomark _)) (pe_one (pe_cmpR op_notIn_seq pe_bl (Rd.pe_fn c__law_kinds (hr.mono (by decide)) (by rfl) (pa_cons (Rd.pe_ex1 PySem.F.excBase_ValueError (T.p 0 (by decide)) (T.g 0 (by decide)) (by rfl) (pv 0)) pa_nil)) (by rfl))))))))), ?_⟩
  try simp only [Rd.noxK, Rd.cxK]
  refine Rd.rd_start [some (V.str a), none, none, none, none] rfl ?_
  walk_at "rd"
  refine Rd.rd_ex1 fun a1 H1 n1 s1 e1 => ?_
  walk_at "rd"
  refine Rd.rd_ex1 fun a2 H2 n2 s2 e2 => ?_
  walk_at "rd"
  refine Rd.rd_ex1 fun a3 H3 n3 s3 e3 => ?_
  walk_at "rd"
  refine Rd.rd_ex1 fun a4 H4 n4 s4 e4 => ?_
  walk_at "rd"
  refine Rd.rd_mkLst (by show 4 ≤ sizeLine; decide) fun p1 H5 n5 s5 h5 => ?_
  walk_at "rd"
  refine Rd.rd_ex1 fun a5 H6 n6 s6 e5 => ?_
  walk_at "rd"
  refine Rd.rd_ex1 fun a6 H7 n7 s7 e6 => ?_
  walk_at "rd"
  refine Rd.rd_ex1 fun a7 H8 n8 s8 e7 => ?_
  walk_at "rd"
  refine Rd.rd_ex1 fun a8 H9 n9 s9 e8 => ?_
  walk_at "rd"
  refine Rd.rd_mkLst (by show 4 ≤ sizeLine; decide) fun p2 HA nA sA hA => ?_
  have s6A : Same H6 HA := ((s7.trans s8).trans s9).trans sA
  have s5A : Same H5 HA := s6.trans s6A
  refine Rd.rd_cat (s5A _ _ h5) hA (by show 4 + 4 ≤ sizeLine; decide) fun p3 HB nB sB hB => ?_
  walk_at "rd"
  have s5B : Same H5 HB := s5A.trans sB
  have s4B : Same H4 HB := s5.trans s5B
  have s3B : Same H3 HB := s4.trans s4B
  have s2B : Same H2 HB := s3.trans s3B
  have s1B : Same H1 HB := s2.trans s2B
  have s0B : Same H HB := s1.trans s1B
  have hL : ∀ (i : Nat) x, ([V.ref a1, .ref a2, .ref a3, .ref a4] ++ [V.ref a5, .ref a6, .ref a7, .ref a8])[i]? = some x → i < 8 ∧ ∃ e, x = .ref e ∧ Rd.Ex HB e (ga (i + 1)) := by
    intro i x h
    match i, h with
    | 0, h => exact ⟨by decide, a1, (Option.some.inj h).symm, e1.same s1B⟩
    | 1, h => exact ⟨by decide, a2, (Option.some.inj h).symm, e2.same s2B⟩
    | 2, h => exact ⟨by decide, a3, (Option.some.inj h).symm, e3.same s3B⟩
    | 3, h => exact ⟨by decide, a4, (Option.some.inj h).symm, e4.same s4B⟩
    | 4, h => exact ⟨by decide, a5, (Option.some.inj h).symm, e5.same (s6A.trans sB)⟩
    | 5, h => exact ⟨by decide, a6, (Option.some.inj h).symm, e6.same (((s8.trans s9).trans sA).trans sB)⟩
    | 6, h => exact ⟨by decide, a7, (Option.some.inj h).symm, e7.same ((s9.trans sA).trans sB)⟩
    | 7, h => exact ⟨by decide, a8, (Option.some.inj h).symm, e8.same (sA.trans sB)⟩
    | i + 8, h => exact nomatch h
  refine Rd.for_enum (fun i σ' H' => Same HB H' ∧ ∃ z2 z3 z4, σ' = [some (V.str a), some (V.ref p3), z2, z3, z4]) ⟨Same.refl HB, _, _, _, rfl⟩ (fun i σ' H' _ h => SqL.of (h.1 _ _ hB)) (fun i x σ' H' U H2' hx h hU sU hU2 => ?_) (fun σ' H' h => ?_)
  · obtain ⟨sH, z2, z3, z4, rfl⟩ := h
    obtain ⟨hi, e, rfl, hE⟩ := hL i x hx
    walk_at "rd"
    have hE2 := (hE.same sH).same sU
    refine Rd.rd_isXr hE2 (T.c (i + 1) (by omega)) ((T.k (i + 1) (by omega) 0 (by decide)).trans (congrArg some (kin_lo i hi))) ?_
    walk_at "rd"
    refine ite2 (fun h => absurd h (by decide)) fun _ => ?_
    walk_at "rd"
    refine Rd.rd_sp (e, i + 1) rfl ⟨by show i + 1 < 14; omega, hE2, fun H3' s3' => ?_⟩
    dsimp only
    rw [bits_at i hi]
    walk_at "rd"
    refine ite2 (fun h => absurd h (by decide)) fun _ => ?_
    walk_at "rd"
    refine Rd.rd_sp (e, i + 1) rfl ⟨by show i + 1 < 14; omega, hE2.same s3', fun q1 H4' n4' s4' h4' => ?_⟩
    dsimp only at h4' ⊢
    walk_at "rd"
    refine Rd.rd_IR1 (by decide) (by decide) ?_
    refine Rd.lc_rng (n := 13) (fun j => V.bl (decide (V.int (0 + (j : Int)) = V.int (i : Nat)))) (by decide) (fun j H5' N hj s5' hN => ?_) (fun q2 H5' n5' s5' h5' => ?_)
    · refine Rd.rd_start' [some (V.str a), some (V.ref p3), some (V.int (i : Nat)), some (V.ref e), none] rfl ?_
      walk_at "rd"
      refine ⟨rfl, ?_⟩
      walk_at "rd"
      exact hN _ (Same.refl _)
    · rw [kind_at i (by omega)] at h5'
      refine Rd.rd_neD (.lst (SqL.of (s5' _ _ h4')) (Rd.dpB _)) (.lst (SqL.of h5') (Rd.dpB _)) (Rd.shLB _) (Rd.shLB _) ?_
      rw [Rd.eqLB]
      walk_at "rd"
      refine ite2 (fun h => absurd h (by decide)) fun _ => ?_
      walk_at "rd"
      exact ⟨(((sH.trans sU).trans s3').trans s4').trans s5', _, _, _, rfl⟩
  · obtain ⟨sH, z2, z3, z4, rfl⟩ := h
    walk_at "rd"
    refine Rd.rd_ex1 fun b1 H1' n1' s1' f1 => ?_
    walk_at "rd"
    refine Rd.rd_sp (b1, 0) rfl ⟨by show 0 < 14; decide, f1, fun H2' s2' => ?_⟩
    dsimp only
    rw [show bitsOf 0 = 1 from by decide +kernel]
    walk_at "rd"
    refine ite2 (fun _ => ?_) fun h => absurd (show decide (V.int 1 = V.int 1) = true from by decide) h
    walk_at "rd"
    refine Rd.rd_ex1 fun b2 H3' n3' s3' f2 => ?_
    walk_at "rd"
    refine Rd.rd_sp (b2, 0) rfl ⟨by show 0 < 14; decide, f2, fun q1 H4' n4' s4' h4' => ?_⟩
    dsimp only at h4' ⊢
    refine Rd.rd_inL (SqL.of h4') rfl (by decide +kernel) ?_
    rw [show inV (.bl true) ((kindL 0).map V.bl) = false from by decide +kernel]
    exact k _ ((((s0B.trans sH).trans s1').trans s2').trans (s3'.trans s4'))
end
end M
set_option Elab.async false
set_option linter.all false
set_option maxRecDepth 100000
set_option maxHeartbeats 4000000
namespace M
open PySem L2
local macro_rules | `(tactic| walk_at "rdc") => `(tactic| first | exact Or.inl ⟨by decide, by decide⟩ | exact Or.inr ⟨by decide, by decide⟩ | exact ⟨by decide, by decide, by decide⟩ | exact ⟨by decide, by decide⟩ | decide | omega | assumption | (refine Or.inl ⟨?_, ?_⟩ <;> omega) | (refine Or.inr ⟨?_, ?_⟩ <;> omega) | (refine ⟨?_, ?_⟩ <;> omega))
local macro_rules | `(tactic| walk_at "rd1") => `(tactic| with_reducible first
  | refine Rd.rd_seq ?_ | refine Rd.rd_asg ?_ | refine Rd.rd_op ?_ | (refine' Rd.rd_var ?vh ?_; (case vh => with_unfolding_all rfl)) | refine Rd.rd_c ?_ | refine Rd.rd_I0 ?_ | refine Rd.rd_name0 ?_ | refine Rd.rd_nameS ?_ | refine Rd.rd_fn ?_
  | refine Rd.rd_cb ?_ | refine Rd.rd_cons ?_ | refine Rd.rd_nil ?_ | refine Rd.rd_int ?_ | refine Rd.rd_intB ?_ | refine Rd.rd_abs ?_ | refine Rd.rd_max2 ?_ | refine Rd.rd_min2 ?_
  | refine Rd.rd_call ?_ | refine Rd.rd_ifE ?_ | refine Rd.rd_test ?_ | refine Rd.rd_tB ?_ | refine Rd.rd_blV ?_ | refine Rd.rd_and ?_ | refine Rd.rd_or ?_ | refine Rd.rd_not ?_
  | refine Rd.rd_andV ?_ | refine Rd.rd_orV ?_ | refine Rd.rd_notV ?_ | refine Rd.rd_next ?_ | refine Rd.rd_ret ?_ | refine Rd.rd_drop ?_ | refine Rd.rd_ifS ?_ | refine Rd.rd_nx ?_ | refine Rd.rd_rt ?_ | refine Rd.rd_sl ?_ | refine Rd.rd_noPart ?_ | refine Rd.rd_part ?_ | refine Rd.rd_intV ?_ | refine Rd.rd_lc ?_ | (refine' Rd.rd_aug ?vh ?_; (case vh => with_unfolding_all rfl)) | refine Rd.rd_ipI ?_ | refine Rd.rd_for ?_ | (refine' Rd.rd_IT ?ln ?_; (case ln => with_unfolding_all walk_at "at")) | (refine' Rd.rd_IL ?ln ?_; (case ln => with_unfolding_all walk_at "at")) | refine Rd.rd_iTup ?_ | refine Rd.rd_iList ?_ | refine Rd.rd_iRng1 ?_ | refine Rd.rd_iRng2 ?_ | refine Rd.rd_isi (Rd.isi_int Rd.kk_int_int) ?_ | refine Rd.rd_isi (Rd.isi_int Rd.kk_int_bool) ?_ | refine Rd.rd_methR ?_ | refine Rd.rd_cmeth ?_ | refine Rd.rd_fldS ?_ | refine Rd.rd_fld ?_ | (refine' Rd.rd_mkVS ?vh ?_; (case vh => with_unfolding_all rfl)) | (refine' Rd.rd_starT ?ln ?_; (case ln => with_unfolding_all walk_at "at")) | refine Rd.rd_iEnum ?_ | refine Rd.rd_iZip ?_ | (refine' Rd.rd_IE ?ln ?_; (case ln => with_unfolding_all walk_at "at")) | (refine' Rd.rd_IZ ?ln ?lm ?_; (case ln => with_unfolding_all walk_at "at"); (case lm => with_unfolding_all walk_at "at")) | (refine' Rd.rd_gTup ?ln ?lk ?_; (case ln => with_unfolding_all walk_at "at"); (case lk => with_unfolding_all rfl)) | refine Rd.rd_gCons ?_ | refine Rd.rd_gNil ?_ | refine Rd.rd_m1 ?_ | refine Rd.rd_strV ?_ | refine Rd.rd_tXiM ?_ | refine Rd.rd_tXiB ?_ | refine Rd.rd_tXiS ?_ | refine Rd.rd_bm ?_ | refine Rd.rd_bm0 ?_ | refine Rd.rd_isN ?_ | refine Rd.rd_notN ?_ | refine Rd.rd_sub ?_ | refine Rd.rd_un ?_ | refine Rd.rd_U ?_
  | (refine' Rd.rd_eq ?sc ?_; (case sc => with_unfolding_all rfl)) | (refine' Rd.rd_ne ?sc ?_; (case sc => with_unfolding_all rfl))
  | (refine' Rd.rd_I ?cc ?_; (case cc => with_unfolding_all walk_at "rdc"))
  | (refine' Rd.rd_lenL ?ln ?_; (case ln => with_unfolding_all walk_at "at")) | (refine' Rd.rd_lenT ?ln ?_; (case ln => with_unfolding_all walk_at "at"))
  | (refine' Rd.rd_ixL ?ln ?ia ?_; (case ln => with_unfolding_all walk_at "at"); (case ia => with_unfolding_all first | exact Rd.at0 | exact Rd.at1 | exact Rd.at2 | exact Rd.at3 | exact Rd.at4 | rfl)) | (refine' Rd.rd_ixT ?ln ?ia ?_; (case ln => with_unfolding_all walk_at "at"); (case ia => with_unfolding_all first | exact Rd.at0 | exact Rd.at1 | exact Rd.at2 | exact Rd.at3 | exact Rd.at4 | rfl)))
local macro_rules | `(tactic| walk_at "at") => `(tactic| first | assumption | (apply SqL.of; assumption) | (apply SqT.of; assumption) | (apply SqL.of; exact upd_same) | (apply SqT.of; exact upd_same))
local macro_rules | `(tactic| walk_at "rd") => `(tactic| repeat walk_at "rd1")
abbrev s__law_values_right : Stmt := top 22
theorem sc__law_values_right : FnScope ["_law_dice_here", "_law_great", "_law_value", "_law_name", "_law_kept", "_law_some", "_law_at", "_law_e", "_law_one"] ["_law_dice_here"] (defScope s__law_values_right) := ⟨rfl, rfl, rfl, by decide +kernel, rfl, by decide +kernel, by decide +kernel⟩
def spVal : Sp := Rd.mkSp (fun (a : Addr) => [.ref a]) fun a H Q _ => Dice H a ∧ ∀ H', Rolled a H H' → Q (.bl true) H'
theorem Rolled.dt {K : PySem.W.Frag} {p : Addr} {H H' : Hp} {v : V} {d : PyData} (r : Rolled p H H') (hD : Dice H p) (h : Rd.Dt K H v d) : Rd.Dt K H' v d := h.mono' fun _ _ q => r.sqT hD q
theorem kin_no : ∀ i, i < 5 → errKin (i + 9) 0 = false := by decide
theorem bits_all : ([9, 10, 11, 12, 13] : List Nat).map (fun c => V.int (bitsOf c)) = ([10, 12, 96, 32, 8] : List Int).map V.int := by decide +kernel
section
variable {P : Program} {w : World} {K : PySem.W.Frag} {mg : Str → Option Value} {base : Heap} {ga fi : Nat → Addr}
theorem ok_values (F : Rd.Has K mg "_law_values_right" s__law_values_right) (g : Glob mg) (T : ErrT K mg ga fi) (c__law_built_in : Rd.Fn P w K mg base CX0 1 "_law_built_in" (spBuiltIn ga)) (c__law_kinds : Rd.Fn P w K mg base CX0 1 "_law_kinds" (spKinds ga))
    (c__law_roll : Rd.Fn P w K mg base CX0 1 "_law_roll" spRoll) (c__law_one_of : Rd.Fn P w K mg base CX0 2 "_law_one_of" (spOneOf K)) (c_InvalidNumber___init__ : Rd.FnG P w K mg base CX0 1 (fi 0) (Rd.spXi (ga 9) "value")) (c_UnknownName___init__ : Rd.FnG P w K mg base CX0 1 (fi 1) (Rd.spXi (ga 10) "name"))
    (c_TooMany___init__ : Rd.FnG P w K mg base CX0 1 (fi 2) (Rd.spXi (ga 11) "limit")) (c_NotEnough___init__ : Rd.FnG P w K mg base CX0 1 (fi 3) (Rd.spXi (ga 12) "counter")) (c_NothingToUndo___init__ : Rd.FnG P w K mg base CX0 1 (fi 4) (Rd.spXi (ga 13) "many")) :
    Rd.Fn P w K mg base CX0 3 "_law_values_right" spVal := by
  refine F.fn sc__law_values_right (fun _ => rfl) (fun _ _ _ _ _ _ us hl => match us, hl with | [_], _ => rfl) fun f cdv A outer s H Q E d hr h => ?_
  obtain ⟨hD, k⟩ := h
  refine ⟨_, (pss_cons (ps_set (i := 1) sc__law_values_right.nd rfl (Or.inl rfl) (pe_op op_mul (Rd.pe_fn c__law_roll (hr.mono (by decide)) (by rfl) (pa_cons (pv 0) (pa_cons (pe_op op_pow pe_int pe_int) pa_nil))) (pe_op op_pow pe_int pe_int)))
      (pss_cons (ps_set (i := 2) sc__law_values_right.nd rfl (Or.inl rfl) (Rd.pe_fn c__law_one_of (hr.mono (by decide)) (by rfl) (pa_cons (pv 0) (pa_cons (Rd.pe_lst (pa_cons pe_int (pa_cons (pe_un un_neg pe_int) (pa_cons pe_int (pa_cons (pv 1) (pa_cons (pe_op op_sub pe_int (pv 1)) (pa_cons pe_non (pa_cons pe_str (pa_cons (Rd.pe_tup (pa_cons pe_int (pa_cons pe_int pa_nil))) pa_nil))))))))) pa_nil))))
      (pss_cons (ps_set (i := 3) sc__law_values_right.nd rfl (Or.inl rfl) (Rd.pe_fn c__law_one_of (hr.mono (by decide)) (by rfl) (pa_cons (pv 0) (pa_cons (Rd.pe_lst (pa_cons pe_str (pa_cons pe_str (pa_cons pe_str (pa_cons pe_non (pa_cons (Rd.pe_tup (pa_cons pe_str (pa_cons pe_str (pa_cons pe_str (pa_cons (Rd.pe_tup pa_nil) pa_nil))))) (pa_cons pe_int pa_nil))))))) pa_nil))))
      (pss_cons (ps_set (i := 4) sc__law_values_right.nd rfl (Or.inl rfl) (Rd.pe_lst (pa_cons (pv 2) (pa_cons (pv 3) (pa_cons (Rd.pe_fn c__law_one_of (hr.mono (by decide)) (by rfl) (pa_cons (pv 0) (pa_cons (Rd.pe_lst (pa_cons pe_int (pa_cons pe_int (pa_cons (pe_op op_pow pe_int pe_int) pa_nil)))) pa_nil))) (pa_cons (Rd.pe_fn c__law_one_of (hr.mono (by decide)) (by rfl) (pa_cons (pv 0) (pa_cons (Rd.pe_lst (pa_cons pe_str (pa_cons pe_str (pa_cons pe_str pa_nil)))) pa_nil))) (pa_cons (pv 1) pa_nil)))))))
      (pss_cons (ps_set (i := 5) sc__law_values_right.nd rfl (Or.inl rfl) (Rd.pe_lst (pa_cons (Rd.pe_xiM PySem.F.excBase_IndexError (by decide +kernel) (by decide +kernel) (by decide +kernel) T.i_InvalidNumber (T.n 0 (by decide)).1 (T.n 0 (by decide)).2 c_InvalidNumber___init__ (hr.mono (by decide)) pass0 (by rfl) (T.g 9 (by decide)).1 (pa_cons (pe_ix ix_list (pv 4) pe_int (fun _ _ => rfl)) pa_nil)) (pa_cons (Rd.pe_xiM PySem.F.excBase_LookupError (by decide +kernel) (by decide +kernel) (by decide +kernel) T.i_UnknownName (T.n 1 (by decide)).1 (T.n 1 (by decide)).2 c_UnknownName___init__ (hr.mono (by decide)) pass0 (by rfl) (T.g 10 (by decide)).1 (pa_cons (pe_ix ix_list (pv 4) pe_int (fun _ _ => rfl)) pa_nil)) (pa_cons (Rd.pe_xiM PySem.F.excBase_OverflowError (by decide +kernel) (by decide +kernel) (by decide +kernel) T.i_TooMany (T.n 2 (by decide)).1 (T.n 2 (by decide)).2 c_TooMany___init__ (hr.mono (by decide)) pass0 (by rfl) (T.g 11 (by decide)).1 (pa_cons (pe_ix ix_list (pv 4) pe_int (fun _ _ => rfl)) pa_nil)) (pa_cons (Rd.pe_xiM PySem.F.excBase_ArithmeticError (by decide +kernel) (by decide +kernel) (by decide +kernel) T.i_NotEnough (T.n 3 (by decide)).1 (T.n 3 (by decide)).2 c_NotEnough___init__ (hr.mono (by decide)) pass0 (by rfl) (T.g 12 (by decide)).1 (pa_cons (pe_ix ix_list (pv 4) pe_int (fun _ _ => rfl)) pa_nil)) (pa_cons (Rd.pe_xiM PySem.F.excBase_LookupError (by decide +kernel) (by decide +kernel) (by decide +kernel) T.i_NothingToUndo (T.n 4 (by decide)).1 (T.n 4 (by decide)).2 c_NothingToUndo___init__ (hr.mono (by decide)) pass0 (by rfl) (T.g 13 (by decide)).1 (pa_cons (pe_ix ix_list (pv 4) pe_int (fun _ _ => rfl)) pa_nil)) pa_nil)))))))
      (pss_cons (ps_for PassesOwn.never rfl (pi_enum (by rfl) g.enumerate (pa_cons (pv 5) pa_nil)) (pg_tup rfl (pgs_cons (pg_name (i := 6) sc__law_values_right.nd rfl (Or.inr rfl)) (pgs_cons (pg_name (i := 7) sc__law_values_right.nd rfl (Or.inl rfl)) pgs_nil))) (pss_one (ps_if (PW.pt (pw_or (pt_val (pe_callB Rd.c_isX (by rfl) g.isinstance (by decide +kernel) (pa_cons (pv 7) (pa_cons (Rd.pe_glr (by rfl) (T.g 0 (by decide)).1) pa_nil)))) (pw_or1 (pt_cmpR (op_neD hr.units) (Rd.pe_fn c__law_kinds (hr.mono (by decide)) (by rfl) (pa_cons (pv 7) pa_nil)) (pe_lc (own := [("_law_one", 8)]) (by rfl) sc__law_values_right.nd (pi_range1 (by rfl) g.range (pa_cons pe_int pa_nil)) (blkOk_by (own := [("_law_one", 8)]) (N := ["_law_dice_here", "_law_great", "_law_value", "_law_name", "_law_kept", "_law_some", "_law_at", "_law_e", "_law_one"]) (sc := defScope s__law_values_right) (by decide +kernel)) (fun _ _ _ _ _ => (pg_name (i := 8) sc__law_values_right.nd rfl (Or.inl rfl))) (fun _ _ _ _ _ => pts_nil) (fun _ _ _ _ _ => (pe_cmpR op_eq (pv 8) (pe_op op_add (pv 6) pe_int) (nomark _)))) (nomark _))))) (pss_one (ps_ret pe_bl)) pss_nil)))
      (pss_cons (ps_if (pt_cmpR (op_neD hr.units) (pe_lc (own := [("_law_e", 7)]) (by rfl) sc__law_values_right.nd (pi_list (pv 5)) (blkOk_by (own := [("_law_e", 7)]) (N := ["_law_dice_here", "_law_great", "_law_value", "_law_name", "_law_kept", "_law_some", "_law_at", "_law_e", "_law_one"]) (sc := defScope s__law_values_right) (by decide +kernel)) (fun _ _ _ _ _ => (pg_name (i := 7) sc__law_values_right.nd rfl (Or.inl rfl))) (fun _ _ _ _ _ => pts_nil) (fun _ _ _ _ _ => (Rd.pe_fn c__law_built_in (hr.mono (by decide)) (by rfl) (pa_cons (pv 7) pa_nil)))) (Rd.pe_lst (pa_cons (pe_op op_add pe_int pe_int) (pa_cons (pe_op op_add pe_int pe_int) (pa_cons (pe_op op_add pe_int pe_int) (pa_cons pe_int (pa_cons pe_int pa_nil)))))) (nomark _)) (pss_one (ps_ret pe_bl)) pss_nil)
      (pss_one (ps_ret (pe_cmpR op_eq (pe_callB (Rd.c_reprD hr.gd hr.units) (by rfl) g.repr (by decide +kernel) (pa_cons (Rd.pe_lst (pa_cons (Rd.pe_xfv (pe_ix ix_list (pv 5) pe_int (fun _ _ => rfl))) (pa_cons (Rd.pe_xfv (pe_ix ix_list (pv 5) pe_int (fun _ _ => rfl))) (pa_cons (Rd.pe_xfv (pe_ix ix_list (pv 5) pe_int (fun _ _ => rfl))) (pa_cons (Rd.pe_xfv (pe_ix ix_list (pv 5) pe_int (fun _ _ => rfl))) (pa_cons (Rd.pe_xfv (pe_ix ix_list (pv 5) pe_int (fun _ _ => rfl))) pa_nil)))))) pa_nil)) (pe_callB (Rd.c_reprD hr.gd hr.units) (by rfl) g.repr (by decide +kernel) (pa_cons (pv 4) pa_nil)) (nomark _))))))))))), ?_⟩
  try simp only [Rd.noxK, Rd.cxK]
  refine Rd.rd_start [some (V.ref d), none, none, none, none, none, none, none, none] rfl ?_
  walk_at "rd"
  refine rd_roll hD (by decide) (by decide) fun r H1 hr0 hr1 R1 => ?_
  have hr2 : r < 1000000000 := hr1
  have hG0 : (r * 10 ^ Int.toNat 50).natAbs.log2 < 250 := by
    refine PySem.Flt.log2_lt_of (by decide) ?_
    have e : (10 : Int) ^ Int.toNat 50 = 100000000000000000000000000000000000000000000000000 := by decide
    have e2 : (2 : Nat) ^ 250 = 1809251394333065553493296640760748560207343510400633813116524750123642650624 := by decide +kernel
    rw [e, e2]
    omega
  walk_at "rd"
  generalize hG : r * 10 ^ Int.toNat 50 = G at hG0 ⊢
  have hG1 : (0 - G).natAbs.log2 < 250 := by rw [show (0 - G).natAbs = G.natAbs by omega]; exact hG0
  refine Rd.rd_mkTup (by show 2 ≤ sizeLine; decide) fun t1 H2 n2 s2 h2 => ?_
  walk_at "rd"
  refine Rd.rd_mkLst (by show 8 ≤ sizeLine; decide) fun p1 H3 n3 s3 h3 => ?_
  walk_at "rd"
  have hD1 := R1.dice
  have hD3 := (hD1.same s2).same s3
  refine rd_one hD3 ((hD1.same s2).ne n3) (SqL.of h3) (by show 0 < 8; decide) (by show 8 < 1000; decide) fun v H4 hv R4 => ?_
  have hv1 : ∃ dv, Rd.Dt K H3 v dv ∧ Rd.Small dv := by
    simp only [List.mem_cons, List.not_mem_nil, or_false] at hv
    rcases hv with rfl | rfl | rfl | rfl | rfl | rfl | rfl | rfl
    · exact ⟨_, .int _, Rd.small_int (by decide +kernel)⟩
    · exact ⟨_, .int _, Rd.small_int (by decide +kernel)⟩
    · exact ⟨_, .int _, Rd.small_int (by decide +kernel)⟩
    · exact ⟨_, .int _, Rd.small_int hG0⟩
    · exact ⟨_, .int _, Rd.small_int hG1⟩
    · exact ⟨_, .non, by decide +kernel, by decide +kernel, by decide +kernel, by decide +kernel⟩
    · exact ⟨_, .str _, by decide +kernel, by decide +kernel, by decide +kernel, by decide +kernel⟩
    · exact ⟨.tuple [.int 1, .int 2], .tup (SqT.of (s3 _ _ h2)) (.cons (.int 1) (.cons (.int 2) .nil)), by decide +kernel, by decide +kernel, by decide +kernel, by decide +kernel⟩
  obtain ⟨dv, hv2, hvs⟩ := hv1
  have hv4 := R4.dt hD3 hv2
  walk_at "rd"
  refine Rd.rd_mkTup (by show 0 ≤ sizeLine; decide) fun t2 H5 n5 s5 h5 => ?_
  walk_at "rd"
  refine Rd.rd_mkTup (by show 4 ≤ sizeLine; decide) fun t3 H6 n6 s6 h6 => ?_
  walk_at "rd"
  refine Rd.rd_mkLst (by show 6 ≤ sizeLine; decide) fun p2 H7 n7 s7 h7 => ?_
  walk_at "rd"
  have hD6 := (R4.dice.same s5).same s6
  have hD7 := hD6.same s7
  refine rd_one hD7 (hD6.ne n7) (SqL.of h7) (by show 0 < 6; decide) (by show 6 < 1000; decide) fun n H8 hn R8 => ?_
  have hn1 : ∃ dn, Rd.Dt K H7 n dn ∧ Rd.Small dn := by
    simp only [List.mem_cons, List.not_mem_nil, or_false] at hn
    rcases hn with rfl | rfl | rfl | rfl | rfl | rfl
    · exact ⟨_, .str _, by decide +kernel, by decide +kernel, by decide +kernel, by decide +kernel⟩
    · exact ⟨_, .str _, by decide +kernel, by decide +kernel, by decide +kernel, by decide +kernel⟩
    · exact ⟨_, .str _, by decide +kernel, by decide +kernel, by decide +kernel, by decide +kernel⟩
    · exact ⟨_, .non, by decide +kernel, by decide +kernel, by decide +kernel, by decide +kernel⟩
    · exact ⟨.tuple [.str "a", .str "p", .str "p", .tuple []], .tup (SqT.of (s7 _ _ h6)) (.cons (.str _) (.cons (.str _) (.cons (.str _) (.cons (.tup (SqT.of ((s6.trans s7) _ _ h5)) .nil) .nil)))), by decide +kernel, by decide +kernel, by decide +kernel, by decide +kernel⟩
    · exact ⟨_, .int _, Rd.small_int (by decide +kernel)⟩
  obtain ⟨dn, hn2, hns⟩ := hn1
  have hn8 := R8.dt hD7 hn2
  have hv8 := R8.dt hD7 (((hv4.same s5).same s6).same s7)
  walk_at "rd"
  refine Rd.rd_mkLst (by show 3 ≤ sizeLine; decide) fun p3 H9 n9 s9 h9 => ?_
  walk_at "rd"
  have hD9 := R8.dice.same s9
  refine rd_one hD9 (R8.dice.ne n9) (SqL.of h9) (by show 0 < 3; decide) (by show 3 < 1000; decide) fun l HA hl RA => ?_
  have hl1 : ∃ i, l = .int i ∧ i.natAbs.log2 < 250 := by
    simp only [List.mem_cons, List.not_mem_nil, or_false] at hl
    rcases hl with rfl | rfl | rfl <;> exact ⟨_, rfl, by decide +kernel⟩
  obtain ⟨li, rfl, hli⟩ := hl1
  walk_at "rd"
  refine Rd.rd_mkLst (by show 3 ≤ sizeLine; decide) fun p4 HB nB sB hB => ?_
  walk_at "rd"
  have hDB := RA.dice.same sB
  refine rd_one hDB (RA.dice.ne nB) (SqL.of hB) (by show 0 < 3; decide) (by show 3 < 1000; decide) fun c HC hc RC => ?_
  have hc1 : ∃ x, c = .str x ∧ Rd.Small (.str x) := by
    simp only [List.mem_cons, List.not_mem_nil, or_false] at hc
    rcases hc with rfl | rfl | rfl <;> exact ⟨_, rfl, by decide +kernel, by decide +kernel, by decide +kernel, by decide +kernel⟩
  obtain ⟨x, rfl, hxs⟩ := hc1
  have hvC := RC.dt hDB ((RA.dt hD9 (hv8.same s9)).same sB)
  have hnC := RC.dt hDB ((RA.dt hD9 (hn8.same s9)).same sB)
  walk_at "rd"
  refine Rd.rd_mkLst (by show 5 ≤ sizeLine; decide) fun pk HD nD sD hkept => ?_
  have RD : Rolled d H HD := ((((((R1.same s2).same s3).trans R4).same s5).same s6).same s7 |>.trans R8 |>.same s9 |>.trans RA |>.same sB |>.trans RC |>.same sD)
  have hvD := hvC.same sD
  have hnD := hnC.same sD
  clear hv hn hl hc hvC hnC hv8 hn8 hv4 hv2 hn2 R1 R4 R8 RA RC h2 h3 h5 h6 h7 h9 hB
  walk_at "rd"
  refine Rd.rd_xiM fun e0 I0 m0 u0 f0 => ?_
  have q0 := u0 _ _ hkept
  walk_at "rd"
  refine Rd.rd_xiM fun e1 I1 m1 u1 f1 => ?_
  have q1 := u1 _ _ q0
  walk_at "rd"
  refine Rd.rd_xiM fun e2 I2 m2 u2 f2 => ?_
  have q2 := u2 _ _ q1
  walk_at "rd"
  refine Rd.rd_xiM fun e3 I3 m3 u3 f3 => ?_
  have q3 := u3 _ _ q2
  walk_at "rd"
  refine Rd.rd_xiM fun e4 I4 m4 u4 f4 => ?_
  have q4 := u4 _ _ q3
  walk_at "rd"
  refine Rd.rd_mkLst (by show 5 ≤ sizeLine; decide) fun ps I5 m5 u5 hsome => ?_
  have q5 := u5 _ _ q4
  have g4 := f4.same u5
  have g3 := (f3.same u4).same u5
  have g2 := ((f2.same u3).same u4).same u5
  have g1 := (((f1.same u2).same u3).same u4).same u5
  have g0 := ((((f0.same u1).same u2).same u3).same u4).same u5
  have uA : Same HD I5 := ((((u0.trans u1).trans u2).trans u3).trans u4).trans u5
  clear q0 q1 q2 q3 q4 f0 f1 f2 f3 f4
  walk_at "rd"
  have hL : ∀ (i : Nat) y, ([V.ref e0, .ref e1, .ref e2, .ref e3, .ref e4])[i]? = some y → i < 5 ∧ ∃ e, y = .ref e ∧ Rd.Ex I5 e (ga (i + 9)) := by
    intro i y h
    match i, h with
    | 0, h => exact ⟨by decide, e0, (Option.some.inj h).symm, g0.ex⟩
    | 1, h => exact ⟨by decide, e1, (Option.some.inj h).symm, g1.ex⟩
    | 2, h => exact ⟨by decide, e2, (Option.some.inj h).symm, g2.ex⟩
    | 3, h => exact ⟨by decide, e3, (Option.some.inj h).symm, g3.ex⟩
    | 4, h => exact ⟨by decide, e4, (Option.some.inj h).symm, g4.ex⟩
    | i + 5, h => exact nomatch h
  refine Rd.for_enum (fun i σ' H' => Same I5 H' ∧ ∃ z6 z7 z8, σ' = [some (V.ref d), some (V.int G), some v, some n, some (V.ref pk), some (V.ref ps), z6, z7, z8]) ⟨Same.refl I5, _, _, _, rfl⟩ (fun i σ' H' _ h => SqL.of (h.1 _ _ hsome)) (fun i y σ' H' U H2' hy h hU sU hU2 => ?_) (fun σ' H' h => ?_)
  · obtain ⟨sH, z6, z7, z8, rfl⟩ := h
    obtain ⟨hi, e, rfl, hE⟩ := hL i y hy
    walk_at "rd"
    have hE2 := (hE.same sH).same sU
    refine Rd.rd_isXr hE2 (T.c (i + 9) (by omega)) ((T.k (i + 9) (by omega) 0 (by decide)).trans (congrArg some (kin_no i hi))) ?_
    walk_at "rd"
    refine ite2 (fun h => absurd h (by decide)) fun _ => ?_
    walk_at "rd"
    refine Rd.rd_sp (e, i + 9) rfl ⟨by show i + 9 < 14; omega, hE2, fun q1 H4' n4' s4' h4' => ?_⟩
    dsimp only at h4' ⊢
    walk_at "rd"
    refine Rd.rd_IR1 (by decide) (by decide) ?_
    refine Rd.lc_rng (n := 13) (fun j => V.bl (decide (V.int (0 + (j : Int)) = V.int ((i : Nat) + 8)))) (by decide) (fun j H5' N hj s5' hN => ?_) (fun q2 H5' n5' s5' h5' => ?_)
    · refine Rd.rd_start' [some (V.ref d), some (V.int G), some v, some n, some (V.ref pk), some (V.ref ps), some (V.int (i : Nat)), some (V.ref e), none] rfl ?_
      walk_at "rd"
      refine ⟨rfl, ?_⟩
      walk_at "rd"
      exact hN _ (Same.refl _)
    · rw [kind_at8 i (by omega)] at h5'
      refine Rd.rd_neD (.lst (SqL.of (s5' _ _ h4')) (Rd.dpB _)) (.lst (SqL.of h5') (Rd.dpB _)) (Rd.shLB _) (Rd.shLB _) ?_
      rw [Rd.eqLB]
      walk_at "rd"
      refine ite2 (fun h => absurd h (by decide)) fun _ => ?_
      walk_at "rd"
      exact ⟨((sH.trans sU).trans s4').trans s5', _, _, _, rfl⟩
  · obtain ⟨sH, z6, z7, z8, rfl⟩ := h
    have hsomeH := sH _ _ hsome
    have hkH := sH _ _ q5
    walk_at "rd"
    refine Rd.lc_lstA [(e0, 9), (e1, 10), (e2, 11), (e3, 12), (e4, 13)] (fun z => V.ref z.1) (fun z => V.int (bitsOf z.2)) (by show 5 ≤ 100000; decide) (SqL.of hsomeH) (fun z H1' N hz s1' hN => ?_) (fun q1 H1' n1' s1' h1' => ?_)
    · have hz2 : z.2 < 14 ∧ Rd.Ex I5 z.1 (ga z.2) := by
        simp only [List.mem_cons, List.not_mem_nil, or_false] at hz
        rcases hz with rfl | rfl | rfl | rfl | rfl
        · exact ⟨by show 9 < 14; decide, g0.ex⟩
        · exact ⟨by show 10 < 14; decide, g1.ex⟩
        · exact ⟨by show 11 < 14; decide, g2.ex⟩
        · exact ⟨by show 12 < 14; decide, g3.ex⟩
        · exact ⟨by show 13 < 14; decide, g4.ex⟩
      refine Rd.rd_start' [some (V.ref d), some (V.int G), some v, some n, some (V.ref pk), some (V.ref ps), z6, none, z8] rfl ?_
      walk_at "rd"
      refine ⟨rfl, ?_⟩
      walk_at "rd"
      exact Rd.rd_sp (z.1, z.2) rfl ⟨hz2.1, (hz2.2.same sH).same s1', fun H2' s2' => hN H2' s2'⟩
    · walk_at "rd"
      refine Rd.rd_mkLst (by show 5 ≤ sizeLine; decide) fun q2 H2' n2' s2' h2' => ?_
      have h3' : H2' q1 = some (.lst (([10, 12, 96, 32, 8] : List Int).map V.int)) := (s2' _ _ h1').trans (congrArg (fun z => some (HO.lst z)) bits_all)
      have h4' : H2' q2 = some (.lst (([10, 12, 96, 32, 8] : List Int).map V.int)) := h2'
      refine Rd.rd_neD (.lst (SqL.of h3') (Rd.dpI _)) (.lst (SqL.of h4') (Rd.dpI _)) (Rd.shLI _) (Rd.shLI _) ?_
      rw [SeqAt.eqv_refl (.list (([10, 12, 96, 32, 8] : List Int).map PyData.int)) (Rd.canI _)]
      walk_at "rd"
      refine ite2 (fun h => absurd h (by decide)) fun _ => ?_
      have sJ : Same I5 H2' := (sH.trans s1').trans s2'
      have hsJ := sJ _ _ hsome
      have hkJ := sJ _ _ q5
      walk_at "rd"
      refine Rd.rd_xf (T.x 0 (by decide)) (T.f 0 (by decide)) (g0.same sJ) ?_
      walk_at "rd"
      refine Rd.rd_xf (T.x 1 (by decide)) (T.f 1 (by decide)) (g1.same sJ) ?_
      walk_at "rd"
      refine Rd.rd_xf (T.x 2 (by decide)) (T.f 2 (by decide)) (g2.same sJ) ?_
      walk_at "rd"
      refine Rd.rd_xf (T.x 3 (by decide)) (T.f 3 (by decide)) (g3.same sJ) ?_
      walk_at "rd"
      refine Rd.rd_xf (T.x 4 (by decide)) (T.f 4 (by decide)) (g4.same sJ) ?_
      walk_at "rd"
      refine Rd.rd_mkLst (by show 5 ≤ sizeLine; decide) fun q3 H3' n3' s3' h5' => ?_
      walk_at "rd"
      have sM : Same HD H3' := (uA.trans sJ).trans s3'
      have da : DpAll K H3' [v, n, V.int li, V.str x, V.int G] [dv, dn, .int li, .str x, .int G] := .cons ((hvD.same sM).dp) (.cons ((hnD.same sM).dp) (.cons (.int _) (.cons (.str _) (.cons (.int _) .nil))))
      have sm : ∀ e ∈ [dv, dn, .int li, .str x, .int G], Rd.Small e := by
        intro e he
        simp only [List.mem_cons, List.not_mem_nil, or_false] at he
        rcases he with rfl | rfl | rfl | rfl | rfl
        · exact hvs
        · exact hns
        · exact Rd.small_int hli
        · exact hxs
        · exact Rd.small_int hG0
      refine Rd.rd_reprL (.lst (SqL.of h5') da) sm (by show 5 ≤ 100; decide) ?_
      walk_at "rd"
      refine Rd.rd_reprL (.lst (SqL.of (s3' _ _ hkJ)) da) sm (by show 5 ≤ 100; decide) ?_
      walk_at "rd"
      rw [decide_eq_true rfl]
      exact k _ (RD.same sM)
end
end M
set_option Elab.async false
set_option linter.all false
set_option maxRecDepth 100000
set_option maxHeartbeats 4000000
namespace M
open PySem L2
local macro_rules | `(tactic| walk_at "rdc") => `(tactic| first | exact Or.inl ⟨by decide, by decide⟩ | exact Or.inr ⟨by decide, by decide⟩ | exact ⟨by decide, by decide, by decide⟩ | exact ⟨by decide, by decide⟩ | decide | omega | assumption | (refine Or.inl ⟨?_, ?_⟩ <;> omega) | (refine Or.inr ⟨?_, ?_⟩ <;> omega) | (refine ⟨?_, ?_⟩ <;> omega))
local macro_rules | `(tactic| walk_at "rd1") => `(tactic| with_reducible first
  | refine Rd.rd_seq ?_ | refine Rd.rd_asg ?_ | refine Rd.rd_op ?_ | (refine' Rd.rd_var ?vh ?_; (case vh => with_unfolding_all rfl)) | refine Rd.rd_c ?_ | refine Rd.rd_I0 ?_ | refine Rd.rd_name0 ?_ | refine Rd.rd_nameS ?_ | refine Rd.rd_fn ?_
  | refine Rd.rd_cb ?_ | refine Rd.rd_cons ?_ | refine Rd.rd_nil ?_ | refine Rd.rd_int ?_ | refine Rd.rd_intB ?_ | refine Rd.rd_abs ?_ | refine Rd.rd_max2 ?_ | refine Rd.rd_min2 ?_
  | refine Rd.rd_call ?_ | refine Rd.rd_ifE ?_ | refine Rd.rd_test ?_ | refine Rd.rd_tB ?_ | refine Rd.rd_blV ?_ | refine Rd.rd_and ?_ | refine Rd.rd_or ?_ | refine Rd.rd_not ?_
  | refine Rd.rd_andV ?_ | refine Rd.rd_orV ?_ | refine Rd.rd_notV ?_ | refine Rd.rd_next ?_ | refine Rd.rd_ret ?_ | refine Rd.rd_drop ?_ | refine Rd.rd_ifS ?_ | refine Rd.rd_nx ?_ | refine Rd.rd_rt ?_ | refine Rd.rd_sl ?_ | refine Rd.rd_noPart ?_ | refine Rd.rd_part ?_ | refine Rd.rd_intV ?_ | refine Rd.rd_lc ?_ | (refine' Rd.rd_aug ?vh ?_; (case vh => with_unfolding_all rfl)) | refine Rd.rd_ipI ?_ | refine Rd.rd_for ?_ | (refine' Rd.rd_IT ?ln ?_; (case ln => with_unfolding_all walk_at "at")) | (refine' Rd.rd_IL ?ln ?_; (case ln => with_unfolding_all walk_at "at")) | refine Rd.rd_iTup ?_ | refine Rd.rd_iList ?_ | refine Rd.rd_iRng1 ?_ | refine Rd.rd_iRng2 ?_ | refine Rd.rd_isi (Rd.isi_int Rd.kk_int_int) ?_ | refine Rd.rd_isi (Rd.isi_int Rd.kk_int_bool) ?_ | refine Rd.rd_methR ?_ | refine Rd.rd_cmeth ?_ | refine Rd.rd_fldS ?_ | refine Rd.rd_fld ?_ | (refine' Rd.rd_mkVS ?vh ?_; (case vh => with_unfolding_all rfl)) | (refine' Rd.rd_starT ?ln ?_; (case ln => with_unfolding_all walk_at "at")) | refine Rd.rd_iEnum ?_ | refine Rd.rd_iZip ?_ | (refine' Rd.rd_IE ?ln ?_; (case ln => with_unfolding_all walk_at "at")) | (refine' Rd.rd_IZ ?ln ?lm ?_; (case ln => with_unfolding_all walk_at "at"); (case lm => with_unfolding_all walk_at "at")) | (refine' Rd.rd_gTup ?ln ?lk ?_; (case ln => with_unfolding_all walk_at "at"); (case lk => with_unfolding_all rfl)) | refine Rd.rd_gCons ?_ | refine Rd.rd_gNil ?_ | refine Rd.rd_m1 ?_ | refine Rd.rd_strV ?_ | refine Rd.rd_tXiM ?_ | refine Rd.rd_tXiB ?_ | refine Rd.rd_tXiS ?_ | refine Rd.rd_bm ?_ | refine Rd.rd_bm0 ?_ | refine Rd.rd_isN ?_ | refine Rd.rd_notN ?_ | refine Rd.rd_sub ?_ | refine Rd.rd_un ?_ | refine Rd.rd_U ?_
  | (refine' Rd.rd_eq ?sc ?_; (case sc => with_unfolding_all rfl)) | (refine' Rd.rd_ne ?sc ?_; (case sc => with_unfolding_all rfl))
  | (refine' Rd.rd_I ?cc ?_; (case cc => with_unfolding_all walk_at "rdc"))
  | (refine' Rd.rd_lenL ?ln ?_; (case ln => with_unfolding_all walk_at "at")) | (refine' Rd.rd_lenT ?ln ?_; (case ln => with_unfolding_all walk_at "at"))
  | (refine' Rd.rd_ixL ?ln ?ia ?_; (case ln => with_unfolding_all walk_at "at"); (case ia => with_unfolding_all first | exact Rd.at0 | exact Rd.at1 | exact Rd.at2 | exact Rd.at3 | exact Rd.at4 | rfl)) | (refine' Rd.rd_ixT ?ln ?ia ?_; (case ln => with_unfolding_all walk_at "at"); (case ia => with_unfolding_all first | exact Rd.at0 | exact Rd.at1 | exact Rd.at2 | exact Rd.at3 | exact Rd.at4 | rfl)))
local macro_rules | `(tactic| walk_at "at") => `(tactic| first | assumption | (apply SqL.of; assumption) | (apply SqT.of; assumption) | (apply SqL.of; exact upd_same) | (apply SqT.of; exact upd_same))
local macro_rules | `(tactic| walk_at "rd") => `(tactic| repeat walk_at "rd1")
abbrev s_law : Stmt := top 23
theorem sc_law : FnScope ["_law_script", "_law_at", "_law_dice_here", "_law_signs", "_law_words", "_law_turn"] ["_law_script"] (defScope s_law) := ⟨rfl, rfl, rfl, by decide +kernel, rfl, by decide +kernel, by decide +kernel⟩
def spLaw (K : PySem.W.Frag) : Sp := Rd.mkSp (fun (a : Addr × List Int) => [.ref a.1]) fun a H Q _ => SqL K H a.1 (a.2.map V.int) ∧ a.2.length ≤ 63 ∧ ∀ H', Q (.bl true) H'
section
variable {P : Program} {w : World} {K : PySem.W.Frag} {mg : Str → Option Value} {base : Heap} {ga fi : Nat → Addr}
theorem ok_law (F : Rd.Has K mg "law" s_law) (g : Glob mg) (c__law_dice : Rd.Fn P w K mg base CX0 1 "_law_dice" (spDice K)) (c__law_roll : Rd.Fn P w K mg base CX0 1 "_law_roll" spRoll) (c__law_one_of : Rd.Fn P w K mg base CX0 2 "_law_one_of" (spOneOf K))
    (c__law_messages_right : Rd.Fn P w K mg base CX0 2 "_law_messages_right" (Rd.mkSp (fun (a : Str) => [.str a]) fun a H Q _ => ∀ H', Same H H' → Q (.bl true) H')) (c__law_values_right : Rd.Fn P w K mg base CX0 3 "_law_values_right" spVal) :
    Rd.Fn P w K mg base CX0 4 "law" (spLaw K) := by
  refine F.fn sc_law (fun _ => rfl) (fun _ _ _ _ _ _ us hl => match us, hl with | [_], _ => rfl) fun f cdv A outer s H Q E a hr h => ?_
  obtain ⟨a, ns⟩ := a
  obtain ⟨hS, hz, k⟩ := h
  dsimp only at hS hz
  refine ⟨_, (pss_cons (ps_for PassesOwn.never rfl (pi_range1 (by rfl) g.range (pa_cons (pe_callB (Rd.c_max2 rfl) (by rfl) g.max (by decide +kernel) (pa_cons pe_int (pa_cons (pe_callB (Rd.c_min2 rfl) (by rfl) g.min (by decide +kernel) (pa_cons pe_int (pa_cons (pe_callB Rd.c_len (by rfl) g.len (by decide +kernel) (pa_cons (pv 0) pa_nil)) pa_nil))) pa_nil))) pa_nil)) (pg_name (i := 1) sc_law.nd rfl (Or.inl rfl)) (pss_cons (ps_set (i := 2) sc_law.nd rfl (Or.inr rfl) (Rd.pe_fn c__law_dice (hr.mono (by decide)) (by rfl) (pa_cons (pv 0) (pa_cons (pv 1) pa_nil))))
      (pss_cons (ps_set (i := 3) sc_law.nd rfl (Or.inr rfl) (Rd.pe_lst (pa_cons pe_str (pa_cons pe_str (pa_cons pe_str (pa_cons pe_str (pa_cons pe_str (pa_cons pe_str (pa_cons pe_str (pa_cons pe_str pa_nil))))))))))
      (pss_cons (ps_set (i := 4) sc_law.nd rfl (Or.inl rfl) (Rd.pe_join pe_str (pe_lc (own := [("_law_turn", 5)]) (by rfl) sc_law.nd (pi_range1 (by rfl) g.range (pa_cons (Rd.pe_fn c__law_roll (hr.mono (by decide)) (by rfl) (pa_cons (pv 2) (pa_cons pe_int pa_nil))) pa_nil)) (blkOk_by (own := [("_law_turn", 5)]) (N := ["_law_script", "_law_at", "_law_dice_here", "_law_signs", "_law_words", "_law_turn"]) (sc := defScope s_law) (by decide +kernel)) (fun _ _ _ _ _ => (pg_name (i := 5) sc_law.nd rfl (Or.inl rfl))) (fun _ _ _ _ _ => pts_nil) (fun _ _ _ _ _ => (Rd.pe_fn c__law_one_of (hr.mono (by decide)) (by rfl) (pa_cons (pv 2) (pa_cons (pv 3) pa_nil)))))))
      (pss_one (ps_if (PW.pt (pw_or (pt_not (pt_val (Rd.pe_fn c__law_messages_right (hr.mono (by decide)) (by rfl) (pa_cons (pv 4) pa_nil)))) (pw_or1 (pt_not (pt_val (Rd.pe_fn c__law_values_right (hr.mono (by decide)) (by rfl) (pa_cons (pv 2) pa_nil))))))) (pss_one (ps_ret pe_bl)) pss_nil))))))
      (pss_one (ps_ret pe_bl))), ?_⟩
  try simp only [Rd.noxK, Rd.cxK]
  refine Rd.rd_start [some (V.ref a), none, none, none, none, none] rfl ?_
  walk_at "rd"
  refine Rd.rd_IR1 ?_ ?_ ?_
  · split <;> (try split) <;> simp_all <;> omega
  · split <;> (try split) <;> simp_all <;> omega
  refine Rd.for_range (fun i σ H' => ∃ o1 o2 o3 o4 o5, σ = [some (V.ref a), o1, o2, o3, o4, o5] ∧ Same H H') ⟨_, _, _, _, _, rfl, Same.refl H⟩ ?_ ?_
  · rintro i σ H1 hi ⟨o1, o2, o3, o4, o5, rfl, s1⟩
    walk_at "rd"
    refine Rd.rd_sp (a, ns, i) (by simp) ⟨L2.Same.seq s1 hS, fun d H2 hd s2 hD => ?_⟩
    walk_at "rd"
    refine Rd.rd_mkLst (by show 8 ≤ sizeLine; decide) fun m H3 hm s3 h3 => ?_
    have hD3 := hD.same s3
    have hmd := hD.ne hm
    walk_at "rd"
    refine rd_roll hD3 (by decide) (by decide) fun r H4 r0 r1 R4 => ?_
    have h4 := R4.keep _ _ hmd h3
    walk_at "rd"
    refine Rd.rd_IR1 (by omega) (by omega) ?_
    refine Rd.lc_rngI (fun j D acc H5 => Rolled d H4 H5 ∧ H5 D = some (.lst acc) ∧ ∃ ys : List Str, acc = ys.map V.str ∧ ys.length = j ∧ ∀ z ∈ ys, z.length ≤ 1) (fun D hD' => ?_) (fun j D acc H5 N hj hD' h5 hN => ?_) (fun D acc H5 hD' h5 => ?_)
    · exact ⟨⟨fun b o _ e => by rw [upd_ne (ne_of_none e hD')]; exact e, R4.dice.same (Rd.same_new hD')⟩, upd_same, [], rfl, rfl, fun z hz => nomatch hz⟩
    · obtain ⟨R5, hacc, ys, rfl, hl, hy⟩ := h5
      have hDd := R4.dice.ne hD'
      refine Rd.rd_start' [some (V.ref a), some (V.int (0 + (i : Nat))), some (V.ref d), some (V.ref m), o4, none] rfl ?_
      walk_at "rd"
      refine ⟨rfl, ?_⟩
      walk_at "rd"
      refine rd_one R5.dice hmd (SqL.of (R5.keep _ _ hmd h4)) (by show 0 < 8; decide) (by show 8 < 1000; decide) fun v H6 hv R6 => ?_
      obtain ⟨z, rfl, hz1⟩ : ∃ z : Str, v = .str z ∧ z.length ≤ 1 := by
        simp only [List.mem_cons, List.not_mem_nil, or_false] at hv
        rcases hv with rfl | rfl | rfl | rfl | rfl | rfl | rfl | rfl <;> exact ⟨_, rfl, by decide⟩
      refine hN _ _ (R6.keep _ _ hDd hacc) (by rw [List.length_map, hl]; exact Nat.lt_of_lt_of_le hj (by have := r1; have e := sizeLine_eq; omega)) ⟨(R5.trans R6).mut hD' hDd, upd_same, ys ++ [z], by simp, by simp [hl], fun y hy' => ?_⟩
      rcases List.mem_append.mp hy' with q | q
      · exact hy y q
      · rw [List.mem_singleton.mp q]; exact hz1
    · obtain ⟨R5, hacc, ys, rfl, hl, hy⟩ := h5
      have hsum : ∀ ys : List Str, (∀ z ∈ ys, z.length ≤ 1) → (ys.map (·.length)).sum ≤ ys.length := by
        intro ys
        induction ys with
        | nil => intro _; exact Nat.le_refl _
        | cons z r ih =>
          intro h
          have h1 := h z List.mem_cons_self
          have h2 := ih fun y hy => h y (List.mem_cons_of_mem _ hy)
          simp only [List.map_cons, List.sum_cons, List.length_cons]
          omega
      have hs1 := hsum ys hy
      refine Rd.rd_joinL (SqL.of hacc) (by rw [show (Str.ofString "").length = 0 from rfl]; omega) ?_
      walk_at "rd"
      refine Rd.rd_sp _ rfl fun H6 s6 => ?_
      walk_at "rd"
      refine ite2 (fun h => absurd h (by decide)) fun _ => ?_
      walk_at "rd"
      refine Rd.rd_sp d rfl ⟨R5.dice.same s6, fun H7 R7 => ?_⟩
      walk_at "rd"
      refine ite2 (fun h => absurd h (by decide)) fun _ => ?_
      walk_at "rd"
      refine ⟨_, _, _, _, _, rfl, fun b o e => ?_⟩
      have e1 := s1 _ _ e
      have bd := ne_of_none e1 hd
      exact R7.keep _ _ bd (s6 _ _ (R5.keep _ _ bd (R4.keep _ _ bd ((s2.trans s3) _ _ e1))))
  · rintro σ H1 ⟨o1, o2, o3, o4, o5, rfl, s1⟩
    walk_at "rd"
    exact k _
end
end M
set_option Elab.async false
set_option linter.all false
set_option maxRecDepth 100000
set_option maxHeartbeats 4000000
/-! Hd: a head's Hook: defs by where they stand, and one Bool of one's own over what the names reach. -/
namespace Hd
open PySem PySem.Spec PyProof.Rows L2
def obsM (ex : PySem.W.Frag → Bool) (fn : List He5.DefA) (K : PySem.W.Frag) : He.AlD := (ex K && fn.all fun d => d.ok K, fn.map fun d => He5.fnA K (d.at_ K))
def SaysM (ex : PySem.W.Frag → Bool) (fn : List He5.DefA) (K : PySem.W.Frag) : Prop := obsM ex fn K = He5.valA fn
def obsMG (n : Nat) (ex : PySem.W.Frag → Bool) (fn : List He5.DefA) (g : Addr → Option Obj) : He.AlD := obsM ex fn (He.frG g (He5.asA g n))
def hookM (n : Nat) (ex : PySem.W.Frag → Bool) (fn : List He5.DefA) : PySem.W.Hook where
  α := He.AlD
  obs := fun s => obsMG n ex fn s.heap.get?
  val := fun _ => He5.valA fn
  says := fun _ h => ∃ K : PySem.W.Frag, K.In h ∧ SaysM ex fn K
  of := fun _ _ e => ⟨_, He.frG_in, e⟩
  keeps := fun _ _ _ ⟨K, hK, c⟩ k => ⟨K, PySem.W.Frag.In.keeps hK k, c⟩
theorem obsMG_eq {n : Nat} {ex : PySem.W.Frag → Bool} {fn : List He5.DefA} {g : Addr → Option Obj} {s : Shared} (h : ∀ a, g a = s.heap.get? a) : obsMG n ex fn g = (hookM n ex fn).obs s := by
  have e : g = s.heap.get? := funext h
  rw [e] <;> rfl
section
variable {ex : PySem.W.Frag → Bool} {fn : List He5.DefA} {K : PySem.W.Frag}
theorem SaysM.fact (c : SaysM ex fn K) : ex K = true := (He.ba (show (ex K && fn.all fun d => d.ok K) = true from congrArg (fun z : He.AlD => z.1) c)).1
theorem SaysM.def_ (c : SaysM ex fn K) (i : Nat) {d : He5.DefA} (h : fn[i]? = some d := by rfl) : ∃ fd, L2.FunD K d.name d.qual d.params d.body d.scope (d.dvs K) (d.kws K) (d.at_ K) fd := by
  have c2 := (He.ba (show (ex K && fn.all fun d => d.ok K) = true from congrArg (fun z : He.AlD => z.1) c)).2
  have e : fn.map (fun d => He5.fnA K (d.at_ K)) = fn.map He5.DefA.val := congrArg (fun z : He.AlD => z.2) c
  have e2 : (fn.map fun d => He5.fnA K (d.at_ K))[i]? = (fn.map He5.DefA.val)[i]? := by rw [e]
  rw [List.getElem?_map, List.getElem?_map, h] at e2
  exact He5.DefA.funD (Option.some.inj e2) (List.all_eq_true.mp c2 d (List.mem_of_getElem? h))
end
end Hd
set_option Elab.async false
set_option linter.all false
set_option maxRecDepth 100000
set_option maxHeartbeats 0
namespace M
open PySem L2
/-! ### the head: facts by names -/
def dF (x : Str) (st : Stmt) : He5.DefA := ⟨fun K => He.ga K x, x, x, defArgs st, defBody st, defScope st, [], []⟩
def dM (C m qual : Str) (st : Stmt) : He5.DefA := ⟨fun K => He.ma K (He.ga K C) m, m, qual, defArgs st, defBody st, defScope st, [], []⟩
def dC (C m qual : Str) (st : Stmt) : He5.DefA := ⟨fun K => He5.wf K (He.ga K C) "classmethod" m, m, qual, defArgs st, defBody st, defScope st, [], []⟩
section
variable {K : PySem.W.Frag} {h : Heap} {mg : Str → Option Value} {ex : PySem.W.Frag → Bool} {fn : List He5.DefA}
theorem keep_of {x q : Str} {ps : Arguments} {b : List Stmt} {sc : Scope} {ds : List V} {ks : List (Str × V)} {f : Addr} {fd : FuncData} (F : L2.FunD K x q ps b sc ds ks f fd) : PySem.W.keepIn K (.ref f) = true := by
  obtain ⟨oc, od, dV, kV, doc, pm, an, cdv, ct, osl, e, lk, _⟩ := F.ex
  unfold PySem.W.keepIn
  dsimp only
  rw [lk]
theorem has_of (X : K.In h) (G : h.Ns mainGlobals mg) (c : Hd.SaysM ex fn K) (i : Nat) {x : Str} {st : Stmt} (hi : fn[i]? = some (dF x st)) (hg : (He.Fa.glo x).ok K = true) : Rd.Has K mg x st := by
  obtain ⟨fd, F⟩ := c.def_ i hi
  exact ⟨He.ga K x, ⟨fd, F⟩, He.glo_ok X G hg, keep_of F⟩
theorem hasM_of (c : Hd.SaysM ex fn K) (i : Nat) {C m qual : Str} {st : Stmt} (hi : fn[i]? = some (dM C m qual st)) : Rd.HasAt K (He.ma K (He.ga K C) m) m qual st := by
  obtain ⟨fd, F⟩ := c.def_ i hi
  exact ⟨fd, F⟩
theorem hasC_of (c : Hd.SaysM ex fn K) (i : Nat) {C m qual : Str} {st : Stmt} (hi : fn[i]? = some (dC C m qual st)) : Rd.HasAt K (He5.wf K (He.ga K C) "classmethod" m) m qual st := by
  obtain ⟨fd, F⟩ := c.def_ i hi
  exact ⟨fd, F⟩
/-- attributes of the class x are read off it -/
def readB (K : PySem.W.Frag) (x : Str) : Bool := PySem.W.readsIn K (He.ga K x) (.type "type") && He.eqO (PySem.W.specialIn K (.ref (He.ga K x)) "__getattribute__") (some (some (.builtin "type.__getattribute__")))
theorem read_ok {x : Str} (h : readB K x = true) : ClX.CRead K (He.ga K x) (.type "type") := by
  obtain ⟨h1, h2⟩ := He.ba h
  exact ⟨h1, He.eqO_ok h2⟩
/-- x.m is a class method -/
def cmetB (K : PySem.W.Frag) (x m : Str) : Bool := He5.wrapB K (He.ga K x) "classmethod" "classmethod.__get__" m && PySem.W.fnIn K (He5.wf K (He.ga K x) "classmethod" m)
theorem cmet_ok {x m : Str} (h : cmetB K x m = true) : ClX.CMet K (He.ga K x) (.type "type") m (He.ma K (He.ga K x) m) (He5.wf K (He.ga K x) "classmethod" m) := by
  obtain ⟨h1, h2⟩ := He.ba h
  exact He5.cmet_of h1 h2
end
/-! ### the error classes at the head -/
def gaE (K : PySem.W.Frag) (i : Nat) : Addr := He.ga K (errNm i)
def fiE (K : PySem.W.Frag) (i : Nat) : Addr := He.ma K (gaE K (i + 9)) "__init__"
def excCB (K : PySem.W.Frag) (D : Addr) : Bool := He.eqO (PySem.W.findIn K (.ref D) "__getattribute__") (some (some (.builtin "BaseException.__getattribute__"))) && (He.eqO (PySem.W.findIn K (.ref D) "__getattr__") (some none) && (decide (PySem.W.subIn K (.ref D) (.type "BaseException") = some true) && (PySem.W.hasDictIn K D &&
  (He.eqO (PySem.W.findIn K (.ref D) "__class__") (some (some (.builtin "object.__class__"))) && (He.eqO (PySem.W.specialIn K (.builtin "object.__class__") "__get__") (some (some (.builtin "getset_descriptor.__get__"))) && (decide (PySem.W.takesIn K (.builtin "object.__class__") = some true) && decide (PySem.W.mroIn K D (.type "object") = some true)))))))
theorem excC_ok {K : PySem.W.Frag} {D : Addr} (h : excCB K D = true) : ExcC K D := by
  obtain ⟨h1, h⟩ := He.ba h
  obtain ⟨h2, h⟩ := He.ba h
  obtain ⟨h3, h⟩ := He.ba h
  obtain ⟨h4, h⟩ := He.ba h
  obtain ⟨h5, h⟩ := He.ba h
  obtain ⟨h6, h⟩ := He.ba h
  obtain ⟨h7, h8⟩ := He.ba h
  exact ⟨He.eqO_ok h1, He.eqO_ok h2, of_decide_eq_true h3, h4, He.eqO_ok h5, He.eqO_ok h6, of_decide_eq_true h7, of_decide_eq_true h8⟩
def xiB (K : PySem.W.Frag) (C : Addr) (bm : List Value) (n : String) : Bool := PySem.W.excInitIn K C bm n && (PySem.W.excOver K C bm && (He.eqO (PySem.W.findIn K (.ref C) "__setattr__") (some (some (.builtin "object.__setattr__"))) && (PySem.W.hasDictIn K C && PySem.W.keepIn K (.ref C))))
theorem xi_ok {K : PySem.W.Frag} {C : Addr} {bm : List Value} {n : String} (h : xiB K C bm n = true) : Rd.XiC K C bm n := by
  obtain ⟨h1, h⟩ := He.ba h
  obtain ⟨h2, h⟩ := He.ba h
  obtain ⟨h3, h⟩ := He.ba h
  obtain ⟨h4, h5⟩ := He.ba h
  exact ⟨h1, h2, He.eqO_ok h3, h4, h5⟩
def vB (K : PySem.W.Frag) (B : String) (i : String) : Bool := match PySem.W.findCls K (.type B) (.type "type") "__init__" with
  | some (.val (.builtin n)) => decide (n = i)
  | _ => false
theorem v_ok {K : PySem.W.Frag} {B i : String} (h : vB K B i = true) : PySem.W.findCls K (.type B) (.type "type") "__init__" = some (.val (.builtin i)) := by
  unfold vB at h
  split at h
  · rename_i n e
    rw [e, of_decide_eq_true h]
  · cases h
def errRow (K : PySem.W.Frag) (i : Nat) : Bool := ((He.Fa.glo (errNm i)).ok K && PySem.W.keepIn K (.ref (gaE K i))) && (excCB K (gaE K i) && (((List.range 14).all fun j => decide (PySem.W.kitOne K (.ref (gaE K i)) (.ref (gaE K j)) = some (errKin i j))) && ((List.range 7).all fun j => decide (PySem.W.kitOne K (.ref (gaE K i)) (.type (errBl j)) = some (errKinB i j)))))
def errInit (K : PySem.W.Frag) (i : Nat) : Bool := He.eqO (PySem.W.findIn K (.ref (gaE K (i + 9))) "__init__") (some (some (.ref (fiE K i)))) && (decide (PySem.W.typeIn K (.ref (fiE K i)) = some (.type "function")) && (He.eqO (PySem.W.takerIn K (gaE K (i + 9)) (errFl i)) (some none) && (He.eqO (PySem.W.findIn K (.ref (gaE K (i + 9))) (errFl i)) (some none) && xfB K (gaE K (i + 9)))))
def errB (K : PySem.W.Frag) : Bool := ((List.range 14).all (errRow K)) && (((List.range 9).all fun i => PySem.W.excIn K (gaE K i) veM "ValueError.__new__") && (((List.range 5).all (errInit K)) && (xiB K (gaE K 9) ieM "IndexError.__new__" && (xiB K (gaE K 10) Rd.keMro "LookupError.__new__" && (xiB K (gaE K 11) oeM "OverflowError.__new__" &&
  (xiB K (gaE K 12) aeM "ArithmeticError.__new__" && (xiB K (gaE K 13) leM "LookupError.__new__" && (vB K "IndexError" "IndexError.__init__" && (vB K "KeyError" "KeyError.__init__" && (vB K "OverflowError" "OverflowError.__init__" && (vB K "ArithmeticError" "ArithmeticError.__init__" && vB K "LookupError" "LookupError.__init__")))))))))))
theorem all_lt {n : Nat} {f : Nat → Bool} (h : (List.range n).all f = true) (i : Nat) (hi : i < n) : f i = true := List.all_eq_true.mp h i (List.mem_range.mpr hi)
theorem err_ok {K : PySem.W.Frag} {hp : Heap} {mg : Str → Option Value} (X : K.In hp) (G : hp.Ns mainGlobals mg) (h : errB K = true) : ErrT K mg (gaE K) (fiE K) := by
  obtain ⟨a1, h⟩ := He.ba h
  obtain ⟨a2, h⟩ := He.ba h
  obtain ⟨a3, h⟩ := He.ba h
  obtain ⟨i0, h⟩ := He.ba h
  obtain ⟨i1, h⟩ := He.ba h
  obtain ⟨i2, h⟩ := He.ba h
  obtain ⟨i3, h⟩ := He.ba h
  obtain ⟨i4, h⟩ := He.ba h
  obtain ⟨v0, h⟩ := He.ba h
  obtain ⟨v1, h⟩ := He.ba h
  obtain ⟨v2, h⟩ := He.ba h
  obtain ⟨v3, v4⟩ := He.ba h
  have row : ∀ i, i < 14 → errRow K i = true := all_lt a1
  have ini : ∀ i, i < 5 → errInit K i = true := all_lt a3
  refine ⟨fun i hi => ⟨He.glo_ok X G (He.ba (He.ba (row i hi)).1).1, (He.ba (He.ba (row i hi)).1).2⟩, all_lt a2, fun i hi => excC_ok (He.ba (He.ba (row i hi)).2).1, fun i hi j hj => of_decide_eq_true (all_lt (He.ba (He.ba (He.ba (row i hi)).2).2).1 j hj), fun i hi j hj => of_decide_eq_true (all_lt (He.ba (He.ba (He.ba (row i hi)).2).2).2 j hj),
    fun i hi => ⟨He.eqO_ok (He.ba (ini i hi)).1, of_decide_eq_true (He.ba (He.ba (ini i hi)).2).1⟩, fun i hi => He.eqO_ok (He.ba (He.ba (He.ba (ini i hi)).2).2).1, fun i hi => He.eqO_ok (He.ba (He.ba (He.ba (He.ba (ini i hi)).2).2).2).1, fun i hi => xfB_ok (He.ba (He.ba (He.ba (He.ba (ini i hi)).2).2).2).2,
    xi_ok i0, xi_ok i1, xi_ok i2, xi_ok i3, xi_ok i4, v_ok v0, v_ok v1, v_ok v2, v_ok v3, v_ok v4⟩
def fn : List He5.DefA := [dF "_law_dice" s__law_dice, dF "_law_roll" s__law_roll, dF "_law_one_of" s__law_one_of, dF "_law_built_in" s__law_built_in, dF "_law_kinds" s__law_kinds, dF "_law_messages_right" s__law_messages_right, dF "_law_values_right" s__law_values_right, dF "law" s_law,
  dM "InvalidNumber" "__init__" "InvalidNumber.__init__" s_InvalidNumber___init__, dM "UnknownName" "__init__" "UnknownName.__init__" s_UnknownName___init__, dM "TooMany" "__init__" "TooMany.__init__" s_TooMany___init__, dM "NotEnough" "__init__" "NotEnough.__init__" s_NotEnough___init__, dM "NothingToUndo" "__init__" "NothingToUndo.__init__" s_NothingToUndo___init__]
def fa : List He.Fa := [.glo "_law_dice", .glo "_law_roll", .glo "_law_one_of", .glo "_law_built_in", .glo "_law_kinds", .glo "_law_messages_right", .glo "_law_values_right", .glo "law",
  .free "len", .free "int", .free "abs", .free "max", .free "min", .free "range", .free "isinstance", .free "sum", .free "zip", .free "enumerate", .free "repr", .free "ValueError", .free "IndexError", .free "KeyError", .free "LookupError", .free "RuntimeError", .free "ArithmeticError", .free "OverflowError"]
def ex (K : PySem.W.Frag) : Bool := (fa.all fun f => f.ok K) && errB K
abbrev R : PySem.W.OpenRow := PySem.W.OpenLaw.row PySem.Challenge.rw_loopgrowth_k00_errors
abbrev hk : PySem.W.Hook := Hd.hookM 5 ex fn
def ob (s : PySem.W.SharedT) : He.AlD := Hd.obsMG 5 ex fn (HandSHeadRun.getT s)
theorem ob_eq (s : PySem.W.SharedT) : ob s = hk.obs s.abs := Hd.obsMG_eq (HandSHeadRun.getT_eq s)
def loose : List Str := ["LoopError", "InvalidSystem", "InvalidGraph", "InvalidRecipe", "InvalidBalance", "InvalidOperation", "InvalidEdit", "ParseError", "InvalidCommand", "InvalidNumber", "UnknownName", "TooMany", "NotEnough", "NothingToUndo", "_law_dice", "_law_roll", "_law_one_of", "_law_built_in", "_law_kinds", "_law_messages_right", "_law_values_right"]
theorem run (w : World) : HandSHeadRun.RunEq R (PySem.W.view R.prog [23]) hk ob 20000 loose w := by
  intro os
  kernel_rfl
end M
set_option Elab.async false
set_option linter.all false
set_option maxRecDepth 100000
set_option maxHeartbeats 0
namespace M
open PySem L2
abbrev q35 : Program := PySem.W.view R.prog [23]
abbrev dL : DefRec := HandSHeadRun.topDef R.prog 23
theorem h_open : PySem.W.opening R.prog = PySem.W.plainProg R.prog.main.scope.names := by kernel_rfl
theorem h_fence (s : Shared) : fenceModules? R.prog s = some s := by kernel_rfl
theorem h_def : PySem.W.defOf q35 R.name = some (dL, []) := by kernel_rfl
theorem h_the : R.prog.theDef R.name = some (dL.params, dL.body, dL.scope) := by kernel_rfl
theorem h_kw : PySem.W.kwWritten? dL.params.kwonlyargs dL.params.kw_defaults = some [] := by kernel_rfl
theorem h_said : R.wellSaid = true := by decide +kernel
theorem h_ok : (PySem.W.chainsOk q35 && PySem.W.opensWell R.prog && (PySem.W.frees R.toRowW && R.within.isEmpty)) = true := by decide +kernel
theorem h_bare : R.prog.bare := ⟨rfl, rfl, rfl, rfl, rfl, by decide +kernel⟩
theorem h_name : dL.name = ("law" : Str) := by kernel_rfl
theorem h_dfl : dL.params.defaults = [] := by kernel_rfl
theorem h_prom : R.toRowW.promised := by w_witness2
theorem facts {P : Program} {w : World} {K : PySem.W.Frag} {h : Heap} {mg : Str → Option Value} (X : K.In h) (G : h.Ns mainGlobals mg) (c : Hd.SaysM ex fn K) (base : Heap) : Rd.Fn P w K mg base CX0 4 "law" (spLaw K) := by
  obtain ⟨c0, c1⟩ := He.ba c.fact
  have fi : ∀ (i : Nat) {f : He.Fa}, fa[i]? = some f → f.ok K = true := fun i {f} hf => List.all_eq_true.mp c0 f (List.mem_of_getElem? hf)
  have T := err_ok X G c1
  have g : Glob mg := ⟨He.free_ok X G (fi 8 rfl), He.free_ok X G (fi 9 rfl), He.free_ok X G (fi 10 rfl), He.free_ok X G (fi 11 rfl), He.free_ok X G (fi 12 rfl), He.free_ok X G (fi 13 rfl), He.free_ok X G (fi 14 rfl), He.free_ok X G (fi 15 rfl), He.free_ok X G (fi 16 rfl), He.free_ok X G (fi 17 rfl), He.free_ok X G (fi 18 rfl), He.free_ok X G (fi 19 rfl), He.free_ok X G (fi 20 rfl), He.free_ok X G (fi 21 rfl), He.free_ok X G (fi 22 rfl), He.free_ok X G (fi 23 rfl), He.free_ok X G (fi 24 rfl), He.free_ok X G (fi 25 rfl)⟩
  have k1 : Rd.Fn P w K mg base CX0 1 "_law_dice" (spDice K) := ok_dice (has_of X G c 0 rfl (fi 0 rfl)) g
  have k2 : Rd.Fn P w K mg base CX0 1 "_law_roll" spRoll := ok_roll (has_of X G c 1 rfl (fi 1 rfl)) g
  have k3 := ok_one_of (has_of X G c 2 rfl (fi 2 rfl)) g k2
  have k4 : Rd.Fn P w K mg base CX0 1 "_law_built_in" (spBuiltIn (gaE K)) := ok_built_in (has_of X G c 3 rfl (fi 3 rfl)) g T
  have k5 : Rd.Fn P w K mg base CX0 1 "_law_kinds" (spKinds (gaE K)) := ok_kinds (has_of X G c 4 rfl (fi 4 rfl)) g T
  have k6 := ok_messages (has_of X G c 5 rfl (fi 5 rfl)) g T k4 k5
  have k7 := ok_values (has_of X G c 6 rfl (fi 6 rfl)) g T k4 k5 k2 k3 (ok_xi_InvalidNumber (hasM_of c 8 rfl) g T) (ok_xi_UnknownName (hasM_of c 9 rfl) g T) (ok_xi_TooMany (hasM_of c 10 rfl) g T) (ok_xi_NotEnough (hasM_of c 11 rfl) g T) (ok_xi_NothingToUndo (hasM_of c 12 rfl) g T)
  exact ok_law (has_of X G c 7 rfl (fi 7 rfl)) g k1 k2 k3 k6 k7
theorem h_walk : PySem.W.WalkO q35 loose (PySem.W.XL q35 []) hk.says R.toRowW dL [] (fun f vs => PySem.call f vs) := by
  refine Rd.walk_ofG (l := PySem.Challenge.rw_loopgrowth_k00_errors) (n := 63) (k := 4) rfl (by decide) h_dfl ⟨⟨rfl, by decide, by decide⟩, rfl⟩ fun w mg fa h Y G hmg0 => ?_
  obtain ⟨K, KX, c⟩ := Y
  have hmg : mg ("law" : PySem.Str) = some (.ref fa) := (congrArg mg h_name).symm.trans hmg0
  refine ⟨K, spLaw K, KX, fun H a ns hl hS => ⟨(a, ns), rfl, hS, hl, fun _ => rfl⟩, fun base => ?_⟩
  obtain ⟨f, F, hf, _⟩ := facts (P := (PySem.Challenge.rw_loopgrowth_k00_errors).prog) (w := w) KX G c base
  obtain rfl : f = fa := Value.ref.inj (Option.some.inj (hf.symm.trans hmg))
  exact F
theorem h_holds : R.Holds := HandSHeadRun.head_any (r := R) (q := q35) (H := hk) (ob := ob) (M := 20000) (loose := loose) (d := dL) (kwd := []) ob_eq h_open h_fence run h_def h_the h_kw (by rfl) h_said h_ok h_bare h_prom h_walk
end M
open PySem PySem.W PySem.Calls PyProof.Rows
theorem PySem.Challenge.cw_loopgrowth_k00_errors_holds : PySem.Challenge.rw_loopgrowth_k00_errors.Holds := by
  w_on; o_law
  exact M.h_holds
#print axioms PySem.Challenge.cw_loopgrowth_k00_errors_holds
