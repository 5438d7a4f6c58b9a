import PyProof.Rows.All
import Wide.All
import OpenK.AllK
import Wide.FinOn
import HandS.ForMost
import HandS.Defaults
import HandS.Codes
import HandS.More
import HandS.Star
import HandS.IterVal
import HandS.IsInst
import HandS.Wide
import HandS.TupAny
import KE.KExcInit
import HandS.ExcValue
import HandS.ExcInit
import HandS.ExcIs
import HandS.ExcField
import HandS.Ends
import HandS.HeadEnd
import HandS.RaiseMore
import HandS.Steps
import HandS.Text
import HandS.Iter
import HandS.Zip
import PyProof.ReprRoads
import PyProof.ReprLen
import HandS.TupLe
import KE.KUnpackStar
import PyProof.Rows.MatchSeqLen
import PyProof.RulesMatchSeq
import HandS.Lambda
import HandS.TryMany
import HandS.ExcOwn
import HandS.EndTab
import HandS.HeadHook1
import KE.KStateDown
import HandS.Head0
import HandS.Head1
import HandS.Head2
import HandS.HeadHook2
import HandS.HeadNt
import PySem.Challenge.RW_loopgrowth_k53_orders_of_growths
set_option Elab.async false
set_option linter.all false
set_option maxRecDepth 100000
set_option maxHeartbeats 4000000
/-! Rd: readings of the hand layer answered from the head, one lemma a reading. -/
namespace Rd
open PySem L2
/-! ### named readings of built-in calls -/
def rInt1 : List V → Hp → VK → Prop := fun xs H Q => (∃ i, xs = [.int i] ∧ Q (.int i) H) ∨ ∃ k, xs = [.bl k] ∧ Q (.int (if k then 1 else 0)) H
def rAbs : List V → Hp → VK → Prop := fun xs H Q => ∃ i, xs = [.int i] ∧ Q (.int (if i < 0 then -i else i)) H
def rMax2 : List V → Hp → VK → Prop := fun xs H Q => ∃ i j, xs = [.int i, .int j] ∧ Q (.int (if j > i then j else i)) H
def rMin2 : List V → Hp → VK → Prop := fun xs H Q => ∃ i j, xs = [.int i, .int j] ∧ Q (.int (if j < i then j else i)) H
def rLen (K : PySem.W.Frag) : List V → Hp → VK → Prop := fun xs H Q => ∃ x n, xs = [x] ∧ LenV K x H n ∧ Q (.int n) H
section
variable {X : Cx}
theorem c_int : CallR X (.type "int") rInt1 := call_int1
theorem c_abs : CallR X (.builtin "abs") rAbs := call_abs
theorem c_max2 (hc : X.calm = true) : CallR X (.builtin "max") rMax2 := call_max2 hc
theorem c_min2 (hc : X.calm = true) : CallR X (.builtin "min") rMin2 := call_min2 hc
theorem c_len : CallR X (.builtin "len") (rLen X.K) := call_len
/-- ** of great ints -/
theorem op_powW : OpR X (binaryOp .Pow) (rI (fun i j => 0 ≤ j ∧ (Builtin.Int.intBits i : Int) * j ≤ 2 ^ 27) fun i j => .int (i ^ j.toNat)) :=
  opI fun _ _ _ _ _ _ _ hc q => PyProof.Rows.pow_int hc.1 hc.2 q
end
theorem cxK {CX : CXT} {P : Program} {w : World} {K : PySem.W.Frag} {mg : Str → Option Value} {base : Heap} {N : List Str} {qual : Str} {scope : Scope} {f : Addr} {cd : Value} {A : Around} {outer : List Env} {s : Shared} {H : Hp} {E : XK} :
  (cxOf CX P w K mg base N qual scope f cd A outer s H E).K = K := rfl
theorem noxK {X : Cx} : X.nox.K = X.K := rfl
/-! ### expressions, from the head -/
section
variable {K : PySem.W.Frag} {σ : L2.St} {H : Hp} {Q : VK} {QB : Bool → Hp → Prop} {QA : List V → Hp → Prop} {i : Nat} {v x y : V} {ta tb tc te : TE} {r : R2} {t u tA tB' : TT} {tr : TA} {D : Ends} {s1 s2 : TS} {g : TG}
theorem rd_var (h : σ[i]? = some (some v)) (q : Q v H) : tVar i σ H Q := ⟨v, h, q⟩
theorem rd_c (q : Q v H) : tC v σ H Q := q
theorem rd_op (q : ta σ H fun x H1 => tb σ H1 fun y H2 => r x y H2 Q) : tOp r ta tb σ H Q := q
theorem rd_un {r : V → Hp → VK → Prop} (q : ta σ H fun x H1 => r x H1 Q) : tUn r ta σ H Q := q
theorem rd_I0 {g : Int → Int → V} {a b : Int} (q : Q (g a b) H) : rI0 g (.int a) (.int b) H Q := ⟨a, b, rfl, rfl, q⟩
theorem rd_I {C : Int → Int → Prop} {g : Int → Int → V} {a b : Int} (c : C a b) (q : Q (g a b) H) : rI C g (.int a) (.int b) H Q := ⟨a, b, rfl, rfl, c, q⟩
theorem rd_U {g : Int → V} {a : Int} (q : Q (g a) H) : rU g (.int a) H Q := ⟨a, rfl, q⟩
theorem rd_eq (h : scal x y = true) (q : Q (.bl (decide (x = y))) H) : rEq x y H Q := ⟨h, q⟩
theorem rd_ne (h : scal x y = true) (q : Q (.bl (!decide (x = y))) H) : rNe x y H Q := ⟨h, q⟩
theorem rd_ixL {p : Addr} {xs : List V} {j : Int} (h : SqL K H p xs) (ha : atI xs j = some v) (q : Q v H) : rIxL K (.ref p) (.int j) H Q := ⟨p, xs, j, v, rfl, rfl, h, ha, q⟩
theorem rd_ixT {p : Addr} {xs : List V} {j : Int} (h : SqT K H p xs) (ha : atI xs j = some v) (q : Q v H) : rIxT K (.ref p) (.int j) H Q := ⟨p, xs, j, v, rfl, rfl, h, ha, q⟩
theorem at0 {α : Type} {v0 : α} {r : List α} : atI (v0 :: r) 0 = some v0 := atI_nat (j := 0) rfl
theorem at1 {α : Type} {v0 v1 : α} {r : List α} : atI (v0 :: v1 :: r) 1 = some v1 := atI_nat (j := 1) rfl
theorem at2 {α : Type} {v0 v1 v2 : α} {r : List α} : atI (v0 :: v1 :: v2 :: r) 2 = some v2 := atI_nat (j := 2) rfl
theorem at3 {α : Type} {v0 v1 v2 v3 : α} {r : List α} : atI (v0 :: v1 :: v2 :: v3 :: r) 3 = some v3 := atI_nat (j := 3) rfl
theorem at4 {α : Type} {v0 v1 v2 v3 v4 : α} {r : List α} : atI (v0 :: v1 :: v2 :: v3 :: v4 :: r) 4 = some v4 := atI_nat (j := 4) rfl
theorem ixN_nat {n j : Nat} (h : j < n) : ixN n (j : Int) = some j := by
  unfold ixN
  rw [if_pos (by omega), if_pos (by omega)]; simp
theorem rd_sub {to ti : TE} {t : TSet} {QS : L2.St → Hp → Prop} (q : to σ H fun o H1 => ti σ H1 fun i H2 => t o i v H2 fun H3 => QS σ H3) : gSub to ti t v σ H QS := q
theorem rd_setL {p : Addr} {xs : List V} {k : Nat} {QH : Hp → Prop} (h : H p = some (.lst xs)) (hk : k < xs.length) (q : QH (upd H p (.lst (xs.set k v)))) : rSetL (.ref p) (.int (k : Nat)) v H QH := ⟨p, xs, k, k, rfl, rfl, h, ixN_nat hk, q⟩
theorem rd_cb {r : List V → Hp → VK → Prop} (q : tr σ H fun vs H1 => r vs H1 Q) : tCB r tr σ H Q := q
theorem rd_nil (q : QA [] H) : tNil σ H QA := q
theorem rd_cons (q : ta σ H fun x H1 => tr σ H1 fun xs H2 => QA (x :: xs) H2) : tCons ta tr σ H QA := q
theorem rd_int {a : Int} (q : Q (.int a) H) : rInt1 [.int a] H Q := .inl ⟨a, rfl, q⟩
theorem rd_intB {b : Bool} (q : Q (.int (if b then 1 else 0)) H) : rInt1 [.bl b] H Q := .inr ⟨b, rfl, q⟩
theorem rd_abs {a : Int} (q : Q (.int (if a < 0 then -a else a)) H) : rAbs [.int a] H Q := ⟨a, rfl, q⟩
theorem rd_max2 {a b : Int} (q : Q (.int (if b > a then b else a)) H) : rMax2 [.int a, .int b] H Q := ⟨a, b, rfl, q⟩
theorem rd_min2 {a b : Int} (q : Q (.int (if b < a then b else a)) H) : rMin2 [.int a, .int b] H Q := ⟨a, b, rfl, q⟩
theorem rd_lenL {p : Addr} {xs : List V} (h : SqL K H p xs) (q : Q (.int (xs.length : Nat)) H) : rLen K [.ref p] H Q := ⟨_, _, rfl, .inl ⟨xs, h, rfl⟩, q⟩
theorem rd_lenT {p : Addr} {xs : List V} (h : SqT K H p xs) (q : Q (.int (xs.length : Nat)) H) : rLen K [.ref p] H Q := ⟨_, _, rfl, .inr ⟨xs, h, rfl⟩, q⟩
theorem rd_call {sp : Sp} {dvs : List V} {E : XK} (q : tr σ H fun vs H1 => sp (vs ++ dvs) H1 Q E) : tCall sp dvs E tr σ H Q := q
theorem rd_ifE (q : t σ H fun c H1 => if c = true then ta σ H1 Q else tb σ H1 Q) : tIf t ta tb σ H Q := q
/-! tests -/
theorem rd_test (q : te σ H fun x H' => ∃ k, x = .bl k ∧ QB k H') : tTest te σ H QB := q
theorem rd_tB (q : te σ H fun x H' => ∃ k, x = .bl k ∧ QB k H') : tB te σ H QB := q
theorem rd_bl {b : Bool} (q : QB b H) : ∃ k, V.bl b = .bl k ∧ QB k H := ⟨b, rfl, q⟩
theorem rd_blV {b : Bool} {P : Bool → Prop} (q : P b) : ∃ k, V.bl b = .bl k ∧ P k := ⟨b, rfl, q⟩
theorem rd_and (q : t σ H fun c H1 => if c = true then u σ H1 QB else QB false H1) : tAnd t u σ H QB := q
theorem rd_or (q : t σ H fun c H1 => if c = true then QB true H1 else u σ H1 QB) : tOr t u σ H QB := q
theorem rd_not (q : t σ H fun c H1 => QB (!c) H1) : tNot t σ H QB := q
theorem rd_andV (q : ta σ H fun x H1 => ∃ c, x = .bl c ∧ if c = true then tb σ H1 Q else Q (.bl false) H1) : tAndV ta tb σ H Q := q
theorem rd_orV (q : ta σ H fun x H1 => ∃ c, x = .bl c ∧ if c = true then Q (.bl true) H1 else tb σ H1 Q) : tOrV ta tb σ H Q := q
theorem rd_notV (q : ta σ H fun x H1 => ∃ c, x = .bl c ∧ Q (.bl (!c)) H1) : tNotV ta σ H Q := q
/-! statements -/
theorem rd_seq (q : s1 { nx := s2 D, rt := D.rt, bk := D.bk, ct := D.ct } σ H) : tSeq s1 s2 D σ H := q
theorem rd_asg (q : te σ H fun x H1 => g x σ H1 D.nx) : tAsg te g D σ H := q
theorem rd_name0 {QS : L2.St → Hp → Prop} {z : Option V} (q : QS (some v :: σ) H) : gName 0 v (z :: σ) H QS := q
theorem rd_nameS {QS : L2.St → Hp → Prop} {z : Option V} (q : gName i v σ H fun σ' H' => QS (z :: σ') H') : gName (i + 1) v (z :: σ) H QS := q
theorem rd_next (q : D.nx σ H) : tNext D σ H := q
theorem rd_ret (q : te σ H D.rt) : tRet te D σ H := q
theorem rd_drop (q : te σ H fun _ H1 => D.nx σ H1) : tDrop te D σ H := q
theorem rd_ifS (q : t σ H fun b H1 => if b = true then s1 D σ H1 else s2 D σ H1) : tIfS t s1 s2 D σ H := q
end
/-! ### promises -/
theorem rd_start' {g : TG} {x : V} {QS : L2.St → Hp → Prop} {σ : L2.St} {H : Hp} (σ' : L2.St) (e : σ = σ') (h : g x σ' H QS) : g x σ H QS := by subst e; exact h
theorem rd_start {t : TS} {D : Ends} {σ : L2.St} {H : Hp} (σ' : L2.St) (e : σ = σ') (h : t D σ' H) : t D σ H := by subst e; exact h
/-- a promise by its arguments: a stands for what the arguments tell -/
def mkSp {α : Type} (args : α → List V) (pre : α → Hp → VK → XK → Prop) : Sp := fun vs H Q E => ∃ a : α, vs = args a ∧ pre a H Q E
theorem rd_sp {α : Type} {args : α → List V} {pre : α → Hp → VK → XK → Prop} {vs : List V} {H : Hp} {Q : VK} {E : XK} (a : α) (e : vs = args a) (h : pre a H Q E) : mkSp args pre vs H Q E := ⟨a, e, h⟩
/-- room for k calls; if gd is told, no repr is under way -/
structure RoomG (gd : Bool) (k : Nat) (A : Around) : Prop extends Room k A where
  gs : gd = true → A.guards = some []
theorem RoomG.mono {gd : Bool} {j k : Nat} {A : Around} (r : RoomG gd k A) (h : j ≤ k) : RoomG gd j A := ⟨r.toRoom.mono h, r.gs⟩
theorem RoomG.gd {k : Nat} {A : Around} (r : RoomG true k A) : A.guards = some [] := r.gs rfl
theorem RoomG.any {k : Nat} {A : Around} (r : Room k A) : RoomG false k A := ⟨r, fun e => nomatch e⟩
theorem RoomG.deeper {gd : Bool} {k : Nat} {A : Around} (r : RoomG gd (k + 1) A) (env : Env) : RoomG gd k (A.deeper env) := ⟨r.toRoom.deeper env, r.gs⟩
theorem RoomG.make {gd : Bool} {k : Nat} {A : Around} (r : RoomG gd (k + 1) A) (C : Addr) (us : List Value) (kw : List (Str × Value)) : RoomG gd k (A.under (.builtin "type.__call__" ⟨.ref C :: us, kw⟩)) := by
  refine ⟨r.toRoom.make C us kw, fun q => ?_⟩
  have e := r.gs q
  simpa [Around.under, Code.guards, Code.isGuard, guardIds, pushGuards] using e
/-- a promise by positional values -/
def FnG (gd : Bool) (P : Program) (w : World) (K : PySem.W.Frag) (mg : Str → Option Value) (base : Heap) (CX : CXT) (k : Nat) (f : Addr) (sp : Sp) : Prop :=
  ∀ (A : Around) (outer : List Env) (s : Shared) (H : Hp) (us : List Value) (vs : List V) (Q : VK) (E : XK), RoomG gd k A → Env0 P w K mg base A outer s H → Vals vs us → sp vs H Q E →
    codeAny (model P w) A (.call (.ref f) ⟨us, []⟩) (CR CX outer P w H s Q E) s
/-- the def st at f -/
def HasAt (K : PySem.W.Frag) (f : Addr) (x qual : Str) (st : Stmt) : Prop := ∃ fd, FunD K x qual (defArgs st) (defBody st) (defScope st) [] [] f fd
/-- the module's def x, at any place -/
def Has (K : PySem.W.Frag) (mg : Str → Option Value) (x : Str) (st : Stmt) : Prop := ∃ f, HasAt K f x x st ∧ mg x = some (.ref f) ∧ PySem.W.keepIn K (.ref f) = true
/-- a def's promise, by the module's name x -/
def Fn (gd : Bool) (P : Program) (w : World) (K : PySem.W.Frag) (mg : Str → Option Value) (base : Heap) (CX : CXT) (k : Nat) (x : Str) (sp : Sp) : Prop :=
  ∃ f, FnG gd P w K mg base CX k f sp ∧ mg x = some (.ref f) ∧ PySem.W.keepIn K (.ref f) = true
section
variable {gd : Bool} {P : Program} {w : World} {K : PySem.W.Frag} {mg : Str → Option Value} {base : Heap} {CX : CXT} {k : Nat} {f : Addr} {x qual : Str} {st : Stmt} {N ps : List Str} {sp : Sp}
theorem FnG.mono {j : Nat} (F : FnG gd P w K mg base CX j f sp) (h : j ≤ k) : FnG gd P w K mg base CX k f sp := fun A outer s H us vs Q E hr => F A outer s H us vs Q E (hr.mono h)
theorem FnG.imp {sp' : Sp} (F : FnG gd P w K mg base CX k f sp) (h : ∀ vs H Q E, sp' vs H Q E → sp vs H Q E) : FnG gd P w K mg base CX k f sp' := fun A outer s H us vs Q E hr e0 r hs => F A outer s H us vs Q E hr e0 r (h _ _ _ _ hs)
/-- a def that is called by position and without defaults -/
theorem HasAt.fnX {α : Type} {args : α → List V} {pre : α → Hp → VK → XK → Prop} (h : HasAt K f x qual st) (S : FnScope N ps (defScope st)) (hl : ∀ a, (args a).length = ps.length)
    (hb : ∀ (kV doc pm : Value) (an : Option Addr) (cdv ct : Value) (us : List Value), us.length = ps.length → bindArgs (PySem.W.fnOf x qual (defArgs st) (defBody st) (defScope st) .none kV doc pm an cdv ct) ⟨us, []⟩ = pure (ps.zip us))
    (body : ∀ (cdv : Value) (A : Around) (outer : List Env) (s : Shared) (H : Hp) (Q : VK) (E : XK) (a : α), RoomG gd k (A.deeper (PyProof.Rows.envOfC qual (defScope st) s.heap.objs.size f cdv)) → pre a H Q E →
      ∃ t, PSs (cxOf CX P w K mg base N qual (defScope st) f cdv A outer s H E) (defBody st) t ∧ t { nx := fun _ H' => Q .non H', rt := Q } (start N (args a)) H) :
    FnG gd P w K mg base CX (k + 1) f (mkSp args pre) := by
  obtain ⟨fd, F⟩ := h
  obtain ⟨oc, od, dV, kV, doc, pm, an, cdv, ct, osl, e, lk, hcd, hD, hK⟩ := F.ex
  subst e
  rcases hD with ⟨_, e⟩ | ⟨e, _⟩
  · subst e
    intro A outer s H us vs Q E hr e0 r hsp
    obtain ⟨a, rfl, ha⟩ := hsp
    have hu : us.length = ps.length := by rw [← Vals.length r]; exact hl a
    refine StX.run_bnd lk hcd S hr.toRoom e0 (G := fun xs H2 => xs = args a ∧ H2 = H) (fun A' Ex Q' hq => ?_) fun s2 H2 xs hx hr' => ?_
    · rw [hb kV doc pm an cdv ct us hu]
      exact PySem.wpAny_pure (hq s H _ us e0 Un.refl rfl (fun _ _ z => z) r (hl a) ⟨rfl, rfl⟩)
    · obtain ⟨rfl, rfl⟩ := hx
      exact body cdv A outer s2 H2 Q E a ⟨hr', hr.gs⟩ ha
  · exact absurd rfl e
/-- .. which lets nothing out -/
theorem HasAt.fn {α : Type} {args : α → List V} {pre : α → Hp → VK → XK → Prop} (h : HasAt K f x qual st) (S : FnScope N ps (defScope st)) (hl : ∀ a, (args a).length = ps.length)
    (hb : ∀ (kV doc pm : Value) (an : Option Addr) (cdv ct : Value) (us : List Value), us.length = ps.length → bindArgs (PySem.W.fnOf x qual (defArgs st) (defBody st) (defScope st) .none kV doc pm an cdv ct) ⟨us, []⟩ = pure (ps.zip us))
    (body : ∀ (cdv : Value) (A : Around) (outer : List Env) (s : Shared) (H : Hp) (Q : VK) (E : XK) (a : α), RoomG gd k (A.deeper (PyProof.Rows.envOfC qual (defScope st) s.heap.objs.size f cdv)) → pre a H Q E →
      ∃ t, PSs (cxOf CX0 P w K mg base N qual (defScope st) f cdv A outer s H E).nox (defBody st) t ∧ t { nx := fun _ H' => Q .non H', rt := Q } (start N (args a)) H) :
    FnG gd P w K mg base CX0 (k + 1) f (mkSp args pre) := by
  refine HasAt.fnX h S hl hb fun cdv A outer s H Q E a hr ha => ?_
  obtain ⟨t, h1, h2⟩ := body cdv A outer s H Q E a hr ha
  exact ⟨t, h1.nox, h2⟩
theorem Has.fnX {α : Type} {args : α → List V} {pre : α → Hp → VK → XK → Prop} (h : Has K mg x st) (S : FnScope N ps (defScope st)) (hl : ∀ a, (args a).length = ps.length)
    (hb : ∀ (kV doc pm : Value) (an : Option Addr) (cdv ct : Value) (us : List Value), us.length = ps.length → bindArgs (PySem.W.fnOf x x (defArgs st) (defBody st) (defScope st) .none kV doc pm an cdv ct) ⟨us, []⟩ = pure (ps.zip us))
    (body : ∀ (f : Addr) (cdv : Value) (A : Around) (outer : List Env) (s : Shared) (H : Hp) (Q : VK) (E : XK) (a : α), RoomG gd k (A.deeper (PyProof.Rows.envOfC x (defScope st) s.heap.objs.size f cdv)) → pre a H Q E →
      ∃ t, PSs (cxOf CX P w K mg base N x (defScope st) f cdv A outer s H E) (defBody st) t ∧ t { nx := fun _ H' => Q .non H', rt := Q } (start N (args a)) H) :
    Fn gd P w K mg base CX (k + 1) x (mkSp args pre) := by
  obtain ⟨f, F, hm, hk⟩ := h
  exact ⟨f, F.fnX S hl hb (body f), hm, hk⟩
theorem Has.fn {α : Type} {args : α → List V} {pre : α → Hp → VK → XK → Prop} (h : Has K mg x st) (S : FnScope N ps (defScope st)) (hl : ∀ a, (args a).length = ps.length)
    (hb : ∀ (kV doc pm : Value) (an : Option Addr) (cdv ct : Value) (us : List Value), us.length = ps.length → bindArgs (PySem.W.fnOf x x (defArgs st) (defBody st) (defScope st) .none kV doc pm an cdv ct) ⟨us, []⟩ = pure (ps.zip us))
    (body : ∀ (f : Addr) (cdv : Value) (A : Around) (outer : List Env) (s : Shared) (H : Hp) (Q : VK) (E : XK) (a : α), RoomG gd k (A.deeper (PyProof.Rows.envOfC x (defScope st) s.heap.objs.size f cdv)) → pre a H Q E →
      ∃ t, PSs (cxOf CX0 P w K mg base N x (defScope st) f cdv A outer s H E).nox (defBody st) t ∧ t { nx := fun _ H' => Q .non H', rt := Q } (start N (args a)) H) :
    Fn gd P w K mg base CX0 (k + 1) x (mkSp args pre) := by
  obtain ⟨f, F, hm, hk⟩ := h
  exact ⟨f, F.fn S hl hb (body f), hm, hk⟩
end
section
variable {gd : Bool} {X : Cx} {CX : CXT} {k : Nat} {x : Str} {sp : Sp} {E : XK} {p pos : Pos} {e : Expr} {es : List Expr} {t : TA}
/-- the callee runs -/
theorem run_fnG {pins : List (Addr × Obj)} {σ : L2.St} {H : Hp} {s : Shared} {f : Addr} {Q : VK} {us : List Value} {vs : List V} (F : FnG gd X.prog X.w X.K X.mg X.base CX k f sp) (hr : RoomG gd k X.A) (hx : Passes CX X E) (I : Inv X pins σ H s) (r : Vals vs us) (h : sp vs H Q E) :
    codeAny (model X.prog X.w) X.A (.call (.ref f) ⟨us, []⟩) (fun r s' => match r with | .ok (.ret v) => EP X pins σ Q v s' | .ok _ => False | .error e => X.xe e s') s := by
  refine codeAny_mono (F X.A X.stack s H us vs Q E hr I.env0 r h) fun r s' hq => ?_
  match r, hq with
  | .error e, hq => exact hx pins σ H s e s' I hq
  | .ok (.ret u), hq => exact I.after hq
  | .ok .next, hq => exact False.elim hq
  | .ok .brk, hq => exact False.elim hq
  | .ok .cont, hq => exact False.elim hq
/-- f(..) by position -/
def tFn (sp : Sp) (E : XK) (t : TA) : TE := fun σ H Q => t σ H fun vs H1 => sp vs H1 Q E
theorem pe_fnX (h : Fn gd X.prog X.w X.K X.mg X.base CX k x sp) (hr : RoomG gd k X.A) (hg : Gl X x) (hx : Passes CX X E) (ha : PA X (e :: es) t) (hdb : (x == ("__debug__" : Str)) = false := by decide) (he : starEach (e :: es) X.env = (false, eval e X.env) :: starEach es X.env := by rfl)
    (hpl : (backTo pos (starEach es X.env)).any (·.1) = false := by rfl) : PE X (.Call (.Name x p) (e :: es) [] pos) (tFn sp E t) := by
  obtain ⟨f, F, hm, hk⟩ := h
  refine ⟨fun pins s σ H Q I h => ?_⟩
  refine wpAny_Call_Name_kw (ld_glob I hg hm ?_ hdb)
  refine PySem.W.callWith_K (h₀ := X.base) I.ok.mod.kin hk (thn (ha.run pos pins s σ H _ I h) fun us s1 ⟨vs, H1, I1, r, q⟩ => ⟨I1.kIn, ?_⟩) he hpl
  exact wpAny_call (run_fnG F hr hx I1 r q)
theorem pe_fnX0 (h : Fn gd X.prog X.w X.K X.mg X.base CX k x sp) (hr : RoomG gd k X.A) (hg : Gl X x) (hx : Passes CX X E) (hdb : (x == ("__debug__" : Str)) = false := by decide) : PE X (.Call (.Name x p) [] [] pos) (tFn sp E tNil) := by
  obtain ⟨f, F, hm, hk⟩ := h
  refine ⟨fun pins s σ H Q I h => ?_⟩
  refine wpAny_Call_Name_kw (ld_glob I hg hm ?_ hdb)
  exact PySem.W.callWith_K0 I.kIn hk (wpAny_call (run_fnG (us := []) F hr hx I .nil h))
theorem pe_fn (h : Fn gd X.prog X.w X.K X.mg X.base CX0 k x sp) (hr : RoomG gd k X.A) (hg : Gl X x) (ha : PA X (e :: es) t) (hdb : (x == ("__debug__" : Str)) = false := by decide) (he : starEach (e :: es) X.env = (false, eval e X.env) :: starEach es X.env := by rfl)
    (hpl : (backTo pos (starEach es X.env)).any (·.1) = false := by rfl) : PE X (.Call (.Name x p) (e :: es) [] pos) (tFn sp E0 t) := pe_fnX h hr hg pass0 ha hdb he hpl
theorem pe_fn0 (h : Fn gd X.prog X.w X.K X.mg X.base CX0 k x sp) (hr : RoomG gd k X.A) (hg : Gl X x) (hdb : (x == ("__debug__" : Str)) = false := by decide) : PE X (.Call (.Name x p) [] [] pos) (tFn sp E0 tNil) := pe_fnX0 h hr hg pass0 hdb
theorem rd_fn {σ : L2.St} {H : Hp} {Q : VK} (q : t σ H fun vs H1 => sp vs H1 Q E) : tFn sp E t σ H Q := q
end
/-! ### heaps -/
theorem same_new {H : Hp} {p : Addr} {o : HO} (h : H p = none) : Same H (upd H p o) := fun b u e => by
  rw [upd_ne (ne_of_none e h)]
  exact e
/-- a new object, told by what it is -/
theorem new_of {H : Hp} {o : HO} {Q : V → Hp → Prop} (h : ∀ p H', H p = none → Same H H' → H' p = some o → Q (.ref p) H') : ∀ p, H p = none → Q (.ref p) (upd H p o) := fun p hp => h p _ hp (same_new hp) upd_same
theorem rd_new {n : Nat} {H : Hp} {o : HO} {Q : V → Hp → Prop} (hn : n ≤ sizeLine) (h : ∀ p H', H p = none → Same H H' → H' p = some o → Q (.ref p) H') : n ≤ sizeLine ∧ ∀ p, H p = none → Q (.ref p) (upd H p o) := ⟨hn, new_of h⟩
theorem Same.at {H H' : Hp} (e : Same H H') {b : Addr} {o : HO} (h : H b = some o) : H' b = some o := e b o h
theorem Same.sqT {K : PySem.W.Frag} {H H' : Hp} {a : Addr} {xs : List V} (e : Same H H') (h : SqT K H a xs) : SqT K H' a xs := by
  rcases h with (h | ⟨o, h⟩) | h
  · exact .inl (.inl (e _ _ h))
  · exact .inl (.inr ⟨o, e _ _ h⟩)
  · exact .inr h
/-- a list that is not at p stays -/
theorem sq_upd {K : PySem.W.Frag} {H : Hp} {a p : Addr} {xs : List V} {o : HO} (hne : a ≠ p) (h : SqL K H a xs) : SqL K (upd H p o) a xs := by
  rcases h with (h | ⟨o', h⟩) | h
  · exact .inl (.inl (by rw [upd_ne hne]; exact h))
  · exact .inl (.inr ⟨o', by rw [upd_ne hne]; exact h⟩)
  · exact .inr h
theorem small64 {n : Nat} (h : n ≤ 100000) : n ≤ sizeLine := Nat.le_trans h (by decide)
/-! ### displays: a new tuple, a new list -/
def rMkTup : List V → Hp → VK → Prop := fun xs H Q => xs.length ≤ sizeLine ∧ ∀ p, H p = none → Q (.ref p) (upd H p (.tup xs))
def rMkLst : List V → Hp → VK → Prop := fun xs H Q => xs.length ≤ sizeLine ∧ ∀ p, H p = none → Q (.ref p) (upd H p (.lst xs))
section
variable {X : Cx} {es : List Expr} {t : TA} {k : Nat} {pos : Pos} {H : Hp} {Q : VK} {xs : List V}
theorem pe_tup (h : PA X es t) : PE X (.Tuple es k pos) (tCB rMkTup t) := L2.pe_tup h
theorem pe_lst (h : PA X es t) : PE X (.List es pos) (tCB rMkLst t) := L2.pe_lst h
theorem rd_mkTup (hn : xs.length ≤ sizeLine) (q : ∀ p H', H p = none → Same H H' → H' p = some (.tup xs) → Q (.ref p) H') : rMkTup xs H Q := ⟨hn, fun p hp => q p _ hp (same_new hp) upd_same⟩
theorem rd_mkLst (hn : xs.length ≤ sizeLine) (q : ∀ p H', H p = none → Same H H' → H' p = some (.lst xs) → Q (.ref p) H') : rMkLst xs H Q := ⟨hn, fun p hp => q p _ hp (same_new hp) upd_same⟩
end
/-! ### isinstance -/
/-- isinstance(v, n) for a built-in class n -/
def Isi (K : PySem.W.Frag) (H : Hp) (v : V) (n : String) (b : Bool) : Prop := ∃ t, TyX K H v t ∧ PySem.W.kitOne K t (.type n) = some b
section
variable {K : PySem.W.Frag} {H : Hp} {Q : VK} {v : V} {n : String} {b : Bool} {a : Addr} {xs : List V}
theorem rd_isi (h : Isi K H v n b) (q : Q (.bl b) H) : rIsi K [v, .ty n] H Q := by
  obtain ⟨t, h1, h2⟩ := h
  exact ⟨v, .ty n, t, .type n, b, rfl, .ty n, h1, h2, q⟩
theorem ty_tup (h : SqT K H a xs) : TyX K H (.ref a) (.type "tuple") := by
  rcases h with (h | ⟨o, h⟩) | ⟨o, its, n, h1, h2, _⟩
  · exact .base (.tup h)
  · exact .fTuple h
  · exact .kTuple h1 h2
theorem ty_lst (h : SqL K H a xs) : TyX K H (.ref a) (.type "list") := by
  rcases h with (h | ⟨o, h⟩) | ⟨o, its, n, h1, h2, _⟩
  · exact .base (.lst h)
  · exact .base (.frz h)
  · exact .kList h1 h2
theorem isi_of {t : String} (h : TyX K H v (.type t)) (hk : kitB t n = some b) : Isi K H v n b := ⟨_, h, kit_ty hk⟩
theorem isi_int {i : Int} (hk : kitB "int" n = some b) : Isi K H (.int i) n b := isi_of (.base (.int i)) hk
theorem isi_bl {i : Bool} (hk : kitB "bool" n = some b) : Isi K H (.bl i) n b := isi_of (.base (.bl i)) hk
theorem isi_str {x : Str} (hk : kitB "str" n = some b) : Isi K H (.str x) n b := isi_of (.base (.str x)) hk
theorem isi_non (hk : kitB "NoneType" n = some b) : Isi K H .non n b := isi_of (.base .non) hk
theorem isi_tup (h : SqT K H a xs) (hk : kitB "tuple" n = some b) : Isi K H (.ref a) n b := isi_of (ty_tup h) hk
theorem isi_lst (h : SqL K H a xs) (hk : kitB "list" n = some b) : Isi K H (.ref a) n b := isi_of (ty_lst h) hk
theorem isi_dK {kvs : List (Key × V)} (h : H a = some (.dK kvs)) (hk : kitB "dict" n = some b) : Isi K H (.ref a) n b := isi_of (.base (.dK h)) hk
theorem kk_int_int : kitB "int" "int" = some true := by decide +kernel
theorem kk_int_bool : kitB "int" "bool" = some false := by decide +kernel
theorem kk_bool_int : kitB "bool" "int" = some true := by decide +kernel
theorem kk_bool_bool : kitB "bool" "bool" = some true := by decide +kernel
theorem kk_str_int : kitB "str" "int" = some false := by decide +kernel
theorem kk_none_int : kitB "NoneType" "int" = some false := by decide +kernel
theorem kk_tup_int : kitB "tuple" "int" = some false := by decide +kernel
theorem kk_lst_int : kitB "list" "int" = some false := by decide +kernel
theorem kk_dict_int : kitB "dict" "int" = some false := by decide +kernel
theorem kk_tup_tup : kitB "tuple" "tuple" = some true := by decide +kernel
theorem c_isi {X : Cx} : CallR X (.builtin "isinstance") (rIsi X.K) := call_isi
theorem c_all {X : Cx} (hc : X.calm = true) : CallR X (.builtin "all") (rAll X.K) := cr_all hc
theorem rd_all {bs : List Bool} (h : SqL K H a (bs.map V.bl)) (q : Q (.bl (bs.all id)) H) : rAll K [.ref a] H Q := ⟨a, bs, rfl, h, q⟩
end
/-! ### loops and comprehensions over what stays -/
section
variable {K : PySem.W.Frag} {σ : L2.St} {H : Hp} {Q : VK} {g : TG} {te tl : TE} {tt : TT} {ta : TA} {vs : List Nat} {a : Addr} {xs : List V} {D : Ends} {tb : TS} {wi : TI}
/-- what is walked: value by value -/
def rIT (K : PySem.W.Frag) (x : V) (H : Hp) (R : It → Hp → Prop) : Prop := ∃ a, x = .ref a ∧ (∃ xs, SqT K H a xs) ∧ R (Itt K a) H
def rIL (K : PySem.W.Frag) (x : V) (H : Hp) (R : It → Hp → Prop) : Prop := ∃ a, x = .ref a ∧ (∃ xs, SqL K H a xs) ∧ R (Itl K a) H
def rIR1 (vs : List V) (H : Hp) (R : It → Hp → Prop) : Prop := ∃ j : Int, vs = [.int j] ∧ -(2 ^ 62) ≤ j ∧ j < 2 ^ 62 ∧ R (Itr 0 j.toNat) H
def rIR2 (vs : List V) (H : Hp) (R : It → Hp → Prop) : Prop := ∃ i j : Int, vs = [.int i, .int j] ∧ (-(2 ^ 62) ≤ i ∧ i < 2 ^ 62 ∧ -(2 ^ 62) ≤ j ∧ j < 2 ^ 62) ∧ R (Itr i (j - i).toNat) H
theorem rd_iTup {R : It → Hp → Prop} (q : tl σ H fun x H1 => rIT K x H1 R) : iTup K tl σ H R := q
theorem rd_iList {R : It → Hp → Prop} (q : tl σ H fun x H1 => rIL K x H1 R) : iList K tl σ H R := q
theorem rd_iRng1 {R : It → Hp → Prop} (q : ta σ H fun vs H1 => rIR1 vs H1 R) : iRng1 ta σ H R := q
theorem rd_iRng2 {R : It → Hp → Prop} (q : ta σ H fun vs H1 => rIR2 vs H1 R) : iRng2 ta σ H R := q
theorem rd_IT {R : It → Hp → Prop} (h : SqT K H a xs) (q : R (Itt K a) H) : rIT K (.ref a) H R := ⟨a, rfl, ⟨xs, h⟩, q⟩
theorem rd_IL {R : It → Hp → Prop} (h : SqL K H a xs) (q : R (Itl K a) H) : rIL K (.ref a) H R := ⟨a, rfl, ⟨xs, h⟩, q⟩
theorem rd_IR1 {R : It → Hp → Prop} {j : Int} (h0 : -(2 ^ 62) ≤ j) (h1 : j < 2 ^ 62) (q : R (Itr 0 j.toNat) H) : rIR1 [.int j] H R := ⟨j, rfl, h0, h1, q⟩
theorem rd_IR2 {R : It → Hp → Prop} {i j : Int} (h : -(2 ^ 62) ≤ i ∧ i < 2 ^ 62 ∧ -(2 ^ 62) ≤ j ∧ j < 2 ^ 62) (q : R (Itr i (j - i).toNat) H) : rIR2 [.int i, .int j] H R := ⟨i, j, rfl, h, q⟩
/-- a comprehension's, a loop's turns over J -/
def rLc (g : TG) (tt : TT) (te : TE) (vs : List Nat) (σ : L2.St) (Q : VK) (J : It) (H : Hp) : Prop := ∀ D, H D = none → ∃ W : Nat → Nat → Hp → Prop, (∃ m, W 0 m (upd H D (.lst []))) ∧ ∀ i m H, W i m H →
  (J.stop i H ∧ Q (.ref D) H) ∨ (J.go i H ∧ ∃ Nx : Hp → Prop, (∀ H', Nx H' → ∃ m', m' < m ∧ W (i + 1) m' H') ∧ ∀ x H', J.yld i H x H' → g x (wipe σ vs) H' fun σ2 H2 => wipe σ2 vs = wipe σ vs ∧ tt σ2 H2 fun b H3 =>
    if b = true then te σ2 H3 fun y H4 => ∃ acc, H4 D = some (.lst acc) ∧ acc.length < sizeLine ∧ Nx (upd H4 D (.lst (acc ++ [y]))) else Nx H3)
def rFor (g : TG) (tb : TS) (D : Ends) (σ : L2.St) (J : It) (H : Hp) : Prop := ∃ W : Nat → Nat → L2.St → Hp → Prop, (∃ m, W 0 m σ H) ∧ ∀ i m σ H, W i m σ H →
  (J.stop i H ∧ D.nx σ H) ∨ (J.go i H ∧ ∃ N : L2.St → Hp → Prop, (∀ σ' H', N σ' H' → ∃ m', m' < m ∧ W (i + 1) m' σ' H') ∧ ∀ x H', J.yld i H x H' → g x σ H' fun σ2 H2 => tb { D with nx := N, ct := N, bk := D.nx } σ2 H2)
theorem rd_lc (q : wi σ H fun J H1 => rLc g tt te vs σ Q J H1) : tLc wi g tt te vs σ H Q := q
theorem rd_for (q : wi σ H fun J H1 => rFor g tb D σ J H1) : tFor wi g tb D σ H := q
theorem for_tup (Pv : Nat → L2.St → Hp → Prop) (h0 : Pv 0 σ H) (hl : ∀ i σ H, i ≤ xs.length → Pv i σ H → SqT K H a xs)
    (hs : ∀ i x σ H, xs[i]? = some x → Pv i σ H → g x σ H fun σ2 H2 => tb { nx := Pv (i + 1), rt := D.rt, ct := Pv (i + 1), bk := D.nx } σ2 H2) (hd : ∀ σ H, Pv xs.length σ H → D.nx σ H) : rFor g tb D σ (Itt K a) H := L2.for_tup Pv h0 hl hs hd
theorem for_list (Pv : Nat → L2.St → Hp → Prop) (h0 : Pv 0 σ H) (hl : ∀ i σ H, i ≤ xs.length → Pv i σ H → SqL K H a xs)
    (hs : ∀ i x σ H, xs[i]? = some x → Pv i σ H → g x σ H fun σ2 H2 => tb { nx := Pv (i + 1), rt := D.rt, ct := Pv (i + 1), bk := D.nx } σ2 H2) (hd : ∀ σ H, Pv xs.length σ H → D.nx σ H) : rFor g tb D σ (Itl K a) H := L2.for_list Pv h0 hl hs hd
theorem for_range {lo : Int} {n : Nat} (Pv : Nat → L2.St → Hp → Prop) (h0 : Pv 0 σ H)
    (hs : ∀ i σ H, i < n → Pv i σ H → g (.int (lo + i)) σ H fun σ2 H2 => tb { nx := Pv (i + 1), rt := D.rt, ct := Pv (i + 1), bk := D.nx } σ2 H2) (hd : ∀ σ H, Pv n σ H → D.nx σ H) : rFor g tb D σ (Itr lo n) H := L2.for_range Pv h0 hs hd
/-- what a comprehension makes, item by item, of things that stay: f of each item -/
theorem lc_pure {J : It} (f : V → V) (hz : xs.length ≤ 100000)
    (go : ∀ i H1, i < xs.length → Same H H1 → J.go i H1) (stop : ∀ H1, Same H H1 → J.stop xs.length H1) (yld : ∀ i H1 x H2, i < xs.length → Same H H1 → J.yld i H1 x H2 → H2 = H1 ∧ xs[i]? = some x)
    (step : ∀ x H1 (N : V → Hp → Prop), x ∈ xs → Same H H1 → (∀ H2, Same H1 H2 → N (f x) H2) → g x (wipe σ vs) H1 fun σ2 H2 => wipe σ2 vs = wipe σ vs ∧ te σ2 H2 N)
    (done : ∀ D H', H D = none → Same H H' → H' D = some (.lst (xs.map f)) → Q (.ref D) H') : rLc g tYes te vs σ Q J H := by
  intro D hD
  let Pv : Nat → Hp → Prop := fun i H1 => Same H H1 ∧ H1 D = some (.lst ((xs.take i).map f))
  refine ⟨fun i m H1 => m = xs.length - i ∧ i ≤ xs.length ∧ Pv i H1, ⟨xs.length, by simp, Nat.zero_le _, same_new hD, by rw [upd_same]; rfl⟩, ?_⟩
  rintro i m H1 ⟨rfl, hi, s1, hd1⟩
  by_cases hlt : i < xs.length
  · refine .inr ⟨go i H1 hlt s1, Pv (i + 1), fun H' p' => ⟨xs.length - (i + 1), by omega, rfl, hlt, p'⟩, fun x H' y => ?_⟩
    obtain ⟨rfl, ex⟩ := yld i H1 x H' hlt s1 y
    refine step x H' _ (List.mem_of_getElem? ex) s1 fun H2 s2 => ?_
    have hz2 : ((xs.take i).map f).length < sizeLine := by
      rw [List.length_map, List.length_take]
      exact Nat.lt_of_le_of_lt (Nat.le_trans (Nat.min_le_right _ _) hz) (by decide)
    refine ⟨_, s2 _ _ hd1, hz2, ?_⟩
    refine ⟨fun b o e => ?_, ?_⟩
    · rw [upd_ne (ne_of_none e hD)]
      exact s2 _ _ (s1 _ _ e)
    · rw [upd_same, List.take_add_one, ex, List.map_append]
      rfl
  · have e : i = xs.length := by omega
    subst e
    refine .inl ⟨stop H1 s1, done D H1 hD s1 ?_⟩
    rw [hd1, List.take_length]
/-- .. over a tuple, a list -/
theorem lc_tup (f : V → V) (hz : xs.length ≤ 100000) (hS : SqT K H a xs)
    (step : ∀ x H1 (N : V → Hp → Prop), x ∈ xs → Same H H1 → (∀ H2, Same H1 H2 → N (f x) H2) → g x (wipe σ vs) H1 fun σ2 H2 => wipe σ2 vs = wipe σ vs ∧ te σ2 H2 N)
    (done : ∀ D H', H D = none → Same H H' → H' D = some (.lst (xs.map f)) → Q (.ref D) H') : rLc g tYes te vs σ Q (Itt K a) H := by
  refine lc_pure (xs := xs) f hz (fun i H1 hi s1 => ?_) (fun H1 s1 => ?_) (fun i H1 x H2 hi s1 y => ?_) step done
  · exact ⟨xs, xs[i], Same.sqT s1 hS, by simp [hi]⟩
  · exact ⟨xs, Same.sqT s1 hS, Nat.le_refl _⟩
  · obtain ⟨e, y⟩ := y
    exact ⟨e, y xs (Same.sqT s1 hS)⟩
theorem lc_lst (f : V → V) (hz : xs.length ≤ 100000) (hS : SqL K H a xs)
    (step : ∀ x H1 (N : V → Hp → Prop), x ∈ xs → Same H H1 → (∀ H2, Same H1 H2 → N (f x) H2) → g x (wipe σ vs) H1 fun σ2 H2 => wipe σ2 vs = wipe σ vs ∧ te σ2 H2 N)
    (done : ∀ D H', H D = none → Same H H' → H' D = some (.lst (xs.map f)) → Q (.ref D) H') : rLc g tYes te vs σ Q (Itl K a) H := by
  refine lc_pure (xs := xs) f hz (fun i H1 hi s1 => ?_) (fun H1 s1 => ?_) (fun i H1 x H2 hi s1 y => ?_) step done
  · exact ⟨xs, xs[i], L2.Same.seq s1 hS, by simp [hi]⟩
  · exact ⟨xs, L2.Same.seq s1 hS, Nat.le_refl _⟩
  · obtain ⟨e, y⟩ := y
    exact ⟨e, y xs (L2.Same.seq s1 hS)⟩
end
section
variable {σ : L2.St} {H : Hp} {c : TT} {tb : TS} {D : Ends}
/-- while: W with its measure -/
theorem rd_while (W : Nat → L2.St → Hp → Prop) (m : Nat) (w0 : W m σ H)
    (step : ∀ m σ H, W m σ H → c σ H fun b H1 => if b = true then ∃ N : L2.St → Hp → Prop, (∀ σ' H', N σ' H' → ∃ m', m' < m ∧ W m' σ' H') ∧ tb { nx := N, rt := D.rt, bk := D.nx, ct := N } σ H1 else D.nx σ H1) : tWhile c tb D σ H :=
  ⟨W, ⟨m, w0⟩, step⟩
theorem rd_turn {W : Nat → L2.St → Hp → Prop} {m : Nat} {rt : VK} {bk : L2.St → Hp → Prop} (q : tb { nx := fun σ' H' => ∃ m', m' < m ∧ W m' σ' H', rt := rt, bk := bk, ct := fun σ' H' => ∃ m', m' < m ∧ W m' σ' H' } σ H) :
    ∃ N : L2.St → Hp → Prop, (∀ σ' H', N σ' H' → ∃ m', m' < m ∧ W m' σ' H') ∧ tb { nx := N, rt := rt, bk := bk, ct := N } σ H := ⟨_, fun _ _ h => h, q⟩
theorem rd_aug {i : Nat} {x : V} {te : TE} {ti : TIp} (h : σ[i]? = some (some x)) (q : te σ H fun y H1 => ti x y H1 fun z H2 => D.nx (σ.set i (some z)) H2) : tAug i te ti D σ H := ⟨x, h, q⟩
theorem rd_ipI {f : Int → Int → Int} {Q : VK} {a b : Int} (q : Q (.int (f a b)) H) : ipI f (.int a) (.int b) H Q := ⟨a, b, rfl, rfl, q⟩
theorem rd_slice {X : V → Option Int → Option Int → Hp → VK → Prop} {Q : VK} {x : V} {lo hi : Option Int} (q : X x lo hi H Q) : X x lo hi H Q := q
theorem rd_slA {K : PySem.W.Frag} {a : Addr} {xs : List V} {lo hi : Option Int} {Q : VK} (h : SqT K H a xs) (q1 : HT.sIx xs.length 0 lo = 0 ∧ HT.sIx xs.length xs.length hi = xs.length → Q (.ref a) H)
    (q2 : ¬ (HT.sIx xs.length 0 lo = 0 ∧ HT.sIx xs.length xs.length hi = xs.length) → ∀ p, H p = none → Q (.ref p) (upd H p (.tup (cutV xs lo hi)))) : rSlA K (.ref a) lo hi H Q := ⟨a, xs, rfl, h, q1, q2⟩
/-- a slice, told by what it is -/
theorem rd_cut {K : PySem.W.Frag} {a : Addr} {xs : List V} {lo hi : Option Int} {Q : VK} (h : SqT K H a xs) (q : ∀ p H', Same H H' → SqT K H' p (cutV xs lo hi) → Q (.ref p) H') : rSlA K (.ref a) lo hi H Q := by
  refine rd_slA h (fun e => q a H (Same.refl H) ?_) fun _ p hp => q p _ (same_new hp) (SqT.of upd_same)
  unfold cutV
  rw [e.1, e.2, List.drop_zero, Nat.sub_zero, List.take_length]
  exact h
theorem cut_to (xs : List V) (n : Nat) (h : n ≤ xs.length) : cutV xs none (some (n : Int)) = xs.take n := by
  unfold cutV HT.sIx
  dsimp only
  rw [if_neg (by omega), List.drop_zero]
  congr 1
  omega
theorem rd_nx {n : L2.St → Hp → Prop} {r : VK} {b c : L2.St → Hp → Prop} (q : n σ H) : (Ends.mk n r b c).nx σ H := q
theorem rd_bk {n : L2.St → Hp → Prop} {r : VK} {b c : L2.St → Hp → Prop} (q : b σ H) : (Ends.mk n r b c).bk σ H := q
theorem rd_ct {n : L2.St → Hp → Prop} {r : VK} {b c : L2.St → Hp → Prop} (q : c σ H) : (Ends.mk n r b c).ct σ H := q
theorem rd_rt {n : L2.St → Hp → Prop} {r : VK} {b c : L2.St → Hp → Prop} {v : V} (q : r v H) : (Ends.mk n r b c).rt v H := q
theorem rd_sl {r : V → Option Int → Option Int → Hp → VK → Prop} {ta : TE} {tl th : TO} {Q : VK} (q : ta σ H fun x H1 => tl σ H1 fun lo H2 => th σ H2 fun hi H3 => r x lo hi H3 Q) : tSl r ta tl th σ H Q := q
theorem rd_noPart {Q : Option Int → Hp → Prop} (q : Q none H) : tNoPart σ H Q := q
theorem rd_part {t : TE} {Q : Option Int → Hp → Prop} (q : t σ H fun x H1 => ∃ i, x = .int i ∧ Q (some i) H1) : tPart t σ H Q := q
theorem rd_intV {a : Int} {P : Int → Prop} (q : P a) : ∃ k, V.int a = .int k ∧ P k := ⟨a, rfl, q⟩
end
end Rd
set_option Elab.async false
set_option linter.all false
set_option maxRecDepth 100000
set_option maxHeartbeats 4000000
/-! Rx: exceptions held as values: made with and without an own __init__, asked by isinstance, their fields read. -/
namespace Rd
open PySem PySem.Spec PyProof.Rows L2
abbrev keMro : List Value := [.type "KeyError", .type "LookupError", .type "Exception", .type "BaseException", .type "object"]
/-- what B.__init__ is -/
structure IniW (B initId : String) : Prop where
  kind : builtinKind initId = some .slot
  split : splitId initId = some (B, "__init__")
  row : Manifest.signature? initId = some ⟨.positional, "*", B, .self, [⟨"args", .varPos, false⟩]⟩
  plain : plainId initId = true
  entry : entryFor table initId = some Builtin.«BaseException.__init__»
  star : (B != "*") = true
theorem ini_of {B newId initId : String} {bmB : List Value} (F : ExcBaseFacts B newId initId bmB) : IniW B initId := ⟨F.initKind, F.initSplit, F.initRow, F.init.plain, F.initEntry, F.noStar⟩
theorem ini_Key : IniW "KeyError" "KeyError.__init__" := ⟨by kernel_rfl, by kernel_rfl, by kernel_rfl, by decide +kernel, entryFor_alias (id' := "BaseException.__init__") (by rw [fastTable_eq_tree]; kernel_rfl) (by first | rfl | decide +kernel) (by decide +kernel) (by rw [fastTable_eq_tree]; kernel_rfl), by decide +kernel⟩
/-! ### a class whose __new__ is that of a base's base -/
section
variable {prog : Program} {w : World} {A : Around} {E : Value → Shared → Prop} {R : Result → Shared → Prop} {h : Heap} {g : Array GenState} {d : Drawn} {t : Nat} {os : OsState}
variable {nm q : Str} {C N : Addr} {bs bm bmB : List Value} {hdct : Bool} {sn : List Str} {sub : List Value} {ab : Bool} {col : Option Bool} {dd : Option Addr} {k0 k1 k2 k3 k5 : Option Value} {B newId initId i0 : String}
theorem xw_new (F : ExcBaseFacts B newId i0 bmB) (hB : bm.contains (.type B) = true) (hA : bm.contains (.type "AttributeError") = false) (hN : bm.contains (.type "NameError") = false) {us : List Value}
    (hC : h.get? C = some (excClassObj nm q C N bs bm hdct sn sub ab col dd k0 k1 k2 k3 k5 newId)) (hz : us.length ≤ sizeLine)
    (hq : R (.ok (.ret (.ref (h.objs.size + 1)))) ⟨(h.push (PySem.W.kdv_tup us)).push (HandSPX.excO C h.objs.size), g, d, t, os⟩) : codeAny (model prog w) A (.call (.builtin newId) ⟨.ref C :: us, []⟩) R ⟨h, g, d, t, os⟩ := by
  have c1 : (Value.ref C :: bm).contains (.type B) = true := by rw [List.contains_cons, hB, Bool.or_true]
  have c2 : (Value.ref C :: bm).contains (.type "AttributeError") = false := by rw [List.contains_cons, hA]; rfl
  have c3 : (Value.ref C :: bm).contains (.type "NameError") = false := by rw [List.contains_cons, hN]; rfl
  have st := F.noStar
  have en := F.ends
  have chk : ∀ {M : Model} {A : Around} {E : Value → Shared → Prop} {Q : Unit → Shared → Prop}, Q () ⟨h, g, d, t, os⟩ → wpAny M A (checkBuiltinCall newId ⟨.ref C :: us, []⟩) Q E ⟨h, g, d, t, os⟩ := fun {M A E Q} z => by
    simp only [checkBuiltinCall, F.newKind, F.newSplit, F.newRow]
    repeat (first | refine wpAny_loadPart_at hC ?_ | (refine wpAny_isSubtype_exc hC ?_; rw [c1]) | refine wpAny_staticBase_exc hC ?_ | refine wpAny_madeBy_exc hC ?_ | wp_step | simp only [bne_self_eq_false, Bool.false_eq_true, if_false])
    exact z
  refine codeAny_call_builtin_code (Code.quiet_builtin _ F.quiet) (chk (codeAny_builtinAt F.entry ?_))
  unfold Builtin.«BaseException.__new__»
  refine PySem.wpAt_bind (show PySem.wpAt _ _ _ (stack >>= _) _ _ _ from PySem.wpAt_bind (PySem.wpAt_stack fun p below => PySem.wpAt_of_wpAny ?_))
  wp_walk
  refine PySem.wpAt_of_wpAny ?_
  rw [F.owner]
  repeat (first | with_reducible refine wpAny_loadPart_at hC ?_ | with_reducible refine wpAny_madeHere_exc F.canon hC ?_ | (with_reducible refine wpAny_isSubtype_exc hC ?_; first | rw [c1] | rw [c2] | rw [c3]) | wp_step)
  show R _ _
  rw [Heap.size_push]
  exact hq
end
theorem es_Key : StoreFacts "KeyError" keMro "object.__setattr__" "object" := {
  mro := by kernel_rfl, entry := F.store_object.entry, kind := by decide +kernel, split := by decide +kernel, hasOwner := by decide +kernel, args := fun a b c => by unfold argsOk; kernel_rfl, passes := fun self => by kernel_rfl,
  slot := .of (n := "__setattr__") (owner := "object") (by rw [typeLookup_type, builtinLookup_eq_fast]; kernel_rfl) (by decide +kernel) (by decide +kernel) (by decide +kernel) (by first | exact .inl (by decide +kernel) | exact .inr (by decide +kernel)) (by rw [isSubtype_type]; kernel_rfl) }
section
variable {prog : Program} {w : World} {A : Around} {E : Value → Shared → Prop} {R : Result → Shared → Prop} {h : Heap} {g : Array GenState} {d : Drawn} {t : Nat} {os : OsState}
variable {nm q : Str} {C N fI : Addr} {bs bm bmB us : List Value} {hdct : Bool} {sn : List Str} {sub : List Value} {ab : Bool} {col : Option Bool} {dd : Option Addr} {k0 k1 k2 k3 k5 : Option Value} {B newId initId i0 : String}
/-- C(us..): made by the base's __new__, then the own __init__ -/
theorem xw_call (F : ExcBaseFacts B newId i0 bmB) (hB : bm.contains (.type B) = true) (hA : bm.contains (.type "AttributeError") = false) (hN : bm.contains (.type "NameError") = false)
    (hC : h.get? C = some (excClassObj nm q C N bs bm hdct sn sub ab col dd k0 k1 k2 k3 k5 newId)) (hi : PySem.W.Looks (model prog w) h (typeLookup (.ref C) "__init__") (some (.ref fI)))
    (hb : ∀ self, PySem.W.Looks (model prog w) h (bindSpecial (.ref fI) self) (.ref fI, [self])) (hz : us.length ≤ sizeLine)
    (hq : codeAny (model prog w) (A.under (.builtin "type.__call__" ⟨.ref C :: us, []⟩)) (.call (.ref fI) ⟨.ref (h.objs.size + 1) :: us, []⟩) (PySem.W.InitBack (h.objs.size + 1) R) ⟨(h.push (PySem.W.kdv_tup us)).push (HandSPX.excO C h.objs.size), g, d, t, os⟩) :
    codeAny (model prog w) A (.call (.ref C) ⟨us, []⟩) R ⟨h, g, d, t, os⟩ := by
  have f1 := tc_lookup
  have f2 := tc_bind (.ref C)
  have ty : (⟨h, g, d, t, os⟩ : Shared).TypeIs (.ref C) "type" := ⟨_, hC, rfl⟩
  refine codeAny_of_tree (show wpAny _ _ (callAny (.ref C) _) _ _ _ from ?_)
  repeat (any_goals (first | assumption | with_reducible refine wpAny_loadPart_at hC ?_ | wp_step))
  refine ⟨rfl, codeAny_call_builtin_at (Code.quiet_builtin _ (by decide +kernel)) entry_typeCall (wpAny_check_type_call_sub hC ?_)⟩
  repeat (first | with_reducible refine wpAny_madeBy_exc hC ?_ | with_reducible refine wpAny_loadPart_at hC ?_ | wp_step)
  refine xw_new F hB hA hN hC hz (show wpAny _ _ _ _ _ _ from ?_)
  have kk : ∀ b o, h.get? b = some o → ((h.push (PySem.W.kdv_tup us)).push (HandSPX.excO C h.objs.size)).get? b = some o := fun b o e => Heap.get?_push_of_some _ (Heap.get?_push_of_some _ e)
  have hC2 := kk _ _ hC
  have hg : ((h.push (PySem.W.kdv_tup us)).push (HandSPX.excO C h.objs.size)).get? (h.objs.size + 1) = some (HandSPX.excO C h.objs.size) := by heap_get
  have cc : (Value.ref C :: bm).contains (.ref C) = true := by simp
  unfold isInstance
  repeat (first | with_reducible refine wpAny_loadPart_at hg ?_ | wp_step)
  refine (show wpAny _ _ (isSubtype (Value.ref C) (Value.ref C)) _ _ (⟨(h.push (PySem.W.kdv_tup us)).push (HandSPX.excO C h.objs.size), g, d, t, os⟩ : Shared) from wpAny_isSubtype_exc hC2 ?_)
  rw [cc]
  repeat wp_step
  refine (show wpAny _ _ (typeLookup (.ref C) _) _ _ _ from (hi.keeps kk).at (wpAny_holding (wpAny_bind (((hb (.ref (h.objs.size + 1))).keeps kk).at ?_))))
  refine wpAny_bind (wpAny_call (codeAny_mono hq fun r s' z => ?_))
  match r, z with
  | .error e, z => exact z
  | .ok .next, z => exact z.elim
  | .ok .brk, z => exact z.elim
  | .ok .cont, z => exact z.elim
  | .ok (.ret v), z =>
    obtain ⟨rfl, z⟩ := z
    first | exact wpAny_pure (wpAny_pure z) | (wp_walk; exact z)
/-- B.__init__(e, ..) -/
theorem xw_init (F : IniW B initId) (hB : bm.contains (.type B) = true) {e t0 : Addr} (hC : h.get? C = some (excClassObj nm q C N bs bm hdct sn sub ab col dd k0 k1 k2 k3 k5 newId)) (he : h.get? e = some (HandSPX.excO C t0)) (hz : us.length ≤ sizeLine)
    (hq : ∀ h' t1, (∀ b o, b ≠ e → h.get? b = some o → h'.get? b = some o) → h'.get? e = some (HandSPX.excO C t1) → R (.ok (.ret .none)) ⟨h', g, d, t, os⟩) : codeAny (model prog w) A (.call (.builtin initId) ⟨.ref e :: us, []⟩) R ⟨h, g, d, t, os⟩ := by
  have c1 : (Value.ref C :: bm).contains (.type B) = true := by rw [List.contains_cons, hB, Bool.or_true]
  have st := F.star
  have chk : ∀ {M : Model} {A : Around} {E : Value → Shared → Prop} {Q : Unit → Shared → Prop}, Q () ⟨h, g, d, t, os⟩ → wpAny M A (checkBuiltinCall initId ⟨.ref e :: us, []⟩) Q E ⟨h, g, d, t, os⟩ := fun {M A E Q} z => by
    simp only [checkBuiltinCall, F.kind, F.split, F.row]
    repeat (first | (with_reducible refine wpAny_loadPart_at he ?_) | with_reducible refine wpAny_loadPart_at hC ?_ | (with_reducible refine wpAny_isSubtype_exc hC ?_; rw [c1]) | wp_step)
    refine wpAny_onRaise ?_
    have ck : ∀ (a b : String) (n : Nat), Bind.check ⟨.positional, "*", B, .self, [⟨"args", .varPos, false⟩]⟩ a b n (List.map (fun x => x.fst) ({ pos := Value.ref e :: us } : Args).kw) = pure () := fun a b n => check_star_args _ _ _ _ _ _
    rw [ck]
    exact wpAny_pure z
  refine codeAny_call_builtin F.plain F.entry (chk ?_)
  wp_walk
  refine hq _ h.objs.size (fun b o hb ho => ?_) ((Heap.get?_update_self _ (Heap.get?_push_of_some _ he) rfl).trans rfl)
  exact (Heap.get?_update_other _ _ (Ne.symm hb)).trans (Heap.get?_push_of_some _ ho)
end
/-- an exception class with an own __init__, by its base's mro -/
structure XiC (K : PySem.W.Frag) (C : Addr) (bmB : List Value) (newId : String) : Prop where
  cl : PySem.W.excInitIn K C bmB newId = true
  ov : PySem.W.excOver K C bmB = true
  sa : PySem.W.findIn K (.ref C) "__setattr__" = some (some (.builtin "object.__setattr__"))
  hd : PySem.W.hasDictIn K C = true
  kp : PySem.W.keepIn K (.ref C) = true
section
variable {X : Cx} {pins : List (Addr × Obj)} {σ : L2.St} {H : Hp} {s : Shared} {a C : Addr} {f : Str} {y : V} {u : Value} {B newId initId : String} {bmB : List Value} {E : Value → Shared → Prop} {A : Around}
/-- the first field -/
theorem xi_store {Q : Unit → Shared → Prop} (SF : StoreFacts B bmB "object.__setattr__" "object") (T : XiC X.K C bmB newId) (I : Inv X pins σ H s) (e : H a = some (exo a C none)) (hno : PySem.W.takerIn X.K C f = some none) (ry : RelV y u)
    (h : ∀ dx s', H dx = none → dx ≠ a → Inv X pins σ (upd (upd H dx (exd dx [(f, y)])) a (exo a C (some dx))) s' → Q () s') : wpAny (model X.prog X.w) A (setAttr (.ref a) f u) Q E s := by
  obtain ⟨t1, ho⟩ := exo_at I.hok e
  obtain ⟨cd, hc, hd⟩ := PySem.W.any_some T.hd
  obtain ⟨hp, g, d, t, os⟩ := s
  refine PySem.W.set_plain I.kIn (od := none) ⟨ho, rfl, rfl, True.intro⟩ T.sa ?_
  refine PySem.W.osa_openX (od := none) SF I.kIn ⟨ho, rfl, rfl, True.intro⟩ T.ov hno fun b => ?_
  have hcls : PySem.W.Looks (model X.prog X.w) hp (classData C) cd := PySem.W.looks_clsIn I.kIn hc
  have hxs : a ≠ hp.objs.size := Nat.ne_of_lt (Heap.lt_size ho)
  refine wpAny_bind (wpAny_pure (wpAny_bind (PySem.W.instanceDict_exc (s := ⟨hp, g, d, t + 1, os⟩) ho hcls hd ?_)))
  show wpAny _ _ (Builtin.ObjectAttr.storeInDict hp.objs.size (.str f t) f u) _ _ _
  have hx1 : (hp.push (PySem.W.dictOf [] 0)).get? a = some _ := Heap.get?_push_of_some _ ho
  refine HandSPX.store_in_new (hp := (hp.push (PySem.W.dictOf [] 0)).update a fun o => { o with dict := some hp.objs.size }) ?_ fun h' tk' hn hs => ?_
  · exact ⟨_, #[], _, (Heap.get?_update_ne _ _ _ _ hxs.symm).trans (Heap.get?_push_at rfl rfl), rfl, fun e he => absurd he (by simp), fun _ => rfl⟩
  have k : ∀ b o, b ≠ a → hp.get? b = some o → h'.get? b = some o := fun b o hb q => (hs.2 b (Nat.ne_of_lt (Heap.lt_size q))).trans ((Heap.get?_update_ne _ _ _ _ hb).trans (Heap.get?_push_of_some _ q))
  have hx : h'.get? a = some ({ cls := .ref C, dict := some hp.objs.size, data := .fields #[.ref t1, .none, .none, .none, .bool false, .none] } : Obj) := (hs.2 a hxs).trans (Heap.get?_update_self _ hx1 rfl)
  have hnd : H hp.objs.size = none := I.hok.fresh (Nat.le_refl _)
  have nd : ∀ {b : Addr} {o : Obj}, hp.get? b = some o → b ≠ hp.objs.size := fun {b o} q => Nat.ne_of_lt (Heap.lt_size q)
  have na : ∀ {b : Addr}, H b = none → b ≠ a := fun {b} n z => by rw [z, e] at n; cases n
  have exA : ∃ o', h'.get? a = some o' := ⟨_, hx⟩
  have U : Un X.fs [] H (upd (upd H hp.objs.size (exd hp.objs.size [(f, y)])) a (exo a C (some hp.objs.size))) hp h' := {
    keep := fun b o q n _ _ => k b o (na n) q, slot := fun b o q n _ _ => ⟨o.slots, k b o (na n) q⟩, free := fun b o q n _ => by rw [upd_ne (na n), upd_ne (nd q)]; exact n,
    there := fun b o q _ => (Classical.em (b = a)).elim (fun hb => hb ▸ exA) fun hb => ⟨o, k b o hb q⟩,
    tups := fun b xs q => by rw [upd_ne (at_ne e q exo_tup), upd_ne (ne_of_none q hnd)]; exact q,
    frzs := fun b o v q => by rw [upd_ne (at_ne e q exo_frz), upd_ne (ne_of_none q hnd)]; exact q,
    tbls := fun b ps q => ⟨#[], by rw [upd_ne (at_ne e q exo_tbl), upd_ne (ne_of_none q hnd), q]; simp⟩ }
  refine h hp.objs.size _ hnd hxs.symm (I.un (t' := tk') U fun b o q => ?_)
  by_cases hb : b = a
  · subst hb; rw [upd_same] at q; cases q; exact exo_ok hx
  rw [upd_ne hb] at q
  by_cases hdd : b = hp.objs.size
  · subst hdd; rw [upd_same] at q; cases q; exact exd_ok hn (relO_put (fs := []) ry fun g => True.intro)
  rw [upd_ne hdd] at q
  refine (I.hok b o q).stay (fun c v hc z => k c v (by rcases hc with hc | hc; · exact hc ▸ hb
                                                       · exact at_ne e hc exo_own) z) (fun c hc => ?_) fun c xs hc => ?_
  · rw [upd_ne (at_ne e hc exo_own), upd_ne (ne_of_none hc hnd)]; exact hc
  · rw [upd_ne (at_ne e hc exo_tup), upd_ne (ne_of_none hc hnd)]; exact hc
/-- B.__init__(self, ..) -/
theorem xi_base {us : List Value} {Q : Value → Shared → Prop} (FB : IniW B initId) (hB : bmB.contains (.type B) = true) (T : XiC X.K C bmB newId) (I : Inv X pins σ H s) (e : H a = some (exo a C none)) (hl : us.length ≤ sizeLine) (h : ∀ s', Inv X pins σ H s' → Q .none s') :
    wpAny (model X.prog X.w) A (call (.builtin initId) (.ref a :: us)) Q E s := by
  obtain ⟨nm, N, q, bs, bm, hdct, sn, sub, ab, col, dd, k0, k1, k2, k3, k5, hC, hT⟩ := PySem.W.excInit_of I.kIn T.cl
  obtain ⟨t1, ho⟩ := exo_at I.hok e
  obtain ⟨hp, g, d, t, os⟩ := s
  refine wpAny_call (xw_init FB ((hT B).trans hB) hC ho hl fun h' t2 k hx => ?_)
  have J := I.write (t' := t) (x := a) (e := a) (o := exo a C none) (by rw [e]; exact True.intro) (.inl rfl) k ⟨_, hx⟩ (exo_ok hx)
  rw [show upd H a (exo a C none) = H from funext fun b => if hb : b = a then by rw [hb, upd_same, e] else upd_ne hb] at J
  exact h _ J
end
/-! ### rules -/
def tXiB (C : Addr) (ta : TA) : TE := fun σ H Q => ta σ H fun vs H1 => ∃ (a : Addr) (ws : List V), vs = .ref a :: ws ∧ ws.length ≤ 1000 ∧ H1 a = some (exo a C none) ∧ Q .non H1
def tXiS (C : Addr) (f : Str) (to te : TE) : TS := fun D σ H => te σ H fun y H1 => to σ H1 fun x H2 => ∃ a : Addr, x = .ref a ∧ H2 a = some (exo a C none) ∧ ∀ dx, H2 dx = none → dx ≠ a → D.nx σ (upd (upd H2 dx (exd dx [(f, y)])) a (exo a C (some dx)))
def tXiM (C : Addr) (sp : Sp) (E : XK) (ta : TA) : TE := fun σ H Q => ta σ H fun vs H1 => vs.length ≤ 1000 ∧ ∀ a, H1 a = none → sp (.ref a :: vs) (upd H1 a (exo a C none)) (fun v H2 => v = .non ∧ Q (.ref a) H2) E
section
variable {X : Cx} {o e : Expr} {es : List Expr} {to te : TE} {ta : TA} {f x : Str} {p p' p1 p2 pos : Pos} {B newId initId : String} {bmB : List Value} {C fI : Addr} {CX : CXT} {k : Nat} {sp : Sp} {E : XK}
theorem pe_xiB {b : Str} {pl : Sem Bool} (FB : IniW B initId) (bB : bmB.contains (.type B) = true) (T : XiC X.K C bmB newId) (hg : Gl X b) (hm : X.mg b = none) (hB : bootBuiltins b = some (.type B)) (hn : b ≠ "__name__") (hdb : (b == ("__debug__" : Str)) = false)
    (ty : typeOf (.type B) = pure (.type "type")) (hst : Manifest.isStub B = false) (hh : PySem.W.handedIn (.builtin initId) = true) (vV : PySem.W.findCls X.K (.type B) (.type "type") "__init__" = some (.val (.builtin initId))) (ha : PA X (e :: es) ta)
    (hc : eval (.Call (.Attribute (.Name b p1) "__init__" p2) (e :: es) [] pos) X.env = (do
      let ov ← eval (.Name b p1) X.env; standAt p2.atName; let (f, first) ← holding [ov] (getMethod ov "__init__" pl)
      callWith pos f first (backTo pos (starEach (e :: es) X.env)) (backToKw pos (keywordEach [] X.env))) := by rfl)
    (he : starEach (e :: es) X.env = (false, eval e X.env) :: starEach es X.env := by rfl) (hpl : (backTo pos (starEach es X.env)).any (·.1) = false := by rfl) :
    PE X (.Call (.Attribute (.Name b p1) "__init__" p2) (e :: es) [] pos) (tXiB C ta) := by
  refine ⟨fun pins s σ H Q I h => ?_⟩
  refine PySem.W.methodCall_KW (ld_blt I hg hm hB ?_ hn hdb) hc
  obtain ⟨m, fr⟩ := I.fr
  refine PySem.W.method_type fr I.ok.mod.kin ty hst vV hh ?_
  show wpAny _ _ (callWith pos (Value.builtin initId) [] (backTo pos (starEach (e :: es) X.env)) []) _ _ _
  refine PyProof.Rows.callWith_method1 (thn (ha.run pos pins _ σ H _ (I.tok _) h) fun us s1 ⟨vs, H1, I1, r1, a, ws, ev, hl, ea, q⟩ => ?_) he hpl
  subst ev
  cases r1 with
  | @cons _ u0 _ ur ra rw' =>
    obtain rfl : u0 = Value.ref a := ra
    exact xi_base FB bB T I1 ea (by rw [← Paired.length rw', sizeLine_eq]; omega) fun s' J => ⟨.non, H1, J, rfl, q⟩
theorem ps_xiS (SF : StoreFacts B bmB "object.__setattr__" "object") (T : XiC X.K C bmB newId) (hno : PySem.W.takerIn X.K C f = some none) (ho : PE X o to) (he : PE X e te) (hs : swapsWith e (some (.Attribute o f p')) pos.line X.env = pure false := by rfl) :
    PS X (.Assign [.Attribute o f p'] e pos) (tXiS C f to te) := by
  refine ⟨fun pins s σ H D I h => ?_⟩
  refine plainObj_wpAny_Assign_Attribute (thn (he.run pins s σ H _ I h) fun v s1 ⟨y, H1, I1, r1, q1⟩ => thn (ho.run pins s1 σ H1 _ I1 q1) fun u s2 ⟨x, H2, I2, r2, a, ex, ea, q⟩ => ?_) hs
  subst ex
  obtain rfl : u = Value.ref a := r2
  exact xi_store SF T I2 ea hno r1 fun dx s' n ne J => ⟨σ, _, J, q dx n ne⟩
theorem pe_xiM {gd : Bool} {BN i0 : String} {bmN : List Value} (FB : ExcBaseFacts BN newId i0 bmN) (bB : bmB.contains (.type BN) = true) (bA : bmB.contains (.type "AttributeError") = false) (bN : bmB.contains (.type "NameError") = false) (T : XiC X.K C bmB newId) (iC : PySem.W.findIn X.K (.ref C) "__init__" = some (some (.ref fI))) (tI : PySem.W.typeIn X.K (.ref fI) = some (.type "function"))
    (F1 : FnG gd X.prog X.w X.K X.mg X.base CX k fI sp) (hr : RoomG gd (k + 1) X.A) (hx : Passes CX X E) (hg : Gl X x) (hm : X.mg x = some (.ref C)) (ha : PA X (e :: es) ta)
    (hdb : (x == ("__debug__" : Str)) = false := by decide) (he : starEach (e :: es) X.env = (false, eval e X.env) :: starEach es X.env := by rfl) (hpl : (backTo pos (starEach es X.env)).any (·.1) = false := by rfl) :
    PE X (.Call (.Name x p) (e :: es) [] pos) (tXiM C sp E ta) := by
  refine ⟨fun pins s σ H Q I h => ?_⟩
  refine wpAny_Call_Name_kw (ld_glob I hg hm ?_ hdb)
  refine PySem.W.callWith_K (h₀ := X.base) I.ok.mod.kin T.kp (thn (ha.run pos pins s σ H _ I h) fun us s1 ⟨vs, H1, I1, r1, hz, q1⟩ => ⟨I1.kIn, ?_⟩) he hpl
  show wpAny _ _ (call (.ref C) us) _ _ _
  obtain ⟨nm, N, q, bs, bm, hdct, sn, sub, ab, col, dd, k0, k1, k2, k3, k5, hC, hT⟩ := PySem.W.excInit_of I1.kIn T.cl
  obtain ⟨hp, g, dr, tk, os⟩ := s1
  let n := hp.objs.size + 1
  have hn : H1 n = none := I1.hok.fresh (Nat.le_succ _)
  have kk : ∀ b o, hp.get? b = some o → ((hp.push (PySem.W.kdv_tup us)).push (HandSPX.excO C hp.objs.size)).get? b = some o := fun b o e => Heap.get?_push_of_some _ (Heap.get?_push_of_some _ e)
  have hget : ((hp.push (PySem.W.kdv_tup us)).push (HandSPX.excO C hp.objs.size)).get? n = some (HandSPX.excO C hp.objs.size) := by show Heap.get? _ (hp.objs.size + 1) = _; heap_get
  have I2 := I1.laid (t' := tk) (a := n) (o := exo n C none) kk (Nat.le_succ _) (exo_ok hget)
  have r2 : Vals (V.ref n :: vs) (Value.ref n :: us) := .cons rfl r1
  refine wpAny_call (xw_call FB ((hT _).trans bB) ((hT _).trans bA) ((hT _).trans bN) hC (PySem.W.looks_findIn I1.kIn iC) (fun self => PySem.W.bind_fn I1.kIn self tI) (by rw [← Paired.length r1, sizeLine_eq]; omega)
    (codeAny_mono (F1 _ X.stack _ _ (Value.ref n :: us) _ _ E (hr.make C us []) (I2.env0.make C us []) r2 (q1 n hn)) fun r s' hq' => ?_))
  match r, hq' with
  | .error er, hq' => exact hx pins σ _ _ er s' I2 hq'
  | .ok (.ret u), hq' =>
    obtain ⟨v, H', I3, rv, ev, q3⟩ := I2.after hq'
    subst ev
    exact ⟨rv, ⟨V.ref n, H', I3, rfl, q3⟩⟩
  | .ok .next, hq' => exact False.elim hq'
  | .ok .brk, hq' => exact False.elim hq'
  | .ok .cont, hq' => exact False.elim hq'
end
/-! ### what they are -/
/-- at a: an exception of the class at D -/
def Ex (H : Hp) (a D : Addr) : Prop := H a = some (ExO (.ref D) a) ∨ ∃ (d : Addr) (fs : List (Str × V)), H a = some (exo a D (some d)) ∧ H d = some (exd d fs)
/-- .. with the field f -/
def ExF (H : Hp) (a D : Addr) (f : Str) (v : V) : Prop := ∃ (d : Addr) (fs : List (Str × V)), H a = some (exo a D (some d)) ∧ H d = some (exd d fs) ∧ fs.lookup f = some v
theorem ExF.ex {H : Hp} {a D : Addr} {f : Str} {v : V} (h : ExF H a D f v) : Ex H a D := by
  obtain ⟨d, fs, h1, h2, _⟩ := h
  exact .inr ⟨d, fs, h1, h2⟩
theorem Ex.same {H H' : Hp} {a D : Addr} (h : Ex H a D) (s : Same H H') : Ex H' a D := by
  rcases h with h | ⟨d, fs, h1, h2⟩
  · exact .inl (s _ _ h)
  · exact .inr ⟨d, fs, s _ _ h1, s _ _ h2⟩
theorem ExF.same {H H' : Hp} {a D : Addr} {f : Str} {v : V} (h : ExF H a D f v) (s : Same H H') : ExF H' a D f v := by
  obtain ⟨d, fs, h1, h2, h3⟩ := h
  exact ⟨d, fs, s _ _ h1, s _ _ h2, h3⟩
section
variable {X : Cx} {pins : List (Addr × Obj)} {σ : L2.St} {H : Hp} {s : Shared} {a D : Addr}
theorem Ex.inst (I : Inv X pins σ H s) (h : Ex H a D) : ∃ ox od, PySem.W.InstAt s.heap a ox D od := by
  rcases h with h | ⟨d, fs, h1, h2⟩
  · obtain ⟨⟨oe, vs, g, z, hd, _⟩, _⟩ := (show ObjOk X.prog X.w H s.heap a (ExO (.ref D) a) from I.hok a _ h)
    exact ⟨oe, none, g, z.1, by unfold PySem.W.notCls; rw [hd] <;> rfl, by rw [z.2]; trivial⟩
  · obtain ⟨t1, g⟩ := exo_at I.hok h1
    obtain ⟨mA, ⟨o, _, _, e, _⟩, _⟩ := exd_at I.hok h2
    exact ⟨_, some o, g, rfl, rfl, e⟩
end
section
variable {K : PySem.W.Frag} {D : Addr} {prog : Program} {w : World} {A : Around} {E : Value → Shared → Prop} {s : Shared} {x : Addr} {ox : Obj} {od : Option Obj}
theorem find_data {C : Addr} {name : Str} {a g : Value} (hc : (PySem.W.clsIn K C).isSome = true) (ha : PySem.W.findIn K (.ref C) name = some (some a)) (hg : PySem.W.specialIn K a "__get__" = some (some g)) (ht : PySem.W.takesIn K a = some true) : PySem.W.findObj K C od name = some (.bind g a) := by
  obtain ⟨cd, hc⟩ := Option.isSome_iff_exists.mp hc
  simp only [PySem.W.findObj, hc, ha, hg, ht, Option.bind_some, Option.bind_eq_bind, Option.map_some]
  try simp [hg, ht]
set_option maxHeartbeats 400000 in
/-- e.__class__ -/
theorem ask_class {Q : Option Value → Shared → Prop} (C : ExcC K D) (X : K.In s.heap) (I : PySem.W.InstAt s.heap x ox D od) (h : Q (some (.ref D)) { s with toks := s.toks + 1 }) : wpAny (model prog w) A (getAttr? (.ref x) "__class__") Q E s := by
  have hf : PySem.W.findObj K D od "__class__" = some (.bind (.builtin "getset_descriptor.__get__") (.builtin "object.__class__")) := find_data (by obtain ⟨cd, hc, _⟩ := PySem.W.any_some C.hd; rw [hc]; rfl) C.ha C.hn C.ht
  obtain ⟨hp, g, d, t, os⟩ := s
  have l0 := I.type (M := model prog w)
  have l1 := PySem.W.looks_findIn (M := model prog w) X C.hg
  have l2 := PySem.W.looks_findIn (M := model prog w) X C.hk
  have l3 := PySem.W.looks_find (M := model prog w) X I hf
  have sub : PySem.W.Looks (model prog w) hp (isInstance (.ref x) (.type "BaseException")) true := l0.andThen (PySem.W.looks_subIn X C.hs)
  have n2 : (Value.builtin "BaseException.__getattribute__" == Value.builtin "object.__getattribute__") = false := by decide +kernel
  have n1 : (onTheHeap (Value.ref D) && Value.builtin "BaseException.__getattribute__" == Value.builtin "object.__getattribute__") = false := (congrArg (fun b => onTheHeap (Value.ref D) && b) n2).trans rfl
  unfold getAttr? getAttrBy? getAttrBy
  refine wpAny_bind (wpAny_mkText (wpAny_bind (wpAny_attempt (wpAny_holding (wpAny_bind (l0.at (wpAny_bind (l1.at ?_))))))))
  show wpAny _ _ (if (onTheHeap (.ref D) && Value.builtin "BaseException.__getattribute__" == Value.builtin "object.__getattribute__") = true then _ else _) _ _ _
  rw [n1, if_neg Bool.false_ne_true]
  unfold getAttrByItsOwn hookBefore
  refine wpAny_bind ?_
  rw [if_pos (show onTheHeap (Value.ref D) = true from rfl)]
  refine l2.at (wpAny_bind (wpAny_attempt (wpAny_holding ?_)))
  unfold callGetattribute
  rw [show (false && onTheHeap (Value.builtin "BaseException.__getattribute__")) = false from rfl, if_neg Bool.false_ne_true]
  unfold boundAndCalled
  rw [PySem.F.excAttr_ValueError.ga.bind (.ref x)]
  refine wpAny_bind (wpAny_pure ?_)
  show wpAny _ _ (call (.builtin "BaseException.__getattribute__") [Value.ref x, .str "__class__" t]) _ _ _
  refine wpAny_call (codeAny_call_builtin F.excAttr_ValueError.ga.plain F.entry_bexc_ga ?_)
  refine @PySem.W.check_slot (model prog w) _ _ (⟨hp, g, d, t + 1, os⟩ : Shared) "BaseException.__getattribute__" "BaseException" "__getattribute__" (Value.ref x) [.str "__class__" t] [] _ (by decide +kernel) (by decide +kernel) sub (PySem.F.args_bexc_ga (.ref x) (.str "__class__" t)) ?_
  unfold Builtin.«object.__getattribute__»
  refine wpAny_bind (wpAny_of_eq (a := ((Value.ref x : Value), [Value.str "__class__" t])) (by first | rfl | (simp only [slotArgs]; rfl)) ?_)
  refine wpAny_bind (wpAny_pure (wpAny_bind (l0.at (wpAny_bind (l3.at ?_)))))
  show wpAny _ _ (holding [.builtin "object.__class__"] (call (.builtin "getset_descriptor.__get__") [.builtin "object.__class__", .ref x, .ref D]) >>= ret) _ _ _
  refine wpAny_bind (wpAny_holding (wpAny_call (PySem.W.class_get (s := ⟨hp, g, d, t + 1, os⟩) (od := od) (ox := ox) X I C.hm ?_)))
  refine wpAny_pure ?_
  show wpAny _ _ (handedOut (Value.ref D)) _ _ _
  rw [PySem.W.handedOut_of (v := .ref D) rfl]
  first | exact wpAny_pure (wpAny_pure h) | exact wpAny_pure h | exact wpAny_pure (wpAny_bind (wpAny_pure (wpAny_pure h)))
theorem kit_ex (C : ExcC K D) : PySem.W.KitX K (.ref x) (.ref D) (fun h => PySem.W.InstAt h x ox D od) where
  ty := fun _ _ _ I => I.type
  ca := fun X I k => ask_class C X I k
  it := fun _ _ X _ => by
    obtain ⟨cd, hc, _⟩ := PySem.W.any_some C.hd
    unfold PySem.W.clsIn at hc
    split at hc
    · rename_i c' d' cd' sl' ho
      exact fun A' Q' E' s' k q => by unfold isType loadHead; exact wpAny_bind (wpAny_loadPart (k _ _ (X _ _ ho)) (wpAny_pure q))
    · cases hc
  ne := fun h tp dd its n sl X htp => by
    obtain ⟨cd, hc, _⟩ := PySem.W.any_some C.hd
    refine Bool.eq_false_iff.mpr fun q => ?_
    have e : D = tp := Value.ref.inj (beq_iff_eq.mp q)
    subst e
    unfold PySem.W.clsIn at hc
    split at hc
    · rename_i c' d' cd' sl' ho
      exact nomatch (X _ _ ho).symm.trans htp
    · cases hc
end
/-- isinstance(e, c), e an exception that is held -/
def rIsX (K : PySem.W.Frag) : List V → Hp → VK → Prop := fun xs H Q => ∃ (a D : Addr) (c : V) (cv : Value) (b : Bool), xs = [.ref a, c] ∧ Ex H a D ∧ ExcC K D ∧ (∀ u, RelV c u → u = cv) ∧ PySem.W.kitOne K (.ref D) cv = some b ∧ Q (.bl b) H
theorem c_isX {X : Cx} : CallR X (.builtin "isinstance") (rIsX X.K) := by
  intro pins s σ H xs us Q I r h
  obtain ⟨a, D, c, cv, b, rfl, hE, hC, hcv, e, q⟩ := h
  cases r with
  | cons rx rr =>
    cases rr with
    | cons rt rr =>
      cases rr
      cases rx
      have ec := hcv _ rt
      subst ec
      obtain ⟨ox, od, J⟩ := hE.inst I
      exact PySem.W.kia_one (kit_ex hC) I.kIn J e (fun z => nomatch z) fun tk => ⟨.bl b, H, I.kept (t' := tk) fun _ _ z => z, rfl, q⟩
section
variable {K : PySem.W.Frag} {H : Hp} {Q : VK} {a D C : Addr} {b : Bool} {n : String}
theorem rd_isXr (h : Ex H a D) (hC : ExcC K D) (hk : PySem.W.kitOne K (.ref D) (.ref C) = some b) (q : Q (.bl b) H) : rIsX K [.ref a, .ref C] H Q := ⟨a, D, _, .ref C, b, rfl, h, hC, fun u r => r, hk, q⟩
theorem rd_isXt (h : Ex H a D) (hC : ExcC K D) (hk : PySem.W.kitOne K (.ref D) (.type n) = some b) (q : Q (.bl b) H) : rIsX K [.ref a, .ty n] H Q := ⟨a, D, _, .type n, b, rfl, h, hC, fun u r => r, hk, q⟩
end
/-- e.f -/
def rXf (K : PySem.W.Frag) (f : Str) : V → Hp → VK → Prop := fun x H Q => ∃ (a C : Addr) (v : V), x = .ref a ∧ XfC K C ∧ PySem.W.findIn K (.ref C) f = some none ∧ ExF H a C f v ∧ Q v H
theorem pe_xfv {X : Cx} {e : Expr} {te : TE} {pos : Pos} {n : Str} (he : PE X e te) (hb : attributeBase e n X.env (eval e X.env) = eval e X.env := by rfl) : PE X (.Attribute e n pos) (tUn (rXf X.K n) te) := by
  refine ⟨fun pins s σ H Q I h => ?_⟩
  refine attr_of hb (thn (he.run pins s σ H _ I h) fun u s1 ⟨x, H1, I1, rx, a, C, v, ex, T, hno, ⟨dd, fs, h1, h2, l⟩, q⟩ => ?_)
  subst ex
  obtain rfl : u = Value.ref a := rx
  obtain ⟨t1, g⟩ := exo_at I1.hok h1
  obtain ⟨mA, hns, hr⟩ := exd_at I1.hok h2
  obtain ⟨od, ho, hl⟩ := lookIn_ns hns
  obtain ⟨u, hu, ru⟩ := RelO.some_of (v := v) (o := mA n) (by rw [← l]; exact hr n)
  have J : PySem.W.InstAt s1.heap a _ C (some od) := ⟨g, rfl, rfl, ho⟩
  exact HandSPX.exc_get I1.kIn J T.ga T.gg T.exC (PySem.W.findObj_own T.hdC hno rfl (by rw [hl, hu])) (handed_of ru) ⟨v, H1, I1.tok _, ru, q⟩
theorem rd_xf {K : PySem.W.Frag} {f : Str} {a C : Addr} {v : V} {H : Hp} {Q : VK} (T : XfC K C) (hno : PySem.W.findIn K (.ref C) f = some none) (h : ExF H a C f v) (q : Q v H) : rXf K f (.ref a) H Q := ⟨a, C, v, rfl, T, hno, h, q⟩
/-! ### made, told by what it is -/
/-- X(e), X without an own __init__ -/
def rEx1 (C : Addr) : V → Hp → VK → Prop := fun _ H Q => ∀ a, H a = none → Q (.ref a) (upd H a (ExO (.ref C) a))
theorem pe_ex1 {X : Cx} {C : Addr} {bmB : List Value} {B newId initId : String} {x : Str} {e : Expr} {ta : TE} {p pos : Pos} (F : ExcBaseFacts B newId initId bmB) (q : PySem.W.excIn X.K C bmB newId = true) (g : X.mg x = some (.ref C) ∧ PySem.W.keepIn X.K (.ref C) = true) (hg : Gl X x)
    (he : PE X e ta) (hs : starEach [e] X.env = (false, eval e X.env) :: starEach [] X.env := by rfl) (hdb : (x == ("__debug__" : Str)) = false := by decide) : PE X (.Call (.Name x p) [e] [] pos) (tUn (rEx1 C) ta) := pe_exc1 F q g.1 g.2 hg he hs hdb
theorem rd_ex1 {C : Addr} {x : V} {H : Hp} {Q : VK} (q : ∀ a H', H a = none → Same H H' → Ex H' a C → Q (.ref a) H') : rEx1 C x H Q := fun a ha => q a _ ha (same_new ha) (.inl upd_same)
/-- the promise of an __init__ that keeps its argument as f -/
def spXi (C : Addr) (f : Str) : Sp := mkSp (fun (a : Addr × V) => [.ref a.1, a.2]) fun a H Q _ => H a.1 = some (exo a.1 C none) ∧ ∀ H', (∀ b o, b ≠ a.1 → H b = some o → H' b = some o) → ExF H' a.1 C f a.2 → Q .non H'
def rXiM (C : Addr) (sp : Sp) (E : XK) : List V → Hp → VK → Prop := fun vs H Q => vs.length ≤ 1000 ∧ ∀ a, H a = none → sp (.ref a :: vs) (upd H a (exo a C none)) (fun v H2 => v = .non ∧ Q (.ref a) H2) E
theorem rd_tXiM {C : Addr} {sp : Sp} {E : XK} {ta : TA} {σ : L2.St} {H : Hp} {Q : VK} (q : ta σ H fun vs H1 => rXiM C sp E vs H1 Q) : tXiM C sp E ta σ H Q := q
theorem rd_xiM {C : Addr} {f : Str} {E : XK} {v : V} {H : Hp} {Q : VK} (q : ∀ a H', H a = none → Same H H' → ExF H' a C f v → Q (.ref a) H') : rXiM C (spXi C f) E [v] H Q := by
  refine ⟨by show 1 ≤ 1000; decide, fun a ha => rd_sp (a, v) rfl ⟨upd_same, fun H' k h => ⟨rfl, q a H' ha (fun b o e => ?_) h⟩⟩⟩
  exact k b o (ne_of_none e ha) (by rw [upd_ne (ne_of_none e ha)]; exact e)
theorem rd_tXiB {C : Addr} {ta : TA} {σ : L2.St} {H : Hp} {Q : VK} (q : ta σ H fun vs H1 => ∃ (a : Addr) (ws : List V), vs = .ref a :: ws ∧ ws.length ≤ 1000 ∧ H1 a = some (exo a C none) ∧ Q .non H1) : tXiB C ta σ H Q := q
theorem rd_tXiS {C : Addr} {f : Str} {to te : TE} {D : Ends} {σ : L2.St} {H : Hp} (q : te σ H fun y H1 => to σ H1 fun x H2 => ∃ a : Addr, x = .ref a ∧ H2 a = some (exo a C none) ∧ ∀ dx, H2 dx = none → dx ≠ a → D.nx σ (upd (upd H2 dx (exd dx [(f, y)])) a (exo a C (some dx)))) : tXiS C f to te D σ H := q
end Rd
set_option Elab.async false
set_option linter.all false
set_option maxRecDepth 100000
set_option maxHeartbeats 4000000
/-! Rg: the end of a walk whose promises know that no repr is under way. -/
namespace Rd
open PySem PySem.Spec PyProof.Rows L2
theorem roomG_caller {k : Nat} (h : Room k callerA) : RoomG true k callerA := ⟨h, fun _ => rfl⟩
section
variable {P : Program} {w : World} {K : PySem.W.Frag} {mg mb : Str → Option Value} {CX : CXT} {k : Nat} {fa a : Addr} {sp : Sp} {s₁ : Shared} {vs : List Value} {ns : List Int}
/-- the law is called, its script at a being the one thing that is tracked -/
theorem law_at (H : Hp) (KX : K.In s₁.heap) (hns : s₁.heap.Ns mainGlobals mg) (hb : s₁.heap.Ns builtinsNs mb) (hbb : ∀ x : Str, x ≠ "__name__" → mb x = bootBuiltins x) (hlim : s₁.heap.NoLimit) (hg : s₁.gens = #[])
    (ha : s₁.heap.get? a = some { cls := .type "list", data := .seq vs.toArray }) (hr : RoomG true k callerA) (F : ∀ base : Heap, FnG true P w K mg base CX k fa sp) (hok : HOk P w H s₁.heap)
    (only : ∀ b, H b ≠ none → b = a ∧ K.lookup a = none ∧ ∃ o xs, H b = some (.frz o (.lst xs))) (hsp : sp [.ref a] H (fun v _ => v = .bl true) fun _ _ _ => False) (hCX : ∀ e s', ¬ CX [] H s₁ (fun _ _ _ => False) e s') :
    codeAny (model P w) callerA (.call (.ref fa) ⟨[.ref a], []⟩) (fun r s' => r = .ok (.ret (.bool true)) ∧ OldK s₁.heap s'.heap ∧ s'.os = s₁.os ∧ AllBare s'.gens) s₁ := by
  -- what is no list is not tracked
  have free : ∀ {b o es ep}, s₁.heap.get? b = some o → o.data = .dict es ep → H b = none := by
    intro b o es ep e d
    refine Classical.byContradiction fun n => ?_
    rw [(only b n).1, ha] at e
    injection e with e
    rw [← e] at d
    exact nomatch (show Data.seq vs.toArray _ = Data.dict es ep from d)
  have names : ∀ {b m}, s₁.heap.Ns b m → (hidT s₁.heap H).Ns b m := by
    rintro b m ⟨o, es, ep, e, d, r⟩
    exact ⟨o, es, ep, hidT_get e (free e d), d, r⟩
  have kin : K.In (hidT s₁.heap H) := by
    intro b o e
    refine hidT_get (KX b o e) (Classical.byContradiction fun n => ?_)
    obtain ⟨rfl, hk, _⟩ := only b n
    exact nomatch hk.symm.trans e
  obtain ⟨mc, lim1, lim2⟩ := hlim
  have md : Mod K mg (hidT s₁.heap H) := ⟨kin, names hns, ⟨mb, names hb, hbb⟩, mc, names lim1, lim2⟩
  have env : Env0 P w K mg (hidT s₁.heap H) callerA [] s₁ H :=
    { frames := rfl, mod := md, bs := fun b o e => of_hidT e, bsz := Nat.le_of_eq (hidT_size _ _), funs := trivial, frf := fun b hb => absurd (show b ∈ ([] : List Addr) from hb) (by simp), hok := hok, bare := .of_eq hg }
  refine codeAny_mono (F _ callerA [] s₁ H [.ref a] [.ref a] _ _ hr env (.cons rfl .nil) hsp) fun r s' h => ?_
  match r, h with
  | .error e, h => exact (hCX e s' h).elim
  | .ok .next, h => exact False.elim h
  | .ok .brk, h => exact False.elim h
  | .ok .cont, h => exact False.elim h
  | .ok (.ret u), h =>
    obtain ⟨v, H', os, bare, un, hok', rv, q⟩ := h
    have qv : v = .bl true := q
    rw [qv] at rv
    obtain rfl : u = Value.bool true := rv
    refine ⟨rfl, OldK.of_keep fun b o e => ?_, os, bare⟩
    by_cases n : H b = none
    · exact un.keep b o e n (fun z => absurd (show b ∈ ([] : List Addr) from z) (by simp)) (by simp)
    · obtain ⟨_, _, ob, xs, z⟩ := only b n
      obtain ⟨e1, _⟩ := hok b _ z
      obtain ⟨e2, _⟩ := hok' b _ (un.frzs b ob _ z)
      rw [e] at e1
      injection e1 with e1
      rw [e1]
      exact e2
end
theorem walk_ofG {l : PySem.W.OpenLaw} {n k : Nat} {q : Program} {loose : List Str} {XP : (Str → Option Value) → Heap → Prop} {YP : World → Heap → Prop} {d : DefRec} (hn : l.most = some n) (hn2 : n ≤ sizeLine) (hdf : d.params.defaults = []) (hr : RoomG true k callerA)
    (F : ∀ (w : World) (mg : Str → Option Value) (fa : Addr) (h : Heap), YP w h → h.Ns mainGlobals mg → mg d.name = some (.ref fa) → ∃ (K : PySem.W.Frag) (sp : Sp), K.In h ∧
      (∀ (H : Hp) (a : Addr) (ns : List Int), ns.length ≤ n → SqL K H a (ns.map V.int) → sp [.ref a] H (fun v _ => v = .bl true) fun _ _ _ => False) ∧ ∀ base : Heap, FnG true l.prog w K mg base CX0 k fa sp) :
    PySem.W.WalkO q loose XP YP l.row.toRowW d [] (fun f vs => PySem.call f vs) := by
  refine Att.attach_call hn hdf fun w s₀ s₁ mg mb fa o pm cd doc a vs ns G Y ho hd hcd hmg hobj hints hlen hg => ?_
  obtain ⟨K, sp, KX, hsp, hF⟩ := F w mg fa _ Y G.T.g hmg
  have rv := vals_ints hints
  have hl : (ns.map V.int).length ≤ sizeLine := by rw [List.length_map]; exact Nat.le_trans hlen hn2
  cases hk : K.lookup a with
  | some o =>
    have e := (KX a o hk).symm.trans hobj
    injection e with e
    subst e
    exact law_at (fun _ => none) KX G.T.g G.T.b G.T.builtins G.T.nolimit hg hobj hr hF (fun b u z => nomatch (show (none : Option HO) = some u from z)) (fun b z => absurd rfl z)
      (hsp _ a ns hlen (.inr ⟨_, vs.toArray, _, hk, rfl, rfl, rfl, by rw [List.size_toArray, hints.length]; exact Nat.le_trans hlen hn2, by simpa using rv⟩)) fun e s' z => z
  | none =>
    let H : Hp := fun b => if b = a then some (.frz { cls := .type "list", data := .seq vs.toArray } (.lst (ns.map V.int))) else none
    have hA : H a = some (.frz { cls := .type "list", data := .seq vs.toArray } (.lst (ns.map V.int))) := if_pos rfl
    have hN : ∀ {b}, b ≠ a → H b = none := fun h => if_neg h
    refine law_at H KX G.T.g G.T.b G.T.builtins G.T.nolimit hg hobj hr hF (fun b u z => ?_) (fun b z => ?_) (hsp H a ns hlen (.inl (.inr ⟨_, hA⟩))) fun e s' z => z
    · by_cases hb : b = a
      · subst hb
        obtain rfl := Option.some.inj (hA.symm.trans z)
        exact ⟨hobj, hl, vs, _, rv, hobj⟩
      · exact nomatch (hN hb).symm.trans z
    · by_cases hb : b = a
      · subst hb
        exact ⟨rfl, hk, _, _, hA⟩
      · exact absurd (hN hb) z
end Rd
set_option Elab.async false
set_option linter.all false
set_option maxRecDepth 100000
set_option maxHeartbeats 4000000
/-! Rl: lists: made of others, appended to, popped, compared, filtered. -/
namespace Rd
open PySem PySem.Spec PyProof.Rows L2
/-- a module's class or def as a value -/
theorem pe_glr {X : Cx} {x : Str} {a : Addr} {pos : Pos} (hg : Gl X x) (hm : X.mg x = some (.ref a)) (hd : (x == ("__debug__" : Str)) = false := by decide) : PE X (.Name x pos) (tC (.ref a)) := pe_glob (v := .ref a) hg hm rfl hd
/-- a module's number -/
theorem pe_gli {X : Cx} {x : Str} {i : Int} {pos : Pos} (hg : Gl X x) (hm : ∃ t, X.mg x = some (.int i t)) (hd : (x == ("__debug__" : Str)) = false := by decide) : PE X (.Name x pos) (tC (.int i)) := by
  obtain ⟨t, hm⟩ := hm
  exact pe_glob (v := .int i) hg hm ⟨t, rfl⟩ hd
theorem pe_gls {X : Cx} {x z : Str} {pos : Pos} (hg : Gl X x) (hm : ∃ t, X.mg x = some (.str z t)) (hd : (x == ("__debug__" : Str)) = false := by decide) : PE X (.Name x pos) (tC (.str z)) := by
  obtain ⟨t, hm⟩ := hm
  exact pe_glob (v := .str z) hg hm ⟨t, rfl⟩ hd
def rListOf (K : PySem.W.Frag) : List V → Hp → VK → Prop := fun xs H Q => ∃ p ys, xs = [.ref p] ∧ (SqL K H p ys ∨ SqT K H p ys) ∧ ∀ l, H l = none → Q (.ref l) (upd H l (.lst ys))
def rTupleOf (K : PySem.W.Frag) : List V → Hp → VK → Prop := fun xs H Q => ∃ p ys, xs = [.ref p] ∧ ((SqL K H p ys ∧ ∀ l, H l = none → Q (.ref l) (upd H l (.tup ys))) ∨ (SqT K H p ys ∧ Q (.ref p) H))
def rRepI : List V → Hp → VK → Prop := fun xs H Q => ∃ i, xs = [.int i] ∧ i.natAbs.log2 < 1920 ∧ Q (.str (toString i)) H
section
variable {X : Cx} {K : PySem.W.Frag} {H : Hp} {Q : VK} {a : Addr} {xs : List V} {v : V} {σ : L2.St}
theorem c_list : CallR X (.type "list") (rListOf X.K) := call_list_of
theorem c_tuple : CallR X (.type "tuple") (rTupleOf X.K) := call_tuple_of
theorem c_reprI : CallR X (.builtin "repr") rRepI := SkE.call_repr_int
theorem rd_listL (h : SqL K H a xs) (q : ∀ l H', H l = none → Same H H' → H' l = some (.lst xs) → Q (.ref l) H') : rListOf K [.ref a] H Q := ⟨a, xs, rfl, .inl h, fun l hl => q l _ hl (same_new hl) upd_same⟩
theorem rd_listT (h : SqT K H a xs) (q : ∀ l H', H l = none → Same H H' → H' l = some (.lst xs) → Q (.ref l) H') : rListOf K [.ref a] H Q := ⟨a, xs, rfl, .inr h, fun l hl => q l _ hl (same_new hl) upd_same⟩
theorem rd_tupleL (h : SqL K H a xs) (q : ∀ l H', H l = none → Same H H' → H' l = some (.tup xs) → Q (.ref l) H') : rTupleOf K [.ref a] H Q := ⟨a, xs, rfl, .inl ⟨h, fun l hl => q l _ hl (same_new hl) upd_same⟩⟩
theorem rd_tupleT (h : SqT K H a xs) (q : Q (.ref a) H) : rTupleOf K [.ref a] H Q := ⟨a, xs, rfl, .inr ⟨h, q⟩⟩
theorem rd_reprI {i : Int} (h : i.natAbs.log2 < 1920) (q : Q (.str (toString i)) H) : rRepI [.int i] H Q := ⟨i, rfl, h, q⟩
/-! methods of lists -/
theorem rd_bm {T : String} {r : V → List V → Hp → VK → Prop} {to : TE} {t : TA} (q : to σ H fun x H1 => tyV K T x H1 ∧ t σ H1 fun xs H2 => r x xs H2 Q) : tBM K T r to t σ H Q := q
theorem rd_bm0 {T : String} {r : V → List V → Hp → VK → Prop} {to : TE} (q : to σ H fun x H1 => tyV K T x H1 ∧ r x [] H1 Q) : tBM0 K T r to σ H Q := q
theorem tyL (h : SqL K H a xs) : tyV K "list" (.ref a) H := .inl ⟨rfl, _, h⟩
theorem rd_append {y : V} (h : H a = some (.lst xs)) (hz : xs.length < sizeLine) (q : Q .non (upd H a (.lst (xs ++ [y])))) : rAppend (.ref a) [y] H Q := ⟨a, xs, y, rfl, rfl, h, hz, q⟩
theorem rd_pop {y : V} (h : H a = some (.lst xs)) (hy : xs[xs.length - 1]? = some y) (q : Q y (upd H a (.lst xs.dropLast))) : rPop (.ref a) [] H Q := ⟨a, xs, y, rfl, rfl, h, hy, q⟩
theorem rd_cat {b : Addr} {ys : List V} (h1 : H a = some (.lst xs)) (h2 : H b = some (.lst ys)) (hz : xs.length + ys.length ≤ sizeLine) (q : ∀ p H', H p = none → Same H H' → H' p = some (.lst (xs ++ ys)) → Q (.ref p) H') : rCat (.ref a) (.ref b) H Q :=
  ⟨a, b, xs, ys, rfl, rfl, h1, h2, hz, fun p hp => q p _ hp (same_new hp) upd_same⟩
/-! deep data -/
theorem dpI (ns : List Int) : DpAll K H (ns.map V.int) (ns.map PyData.int) := by
  induction ns with
  | nil => exact .nil
  | cons n r ih => exact .cons (.int n) ih
theorem rd_eqD {x y : V} {d e : PyData} (h1 : Dp K H x d) (h2 : Dp K H y e) (s1 : SeqAt.shaped d = true) (s2 : SeqAt.shaped e = true) (q : Q (.bl (PyData.eqv d e)) H) : rEqD K x y H Q := ⟨d, e, h1, h2, s1, s2, q⟩
theorem rd_neD {x y : V} {d e : PyData} (h1 : Dp K H x d) (h2 : Dp K H y e) (s1 : SeqAt.shaped d = true) (s2 : SeqAt.shaped e = true) (q : Q (.bl (!PyData.eqv d e)) H) : rNeD K x y H Q := ⟨d, e, h1, h2, s1, s2, q⟩
theorem canI : ∀ ns : List Int, PyData.canLayAll0 (ns.map PyData.int) = true
  | [] => rfl
  | _ :: r => canI r
theorem depI : ∀ ns : List Int, PyData.depthAll (ns.map PyData.int) = 0
  | [] => rfl
  | _ :: r => by
    show max 0 (PyData.depthAll (r.map PyData.int)) = 0
    rw [depI r]; rfl
theorem shLI (ns : List Int) : SeqAt.shaped (.list (ns.map PyData.int)) = true := by
  unfold SeqAt.shaped
  rw [show PyData.canLay0 (.list (ns.map PyData.int)) = true from canI ns, show PyData.depth (.list (ns.map PyData.int)) = 1 by show PyData.depthAll (ns.map PyData.int) + 1 = 1; rw [depI]]
  rfl
theorem shTI (ns : List Int) : SeqAt.shaped (.tuple (ns.map PyData.int)) = true := by
  unfold SeqAt.shaped
  rw [show PyData.canLay0 (.tuple (ns.map PyData.int)) = true from canI ns, show PyData.depth (.tuple (ns.map PyData.int)) = 1 by show PyData.depthAll (ns.map PyData.int) + 1 = 1; rw [depI]]
  rfl
theorem rd_isN {x : V} (q : Q (.bl (decide (x = .non))) H) : rIsN x .non H Q := ⟨rfl, q⟩
theorem rd_notN {x : V} (q : Q (.bl (!decide (x = .non))) H) : rNotN x .non H Q := ⟨rfl, q⟩
end
/-! ### comprehensions with a test -/
section
variable {K : PySem.W.Frag} {σ : L2.St} {H : Hp} {Q : VK} {g : TG} {te : TE} {tt : TT} {vs : List Nat} {a : Addr} {xs : List V}
theorem lc_filt {J : It} (pr : V → Bool) (f : V → V) (hz : xs.length ≤ 100000)
    (go : ∀ i H1, i < xs.length → Same H H1 → J.go i H1) (stop : ∀ H1, Same H H1 → J.stop xs.length H1) (yld : ∀ i H1 x H2, i < xs.length → Same H H1 → J.yld i H1 x H2 → H2 = H1 ∧ xs[i]? = some x)
    (step : ∀ x H1 (N : Hp → Prop) (M : V → Hp → Prop), x ∈ xs → Same H H1 → (pr x = false → ∀ H2, Same H1 H2 → N H2) → (pr x = true → ∀ H2, Same H1 H2 → M (f x) H2) → g x (wipe σ vs) H1 fun σ2 H2 => wipe σ2 vs = wipe σ vs ∧ tt σ2 H2 fun b H3 => if b = true then te σ2 H3 M else N H3)
    (done : ∀ D H', H D = none → Same H H' → H' D = some (.lst ((xs.filter pr).map f)) → Q (.ref D) H') : rLc g tt te vs σ Q J H := by
  intro D hD
  let Pv : Nat → Hp → Prop := fun i H1 => Same H H1 ∧ H1 D = some (.lst (((xs.take i).filter pr).map f))
  refine ⟨fun i m H1 => m = xs.length - i ∧ i ≤ xs.length ∧ Pv i H1, ⟨xs.length, by simp, Nat.zero_le _, same_new hD, by rw [upd_same]; rfl⟩, ?_⟩
  rintro i m H1 ⟨rfl, hi, s1, hd1⟩
  by_cases hlt : i < xs.length
  · refine .inr ⟨go i H1 hlt s1, Pv (i + 1), fun H' p' => ⟨xs.length - (i + 1), by omega, rfl, hlt, p'⟩, fun x H' y => ?_⟩
    obtain ⟨rfl, ex⟩ := yld i H1 x H' hlt s1 y
    have et : ((xs.take (i + 1)).filter pr).map f = ((xs.take i).filter pr).map f ++ (if pr x = true then [f x] else []) := by
      rw [List.take_add_one, ex, List.filter_append, List.map_append]
      congr 1
      show (([x] : List V).filter pr).map f = _
      by_cases hp : pr x = true
      · rw [if_pos hp, List.filter_cons, if_pos hp]; rfl
      · rw [if_neg hp, List.filter_cons, if_neg hp]; rfl
    refine step x H' _ _ (List.mem_of_getElem? ex) s1 (fun hp H2 s2 => ?_) (fun hp H2 s2 => ?_)
    · refine ⟨s1.trans s2, ?_⟩
      rw [et, if_neg (by rw [hp]; exact Bool.false_ne_true), List.append_nil]
      exact s2 _ _ hd1
    · have hz2 : (((xs.take i).filter pr).map f).length < sizeLine := by
        rw [List.length_map]
        exact Nat.lt_of_le_of_lt (Nat.le_trans (List.length_filter_le _ _) (Nat.le_trans (by rw [List.length_take]; exact Nat.min_le_right _ _) hz)) (by decide)
      refine ⟨_, s2 _ _ hd1, hz2, fun b o e => ?_, ?_⟩
      · rw [upd_ne (ne_of_none e hD)]
        exact s2 _ _ (s1 _ _ e)
      · rw [upd_same, et, if_pos hp]
  · have e : i = xs.length := by omega
    subst e
    refine .inl ⟨stop H1 s1, done D H1 hD s1 ?_⟩
    rw [hd1, List.take_length]
theorem lc_lstP (pr : V → Bool) (f : V → V) (hz : xs.length ≤ 100000) (hS : SqL K H a xs)
    (step : ∀ x H1 (N : Hp → Prop) (M : V → Hp → Prop), x ∈ xs → Same H H1 → (pr x = false → ∀ H2, Same H1 H2 → N H2) → (pr x = true → ∀ H2, Same H1 H2 → M (f x) H2) → g x (wipe σ vs) H1 fun σ2 H2 => wipe σ2 vs = wipe σ vs ∧ tt σ2 H2 fun b H3 => if b = true then te σ2 H3 M else N H3)
    (done : ∀ D H', H D = none → Same H H' → H' D = some (.lst ((xs.filter pr).map f)) → Q (.ref D) H') : rLc g tt te vs σ Q (Itl K a) H := by
  refine lc_filt (xs := xs) pr f hz (fun i H1 hi s1 => ?_) (fun H1 s1 => ?_) (fun i H1 x H2 hi s1 y => ?_) step done
  · exact ⟨xs, xs[i], L2.Same.seq s1 hS, by simp [hi]⟩
  · exact ⟨xs, L2.Same.seq s1 hS, Nat.le_refl _⟩
  · obtain ⟨e, y⟩ := y
    exact ⟨e, y xs (L2.Same.seq s1 hS)⟩
theorem lc_tupP (pr : V → Bool) (f : V → V) (hz : xs.length ≤ 100000) (hS : SqT K H a xs)
    (step : ∀ x H1 (N : Hp → Prop) (M : V → Hp → Prop), x ∈ xs → Same H H1 → (pr x = false → ∀ H2, Same H1 H2 → N H2) → (pr x = true → ∀ H2, Same H1 H2 → M (f x) H2) → g x (wipe σ vs) H1 fun σ2 H2 => wipe σ2 vs = wipe σ vs ∧ tt σ2 H2 fun b H3 => if b = true then te σ2 H3 M else N H3)
    (done : ∀ D H', H D = none → Same H H' → H' D = some (.lst ((xs.filter pr).map f)) → Q (.ref D) H') : rLc g tt te vs σ Q (Itt K a) H := by
  refine lc_filt (xs := xs) pr f hz (fun i H1 hi s1 => ?_) (fun H1 s1 => ?_) (fun i H1 x H2 hi s1 y => ?_) step done
  · exact ⟨xs, xs[i], Same.sqT s1 hS, by simp [hi]⟩
  · exact ⟨xs, Same.sqT s1 hS, Nat.le_refl _⟩
  · obtain ⟨e, y⟩ := y
    exact ⟨e, y xs (Same.sqT s1 hS)⟩
end
end Rd
set_option Elab.async false
set_option linter.all false
set_option maxRecDepth 100000
set_option maxHeartbeats 4000000
/-! Rp: repr of data, enumerate and zip, targets in pairs, join. -/
namespace Rd
open PySem PySem.Spec PyProof.Rows L2
/-! ### repr -/
section
variable {K : PySem.W.Frag} {H : Hp}
mutual
theorem noDict : ∀ (d : PyData) (v : V), Dp K H v d → d.hasDict = false
  | .none, _, _ => rfl
  | .bool _, _, _ => rfl
  | .int _, _, _ => rfl
  | .str _, _, _ => rfl
  | .list ds, _, h => by cases h with | lst _ h => exact noDictAll ds _ h
  | .tuple ds, _, h => by cases h with | tup _ h => exact noDictAll ds _ h
  | .dict _, _, h => nomatch h
theorem noDictAll : ∀ (ds : List PyData) (vs : List V), DpAll K H vs ds → PyData.hasDictAll ds = false
  | [], _, _ => rfl
  | d :: ds, _, h => by
    cases h with
    | cons h1 h2 =>
      show (d.hasDict || PyData.hasDictAll ds) = false
      rw [noDict d _ h1, noDictAll ds _ h2]
      rfl
end
end
def rRepD (K : PySem.W.Frag) : List V → Hp → VK → Prop := fun xs H Q => ∃ a d, xs = [.ref a] ∧ Dp K H (.ref a) d ∧ d.showable = true ∧ d.depth ≤ 60 ∧ d.shown.length ≤ sizeLine ∧ Q (.str d.shown) H
theorem c_reprD {X : Cx} (hg : X.A.guards = some []) (hu : X.A.units + 64 < cLine) : CallR X (.builtin "repr") (rRepD X.K) := by
  intro pins s σ H xs us Q I r h
  obtain ⟨a, d, rfl, hd, hs, hz, hl, q⟩ := h
  cases r with
  | cons rx rr =>
    cases rr
    cases rx
    obtain ⟨as, rd⟩ := Dp.reads I d _ _ hd rfl
    exact repr_of_reads' rd hs (fun e => by rw [noDict d _ hd] at e; cases e) hg (by omega) (fun _ _ e => e) (fun h' u tk hk => ⟨.str _, H, I.kept hk, ⟨_, rfl⟩, q⟩) hl
theorem rd_reprD {K : PySem.W.Frag} {H : Hp} {Q : VK} {a : Addr} {d : PyData} (h : Dp K H (.ref a) d) (hs : d.showable = true) (hz : d.depth ≤ 60) (hl : d.shown.length ≤ sizeLine) (q : Q (.str d.shown) H) : rRepD K [.ref a] H Q := ⟨a, d, rfl, h, hs, hz, hl, q⟩
/-! ### data of tuples -/
mutual
/-- v is the data d, in which there is no list -/
inductive Dt (K : PySem.W.Frag) (H : Hp) : V → PyData → Prop
  | non : Dt K H .non .none
  | bl (b : Bool) : Dt K H (.bl b) (.bool b)
  | int (i : Int) : Dt K H (.int i) (.int i)
  | str (x : Str) : Dt K H (.str x) (.str x)
  | tup {a : Addr} {xs : List V} {ds : List PyData} : SqT K H a xs → DtAll K H xs ds → Dt K H (.ref a) (.tuple ds)
inductive DtAll (K : PySem.W.Frag) (H : Hp) : List V → List PyData → Prop
  | nil : DtAll K H [] []
  | cons {v : V} {vs : List V} {d : PyData} {ds : List PyData} : Dt K H v d → DtAll K H vs ds → DtAll K H (v :: vs) (d :: ds)
end
section
variable {K : PySem.W.Frag} {H H' : Hp}
mutual
theorem Dt.dp : ∀ (d : PyData) (v : V), Dt K H v d → Dp K H v d
  | .none, _, h => by cases h; exact .non
  | .bool _, _, h => by cases h; exact .bl _
  | .int _, _, h => by cases h; exact .int _
  | .str _, _, h => by cases h; exact .str _
  | .list _, _, h => nomatch h
  | .tuple ds, _, h => by cases h with | tup h1 h2 => exact .tup h1 (DtAll.dp ds _ h2)
  | .dict _, _, h => nomatch h
theorem DtAll.dp : ∀ (ds : List PyData) (vs : List V), DtAll K H vs ds → DpAll K H vs ds
  | [], _, h => by cases h; exact .nil
  | d :: ds, _, h => by cases h with | cons h1 h2 => exact .cons (Dt.dp d _ h1) (DtAll.dp ds _ h2)
end
mutual
theorem Dt.mono' (m : ∀ a xs, SqT K H a xs → SqT K H' a xs) : ∀ (d : PyData) (v : V), Dt K H v d → Dt K H' v d
  | .none, _, h => by cases h; exact .non
  | .bool _, _, h => by cases h; exact .bl _
  | .int _, _, h => by cases h; exact .int _
  | .str _, _, h => by cases h; exact .str _
  | .list _, _, h => nomatch h
  | .tuple ds, _, h => by cases h with | tup h1 h2 => exact .tup (m _ _ h1) (DtAll.mono' m ds _ h2)
  | .dict _, _, h => nomatch h
theorem DtAll.mono' (m : ∀ a xs, SqT K H a xs → SqT K H' a xs) : ∀ (ds : List PyData) (vs : List V), DtAll K H vs ds → DtAll K H' vs ds
  | [], _, h => by cases h; exact .nil
  | d :: ds, _, h => by cases h with | cons h1 h2 => exact .cons (Dt.mono' m d _ h1) (DtAll.mono' m ds _ h2)
end
theorem Dt.same {d : PyData} {v : V} (h : Dt K H v d) (s : Same H H') : Dt K H' v d := h.mono' (fun _ _ q => Same.sqT s q)
end
/-- short enough to be shown -/
structure Small (d : PyData) : Prop where
  sh : d.showable = true
  dp : d.depth ≤ 8
  lf : d.leavesShort 300 = true
  wt : d.weight ≤ 300
theorem small_int {i : Int} (h : i.natAbs.log2 < 250) : Small (.int i) := by
  refine ⟨decide_eq_true (by omega), by show 0 ≤ 8; decide, ?_, ?_⟩
  · refine decide_eq_true ?_
    have e := int_text_length_le (k := 250) (by decide) h
    have e2 : (PyData.shown (.int i)).length = (toString i).length := by
      show (Str.ofString (toString i)).length = _
      exact PySem.ofString_length _
    rw [e2]
    omega
  · show (if i == 0 then 0 else i.natAbs.log2 + 1) ≤ 300
    split <;> omega
theorem small_all : ∀ (ds : List PyData), (∀ d ∈ ds, Small d) → PyData.showableAll ds = true ∧ PyData.depthAll ds ≤ 8 ∧ PyData.leavesShortAll 300 ds = true ∧ PyData.weightAll ds ≤ 301 * ds.length
  | [], _ => ⟨rfl, by show 0 ≤ 8; decide, rfl, by show 0 ≤ _; exact Nat.zero_le _⟩
  | d :: ds, h => by
    obtain ⟨h1, h2, h3, h4⟩ := small_all ds fun e he => h e (List.mem_cons_of_mem _ he)
    have hd := h d List.mem_cons_self
    refine ⟨?_, ?_, ?_, ?_⟩
    · show (d.showable && PyData.showableAll ds) = true
      rw [hd.sh, h1]; rfl
    · show max d.depth (PyData.depthAll ds) ≤ 8
      exact Nat.max_le.mpr ⟨hd.dp, h2⟩
    · show (d.leavesShort 300 && PyData.leavesShortAll 300 ds) = true
      rw [hd.lf, h3]; rfl
    · show d.weight + 1 + PyData.weightAll ds ≤ 301 * (ds.length + 1)
      have := hd.wt
      omega
theorem rd_reprL {K : PySem.W.Frag} {H : Hp} {Q : VK} {a : Addr} {ds : List PyData} (h : Dp K H (.ref a) (.list ds)) (hs : ∀ d ∈ ds, Small d) (hn : ds.length ≤ 100) (q : Q (.str (PyData.list ds).shown) H) : rRepD K [.ref a] H Q := by
  obtain ⟨h1, h2, h3, h4⟩ := small_all ds hs
  refine rd_reprD h h1 (show PyData.depthAll ds + 1 ≤ 60 by omega) ?_ q
  have hw : (PyData.list ds).weight ≤ 30100 := Nat.le_trans h4 (by omega)
  have := PyData.shown_le 300 (by decide) (.list ds) h3
  have e := sizeLine_eq
  have h5 : (300 + 2) * (PyData.list ds).weight ≤ 302 * 30100 := Nat.mul_le_mul (Nat.le_refl _) hw
  omega
theorem rd_reprT {K : PySem.W.Frag} {H : Hp} {Q : VK} {a : Addr} {ds : List PyData} (h : Dp K H (.ref a) (.tuple ds)) (hs : ∀ d ∈ ds, Small d) (hn : ds.length ≤ 100) (q : Q (.str (PyData.tuple ds).shown) H) : rRepD K [.ref a] H Q := by
  obtain ⟨h1, h2, h3, h4⟩ := small_all ds hs
  refine rd_reprD h h1 (show PyData.depthAll ds + 1 ≤ 60 by omega) ?_ q
  have hw : (PyData.tuple ds).weight ≤ 30100 := Nat.le_trans h4 (by omega)
  have := PyData.shown_le 300 (by decide) (.tuple ds) h3
  have e := sizeLine_eq
  have h5 : (300 + 2) * (PyData.tuple ds).weight ≤ 302 * 30100 := Nat.mul_le_mul (Nat.le_refl _) hw
  omega
/-! ### pairs as targets -/
section
variable {K : PySem.W.Frag} {σ : L2.St} {H : Hp} {QS : L2.St → Hp → Prop} {t : TGs} {g : TG} {a : Addr} {xs : List V} {v : V} {n : Nat}
theorem rd_gTup (h : SqT K H a xs) (hn : xs.length = n) (q : t xs σ H QS) : gTup K n t (.ref a) σ H QS := ⟨a, xs, rfl, h, hn, q⟩
theorem rd_gCons (q : g v σ H fun σ' H' => t xs σ' H' QS) : gCons g t (v :: xs) σ H QS := ⟨v, xs, rfl, q⟩
theorem rd_gNil (q : QS σ H) : gNil [] σ H QS := ⟨rfl, q⟩
end
/-- a pair as target in a comprehension, where the part K is told -/
theorem pg_tupK {X : Cx} {K : PySem.W.Frag} {es : List Expr} {k : Nat} {t : TGs} {n : Nat} {pos : Pos} (hK : X.K = K) (hc : X.calm = true) (h : PGs X es t) (hn : (assignEach es X.env).length = n := by rfl) (hst : (assignEach es X.env).findIdx? (·.1) = none := by rfl) : PG X (.Tuple es k pos) (gTup K n t) := by
  subst hK
  exact pg_tup hc h hn hst
/-! ### enumerate, zip -/
section
variable {K : PySem.W.Frag} {σ : L2.St} {H : Hp} {Q : VK} {g : TG} {te : TE} {tt : TT} {ta : TA} {vs : List Nat} {a b : Addr} {xs ys : List V} {D : Ends} {tb : TS}
def rIE (K : PySem.W.Frag) (vs : List V) (H : Hp) (R : It → Hp → Prop) : Prop := ∃ a xs, vs = [.ref a] ∧ SqL K H a xs ∧ R (Ite K a) H
def rIZ (K : PySem.W.Frag) (vs : List V) (H : Hp) (R : It → Hp → Prop) : Prop := ∃ a b xs ys, vs = [.ref a, .ref b] ∧ SqL K H a xs ∧ SqL K H b ys ∧ R (Itz K a b) H
theorem rd_iEnum {R : It → Hp → Prop} (q : ta σ H fun vs H1 => rIE K vs H1 R) : iEnum K ta σ H R := q
theorem rd_iZip {R : It → Hp → Prop} (q : ta σ H fun vs H1 => rIZ K vs H1 R) : iZip K ta σ H R := q
theorem rd_IE {R : It → Hp → Prop} (h : SqL K H a xs) (q : R (Ite K a) H) : rIE K [.ref a] H R := ⟨a, xs, rfl, h, q⟩
theorem rd_IZ {R : It → Hp → Prop} (h1 : SqL K H a xs) (h2 : SqL K H b ys) (q : R (Itz K a b) H) : rIZ K [.ref a, .ref b] H R := ⟨a, b, xs, ys, rfl, h1, h2, q⟩
theorem for_enum (Pv : Nat → L2.St → Hp → Prop) (h0 : Pv 0 σ H) (hl : ∀ i σ H, i ≤ xs.length → Pv i σ H → SqL K H a xs)
    (hs : ∀ i x σ H T H', xs[i]? = some x → Pv i σ H → H T = none → Same H H' → H' T = some (.tup [.int (i : Nat), x]) → g (.ref T) σ H' fun σ2 H2 => tb { nx := Pv (i + 1), rt := D.rt, ct := Pv (i + 1), bk := D.nx } σ2 H2)
    (hd : ∀ σ H, Pv xs.length σ H → D.nx σ H) : rFor g tb D σ (Ite K a) H := by
  refine ⟨fun i m σ1 H1 => m = xs.length - i ∧ i ≤ xs.length ∧ Pv i σ1 H1, ⟨_, rfl, Nat.zero_le _, h0⟩, ?_⟩
  rintro i m σ1 H1 ⟨rfl, hi, p⟩
  have hq := hl i σ1 H1 hi p
  by_cases hlt : i < xs.length
  · refine .inr ⟨⟨xs, xs[i], hq, List.getElem?_eq_getElem hlt⟩, Pv (i + 1), fun σ' H' p' => ⟨xs.length - (i + 1), by omega, rfl, hlt, p'⟩, fun v H' y => ?_⟩
    obtain ⟨T, x, rfl, hT, rfl, hx⟩ := y
    exact hs i x σ1 H1 T _ (hx xs hq) p hT (same_new hT) upd_same
  · obtain rfl : i = xs.length := by omega
    exact .inl ⟨⟨xs, hq, Nat.le_refl _⟩, hd σ1 H1 p⟩
/-- a comprehension with a test over what stays: the items are told by zs -/
theorem lc_gen {α : Type} {J : It} (zs : List α) (is : α → V → Hp → Prop) (pr : α → Bool) (f : α → V) (hz : zs.length ≤ 100000)
    (go : ∀ i H1, i < zs.length → Same H H1 → J.go i H1) (stop : ∀ H1, Same H H1 → J.stop zs.length H1) (yld : ∀ i H1 x H2 z, zs[i]? = some z → Same H H1 → J.yld i H1 x H2 → Same H1 H2 ∧ is z x H2)
    (step : ∀ z x H1 (N : Hp → Prop) (M : V → Hp → Prop), z ∈ zs → Same H H1 → is z x H1 → (pr z = false → ∀ H2, Same H1 H2 → N H2) → (pr z = true → ∀ H2, Same H1 H2 → M (f z) H2) →
      g x (wipe σ vs) H1 fun σ2 H2 => wipe σ2 vs = wipe σ vs ∧ tt σ2 H2 fun b H3 => if b = true then te σ2 H3 M else N H3)
    (done : ∀ D H', H D = none → Same H H' → H' D = some (.lst ((zs.filter pr).map f)) → Q (.ref D) H') : rLc g tt te vs σ Q J H := by
  intro D hD
  let Pv : Nat → Hp → Prop := fun i H1 => Same H H1 ∧ H1 D = some (.lst (((zs.take i).filter pr).map f))
  refine ⟨fun i m H1 => m = zs.length - i ∧ i ≤ zs.length ∧ Pv i H1, ⟨zs.length, by simp, Nat.zero_le _, same_new hD, by rw [upd_same]; rfl⟩, ?_⟩
  rintro i m H1 ⟨rfl, hi, s1, hd1⟩
  by_cases hlt : i < zs.length
  · refine .inr ⟨go i H1 hlt s1, Pv (i + 1), fun H' p' => ⟨zs.length - (i + 1), by omega, rfl, hlt, p'⟩, fun x H' y => ?_⟩
    have ez : zs[i]? = some zs[i] := List.getElem?_eq_getElem hlt
    obtain ⟨s2, hx⟩ := yld i H1 x H' _ ez s1 y
    have et : ((zs.take (i + 1)).filter pr).map f = ((zs.take i).filter pr).map f ++ (if pr zs[i] = true then [f zs[i]] else []) := by
      rw [List.take_add_one, ez, List.filter_append, List.map_append]
      congr 1
      show (([zs[i]] : List α).filter pr).map f = _
      by_cases hp : pr zs[i] = true
      · rw [if_pos hp, List.filter_cons, if_pos hp]; rfl
      · rw [if_neg hp, List.filter_cons, if_neg hp]; rfl
    refine step zs[i] x H' _ _ (List.getElem_mem hlt) (s1.trans s2) hx (fun hp H2 s3 => ?_) (fun hp H2 s3 => ?_)
    · refine ⟨(s1.trans s2).trans s3, ?_⟩
      rw [et, if_neg (by rw [hp]; exact Bool.false_ne_true), List.append_nil]
      exact s3 _ _ (s2 _ _ hd1)
    · have hz2 : (((zs.take i).filter pr).map f).length < sizeLine := by
        rw [List.length_map]
        exact Nat.lt_of_le_of_lt (Nat.le_trans (List.length_filter_le _ _) (Nat.le_trans (by rw [List.length_take]; exact Nat.min_le_right _ _) hz)) (by decide)
      refine ⟨_, s3 _ _ (s2 _ _ hd1), hz2, fun b o e => ?_, ?_⟩
      · rw [upd_ne (ne_of_none e hD)]
        exact s3 _ _ (s2 _ _ (s1 _ _ e))
      · rw [upd_same, et, if_pos hp]
  · obtain rfl : i = zs.length := by omega
    refine .inl ⟨stop H1 s1, done D H1 hD s1 ?_⟩
    rw [hd1, List.take_length]
/-- [.. for x, y in zip(..) if ..] -/
theorem lc_zip (hl : xs.length = ys.length) (pr : V × V → Bool) (f : V × V → V) (hz : xs.length ≤ 100000) (h1 : SqL K H a xs) (h2 : SqL K H b ys)
    (step : ∀ (z : V × V) T H1 (N : Hp → Prop) (M : V → Hp → Prop), z ∈ xs.zip ys → Same H H1 → H1 T = some (.tup [z.1, z.2]) → (pr z = false → ∀ H2, Same H1 H2 → N H2) → (pr z = true → ∀ H2, Same H1 H2 → M (f z) H2) →
      g (.ref T) (wipe σ vs) H1 fun σ2 H2 => wipe σ2 vs = wipe σ vs ∧ tt σ2 H2 fun b H3 => if b = true then te σ2 H3 M else N H3)
    (done : ∀ D H', H D = none → Same H H' → H' D = some (.lst (((xs.zip ys).filter pr).map f)) → Q (.ref D) H') : rLc g tt te vs σ Q (Itz K a b) H := by
  have lz : (xs.zip ys).length = xs.length := by rw [List.length_zip]; omega
  refine lc_gen (xs.zip ys) (fun z v H2 => ∃ T, v = .ref T ∧ H2 T = some (.tup [z.1, z.2])) pr f (by omega) (fun i H1 hi s1 => ?_) (fun H1 s1 => ?_) (fun i H1 x H2 z ez s1 y => ?_) (fun z x H1 N M hz' s1 hx hN hM => ?_) done
  · exact ⟨xs, ys, xs[i]'(by omega), ys[i]'(by omega), L2.Same.seq s1 h1, L2.Same.seq s1 h2, List.getElem?_eq_getElem _, List.getElem?_eq_getElem _⟩
  · exact ⟨xs, ys, L2.Same.seq s1 h1, L2.Same.seq s1 h2, .inl (by omega)⟩
  · obtain ⟨T, u, v, rfl, hT, rfl, hu, hv⟩ := y
    have e1 := hu xs (L2.Same.seq s1 h1)
    have e2 := hv ys (L2.Same.seq s1 h2)
    have : (xs.zip ys)[i]? = some (u, v) := by rw [List.getElem?_zip_eq_some]; exact ⟨e1, e2⟩
    rw [this] at ez
    injection ez with ez
    subst ez
    exact ⟨same_new hT, T, rfl, upd_same⟩
  · obtain ⟨T, rfl, hT⟩ := hx
    exact step z T H1 N M hz' s1 hT hN hM
end
section
variable {K : PySem.W.Frag} {σ : L2.St} {H : Hp} {Q : VK} {g : TG} {te : TE} {vs : List Nat}
/-- [.. for i in range(..)] of things that stay -/
theorem lc_rng {lo : Int} {n : Nat} (f : Nat → V) (hz : n ≤ 100000)
    (step : ∀ (i : Nat) H1 (N : V → Hp → Prop), i < n → Same H H1 → (∀ H2, Same H1 H2 → N (f i) H2) → g (.int (lo + i)) (wipe σ vs) H1 fun σ2 H2 => wipe σ2 vs = wipe σ vs ∧ te σ2 H2 N)
    (done : ∀ D H', H D = none → Same H H' → H' D = some (.lst ((List.range n).map f)) → Q (.ref D) H') : rLc g tYes te vs σ Q (Itr lo n) H := by
  refine lc_gen (List.range n) (fun z v _ => z < n ∧ v = .int (lo + z)) (fun _ => true) f (by rw [List.length_range]; exact hz) (fun i H1 hi s1 => ?_) (fun H1 s1 => ?_) (fun i H1 x H2 z ez s1 y => ?_) (fun z x H1 N M hz' s1 hx hN hM => ?_) (fun D H' h1 h2 h3 => ?_)
  · rw [List.length_range] at hi
    exact hi
  · rw [List.length_range]
    exact Nat.le_refl n
  · obtain ⟨rfl, rfl⟩ := y
    obtain ⟨hi, e⟩ := List.getElem?_eq_some_iff.mp ez
    rw [List.getElem_range] at e
    subst e
    rw [List.length_range] at hi
    exact ⟨Same.refl _, hi, rfl⟩
  · obtain ⟨hi, rfl⟩ := hx
    exact step z H1 M hi s1 (hM rfl)
  · refine done D H' h1 h2 ?_
    rw [h3, List.filter_eq_self.mpr fun _ _ => rfl]
end
section
variable {K : PySem.W.Frag} {σ : L2.St} {H : Hp} {Q : VK} {g : TG} {te : TE} {vs : List Nat} {a : Addr}
/-- [.. for x in a list], the items told by zs -/
theorem lc_lstA {α : Type} (zs : List α) (val : α → V) (f : α → V) (hz : zs.length ≤ 100000) (hS : SqL K H a (zs.map val))
    (step : ∀ z H1 (N : V → Hp → Prop), z ∈ zs → Same H H1 → (∀ H2, Same H1 H2 → N (f z) H2) → g (val z) (wipe σ vs) H1 fun σ2 H2 => wipe σ2 vs = wipe σ vs ∧ te σ2 H2 N)
    (done : ∀ D H', H D = none → Same H H' → H' D = some (.lst (zs.map f)) → Q (.ref D) H') : rLc g tYes te vs σ Q (Itl K a) H := by
  refine lc_gen zs (fun z v _ => v = val z) (fun _ => true) f hz (fun i H1 hi s1 => ?_) (fun H1 s1 => ?_) (fun i H1 x H2 z ez s1 y => ?_) (fun z x H1 N M hz' s1 hx hN hM => ?_) (fun D H' h1 h2 h3 => ?_)
  · exact ⟨zs.map val, val zs[i], L2.Same.seq s1 hS, by rw [List.getElem?_map, List.getElem?_eq_getElem hi]; rfl⟩
  · exact ⟨zs.map val, L2.Same.seq s1 hS, by rw [List.length_map]; exact Nat.le_refl _⟩
  · obtain ⟨rfl, y⟩ := y
    have e := y _ (L2.Same.seq s1 hS)
    rw [List.getElem?_map, ez] at e
    exact ⟨Same.refl _, (Option.some.inj e).symm⟩
  · subst hx
    exact step z H1 M hz' s1 (hM rfl)
  · refine done D H' h1 h2 ?_
    rw [h3, List.filter_eq_self.mpr fun _ _ => rfl]
end
section
variable {K : PySem.W.Frag} {σ : L2.St} {H : Hp} {Q : VK} {g : TG} {te : TE} {vs : List Nat}
/-- [.. for i in range(..)], each turn of which may change the heap -/
theorem lc_rngI {lo : Int} {n : Nat} (P : Nat → Addr → List V → Hp → Prop) (h0 : ∀ D, H D = none → P 0 D [] (upd H D (.lst [])))
    (step : ∀ (i : Nat) D acc H1 (N : VK), i < n → H D = none → P i D acc H1 → (∀ y H3, H3 D = some (.lst acc) → acc.length < sizeLine → P (i + 1) D (acc ++ [y]) (upd H3 D (.lst (acc ++ [y]))) → N y H3) →
      g (.int (lo + i)) (wipe σ vs) H1 fun σ2 H2 => wipe σ2 vs = wipe σ vs ∧ te σ2 H2 N)
    (done : ∀ D acc H1, H D = none → P n D acc H1 → Q (.ref D) H1) : rLc g tYes te vs σ Q (Itr lo n) H := by
  intro D hD
  refine ⟨fun i m H1 => m = n - i ∧ i ≤ n ∧ ∃ acc, P i D acc H1, ⟨n, rfl, Nat.zero_le _, [], h0 D hD⟩, ?_⟩
  rintro i m H1 ⟨rfl, hi, acc, p⟩
  by_cases hlt : i < n
  · refine .inr ⟨hlt, fun H2 => ∃ acc, P (i + 1) D acc H2, fun H' p' => ⟨n - (i + 1), by omega, rfl, hlt, p'⟩, fun x H' y => ?_⟩
    obtain ⟨rfl, rfl⟩ := y
    exact step i D acc H' _ hlt hD p fun y H3 h1 h2 h3 => ⟨acc, h1, h2, _, h3⟩
  · obtain rfl : i = n := by omega
    exact .inl ⟨Nat.le_refl _, done D acc H1 hD p⟩
end
/-! bools as data -/
theorem dpB {K : PySem.W.Frag} {H : Hp} (bs : List Bool) : DpAll K H (bs.map V.bl) (bs.map PyData.bool) := by
  induction bs with
  | nil => exact .nil
  | cons n r ih => exact .cons (.bl n) ih
theorem canB : ∀ bs : List Bool, PyData.canLayAll0 (bs.map PyData.bool) = true
  | [] => rfl
  | _ :: r => canB r
theorem depB : ∀ bs : List Bool, PyData.depthAll (bs.map PyData.bool) = 0
  | [] => rfl
  | _ :: r => by
    show max 0 (PyData.depthAll (r.map PyData.bool)) = 0
    rw [depB r]; rfl
theorem shLB (bs : List Bool) : SeqAt.shaped (.list (bs.map PyData.bool)) = true := by
  unfold SeqAt.shaped
  rw [show PyData.canLay0 (.list (bs.map PyData.bool)) = true from canB bs, show PyData.depth (.list (bs.map PyData.bool)) = 1 by show PyData.depthAll (bs.map PyData.bool) + 1 = 1; rw [depB]]
  rfl
theorem eqLB (bs : List Bool) : PyData.eqv (.list (bs.map PyData.bool)) (.list (bs.map PyData.bool)) = true := SeqAt.eqv_refl _ (canB bs)
/-! ### join, sum, in -/
section
variable {K : PySem.W.Frag} {σ : L2.St} {H : Hp} {Q : VK} {a : Addr} {xs : List V} {x y : V}
def rJoin (K : PySem.W.Frag) : V → List V → Hp → VK → Prop := fun x xs H Q => ∃ a p, ∃ ys : List Str, x = .str a ∧ xs = [.ref p] ∧ (SqL K H p (ys.map V.str) ∨ SqT K H p (ys.map V.str)) ∧ (ys.map (·.length)).sum + ys.length * a.length ≤ 16777216 ∧ Q (.str (Txt.join a ys)) H
theorem pe_join {X : Cx} {o e : Expr} {to te : TE} {apos pos : Pos} (ho : PE X o to) (he : PE X e te) (hs : starEach [e] X.env = [(false, eval e X.env)] := by rfl) (hbase : attributeBase o "join" X.env (eval o X.env) = eval o X.env := by rfl) (hline : (apos.endLine == pos.line) = true := by rfl) :
    PE X (.Call (.Attribute o "join" apos) [e] [] pos) (tM1 (rJoin X.K) to te) := L2.pe_join ho he hs hbase hline
theorem rd_m1 {r : V → List V → Hp → VK → Prop} {to te : TE} (q : to σ H fun x H1 => (∃ a, x = .str a) ∧ te σ H1 fun y H2 => r x [y] H2 Q) : tM1 r to te σ H Q := q
theorem rd_strV {z : Str} {P : Prop} (q : P) : (∃ a, V.str z = .str a) ∧ P := ⟨⟨z, rfl⟩, q⟩
theorem rd_joinL {z : Str} {ys : List Str} (h : SqL K H a (ys.map V.str)) (hz : (ys.map (·.length)).sum + ys.length * z.length ≤ 16777216) (q : Q (.str (Txt.join z ys)) H) : rJoin K (.str z) [.ref a] H Q := ⟨z, a, ys, rfl, rfl, .inl h, hz, q⟩
theorem rd_sum {ns : List Int} (h : SqL K H a (ns.map V.int)) (q : Q (.int ns.sum) H) : rSum K [.ref a] H Q := ⟨a, ns, rfl, h, q⟩
theorem rd_inL {neg : Bool} (h : SqL K H a xs) (fx : flatV x = true) (fs : xs.all flatV = true) (q : Q (.bl (if neg then !inV x xs else inV x xs)) H) : rIn K neg x (.ref a) H Q := ⟨a, xs, rfl, .inl h, fx, fs, q⟩
theorem rd_inT {neg : Bool} (h : SqT K H a xs) (fx : flatV x = true) (fs : xs.all flatV = true) (q : Q (.bl (if neg then !inV x xs else inV x xs)) H) : rIn K neg x (.ref a) H Q := ⟨a, xs, rfl, .inr h, fx, fs, q⟩
end
end Rd
set_option Elab.async false
set_option linter.all false
set_option maxRecDepth 100000
set_option maxHeartbeats 4000000
/-! Rm: match over a tuple, a star among targets, tuples compared. -/
namespace Rd
open PySem PySem.Spec PyProof.Rows L2
/-! ### match -/
/-- the cases, the subject being a tuple of the items xs -/
structure PC (X : Cx) (cs : List MatchCase) (t : List V → TS) : Prop where
  run : ∀ (pins : List (Addr × Obj)) (s : Shared) (σ : L2.St) (H : Hp) (D : Ends) (a : Addr) (xs : List V) (first : Bool), Inv X pins σ H s → SqT X.K H a xs → t xs D σ H → wpAny (model X.prog X.w) X.A (matchCases cs X.env (.ref a) first) (SP X pins D) X.xe s
/-- names bound in order -/
structure PNs (X : Cx) (ns : List Str) (g : TGs) : Prop where
  run : ∀ (pins : List (Addr × Obj)) (s : Shared) (σ : L2.St) (H : Hp) (vs : List V) (us : List Value) (Q : L2.St → Hp → Prop), Inv X pins σ H s → Vals vs us → g vs σ H Q → wpAny (model X.prog X.w) X.A (assignInOrder (ns.map fun n => bindName X.env n) us) (fun _ s' => ∃ σ' H', Inv X pins σ' H' s' ∧ Q σ' H') X.xe s
def capsOf (ns : List (Str × Pos)) : List Pattern := ns.map fun n => .MatchAs none (some n.1) n.2
section
variable {X : Cx} {cs : List MatchCase} {body : List Stmt} {tb : TS} {tr : List V → TS} {g : TG} {gs : TGs} {pos : Pos} {e : Expr} {te : TE}
theorem pns_nil : PNs X [] gNil := ⟨fun pins s σ H vs us Q I r h => by
  obtain ⟨rfl, h⟩ := h
  cases r
  exact wpAny_assignInOrder_none ⟨σ, H, I, h⟩⟩
theorem pns_cons {i : Nat} {x : Str} {ns : List Str} (hN : X.N.Nodup) (hi : X.N[i]? = some x) (hx : Loc X.env.scope x) (h2 : PNs X ns gs) (hf : X.fn x = true ∨ X.env.scope.names.lookup x = some .local := by first | exact .inl rfl | exact .inr rfl | assumption) : PNs X (x :: ns) (gCons (gName i) gs) :=
  ⟨fun pins s σ H vs us Q I r h => by
    obtain ⟨v, vr, rfl, h⟩ := h
    cases r with
    | cons r rr =>
      refine wpAny_assignInOrder_more (wpAny_bind (wpAny_holding (wpAny_point (wpAny_bind (store_ok I hN hi hx r (fun s' I' => wpAny_point ?_) hf)))))
      exact h2.run pins s' _ H vr _ Q I' rr h⟩
theorem pc_nil : PC X [] (fun _ => tNext) := ⟨fun pins s σ H D a xs first I hS h => wpAny_matchCases_nil ⟨σ, H, I, h⟩⟩
/-- case [n, ..] -/
def tCaseN (n : Nat) (gs : TGs) (tb : TS) (tr : List V → TS) : List V → TS := fun xs D σ H => (xs.length = n ∧ gs xs σ H fun σ' H' => tb D σ' H') ∨ (xs.length ≠ n ∧ tr xs D σ H)
theorem match_caps {M : Model} {A : Around} {E : Value → Shared → Prop} {s : Shared} {env : Env} : ∀ (ns : List (Str × Pos)) (us : List Value) {Q : Option (List (Str × Value)) → Shared → Prop}, us.length = ns.length → Q (some ((ns.map (·.1)).zip us)) s → wpAny M A (matchEach (capsOf ns) env us) Q E s
  | [], [], Q, _, h => wpAny_matchEach_nil h
  | n :: ns, u :: us, Q, hl, h => by
    refine wpAny_matchEach_cons (p := .MatchAs none (some n.1) n.2) (ps := capsOf ns) (wpAny_matchPattern_Capture ?_) rfl
    refine match_caps ns us (by simpa using hl) ?_
    exact h
theorem pc_names {ns : List (Str × Pos)} {n : Nat} {cpos : Pos} (hc : X.calm = true) (hn : ns.length = n) (hg : PNs X (ns.map (·.1)) gs) (hb : PSs X body tb) (hr : PC X cs tr) (hstar : (capsOf ns).findIdx? (·.isStar) = none := by rfl)
    (hwild : ((capsOf ns).all fun p => p.isWildcard || (p.isStar && p.names.isEmpty)) = false := by rfl) : PC X (⟨.MatchSequence (capsOf ns) cpos, none, body⟩ :: cs) (tCaseN n gs tb tr) :=
  ⟨fun pins s σ H D a xs first I hS h => by
    obtain ⟨its, rv, ht, hz⟩ := I.tuple hS
    have hlen := rv.length
    refine wpAny_matchCases_cons (wpAny_matchPattern_Sequence ?_ hstar hwild)
    obtain ⟨o, ho, hcl, _⟩ := id ht
    refine wpAny_collectionFlag (T := "tuple") (show Shared.TypeIs s (.ref a) "tuple" from ⟨o, ho, hcl⟩) flag_seq_tuple ?_
    rw [if_pos rfl]
    refine pyLen_tuple ht (by rw [List.size_toArray, ← hlen]; have := sizeLine_eq; omega) ?_
    have cl : (capsOf ns).length = n := by unfold capsOf; rw [List.length_map, hn]
    rw [cl]
    rcases h with ⟨hx, h⟩ | ⟨hx, h⟩
    · have sz : its.toArray.size = n := by rw [List.size_toArray, ← hlen, hx]
      rw [if_neg (by rw [sz]; simp)]
      have ht2 : IsTup (⟨s.heap, s.gens, s.drawn, s.toks + 1 + 1, s.os⟩ : Shared).heap a its.toArray := ht
      rw [← sz]
      refine unpackItems_tuple (s := ⟨s.heap, s.gens, s.drawn, s.toks + 1 + 1, s.os⟩) (I.ok.hd hc) ht2 fun h' hk => ?_
      refine match_caps ns _ (by rw [hn]; simpa using sz) ?_
      have I1 : Inv X pins σ H ⟨h', s.gens, s.drawn, s.toks + 1 + 1, s.os⟩ := I.kept (t' := s.toks + 1 + 1) fun b o e => hk b o (Nat.ne_of_lt (Heap.lt_size e)) e
      have ez : ((ns.map (·.1)).zip its).map (fun p => bindName X.env p.1) = (ns.map (·.1)).map fun n => bindName X.env n := by
        have e0 : ((ns.map (·.1)).zip its).map Prod.fst = ns.map (·.1) := List.map_fst_zip (by rw [List.length_map, hn]; have := sz; simp at this; omega)
        rw [← e0, List.map_map, e0]
        rfl
      have ez2 : ((ns.map (·.1)).zip its).map (·.2) = its := List.map_snd_zip (by rw [List.length_map, hn]; have := sz; simp at this; omega)
      show wpAny _ _ (assignInOrder (((ns.map (·.1)).zip its).map fun p => bindName X.env p.1) (((ns.map (·.1)).zip its).map (·.2))) _ _ _
      rw [ez, ez2]
      exact thn (hg.run pins _ σ H xs its _ I1 rv h) fun _ s2 ⟨σ2, H2, I2, q2⟩ => hb.run pins s2 σ2 H2 D I2 q2
    · rw [if_pos (by rw [List.size_toArray, ← hlen]; simp; omega)]
      exact hr.run pins _ σ H D a xs false (I.kept (t' := s.toks + 1 + 1) fun _ _ z => z) hS h⟩
def capNs : List Pattern → List (Str × Pos)
  | .MatchAs none (some n) p :: r => (n, p) :: capNs r
  | _ => []
theorem pc_namesP {ps : List Pattern} {n : Nat} {cpos : Pos} (hp : capsOf (capNs ps) = ps) (hc : X.calm = true) (hn : (capNs ps).length = n) (hg : PNs X ((capNs ps).map (·.1)) gs) (hb : PSs X body tb) (hr : PC X cs tr) (hstar : ps.findIdx? (·.isStar) = none := by rfl)
    (hwild : (ps.all fun p => p.isWildcard || (p.isStar && p.names.isEmpty)) = false := by rfl) : PC X (⟨.MatchSequence ps cpos, none, body⟩ :: cs) (tCaseN n gs tb tr) := by
  have h := pc_names (cpos := cpos) (ns := capNs ps) hc hn hg hb hr (by rw [hp]; exact hstar) (by rw [hp]; exact hwild)
  rwa [hp] at h
/-- case _ -/
theorem pc_wild {wp : Pos} (hb : PSs X body tb) : PC X (⟨.MatchAs none none wp, none, body⟩ :: cs) (fun _ => tb) :=
  ⟨fun pins s σ H D a xs first I hS h => wpAny_matchCases_cons (wpAny_matchPattern_Capture (wpAny_assignInOrder_none (hb.run pins s σ H D I h)))⟩
def tMatch (K : PySem.W.Frag) (te : TE) (t : List V → TS) : TS := fun D σ H => te σ H fun x H1 => ∃ a xs, x = .ref a ∧ SqT K H1 a xs ∧ t xs D σ H1
theorem ps_match (he : PE X e te) (hc : PC X cs tr) : PS X (.Match e cs pos) (tMatch X.K te tr) :=
  ⟨fun pins s σ H D I h => wpAny_Match (thn (he.run pins s σ H _ I h) fun u s1 ⟨x, H1, I1, rx, a, xs, ex, hS, q⟩ => by
    subst ex
    cases rx
    exact hc.run pins s1 σ H1 D a xs true I1 hS q)⟩
end
end Rd
set_option Elab.async false
set_option linter.all false
set_option maxRecDepth 100000
set_option maxHeartbeats 4000000
/-! Rn: defs with a star, a star among targets, tuples compared, several except clauses, lambdas handed to a def. -/
namespace Rd
open PySem PySem.Spec PyProof.Rows L2
/-! ### defs with a star; a def's code object -/
def spStar (n : Nat) (sp : Sp) : Sp := fun vs H Q E => ∃ ws rest, vs = ws ++ rest ∧ ws.length = n ∧ rest.length ≤ sizeLine ∧ ∀ p H', H p = Option.none → Same H H' → H' p = some (.tup rest) → sp (ws ++ [V.ref p]) H' Q E
/-- the code of the function at f -/
def codeOf (K : PySem.W.Frag) (f : Addr) : Value := match K.lookup f with
  | some ⟨_, _, .func fd, _⟩ => fd.code
  | _ => .none
section
variable {gd : Bool} {P : Program} {w : World} {K : PySem.W.Frag} {mg : Str → Option Value} {base : Heap} {CX : CXT} {k : Nat} {f : Addr} {x qual : Str} {st : Stmt} {N ps : List Str} {sp : Sp}
theorem FnG.ofR (F : FnR P w K mg base CX k f sp) : FnG gd P w K mg base CX k f sp := fun A outer s H us vs Q E hr => F A outer s H us vs Q E hr.toRoom
theorem HasAt.starX {α : Type} {args : α → List V} {pre : α → Hp → VK → XK → Prop} {pv : Str} (h : HasAt K f x qual st) (S : FnScope N (ps ++ [pv]) (defScope st)) (hCX : StX.CXUp CX)
    (hb : ∀ (kV doc pm : Value) (an : Option Addr) (cdv ct : Value) (us rest : List Value), us.length = ps.length → bindArgs (PySem.W.fnOf x qual (defArgs st) (defBody st) (defScope st) .none kV doc pm an cdv ct) ⟨us ++ rest, []⟩ = (newTuple rest >>= fun t => pure (ps.zip us ++ [(pv, t)])))
    (body : ∀ (cdv : Value) (A : Around) (outer : List Env) (s : Shared) (H : Hp) (Q : VK) (E : XK) (a : α), RoomG false k (A.deeper (PyProof.Rows.envOfC qual (defScope st) s.heap.objs.size f cdv)) → pre a H Q E →
      ∃ t, PSs (cxOf CX P w K mg base N qual (defScope st) f cdv A outer s H E) (defBody st) t ∧ t { nx := fun _ H' => Q .non H', rt := Q } (start N (args a)) H) :
    FnG gd P w K mg base CX (k + 1) f (spStar ps.length (mkSp args pre)) := by
  obtain ⟨fd, F⟩ := h
  obtain ⟨oc, od, dV, kV, doc, pm, an, cdv, ct, osl, e, lk, hcd, hD, hK⟩ := F.ex
  subst e
  rcases hD with ⟨_, e⟩ | ⟨e, _⟩
  · subst e
    refine FnG.ofR (FnR.imp (StX.fn_star (sp := mkSp args pre) lk hcd S hCX (fun us rest hl => hb kV doc pm an cdv ct us rest hl) fun A outer s H vs Q E hr hs => ?_) fun vs H Q E hs => ?_)
    · obtain ⟨a, rfl, ha⟩ := hs
      exact body cdv A outer s H Q E a (RoomG.any hr) ha
    · obtain ⟨ws, rest, e1, e2, e3, e4⟩ := hs
      exact ⟨ws, rest, e1, e2, e3, fun p hp => e4 p _ hp (same_new hp) upd_same⟩
  · exact absurd rfl e
theorem Has.starX {α : Type} {args : α → List V} {pre : α → Hp → VK → XK → Prop} {pv : Str} (h : Has K mg x st) (S : FnScope N (ps ++ [pv]) (defScope st)) (hCX : StX.CXUp CX)
    (hb : ∀ (kV doc pm : Value) (an : Option Addr) (cdv ct : Value) (us rest : List Value), us.length = ps.length → bindArgs (PySem.W.fnOf x x (defArgs st) (defBody st) (defScope st) .none kV doc pm an cdv ct) ⟨us ++ rest, []⟩ = (newTuple rest >>= fun t => pure (ps.zip us ++ [(pv, t)])))
    (body : ∀ (f : Addr) (cdv : Value) (A : Around) (outer : List Env) (s : Shared) (H : Hp) (Q : VK) (E : XK) (a : α), RoomG false k (A.deeper (PyProof.Rows.envOfC x (defScope st) s.heap.objs.size f cdv)) → pre a H Q E →
      ∃ t, PSs (cxOf CX P w K mg base N x (defScope st) f cdv A outer s H E) (defBody st) t ∧ t { nx := fun _ H' => Q .non H', rt := Q } (start N (args a)) H) :
    Fn gd P w K mg base CX (k + 1) x (spStar ps.length (mkSp args pre)) := by
  obtain ⟨f, F, hm, hk⟩ := h
  exact ⟨f, F.starX S hCX hb (body f), hm, hk⟩
/-- the module's def x, its code object known -/
structure HasC (K : PySem.W.Frag) (mg : Str → Option Value) (x : Str) (st : Stmt) (c : Addr) : Prop where
  ex : ∃ f, HasAt K f x x st ∧ mg x = some (.ref f) ∧ PySem.W.keepIn K (.ref f) = true ∧ codeOf K f = .ref c
theorem HasC.fn {α : Type} {args : α → List V} {pre : α → Hp → VK → XK → Prop} {c : Addr} (h : HasC K mg x st c) (S : FnScope N ps (defScope st)) (hl : ∀ a, (args a).length = ps.length)
    (hb : ∀ (kV doc pm : Value) (an : Option Addr) (cdv ct : Value) (us : List Value), us.length = ps.length → bindArgs (PySem.W.fnOf x x (defArgs st) (defBody st) (defScope st) .none kV doc pm an cdv ct) ⟨us, []⟩ = pure (ps.zip us))
    (body : ∀ (f : Addr) (A : Around) (outer : List Env) (s : Shared) (H : Hp) (Q : VK) (E : XK) (a : α), RoomG gd k (A.deeper (PyProof.Rows.envOfC x (defScope st) s.heap.objs.size f (.ref c))) → pre a H Q E →
      ∃ t, PSs (cxOf CX0 P w K mg base N x (defScope st) f (.ref c) A outer s H E).nox (defBody st) t ∧ t { nx := fun _ H' => Q .non H', rt := Q } (start N (args a)) H) :
    Fn gd P w K mg base CX0 (k + 1) x (mkSp args pre) := by
  obtain ⟨f, ⟨fd, F⟩, hm, hk, hc⟩ := h.ex
  refine ⟨f, ?_, hm, hk⟩
  obtain ⟨oc, od, dV, kV, doc, pm, an, cdv, ct, osl, e, lk, hcd, hD, hK⟩ := F.ex
  subst e
  have ec : cdv = .ref c := by
    unfold codeOf at hc
    rw [lk] at hc
    exact hc
  subst ec
  rcases hD with ⟨_, e⟩ | ⟨e, _⟩
  · subst e
    intro A outer s H us vs Q E hr e0 r hsp
    obtain ⟨a, rfl, ha⟩ := hsp
    have hu : us.length = ps.length := by rw [← Vals.length r]; exact hl a
    refine StX.run_bnd lk hcd S hr.toRoom e0 (G := fun xs H2 => xs = args a ∧ H2 = H) (fun A' Ex Q' hq => ?_) fun s2 H2 xs hx hr' => ?_
    · rw [hb kV doc pm an _ ct us hu]
      exact PySem.wpAny_pure (hq s H _ us e0 Un.refl rfl (fun _ _ z => z) r (hl a) ⟨rfl, rfl⟩)
    · obtain ⟨rfl, rfl⟩ := hx
      obtain ⟨t, h1, h2⟩ := body f A outer s2 _ Q E a ⟨hr', hr.gs⟩ ha
      exact ⟨t, h1.nox, h2⟩
  · exact absurd rfl e
/-- nothing is let out -/
theorem passNo {X : Cx} {P : Program} {w : World} (eP : P = X.prog := by rfl) (ew : w = X.w := by rfl) : Passes (L2.CX P w) X E0 := by
  subst eP ew
  exact passes_call (W := fun _ _ _ _ => False) LamX.takes0 fun _ _ _ _ z => z
end
/-! ### a star among targets -/
section
variable {prog : Program} {w : World} {A : Around} {E : Value → Shared → Prop} {s : Shared}
theorem unpack_star {l : Addr} {items : Array Value} {u : Value} {us : List Value} {Q : List Value → Shared → Prop} (ht : IsTup s.heap l items) (hh : A.handled = none) (ei : items.toList = u :: us) (hz : us.length < sizeLine)
    (h : ∀ (h₂ : Heap) (tk : Nat), (∀ b o, s.heap.get? b = some o → h₂.get? b = some o) → Q [u, .ref h₂.objs.size] { s with heap := h₂.push { cls := .type "list", data := .seq us.toArray }, toks := tk }) : wpAny (model prog w) A (unpackItems (.ref l) 2 (some 1)) Q E s := by
  have hsz : items.size = us.length + 1 := by rw [← Array.length_toList, ei]; rfl
  have old : ∀ {b o}, s.heap.get? b = some o → b ≠ s.heap.objs.size := fun e => Nat.ne_of_lt (Heap.lt_size e)
  have hlt : l ≠ s.heap.objs.size := by obtain ⟨o, ho, _⟩ := ht; exact old ho
  unfold unpackItems
  refine wpAny_bind ?_
  unfold notIterableAtAll
  refine wpAny_bind (wpAny_specialOf ht.typeIs slot_tuple_iter.lookup (wpAny_pure ?_))
  simp only [Bool.false_eq_true, if_false]
  refine wpAny_bind (wpAny_holding (iter_tuple ht (wpAny_bind (wpAny_holding (draw_tuple hlt 1 0 _ _ ⟨_, Heap.get?_push_size _ rfl, rfl, rfl⟩ (ht.push _) (by omega) fun h₁ hi₁ hs₁ => ?_)))))
  have ht₁ : IsTup h₁ l items := (ht.push _).extBut hs₁.extBut hlt
  obtain ⟨oi, hoi, _⟩ := id hi₁
  obtain ⟨ol, hol, _⟩ := id ht₁
  rw [List.drop_zero, ei]
  show wpAny _ _ (if ([u] : List Value).length < 1 then _ else _) _ _ _
  rw [if_neg (by simp)]
  refine wpAny_bind (wpAny_holding (PySem.W.kun_collect (s := { s with heap := h₁ }) (T := "tuple_iterator") (k := 1) (.inr (.inr (.inr rfl))) (Walks.tuple (A := A.in1) hh s.heap.objs.size l hlt items) (fun j u st => st.1.typeIs) (by omega) ⟨hi₁, ht₁⟩ (Heap.lt_size hoi) (Heap.lt_size hol) (fun h₂ tk hk => ?_) (by omega)))
  rw [ei]
  show wpAny _ _ (if us.length < 0 then _ else (newList (us.take (us.length - 0)) >>= fun d => pure ([u] ++ [d] ++ us.drop (us.length - 0)))) _ _ _
  rw [if_neg (by omega), Nat.sub_zero, List.take_length, List.drop_length]
  refine wpAny_bind (wpAny_newList (wpAny_pure ?_) (by omega))
  exact h h₂ tk fun b o e => hk b o (old e) (hs₁.extBut b o (old e) (Heap.get?_push_of_some _ e))
end
def gStarT (K : PySem.W.Frag) (t : TGs) : TG := fun v σ H Q => ∃ a x r, v = .ref a ∧ SqT K H a (x :: r) ∧ ∀ D, H D = none → t [x, .ref D] σ (upd H D (.lst r)) Q
theorem pg_starT {X : Cx} {es : List Expr} {k : Nat} {t : TGs} {pos : Pos} (hc : X.calm = true) (h : PGs X es t) (hn : (assignEach es X.env).length = 2 := by rfl) (hst : (assignEach es X.env).findIdx? (·.1) = some 1 := by rfl) : PG X (.Tuple es k pos) (gStarT X.K t) := by
  refine ⟨fun pins s σ H v u Q I r hw => ?_⟩
  obtain ⟨a, x, rs, e1, hq, hw⟩ := hw
  subst e1
  cases r
  obtain ⟨its, rv, ht, hz⟩ := I.tuple hq
  cases rv with
  | @cons _ u _ us rx rr =>
    rw [assign_Tuple]
    refine wpAny_bind (wpAny_standAt ?_)
    unfold unpack
    rw [hn, hst]
    have hz' : us.length < sizeLine := by
      have e := rr.length
      simp at hz
      omega
    refine wpAny_bind (wpAny_holding (unpack_star (u := u) (us := us) ht (I.ok.hd hc) rfl hz' fun h₂ tk hk => ?_))
    have I1 : Inv X pins σ H { s with heap := h₂, toks := tk } := I.kept hk
    have I2 := I1.lnew (t' := tk) rr (by rw [rr.length]; omega)
    exact h.run pins _ σ _ [x, .ref h₂.objs.size] _ Q I2 (.cons rx (.cons (show RelV (.ref h₂.objs.size) (.ref h₂.objs.size) from rfl) .nil)) (hw _ I1.fresh)
theorem pgs_star {X : Cx} {e : Expr} {es : List Expr} {t : TG} {u : TGs} {p : Pos} (h1 : PG X e t) (h2 : PGs X es u) (hs : (assignEach (.Starred e p :: es) X.env).map (·.2) = assign e X.env :: (assignEach es X.env).map (·.2) := by rfl) : PGs X (.Starred e p :: es) (gCons t u) := by
  refine ⟨fun pins s σ H vs us Q I r h => ?_⟩
  obtain ⟨v, vr, rfl, h⟩ := h
  cases r with
  | cons r rr =>
    rw [hs]
    exact assignInOrder_cons (thn (h1.run pins s σ H _ _ _ I r h) fun _ s1 ⟨σ1, H1, I1, q1⟩ => h2.run pins s1 σ1 H1 _ _ Q I1 rr q1)
theorem rd_gStarT {K : PySem.W.Frag} {t : TGs} {a : Addr} {x : V} {r : List V} {σ : L2.St} {H : Hp} {Q : L2.St → Hp → Prop} (h : SqT K H a (x :: r)) (q : ∀ D H', H D = none → Same H H' → H' D = some (.lst r) → t [x, .ref D] σ H' Q) : gStarT K t (.ref a) σ H Q := ⟨a, x, r, rfl, h, fun D hD => q D _ hD (same_new hD) upd_same⟩
/-! ### readings -/
theorem u0 {gd : Bool} {k : Nat} {A : Around} (hr : RoomG gd k A) : A.units < cLine := Nat.lt_of_le_of_lt (Nat.le_add_right _ _) hr.units
section
variable {K : PySem.W.Frag} {σ : L2.St} {H : Hp} {D : Ends} {te : TE} {t : List V → TS} {a : Addr} {xs : List V} {tr : List V → TS} {tb : TS} {gs : TGs} {ta : TA} {i j n : Nat}
theorem if_t {c : Bool} {A B : Prop} (h : c = true) (q : A) : if c = true then A else B := by rw [if_pos h]; exact q
theorem if_f {c : Bool} {A B : Prop} (h : c = false) (q : B) : if c = true then A else B := by rw [if_neg (by rw [h]; decide)]; exact q
def rMt (K : PySem.W.Frag) (t : List V → TS) (D : Ends) (σ : L2.St) (x : V) (H : Hp) : Prop := ∃ a xs, x = .ref a ∧ SqT K H a xs ∧ t xs D σ H
theorem rd_tMatch (q : te σ H fun x H1 => rMt K t D σ x H1) : tMatch K te t D σ H := q
theorem rd_mt (h : SqT K H a xs) (q : t xs D σ H) : rMt K t D σ (.ref a) H := ⟨a, xs, rfl, h, q⟩
theorem rd_case1 (h : xs.length = n) (q : gs xs σ H fun σ' H' => tb D σ' H') : tCaseN n gs tb tr xs D σ H := .inl ⟨h, q⟩
theorem rd_case0 (h : xs.length ≠ n) (q : tr xs D σ H) : tCaseN n gs tb tr xs D σ H := .inr ⟨h, q⟩
def rPar (i j : Nat) (D : Ends) (σ : L2.St) (vs : List V) (H : Hp) : Prop := ∃ v w, vs = [v, w] ∧ D.nx ((σ.set i (some v)).set j (some w)) H
theorem rd_tPar (q : ta σ H fun vs H1 => rPar i j D σ vs H1) : tPar i j ta D σ H := q
theorem rd_par {v w : V} (q : D.nx ((σ.set i (some v)).set j (some w)) H) : rPar i j D σ [v, w] H := ⟨v, w, rfl, q⟩
theorem rd_dnew {Q : VK} (q : ∀ p H', H p = none → Same H H' → H' p = some (.dK []) → Q (.ref p) H') : tDNewK σ H Q := fun p hp => q p _ hp (same_new hp) upd_same
theorem rd_rep {Q : VK} {l : Addr} {k : Int} (h : H l = some (.lst xs)) (h0 : 0 ≤ k) (h1 : k < 1000) (hz : xs.length ≤ 1000) (q : ∀ p H', H p = none → Same H H' → H' p = some (.lst (List.replicate k.toNat xs).flatten) → Q (.ref p) H') : rRep (.ref l) (.int k) H Q := by
  refine ⟨l, k, xs, rfl, rfl, h, by omega, by omega, ?_, fun p hp => q p _ hp (same_new hp) upd_same⟩
  have h2 : k.toNat ≤ 1000 := by omega
  exact Nat.le_trans (Nat.mul_le_mul hz h2) (by decide)
theorem rd_slL {Q : VK} {lo hi : Option Int} (h : SqL K H a xs) (q : ∀ p H', H p = none → Same H H' → H' p = some (.lst (cutV xs lo hi)) → Q (.ref p) H') : rSlL K (.ref a) lo hi H Q := ⟨a, xs, rfl, h, fun p hp => q p _ hp (same_new hp) upd_same⟩
end
/-! ### tuples compared -/
def ltV : V → V → Bool
  | .int a, .int b => decide (a < b)
  | _, _ => false
def lexLt : List V → List V → Bool
  | [], [] => false
  | [], _ :: _ => true
  | _ :: _, [] => false
  | x :: xs, y :: ys => if x = y then lexLt xs ys else ltV x y
/-- two items: both numbers, or the same text -/
def Cmp2 (x y : V) : Prop := (∃ a b, x = .int a ∧ y = .int b) ∨ ∃ z, x = .str z ∧ y = .str z
theorem lex_of : ∀ (xs ys : List V) (i : Nat) (e r : Nat → Bool), (∀ j x y, xs[j]? = some x → ys[j]? = some y → e (i + j) = decide (x = y) ∧ (x ≠ y → r (i + j) = ltV x y)) →
    Ob.lexAt e r (decide (xs.length < ys.length)) i (min xs.length ys.length) = lexLt xs ys
  | [], [], _, _, _, _ => rfl
  | [], _ :: _, _, _, _, _ => by simp [Ob.lexAt_zero, lexLt]
  | _ :: _, [], _, _, _, _ => by simp [Ob.lexAt_zero, lexLt]
  | x :: xs, y :: ys, i, e, r, h => by
    have h0 := h 0 x y rfl rfl
    rw [Nat.add_zero] at h0
    have ih := lex_of xs ys (i + 1) e r fun j x' y' e1 e2 => by
      have := h (j + 1) x' y' e1 e2
      rwa [show i + (j + 1) = i + 1 + j by omega] at this
    have em : min (x :: xs).length (y :: ys).length = min xs.length ys.length + 1 := by simp only [List.length_cons]; omega
    have ed : decide ((x :: xs).length < (y :: ys).length) = decide (xs.length < ys.length) := by simp
    rw [em, Ob.lexAt_succ, ed, h0.1]
    unfold lexLt
    by_cases q : x = y
    · rw [if_pos (by simp [q]), if_pos q]; exact ih
    · rw [if_neg (by simp [q]), if_neg q]; exact h0.2 q
def rLtT (K : PySem.W.Frag) (up : Bool) : R2 := fun x y H Q => ∃ (a b : Addr) (xs ys : List V), x = .ref a ∧ y = .ref b ∧ SqT K H a xs ∧ SqT K H b ys ∧ (∀ (j : Nat) (x y : V), xs[j]? = some x → ys[j]? = some y → Cmp2 x y) ∧ Q (.bl (if up then lexLt ys xs else lexLt xs ys)) H
theorem vals_at : ∀ {xs : List V} {us : List Value}, Vals xs us → ∀ {j : Nat} {x : V} {u : Value}, xs[j]? = some x → us[j]? = some u → RelV x u
  | _, _, .nil, j, x, u, e, _ => by simp at e
  | _, _, .cons r rr, 0, x, u, e1, e2 => by cases e1; cases e2; exact r
  | _, _, .cons r rr, j + 1, x, u, e1, e2 => vals_at rr e1 e2
section
variable {X : Cx}
theorem eqAt_of {A : Around} {s : Shared} {x y : V} {u v : Value} (c : Cmp2 x y) (r1 : RelV x u) (r2 : RelV y v) : SeqAt.EqAt A s u v (decide (x = y)) := by
  rcases c with ⟨a, b, rfl, rfl⟩ | ⟨z, rfl, rfl⟩
  · obtain ⟨t, rfl⟩ := r1
    obtain ⟨t', rfl⟩ := r2
    have z : (a == b) = decide (V.int a = V.int b) := by
      by_cases q : a = b
      · subst q; simp
      · have : V.int a ≠ V.int b := fun e => q (by injection e)
        simp [q]
    rw [← z]
    exact SeqAt.EqAt.int_int _ _ _ _
  · obtain ⟨t, rfl⟩ := r1
    obtain ⟨t', rfl⟩ := r2
    have z' : (z == z) = decide (V.str z = V.str z) := by simp
    rw [← z']
    exact SeqAt.EqAt.str_str _ _ _ _
theorem op_ltT (hu : X.A.units < cLine) : OpR X (compareOp .Lt) (rLtT X.K false) := by
  intro pins s σ H x y v u Q I rx ry h
  obtain ⟨a, b, xs, ys, rfl, rfl, ha, hb, hc, q⟩ := h
  cases rx
  cases ry
  obtain ⟨its, r1, p1, _⟩ := I.tuple ha
  obtain ⟨its2, r2, p2, _⟩ := I.tuple hb
  have l1 := r1.length
  have l2 := r2.length
  let e : Nat → Bool := fun j => decide (xs[j]? = ys[j]?)
  let r : Nat → Bool := fun j => match xs[j]?, ys[j]? with | some x, some y => ltV x y | _, _ => false
  have R := Ob.RcOp.tuples_lt (A := X.A) (s := s) (e := e) (r := r) p1 p2 hu (fun j h1 h2 => by
    simp at h1 h2
    have x1 : j < xs.length := by omega
    have x2 : j < ys.length := by omega
    have e1 := List.getElem?_eq_getElem x1
    have e2 := List.getElem?_eq_getElem x2
    have ee : e j = decide (xs[j] = ys[j]) := by show decide (xs[j]? = ys[j]?) = _; rw [e1, e2]; simp
    rw [ee]
    exact eqAt_of (hc j _ _ e1 e2) (vals_at r1 e1 (by simp [h1])) (vals_at r2 e2 (by simp [h2]))) (fun j h1 h2 hf => by
    simp at h1 h2
    have x1 : j < xs.length := by omega
    have x2 : j < ys.length := by omega
    have e1 := List.getElem?_eq_getElem x1
    have e2 := List.getElem?_eq_getElem x2
    have er : r j = ltV xs[j] ys[j] := by show (match xs[j]?, ys[j]? with | some x, some y => ltV x y | _, _ => false) = _; rw [e1, e2]
    have ne : xs[j] ≠ ys[j] := fun z => by
      have : e j = true := by show decide (xs[j]? = ys[j]?) = true; rw [e1, e2, z]; simp
      rw [this] at hf; cases hf
    rw [er]
    have v1 := vals_at r1 e1 (u := its[j]) (by simp [h1])
    have v2 := vals_at r2 e2 (u := its2[j]) (by simp [h2])
    rcases hc j _ _ e1 e2 with ⟨m, n, z1, z2⟩ | ⟨z, z1, z2⟩
    · rw [z1] at v1; rw [z2] at v2
      obtain ⟨t, t1⟩ := v1
      obtain ⟨t', t2⟩ := v2
      rw [z1, z2]
      simp only [List.getElem_toArray]
      rw [t1, t2]
      exact Ob.RcOp.lt_int _ _ _ _
    · exact absurd (z1.trans z2.symm) ne)
  have lz : Ob.lexAt e r (decide (its.toArray.size < its2.toArray.size)) 0 (min its.toArray.size its2.toArray.size) = lexLt xs ys := by
    rw [List.size_toArray, List.size_toArray, ← l1, ← l2]
    refine lex_of xs ys 0 e r fun j x y e1 e2 => ?_
    rw [Nat.zero_add]
    refine ⟨by show decide (xs[j]? = ys[j]?) = _; rw [e1, e2]; simp, fun _ => ?_⟩
    show (match xs[j]?, ys[j]? with | some x, some y => ltV x y | _, _ => false) = _
    rw [e1, e2]
  rw [lz] at R
  exact R X.prog X.w X.xe (EP X pins σ Q) ⟨.bl _, H, I, rfl, q⟩
theorem op_gtT (hu : X.A.units < cLine) : OpR X (compareOp .Gt) (rLtT X.K true) := by
  intro pins s σ H x y v u Q I rx ry h
  obtain ⟨a, b, xs, ys, rfl, rfl, ha, hb, hc, q⟩ := h
  cases rx
  cases ry
  obtain ⟨its, r1, p1, _⟩ := I.tuple ha
  obtain ⟨its2, r2, p2, _⟩ := I.tuple hb
  have l1 := r1.length
  have l2 := r2.length
  let e : Nat → Bool := fun j => decide (xs[j]? = ys[j]?)
  let r : Nat → Bool := fun j => match xs[j]?, ys[j]? with | some x, some y => ltV y x | _, _ => false
  have R := Ob.RcOp.tuples_gt (A := X.A) (s := s) (e := e) (r := r) p1 p2 hu (fun j h1 h2 => by
    simp at h1 h2
    have x1 : j < xs.length := by omega
    have x2 : j < ys.length := by omega
    have e1 := List.getElem?_eq_getElem x1
    have e2 := List.getElem?_eq_getElem x2
    have ee : e j = decide (xs[j] = ys[j]) := by show decide (xs[j]? = ys[j]?) = _; rw [e1, e2]; simp
    rw [ee]
    exact eqAt_of (hc j _ _ e1 e2) (vals_at r1 e1 (by simp [h1])) (vals_at r2 e2 (by simp [h2]))) (fun j h1 h2 hf => by
    simp at h1 h2
    have x1 : j < xs.length := by omega
    have x2 : j < ys.length := by omega
    have e1 := List.getElem?_eq_getElem x1
    have e2 := List.getElem?_eq_getElem x2
    have er : r j = ltV ys[j] xs[j] := by show (match xs[j]?, ys[j]? with | some x, some y => ltV y x | _, _ => false) = _; rw [e1, e2]
    have ne : xs[j] ≠ ys[j] := fun z => by
      have : e j = true := by show decide (xs[j]? = ys[j]?) = true; rw [e1, e2, z]; simp
      rw [this] at hf; cases hf
    rw [er]
    have v1 := vals_at r1 e1 (u := its[j]) (by simp [h1])
    have v2 := vals_at r2 e2 (u := its2[j]) (by simp [h2])
    rcases hc j _ _ e1 e2 with ⟨m, n, z1, z2⟩ | ⟨z, z1, z2⟩
    · rw [z1] at v1; rw [z2] at v2
      obtain ⟨t, t1⟩ := v1
      obtain ⟨t', t2⟩ := v2
      rw [z1, z2]
      simp only [List.getElem_toArray]
      rw [t1, t2]
      exact Ob.RcOp.gt_int _ _ _ _
    · exact absurd (z1.trans z2.symm) ne)
  have lz : Ob.lexAt e r (decide (its.toArray.size > its2.toArray.size)) 0 (min its.toArray.size its2.toArray.size) = lexLt ys xs := by
    rw [List.size_toArray, List.size_toArray, ← l1, ← l2, Nat.min_comm]
    refine lex_of ys xs 0 e r fun j x y e1 e2 => ?_
    rw [Nat.zero_add]
    refine ⟨?_, fun _ => ?_⟩
    · show decide (xs[j]? = ys[j]?) = _
      rw [e1, e2]
      by_cases q : x = y
      · simp [q]
      · have q' : ¬ y = x := fun z => q z.symm
        simp [q, q']
    · show (match xs[j]?, ys[j]? with | some x, some y => ltV y x | _, _ => false) = _
      rw [e1, e2]
  rw [lz] at R
  exact R X.prog X.w X.xe (EP X pins σ Q) ⟨.bl _, H, I, rfl, q⟩
end
theorem rd_ltT {K : PySem.W.Frag} {H : Hp} {Q : VK} {a b : Addr} {xs ys : List V} (ha : SqT K H a xs) (hb : SqT K H b ys) (hc : ∀ (j : Nat) (x y : V), xs[j]? = some x → ys[j]? = some y → Cmp2 x y) (q : Q (.bl (lexLt xs ys)) H) : rLtT K false (.ref a) (.ref b) H Q := ⟨a, b, xs, ys, rfl, rfl, ha, hb, hc, q⟩
theorem rd_gtT {K : PySem.W.Frag} {H : Hp} {Q : VK} {a b : Addr} {xs ys : List V} (ha : SqT K H a xs) (hb : SqT K H b ys) (hc : ∀ (j : Nat) (x y : V), xs[j]? = some x → ys[j]? = some y → Cmp2 x y) (q : Q (.bl (lexLt ys xs)) H) : rLtT K true (.ref a) (.ref b) H Q := ⟨a, b, xs, ys, rfl, rfl, ha, hb, hc, q⟩
end Rd
set_option Elab.async false
set_option linter.all false
set_option maxRecDepth 100000
set_option maxHeartbeats 4000000
/-! Ro: except clauses up to the one that takes, a def that tells the error of a lambda, the end with tables of code objects. -/
namespace Rd
open PySem PySem.Spec PyProof.Rows L2
/-! ### except clauses: those behind the last one that is told are never looked at -/
inductive HdsTo (X : Cx) : List ExceptHandler → List (Value × (Addr → Value → Option Addr → TS)) → Prop
  | rest {hds : List ExceptHandler} : HdsTo X hds []
  | next {x : Str} {c : Value} {ts : Addr → Value → Option Addr → TS} {b₀ : Stmt} {suite : List Stmt} {np hp : Pos} {hds : List ExceptHandler} {l : List (Value × (Addr → Value → Option Addr → TS))} (hc : Names X x c)
      (su : ∀ (a : Addr) (oe : Obj) (cls : Value) (d : Option Addr) (pn : List (Addr × Obj)), PSs (X.suite a ((a, oe) :: pn)) (b₀ :: suite) (ts a cls d)) (r : HdsTo X hds l) :
      HdsTo X (.ExceptHandler (some (.Name x np)) none (b₀ :: suite) hp :: hds) ((c, ts) :: l)
abbrev wTo (K : PySem.W.Frag) (D : Ends) (l : List (Value × (Addr → Value → Option Addr → TS))) : WX := wMany K (fun _ _ _ _ => False) D l
section
variable {X : Cx} {body : List Stmt} {h₀ : ExceptHandler} {hds : List ExceptHandler} {l : List (Value × (Addr → Value → Option Addr → TS))} {pos : Pos} {tb : WX → TS}
theorem ps_tryTo (hs : X.stack = X.env :: X.outer) (hf : X.env.frame = some X.env.locals)
    (hb : ∀ (W : WX) (pn : List (Addr × Obj)) (xe : Value → Shared → Prop), Takes (X.tr pn xe) W → PSs (X.tr pn xe) body (tb W)) (hh : HdsTo X (h₀ :: hds) l) :
    PS X (.Try body (h₀ :: hds) [] [] pos) (fun D σ H => tb (wTo X.K D l) D σ H) := by
  refine ⟨fun pins s σ H D I h => ?_⟩
  have ok := I.ok
  have frames : X.A.frames = some (X.env :: X.outer) := by rw [ok.frames, hs]
  -- what the clauses do with e
  let go : Value → Shared → Prop := fun e z => wpAny (model X.prog X.w) X.A (noteFrame e X.env) (fun _ z₂ => wpAny (model X.prog X.w) X.A (setFlight e none) (fun _ z₃ => wpAny (model X.prog X.w) X.A (handleBy e X.env (h₀ :: hds)) (SP X pins D) X.xe z₃) X.xe z₂) X.xe z
  have tk : Takes (X.tr (X.pn ++ pins) go) (wTo X.K D l) := by
    intro u s' xx
    obtain ⟨a, B, sI, pins', σ', H', cls, d, rfl, J', nb, up, sky, na, os, ag, wish⟩ := xx
    have J : Inv X pins σ' H' sI := J'.ofTry ok
    refine Sky.land Zc.steady frames hf (show Sky B (X.env :: X.outer) a (Zc cls d) X.env.locals s'.heap by rw [← hs]; exact sky) fun h3 fl3 up3 => ?_
    have J3 : Inv X pins σ' H' { s' with heap := h3 } := J.landed nb fl3.1 (up.trans up3) os ag
    obtain ⟨oe3, vs3, he3, hz3, hd3⟩ := fl3.there
    have nfr : a ∉ frs (X.env :: X.outer) := fun hm => by
      obtain ⟨_, o', e', hnf⟩ := fl3.2.2.1.mem hm
      obtain rfl : oe3 = o' := Option.some.inj (he3.symm.trans e')
      exact hnf _ hd3
    have nL : a ≠ X.env.locals := fun z => nfr (List.mem_filterMap.mpr ⟨X.env, List.mem_cons_self, by rw [hf, z]⟩)
    have nF : a ∉ X.fs := fun hm => by
      obtain ⟨e, he, q⟩ := List.mem_filterMap.mp hm
      exact nfr (List.mem_filterMap.mpr ⟨e, List.mem_cons_of_mem _ he, q⟩)
    have S3 := J3.suite he3 hd3 na nL nF
    suffices all : ∀ {hds' : List ExceptHandler} {l' : List (Value × (Addr → Value → Option Addr → TS))}, HdsTo X hds' l' → wTo X.K D l' cls d σ' H' → wpAny (model X.prog X.w) X.A (handleBy (.ref a) X.env hds') (SP X pins D) X.xe { s' with heap := h3 } from all hh wish
    intro hds' l' hk
    induction hk with
    | rest => intro z; exact False.elim z
    | @next x c ts b₀ suite np hp hds2 l2 hc su r ih =>
      rintro ⟨b, hb1, yes, no⟩
      refine wpAny_handleBy_cons (codeAny_handlers_test ?_) (by intro q; cases q)
      have isC : PySem.W.Looks (model X.prog X.w) h3 (typeOf (.ref a)) cls := fun A Q E s k q => wpAny_typeOf_ref (k _ _ he3) (by rw [hz3.1]; exact q)
      have isM := PySem.W.exm_one (M := model X.prog X.w) J3.kIn isC hb1
      have name : ∀ {Q : Value → Shared → Prop} {E : Value → Shared → Prop}, Q c { s' with heap := h3 } → wpAny (model X.prog X.w) (X.A.mark (some (.ref a))) (eval (.Name x np) X.env) Q E { s' with heap := h3 } := by
        intro Q E q
        obtain ⟨hg, hdbg, hm | ⟨hm, hv, hnn⟩⟩ := hc
        · exact ld_glob (X := X.suite a ((a, oe3) :: (X.pn ++ pins))) S3 hg hm q hdbg
        · exact ld_blt (X := X.suite a ((a, oe3) :: (X.pn ++ pins))) S3 hg hm hv q hnn hdbg
      refine name (isM.here ?_)
      cases b with
      | false => exact ih (no rfl)
      | true =>
        refine codeAny_handlers_suite (HandSPX.lands_againZ fl3 fun h4 fl4 up4 => ?_)
        have J4 : Inv X pins σ' H' { s' with heap := h4 } := J.landed nb fl4.1 ((up.trans up3).trans up4) os ag
        obtain ⟨oe4, vs4, he4, hz4, hd4⟩ := fl4.there
        refine wpAny_mono ((su a oe4 cls d (X.pn ++ pins)).run [] _ _ H' _ (J4.suite he4 hd4 na nL nF) (yes rfl a na)) (fun f s6 hsp => ?_) (fun _ _ z => False.elim z)
        match f, hsp with
        | .next, ⟨σ6, H6, S6, q6⟩ => exact ⟨σ6, H6, S6.unsuite ok, q6⟩
        | .brk, ⟨σ6, H6, S6, q6⟩ => exact ⟨σ6, H6, S6.unsuite ok, q6⟩
        | .cont, ⟨σ6, H6, S6, q6⟩ => exact ⟨σ6, H6, S6.unsuite ok, q6⟩
        | .ret u, ⟨v6, σ6, H6, S6, r6, q6⟩ => exact ⟨v6, σ6, H6, S6.unsuite ok, r6, q6⟩
  refine wpAny_Try_except (wpAny_mono ((hb (wTo X.K D l) (X.pn ++ pins) go tk).run [] s σ H D (I.toTry _) h) (fun f s1 hsp => ?_) (fun e s1 he => he))
  match f, hsp with
  | .next, ⟨σ', H', J', q⟩ => exact wpAny_execs_nil ⟨σ', H', J'.ofTry ok, q⟩
  | .brk, ⟨σ', H', J', q⟩ => exact ⟨σ', H', J'.ofTry ok, q⟩
  | .cont, ⟨σ', H', J', q⟩ => exact ⟨σ', H', J'.ofTry ok, q⟩
  | .ret u, ⟨v, σ', H', J', r, q⟩ => exact ⟨v, σ', H', J'.ofTry ok, r, q⟩
end
/-! ### a def that tells the error of what it got -/
/-- told: try: a() / except C1: return r1 / except C2: return r2 / .. / return r0, of a call that lets out nothing but a C2 that is no C1 -/
def TErr (C2 : Value) (r2 r0 : Str) : (XK → Hp → VK → Prop) → Hp → VK → Prop := fun tl H Q => tl (fun cls _ H' => cls = C2 ∧ Q (.str r2) H') H fun _ H' => Q (.str r0) H'
section
variable {X : Cx}
theorem err_gives {Ng : List Str} {x a e1 e2 q r0 r1 r2 : Str} {sg : Scope} {g : Addr} {C1 C2 cdg : Value} {j1 j2 j0 : Nat} {hds : List ExceptHandler} {p1 p2 p3 p4 p5 p6 p7 p8 p9 p10 p11 p12 p13 p14 : Pos} (g1 : sg.names.lookup e1 = some .globalImplicit) (g2 : sg.names.lookup e2 = some .globalImplicit) (m1 : X.mg e1 = some C1) (m2 : X.mg e2 = some C2)
    (d1 : (e1 == ("__debug__" : Str)) = false) (d2 : (e2 == ("__debug__" : Str)) = false) (x1 : PySem.W.exmOne X.K C2 C1 = some false) (x2 : PySem.W.exmOne X.K C2 C2 = some true) (h0 : ∀ f : Addr, (L2.start Ng [V.ref f])[0]? = some (some (V.ref f))) :
    LamX.GivesTo X Ng x sg g cdg [.Try [.Expr (.Call (.Name a p1) [] [] p2) p3] (.ExceptHandler (some (.Name e1 p4)) none [.Return (some (.Constant (.str r1) j1 p5)) p6] p7 :: .ExceptHandler (some (.Name e2 p8)) none [.Return (some (.Constant (.str r2) j2 p9)) p10] p11 :: hds) [] [] p12, .Return (some (.Constant (.str r0) j0 p13)) p14] a q (TErr C2 r2 r0) := by
  intro f c' s H Q tl act hc h
  have l1 : Gl (cxOf C8.CX0 X.prog X.w X.K X.mg X.base Ng x sg g cdg X.A X.stack s H C8.E0).nox e1 := g1
  have l2 : Gl (cxOf C8.CX0 X.prog X.w X.K X.mg X.base Ng x sg g cdg X.A X.stack s H C8.E0).nox e2 := g2
  refine ⟨_, pss_cons (ps_tryTo (X := (cxOf C8.CX0 X.prog X.w X.K X.mg X.base Ng x sg g cdg X.A X.stack s H C8.E0).nox) (l := [(C1, fun _ _ _ => tRet (tC (.str r1))), (C2, fun _ _ _ => tRet (tC (.str r2)))])
      (tb := fun W D σ H => ∃ Ech : XK, (∀ cls d σ' H', Ech cls d H' → W cls d σ' H') ∧ σ[0]? = some (some (.ref f)) ∧ H c' = some (LamX.CodeO c' q) ∧ tl Ech H fun _ H' => D.nx σ H')
      rfl rfl (fun W pn xe tk => ?_) (.next ⟨l1, d1, .inl m1⟩ (fun a oe cls d pn => pss_one (ps_ret pe_str)) (.next ⟨l2, d2, .inl m2⟩ (fun a oe cls d pn => pss_one (ps_ret pe_str)) .rest))) (pss_one (ps_ret pe_str)), ?_⟩
  · refine ⟨fun pins s' σ H' D I h' => ?_⟩
    obtain ⟨Ech, hW, h1, h2, h3⟩ := h'
    exact (pss_one (ps_expr (pos := p3) (act W pn xe Ech p1 p2 tk hW))).run pins s' σ H' D I ⟨h1, h2, h3⟩
  · refine ⟨fun cls _ H' => cls = C2 ∧ Q (.str r2) H', fun cls d σ' H' ⟨ec, hq⟩ => ?_, h0 f, hc, h⟩
    subst ec
    exact ⟨false, x1, (fun z => nomatch z), fun _ => ⟨true, x2, fun _ _ _ => hq, fun z => nomatch z⟩⟩
end
theorem rd_lam {T : List (Addr × Str)} {TT : (XK → Hp → VK → Prop) → Hp → VK → Prop} {t : XK → TE} {σ : L2.St} {H : Hp} {Q : VK} (hT : LamX.Tabs T H) (q : ∀ H1, LamX.ExtN H H1 → LamX.Tabs T H1 → TT (fun E H' Q' => t E σ H' Q') H1 Q) : LamX.tLam T TT t σ H Q := ⟨hT, q⟩
theorem rd_err {T : List (Addr × Str)} {C2 : Value} {r2 r0 : Str} {t : XK → TE} {σ : L2.St} {H : Hp} {Q : VK} (hT : LamX.Tabs T H) (q : ∀ H1, LamX.ExtN H H1 → LamX.Tabs T H1 → t (fun cls _ H' => cls = C2 ∧ Q (.str r2) H') σ H1 fun _ H' => Q (.str r0) H') : LamX.tLam T (TErr C2 r2 r0) t σ H Q := ⟨hT, q⟩
/-! ### tables stay -/
theorem tabs_same {T : List (Addr × Str)} {H H' : Hp} (h : LamX.Tabs T H) (s : Same H H') : LamX.Tabs T H' := h.ext s
theorem extN_same {H H' : Hp} (s : Same H H') : LamX.ExtN H H' := LamX.ExtN.of s
theorem sqT_N {K : PySem.W.Frag} {H H' : Hp} {a : Addr} {xs : List V} (e : LamX.ExtN H H') (h : SqT K H a xs) : SqT K H' a xs := by
  rcases h with (h | ⟨o, h⟩) | h
  · exact .inl (.inl (e _ _ h fun ps z => by cases z))
  · exact .inl (.inr ⟨o, e _ _ h fun ps z => by cases z⟩)
  · exact .inr h
theorem sqL_N {K : PySem.W.Frag} {H H' : Hp} {a : Addr} {xs : List V} (e : LamX.ExtN H H') (h : SqL K H a xs) : SqL K H' a xs := by
  rcases h with (h | ⟨o, h⟩) | h
  · exact .inl (.inl (e _ _ h fun ps z => by cases z))
  · exact .inl (.inr ⟨o, e _ _ h fun ps z => by cases z⟩)
  · exact .inr h
/-- a list of one's own is written -/
theorem tabs_keep {T : List (Addr × Str)} {H H' : Hp} {p : Addr} {xs : List V} (h : LamX.Tabs T H) (hp : H p = some (.lst xs)) (k : ∀ b o, b ≠ p → H b = some o → H' b = some o) : LamX.Tabs T H' := by
  intro z hz
  obtain ⟨ps, h1, h2, h3⟩ := h z hz
  refine ⟨ps, k _ _ (ne_of h1 hp (by intro q; cases q)) h1, h2, fun pos cv hc => ?_⟩
  obtain ⟨c, e1, e2⟩ := h3 pos cv hc
  exact ⟨c, e1, k _ _ (ne_of e2 hp (by unfold LamX.CodeO; intro q; cases q)) e2⟩
/-! ### the end -/
section
variable {P : Program} {w : World} {K : PySem.W.Frag} {mg mb : Str → Option Value} {CX : CXT} {k : Nat} {fa a : Addr} {sp : Sp} {s₁ : Shared} {vs : List Value} {ns : List Int} {cs : List (Addr × Addr)}
abbrev tab0 : Obj := { cls := .none, data := .fields #[] }
/-- the law is called; its script at a and the tables of code objects, all empty, may be tracked -/
theorem law_atT (H : Hp) (KX : K.In s₁.heap) (hns : s₁.heap.Ns mainGlobals mg) (hb : s₁.heap.Ns builtinsNs mb) (hbb : ∀ x : Str, x ≠ "__name__" → mb x = bootBuiltins x) (hlim : s₁.heap.NoLimit) (hg : s₁.gens = #[])
    (hT : ∀ p ∈ cs, s₁.heap.get? p.2 = some tab0 ∧ K.lookup p.2 = none ∧ PySem.W.CodeHd s₁.heap p.1 p.2)
    (hbm : ∃ (bm : Addr) (ob : Obj), mg "__builtins__" = some (.ref bm) ∧ bm ≠ builtinsNs ∧ s₁.heap.get? bm = some ob ∧ ob.cls = .type "module" ∧ ob.dict = some builtinsNs ∧ ob.data = .plain)
    (ha : s₁.heap.get? a = some { cls := .type "list", data := .seq vs.toArray }) (hr : RoomG true k callerA) (F : ∀ base : Heap, (∀ p ∈ cs, LamX.TabB base mg p.1 p.2) → FnG true P w K mg base CX k fa sp) (hok : HOk P w H s₁.heap)
    (only : ∀ b, H b ≠ none → (b = a ∧ K.lookup a = none ∧ ∃ o xs, H b = some (.frz o (.lst xs))) ∨ (∃ p ∈ cs, b = p.2 ∧ H b = some (.tbl #[]))) (hsp : sp [.ref a] H (fun v _ => v = .bl true) fun _ _ _ => False) (hCX : ∀ e s', ¬ CX [] H s₁ (fun _ _ _ => False) e s') :
    codeAny (model P w) callerA (.call (.ref fa) ⟨[.ref a], []⟩) (fun r s' => r = .ok (.ret (.bool true)) ∧ OldK s₁.heap s'.heap ∧ s'.os = s₁.os ∧ AllBare s'.gens) s₁ := by
  -- what is neither a list nor an empty record is not tracked
  have free : ∀ {b o}, s₁.heap.get? b = some o → (∀ us n, o.data ≠ .seq us n) → o.data ≠ .fields #[] → H b = none := by
    intro b o e d1 d2
    refine Classical.byContradiction fun n => ?_
    rcases only b n with ⟨rfl, _⟩ | ⟨p, hp, rfl, _⟩
    · obtain rfl := Option.some.inj (ha.symm.trans e)
      exact d1 _ _ rfl
    · obtain rfl := Option.some.inj ((hT p hp).1.symm.trans e)
      exact d2 rfl
  have names : ∀ {b m}, s₁.heap.Ns b m → (hidT s₁.heap H).Ns b m := by
    rintro b m ⟨o, es, ep, e, d, r⟩
    exact ⟨o, es, ep, hidT_get e (free e (fun us n z => nomatch d.symm.trans z) fun z => nomatch d.symm.trans z), d, r⟩
  have kin : K.In (hidT s₁.heap H) := by
    intro b o e
    refine hidT_get (KX b o e) (Classical.byContradiction fun n => ?_)
    rcases only b n with ⟨rfl, hk, _⟩ | ⟨p, hp, rfl, _⟩
    · exact nomatch hk.symm.trans e
    · exact nomatch (hT p hp).2.1.symm.trans e
  obtain ⟨mc, lim1, lim2⟩ := hlim
  have md : Mod K mg (hidT s₁.heap H) := ⟨kin, names hns, ⟨mb, names hb, hbb⟩, mc, names lim1, lim2⟩
  have env : Env0 P w K mg (hidT s₁.heap H) callerA [] s₁ H :=
    { frames := rfl, mod := md, bs := fun b o e => of_hidT e, bsz := Nat.le_of_eq (hidT_size _ _), funs := trivial, frf := fun b hb => absurd (show b ∈ ([] : List Addr) from hb) (by simp), hok := hok, bare := .of_eq hg }
  have TB : ∀ p ∈ cs, LamX.TabB (hidT s₁.heap H) mg p.1 p.2 := by
    intro p hp
    obtain ⟨t1, t2, o, us, file, tf, flags, tg, inF, text, tt, e1, r1, r2, rs⟩ := hT p hp
    obtain ⟨bm, ob, b1, b2, b3, b4, b5, b6⟩ := hbm
    refine ⟨⟨o, us, file, tf, flags, tg, inF, text, tt, hidT_get e1 (free e1 (fun us n z => nomatch r2.symm.trans z) fun z => ?_), r1, r2, rs⟩, ⟨bm, ob, b1, b2, fun q => ?_, fun q => ?_, hidT_get b3 (free b3 (fun us n z => nomatch b6.symm.trans z) fun z => nomatch b6.symm.trans z), b4, b5, b6⟩, fun z => ?_⟩
    · have z' : us = #[] := by have := r2.symm.trans z; injection this
      have r3 := rs.1
      rw [z'] at r3
      simp at r3
    · obtain ⟨o', es, ep, e, d, _⟩ := hns
      rw [← q] at e
      obtain rfl := Option.some.inj (b3.symm.trans e)
      exact nomatch b6.symm.trans d
    · rw [← q] at t1
      obtain rfl := Option.some.inj (b3.symm.trans t1)
      exact nomatch b6
    · obtain ⟨o', es, ep, e, d, _⟩ := hns
      rw [z] at e
      obtain rfl := Option.some.inj (t1.symm.trans e)
      exact nomatch d
  refine codeAny_mono (F _ TB callerA [] s₁ H [.ref a] [.ref a] _ _ hr env (.cons rfl .nil) hsp) fun r s' h => ?_
  match r, h with
  | .error e, h => exact (hCX e s' h).elim
  | .ok .next, h => exact False.elim h
  | .ok .brk, h => exact False.elim h
  | .ok .cont, h => exact False.elim h
  | .ok (.ret u), h =>
    obtain ⟨v, H', os, bare, un, hok', rv, q⟩ := h
    have qv : v = .bl true := q
    rw [qv] at rv
    obtain rfl : u = Value.bool true := rv
    -- each object: it stays, or it is a table that has grown
    have each : ∀ b o, s₁.heap.get? b = some o → s'.heap.get? b = some o ∨ ∃ p ∈ cs, b = p.2 ∧ ∃ more, s'.heap.get? b = some { cls := .none, data := .fields more } := by
      intro b o e
      by_cases n : H b = none
      · exact .inl (un.keep b o e n (fun z => absurd (show b ∈ ([] : List Addr) from z) (by simp)) (by simp))
      · rcases only b n with ⟨_, _, ob, xs, z⟩ | ⟨p, hp, e2, z⟩
        · obtain ⟨e1, _⟩ := hok b _ z
          obtain ⟨e3, _⟩ := hok' b _ (un.frzs b ob _ z)
          rw [e] at e1
          injection e1 with e1
          rw [e1]
          exact .inl e3
        · obtain ⟨more, z2⟩ := un.tbls b #[] z
          exact .inr ⟨p, hp, e2, _, hok' b _ z2⟩
    refine ⟨rfl, ⟨fun b o e => ?_, fun b o e => ?_⟩, os, bare⟩
    · rcases each b o e with z | ⟨p, hp, e2, more, z⟩
      · exact .inl z
      · obtain ⟨t1, _, C⟩ := hT p hp
        subst e2
        obtain rfl := Option.some.inj (t1.symm.trans e)
        exact .inr (.inl ⟨(C.tab t1).isCodeTable, rfl, #[], more, rfl, by rw [Array.empty_append]; exact z⟩)
    · rcases each b o e with z | ⟨_, _, _, _, z⟩
      · exact ⟨_, z⟩
      · exact ⟨_, z⟩
end
theorem walk_ofT {l : PySem.W.OpenLaw} {n k : Nat} {q : Program} {loose : List Str} {XP : (Str → Option Value) → Heap → Prop} {YP : World → Heap → Prop} {d : DefRec} (hn : l.most = some n) (hn2 : n ≤ sizeLine) (hdf : d.params.defaults = []) (hr : RoomG true k callerA)
    (F : ∀ (w : World) (mg : Str → Option Value) (fa : Addr) (h : Heap), YP w h → h.Ns mainGlobals mg → mg d.name = some (.ref fa) → ∃ (K : PySem.W.Frag) (cs : List (Addr × Addr)) (sp : Sp), K.In h ∧
      (∀ p ∈ cs, h.get? p.2 = some tab0 ∧ K.lookup p.2 = none ∧ PySem.W.CodeHd h p.1 p.2) ∧
      (∀ (H : Hp) (a : Addr) (ns : List Int), ns.length ≤ n → (∀ p ∈ cs, H p.2 = some (.tbl #[])) → SqL K H a (ns.map V.int) → sp [.ref a] H (fun v _ => v = .bl true) fun _ _ _ => False) ∧
      ∀ base : Heap, (∀ p ∈ cs, LamX.TabB base mg p.1 p.2) → FnG true l.prog w K mg base CX0 k fa sp) :
    PySem.W.WalkO q loose XP YP l.row.toRowW d [] (fun f vs => PySem.call f vs) := by
  refine Att.attach_call hn hdf fun w s₀ s₁ mg mb fa o pm cd doc a vs ns G Y ho hd hcd hmg hobj hints hlen hg => ?_
  obtain ⟨K, cs, sp, KX, hT, hsp, hF⟩ := F w mg fa _ Y G.T.g hmg
  have rv := vals_ints hints
  have hl : (ns.map V.int).length ≤ sizeLine := by rw [List.length_map]; exact Nat.le_trans hlen hn2
  have aT : ∀ p ∈ cs, p.2 ≠ a := fun p hp z => by
    have t := (hT p hp).1
    rw [z] at t
    exact nomatch congrArg Obj.data (Option.some.inj (hobj.symm.trans t))
  cases hk : K.lookup a with
  | some o =>
    have e := (KX a o hk).symm.trans hobj
    injection e with e
    subst e
    let H : Hp := fun b => if b ∈ cs.map (·.2) then some (.tbl #[]) else none
    have hA : ∀ p ∈ cs, H p.2 = some (.tbl #[]) := fun p hp => if_pos (List.mem_map.mpr ⟨p, hp, rfl⟩)
    have hN : ∀ {b}, b ∉ cs.map (·.2) → H b = none := fun h => if_neg h
    refine law_atT H KX G.T.g G.T.b G.T.builtins G.T.nolimit hg hT G.T.bmain hobj hr hF (fun b u z => ?_) (fun b z => ?_)
      (hsp _ a ns hlen hA (.inr ⟨_, vs.toArray, _, hk, rfl, rfl, rfl, by rw [List.size_toArray, hints.length]; exact Nat.le_trans hlen hn2, by simpa using rv⟩)) fun e s' z => z
    · by_cases hb : b ∈ cs.map (·.2)
      · obtain ⟨p, hp, rfl⟩ := List.mem_map.mp hb
        obtain rfl := Option.some.inj ((hA p hp).symm.trans z)
        exact (hT p hp).1
      · exact nomatch (hN hb).symm.trans z
    · by_cases hb : b ∈ cs.map (·.2)
      · obtain ⟨p, hp, rfl⟩ := List.mem_map.mp hb
        exact .inr ⟨p, hp, rfl, hA p hp⟩
      · exact absurd (hN hb) z
  | none =>
    let H : Hp := fun b => if b = a then some (.frz { cls := .type "list", data := .seq vs.toArray } (.lst (ns.map V.int))) else if b ∈ cs.map (·.2) then some (.tbl #[]) else none
    have hA : H a = some (.frz { cls := .type "list", data := .seq vs.toArray } (.lst (ns.map V.int))) := if_pos rfl
    have hC : ∀ p ∈ cs, H p.2 = some (.tbl #[]) := fun p hp => (if_neg (aT p hp)).trans (if_pos (List.mem_map.mpr ⟨p, hp, rfl⟩))
    have hN : ∀ {b}, b ≠ a → b ∉ cs.map (·.2) → H b = none := fun h h' => (if_neg h).trans (if_neg h')
    refine law_atT H KX G.T.g G.T.b G.T.builtins G.T.nolimit hg hT G.T.bmain hobj hr hF (fun b u z => ?_) (fun b z => ?_) (hsp H a ns hlen hC (.inl (.inr ⟨_, hA⟩))) fun e s' z => z
    · by_cases hb : b = a
      · subst hb
        obtain rfl := Option.some.inj (hA.symm.trans z)
        exact ⟨hobj, hl, vs, _, rv, hobj⟩
      · by_cases hc : b ∈ cs.map (·.2)
        · obtain ⟨p, hp, rfl⟩ := List.mem_map.mp hc
          obtain rfl := Option.some.inj ((hC p hp).symm.trans z)
          exact (hT p hp).1
        · exact nomatch (hN hb hc).symm.trans z
    · by_cases hb : b = a
      · subst hb
        exact .inl ⟨rfl, hk, _, _, hA⟩
      · by_cases hc : b ∈ cs.map (·.2)
        · obtain ⟨p, hp, rfl⟩ := List.mem_map.mp hc
          exact .inr ⟨p, hp, rfl, hC p hp⟩
        · exact absurd (hN hb hc) z
end Rd
set_option Elab.async false
set_option linter.all false
set_option maxRecDepth 100000
set_option maxHeartbeats 4000000
namespace M
open PySem L2
local macro_rules | `(tactic| walk_at "rdc") => `(tactic| first | exact Or.inl ⟨by decide, by decide⟩ | exact Or.inr ⟨by decide, by decide⟩ | exact ⟨by decide, by decide, by decide⟩ | exact ⟨by decide, by decide⟩ | decide | omega | assumption | (refine Or.inl ⟨?_, ?_⟩ <;> omega) | (refine Or.inr ⟨?_, ?_⟩ <;> omega) | (refine ⟨?_, ?_⟩ <;> omega))
local macro_rules | `(tactic| walk_at "rd1") => `(tactic| with_reducible first
  | refine Rd.rd_seq ?_ | refine Rd.rd_asg ?_ | refine Rd.rd_op ?_ | (refine' Rd.rd_var ?vh ?_; (case vh => with_unfolding_all rfl)) | refine Rd.rd_c ?_ | refine Rd.rd_I0 ?_ | refine Rd.rd_name0 ?_ | refine Rd.rd_nameS ?_ | refine Rd.rd_fn ?_
  | refine Rd.rd_cb ?_ | refine Rd.rd_cons ?_ | refine Rd.rd_nil ?_ | refine Rd.rd_int ?_ | refine Rd.rd_intB ?_ | refine Rd.rd_abs ?_ | refine Rd.rd_max2 ?_ | refine Rd.rd_min2 ?_
  | refine Rd.rd_call ?_ | refine Rd.rd_ifE ?_ | refine Rd.rd_test ?_ | refine Rd.rd_tB ?_ | refine Rd.rd_blV ?_ | refine Rd.rd_and ?_ | refine Rd.rd_or ?_ | refine Rd.rd_not ?_
  | refine Rd.rd_andV ?_ | refine Rd.rd_orV ?_ | refine Rd.rd_notV ?_ | refine Rd.rd_next ?_ | refine Rd.rd_ret ?_ | refine Rd.rd_drop ?_ | refine Rd.rd_ifS ?_ | refine Rd.rd_nx ?_ | refine Rd.rd_rt ?_ | refine Rd.rd_tMatch ?_ | refine Rd.rd_tPar ?_ | refine Rd.rd_par ?_ | refine Rd.rd_sl ?_ | refine Rd.rd_noPart ?_ | refine Rd.rd_part ?_ | refine Rd.rd_intV ?_ | refine Rd.rd_lc ?_ | (refine' Rd.rd_aug ?vh ?_; (case vh => with_unfolding_all rfl)) | refine Rd.rd_ipI ?_ | refine Rd.rd_for ?_ | (refine' Rd.rd_IT ?ln ?_; (case ln => with_unfolding_all walk_at "at")) | (refine' Rd.rd_IL ?ln ?_; (case ln => with_unfolding_all walk_at "at")) | refine Rd.rd_iTup ?_ | refine Rd.rd_iList ?_ | refine Rd.rd_iRng1 ?_ | refine Rd.rd_iRng2 ?_ | refine Rd.rd_isi (Rd.isi_int Rd.kk_int_int) ?_ | refine Rd.rd_isi (Rd.isi_int Rd.kk_int_bool) ?_ | refine Rd.rd_methR ?_ | refine Rd.rd_cmeth ?_ | refine Rd.rd_fldS ?_ | refine Rd.rd_fld ?_ | (refine' Rd.rd_mkVS ?vh ?_; (case vh => with_unfolding_all rfl)) | (refine' Rd.rd_starT ?ln ?_; (case ln => with_unfolding_all walk_at "at")) | refine Rd.rd_iEnum ?_ | refine Rd.rd_iZip ?_ | (refine' Rd.rd_IE ?ln ?_; (case ln => with_unfolding_all walk_at "at")) | (refine' Rd.rd_IZ ?ln ?lm ?_; (case ln => with_unfolding_all walk_at "at"); (case lm => with_unfolding_all walk_at "at")) | (refine' Rd.rd_gTup ?ln ?lk ?_; (case ln => with_unfolding_all walk_at "at"); (case lk => with_unfolding_all rfl)) | refine Rd.rd_gCons ?_ | refine Rd.rd_gNil ?_ | refine Rd.rd_m1 ?_ | refine Rd.rd_strV ?_ | refine Rd.rd_tXiM ?_ | refine Rd.rd_tXiB ?_ | refine Rd.rd_tXiS ?_ | refine Rd.rd_bm ?_ | refine Rd.rd_bm0 ?_ | refine Rd.rd_isN ?_ | refine Rd.rd_notN ?_ | refine Rd.rd_sub ?_ | refine Rd.rd_un ?_ | refine Rd.rd_U ?_
  | (refine' Rd.rd_eq ?sc ?_; (case sc => with_unfolding_all rfl)) | (refine' Rd.rd_ne ?sc ?_; (case sc => with_unfolding_all rfl))
  | (refine' Rd.rd_I ?cc ?_; (case cc => with_unfolding_all walk_at "rdc"))
  | (refine' Rd.rd_lenL ?ln ?_; (case ln => with_unfolding_all walk_at "at")) | (refine' Rd.rd_lenT ?ln ?_; (case ln => with_unfolding_all walk_at "at"))
  | (refine' Rd.rd_ixL ?ln ?ia ?_; (case ln => with_unfolding_all walk_at "at"); (case ia => with_unfolding_all first | exact Rd.at0 | exact Rd.at1 | exact Rd.at2 | exact Rd.at3 | exact Rd.at4 | rfl)) | (refine' Rd.rd_ixT ?ln ?ia ?_; (case ln => with_unfolding_all walk_at "at"); (case ia => with_unfolding_all first | exact Rd.at0 | exact Rd.at1 | exact Rd.at2 | exact Rd.at3 | exact Rd.at4 | rfl)))
local macro_rules | `(tactic| walk_at "at") => `(tactic| first | assumption | (apply SqL.of; assumption) | (apply SqT.of; assumption) | (apply SqL.of; exact upd_same) | (apply SqT.of; exact upd_same))
local macro_rules | `(tactic| walk_at "rd") => `(tactic| repeat walk_at "rd1")
def top (i : Nat) : Stmt := PySem.Challenge.pw_loopgrowth_k53_orders_of_growths.main.body.getD i (.Pass ⟨0, 0, 0, 0⟩)
structure Glob (mg : Str → Option Value) : Prop where
  len : mg "len" = none
  int : mg "int" = none
  abs : mg "abs" = none
  max : mg "max" = none
  min : mg "min" = none
  range : mg "range" = none
  isinstance : mg "isinstance" = none
  repr : mg "repr" = none
  tuple : mg "tuple" = none
  str : mg "str" = none
  bool : mg "bool" = none
/-! ### the law's dice -/
abbrev s__law_dice : Stmt := top 22
theorem sc__law_dice : FnScope ["_law_script", "_law_at", "_law_cell", "_law_great", "_law_mixed"] ["_law_script", "_law_at"] (defScope s__law_dice) := ⟨rfl, rfl, rfl, by decide +kernel, rfl, by decide +kernel, by decide +kernel⟩
abbrev s__law_roll : Stmt := top 23
theorem sc__law_roll : FnScope ["_law_dice_here", "_law_total", "_law_found", "_law_one", "_law_two"] ["_law_dice_here", "_law_total"] (defScope s__law_roll) := ⟨rfl, rfl, rfl, by decide +kernel, rfl, by decide +kernel, by decide +kernel⟩
abbrev s__law_one_of : Stmt := top 24
theorem sc__law_one_of : FnScope ["_law_dice_here", "_law_items"] ["_law_dice_here", "_law_items"] (defScope s__law_one_of) := ⟨rfl, rfl, rfl, by decide +kernel, rfl, by decide +kernel, by decide +kernel⟩
/-- dice at p -/
def Dice (H : Hp) (p : Addr) : Prop := ∃ x y z : Int, H p = some (.lst [.int x, .int y, .int z])
/-- but for the dice at p all is as it was -/
structure Rolled (p : Addr) (H H' : Hp) : Prop where
  keep : ∀ b o, b ≠ p → H b = some o → H' b = some o
  dice : Dice H' p
theorem rolled_upd {p : Addr} {H : Hp} {x y z : Int} : Rolled p H (upd H p (.lst [.int x, .int y, .int z])) := ⟨fun b o hb e => by rw [upd_ne hb]; exact e, x, y, z, upd_same⟩
theorem Rolled.sqL {K : PySem.W.Frag} {p a : Addr} {H H' : Hp} {xs : List V} (r : Rolled p H H') (hne : a ≠ p) (h : SqL K H a xs) : SqL K H' a xs := by
  rcases h with (h | ⟨o', h⟩) | h
  · exact .inl (.inl (r.keep _ _ hne h))
  · exact .inl (.inr ⟨o', r.keep _ _ hne h⟩)
  · exact .inr h
theorem Dice.same {H H' : Hp} {p : Addr} (h : Dice H p) (s : Same H H') : Dice H' p := by
  obtain ⟨x, y, z, e⟩ := h
  exact ⟨x, y, z, s _ _ e⟩
theorem Dice.ne {H : Hp} {p l : Addr} (h : Dice H p) (hl : H l = none) : l ≠ p := by
  obtain ⟨x, y, z, e⟩ := h
  exact (ne_of_none e hl).symm
theorem Rolled.refl {p : Addr} {H : Hp} (h : Dice H p) : Rolled p H H := ⟨fun _ _ _ e => e, h⟩
theorem Rolled.trans {p : Addr} {H H1 H2 : Hp} (a : Rolled p H H1) (b : Rolled p H1 H2) : Rolled p H H2 := ⟨fun c o hc e => b.keep c o hc (a.keep c o hc e), b.dice⟩
theorem Rolled.same {p : Addr} {H H1 H2 : Hp} (a : Rolled p H H1) (b : Same H1 H2) : Rolled p H H2 := ⟨fun c o hc e => b c o (a.keep c o hc e), a.dice.same b⟩
theorem Rolled.pre {p : Addr} {H H1 H2 : Hp} (a : Same H H1) (b : Rolled p H1 H2) : Rolled p H H2 := ⟨fun c o hc e => b.keep c o hc (a c o e), b.dice⟩
/-- a thing of one's own changes -/
theorem Rolled.mut {p l : Addr} {H H1 : Hp} {o : HO} (a : Rolled p H H1) (hl : H l = none) (hp : l ≠ p) : Rolled p H (upd H1 l o) := by
  obtain ⟨x, y, z, e⟩ := a.dice
  exact ⟨fun c u hc q => by rw [upd_ne (ne_of_none q hl)]; exact a.keep c u hc q, x, y, z, by rw [upd_ne hp.symm]; exact e⟩
theorem Rolled.sqT {K : PySem.W.Frag} {p a : Addr} {H H' : Hp} {xs : List V} (r : Rolled p H H') (hD : Dice H p) (h : SqT K H a xs) : SqT K H' a xs := by
  obtain ⟨x, y, z, e⟩ := hD
  rcases h with (h | ⟨o', h⟩) | h
  · exact .inl (.inl (r.keep _ _ (ne_of h e (by intro q; cases q)) h))
  · exact .inl (.inr ⟨o', r.keep _ _ (ne_of h e (by intro q; cases q)) h⟩)
  · exact .inr h
def spDice (K : PySem.W.Frag) : Sp := Rd.mkSp (fun (a : Addr × List Int × Nat) => [.ref a.1, .int a.2.2]) fun a H Q _ => SqL K H a.1 (a.2.1.map V.int) ∧ ∀ p H', H p = none → Same H H' → Dice H' p → Q (.ref p) H'
def spRoll : Sp := Rd.mkSp (fun (a : Addr × Int) => [.ref a.1, .int a.2]) fun a H Q _ => Dice H a.1 ∧ 0 < a.2 ∧ a.2 < 1073741824 ∧ ∀ r H', 0 ≤ r → r < a.2 → Rolled a.1 H H' → Q (.int r) H'
def spOneOf (K : PySem.W.Frag) : Sp := Rd.mkSp (fun (a : Addr × Addr × List V) => [.ref a.1, .ref a.2.1]) fun a H Q _ => Dice H a.1 ∧ a.2.1 ≠ a.1 ∧ SqL K H a.2.1 a.2.2 ∧ 0 < a.2.2.length ∧ a.2.2.length < 1000 ∧
  ∀ v H', v ∈ a.2.2 → Rolled a.1 H H' → Q v H'
theorem rd_roll {H : Hp} {Q : VK} {E : XK} {d : Addr} {n : Int} (hD : Dice H d) (h0 : 0 < n) (h1 : n < 1073741824) (q : ∀ r H', 0 ≤ r → r < n → Rolled d H H' → Q (.int r) H') : spRoll [.ref d, .int n] H Q E := Rd.rd_sp (d, n) rfl ⟨hD, h0, h1, q⟩
/-- one of the items of a list that is none of the dice -/
theorem rd_one {K : PySem.W.Frag} {H : Hp} {Q : VK} {E : XK} {d m : Addr} {xs : List V} (hD : Dice H d) (hm : m ≠ d) (h : SqL K H m xs) (h0 : 0 < xs.length) (h1 : xs.length < 1000) (q : ∀ v H', v ∈ xs → Rolled d H H' → Q v H') : spOneOf K [.ref d, .ref m] H Q E :=
  Rd.rd_sp (d, m, xs) rfl ⟨hD, hm, h, h0, h1, q⟩
section
variable {gd : Bool} {P : Program} {w : World} {K : PySem.W.Frag} {mg : Str → Option Value} {base : Heap}
theorem ok_dice (F : Rd.Has K mg "_law_dice" s__law_dice) (g : Glob mg) : Rd.Fn gd P w K mg base CX0 1 "_law_dice" (spDice K) := by
  refine F.fn sc__law_dice (fun _ => rfl) (fun _ _ _ _ _ _ us hl => match us, hl with | [_, _], _ => rfl) fun f cdv A outer s H Q E a hr h => ?_
  obtain ⟨a, ns, i⟩ := a
  obtain ⟨hS, k⟩ := h
  refine ⟨_, (pss_cons (ps_set (i := 2) sc__law_dice.nd rfl (Or.inl rfl) (pe_op op_add (pe_op op_mul pe_int (pv 1)) pe_int))
      (C8.pss_cut (ps_if (pt_cmpR op_lt (pv 1) (pe_callB Rd.c_len (by rfl) g.len (by decide +kernel) (pa_cons (pv 0) pa_nil)) (nomark _)) (pss_one (ps_set (i := 2) sc__law_dice.nd rfl (Or.inl rfl) (pe_ix ix_list (pv 0) (pv 1) (fun _ _ => rfl)))) pss_nil)
      (pss_cons (ps_set (i := 3) sc__law_dice.nd rfl (Or.inl rfl) (pe_op op_mod (pe_callTy Rd.c_int (by rfl) g.int (by decide +kernel) (pa_cons (pe_callB Rd.c_abs (by rfl) g.abs (by decide +kernel) (pa_cons (pv 2) pa_nil)) pa_nil)) (pe_op Rd.op_powW (pe_op op_pow pe_int pe_int) pe_int)))
      (pss_cons (ps_set (i := 4) sc__law_dice.nd rfl (Or.inl rfl) (pe_op op_add (pe_op op_add (pe_op op_add (pe_op op_mul (pe_op op_mod (pe_callTy Rd.c_int (by rfl) g.int (by decide +kernel) (pa_cons (pv 3) pa_nil)) pe_int) pe_int) (pe_op op_mul pe_int (pv 1))) (pe_op op_mul pe_int (pe_callTy Rd.c_int (by rfl) g.int (by decide +kernel) (pa_cons (pe_cmpR op_lt (pv 2) pe_int (nomark _)) pa_nil)))) pe_int))
      (pss_one (ps_ret (Rd.pe_lst (pa_cons (pe_callB (Rd.c_max2 rfl) (by rfl) g.max (by decide +kernel) (pa_cons pe_int (pa_cons (pe_op op_sub (pv 3) (pe_op op_pow pe_int pe_int)) pa_nil))) (pa_cons (pe_op op_mod (pe_callTy Rd.c_int (by rfl) g.int (by decide +kernel) (pa_cons (pv 4) pa_nil)) pe_int) (pa_cons pe_int pa_nil)))))))))), ?_⟩
  try simp only [Rd.noxK, Rd.cxK]
  refine Rd.rd_start [some (V.ref a), some (V.int i), none, none, none] rfl ?_
  walk_at "rd"
  refine ⟨fun σ' H' => H' = H ∧ ∃ c : Int, σ' = [some (.ref a), some (.int i), some (.int c), none, none], ?_, ?_⟩
  · walk_at "rd"
    refine ite2 (fun hc => ?_) (fun _ => ?_)
    · have hl : i < ns.length := by simpa using hc
      walk_at "rd"
      refine Rd.rd_ixL hS (atI_nat (v := V.int (ns[i]'hl)) (by rw [List.getElem?_map, List.getElem?_eq_getElem hl]; rfl)) ?_
      walk_at "rd"
      exact ⟨rfl, _, rfl⟩
    · walk_at "rd"
      exact ⟨rfl, _, rfl⟩
  · rintro σ' H' ⟨rfl, c, rfl⟩
    walk_at "rd"
    exact Rd.rd_mkLst (by show 3 ≤ sizeLine; decide) fun p H' hp s' h' => k p H' hp s' ⟨_, _, _, h'⟩
theorem ok_roll (F : Rd.Has K mg "_law_roll" s__law_roll) (g : Glob mg) : Rd.Fn gd P w K mg base CX0 1 "_law_roll" spRoll := by
  refine F.fn sc__law_roll (fun _ => rfl) (fun _ _ _ _ _ _ us hl => match us, hl with | [_, _], _ => rfl) fun f cdv A outer s H Q E a hr h => ?_
  obtain ⟨a, n⟩ := a
  obtain ⟨⟨x, y, z, hD⟩, h0, h1, k⟩ := h
  dsimp only at hD h0 h1 k
  refine ⟨_, (pss_cons (ps_if (pt_cmpR op_gt (pe_ix ix_list (pv 0) pe_int (fun _ _ => rfl)) pe_int (nomark _)) (pss_cons (ps_set (i := 2) sc__law_roll.nd rfl (Or.inl rfl) (pe_op op_mod (pe_callTy Rd.c_int (by rfl) g.int (by decide +kernel) (pa_cons (pe_ix ix_list (pv 0) pe_int (fun _ _ => rfl)) pa_nil)) (pv 1)))
      (pss_cons (ps_asg (pe_op op_fdiv (pe_ix ix_list (pv 0) pe_int (fun _ _ => rfl)) (pv 1)) (pg_sub (pv 0) pe_int set_list))
      (pss_one (ps_ret (pv 2))))) pss_nil)
      (pss_cons (ps_asg (pe_op op_add (pe_ix ix_list (pv 0) pe_int (fun _ _ => rfl)) pe_int) (pg_sub (pv 0) pe_int set_list))
      (pss_cons (ps_set (i := 3) sc__law_roll.nd rfl (Or.inl rfl) (pe_op op_mod (pe_callTy Rd.c_int (by rfl) g.int (by decide +kernel) (pa_cons (pe_op op_add (pe_ix ix_list (pv 0) pe_int (fun _ _ => rfl)) (pe_op op_mul pe_int (pe_ix ix_list (pv 0) pe_int (fun _ _ => rfl)))) pa_nil)) pe_int))
      (pss_cons (ps_set (i := 4) sc__law_roll.nd rfl (Or.inl rfl) (pe_op op_add (pe_op op_mul (pe_op op_mod (pe_callTy Rd.c_int (by rfl) g.int (by decide +kernel) (pa_cons (pe_op op_mul (pv 3) (pv 3)) pa_nil)) pe_int) (pv 3)) (pe_op op_mul pe_int (pe_ix ix_list (pv 0) pe_int (fun _ _ => rfl)))))
      (pss_cons (ps_set (i := 4) sc__law_roll.nd rfl (Or.inl rfl) (pe_op op_mod (pe_callTy Rd.c_int (by rfl) g.int (by decide +kernel) (pa_cons (pv 4) pa_nil)) pe_int))
      (pss_one (ps_ret (pe_op op_mod (pe_callTy Rd.c_int (by rfl) g.int (by decide +kernel) (pa_cons (pe_op op_fdiv (pv 4) pe_int) pa_nil)) (pv 1))))))))), ?_⟩
  try simp only [Rd.noxK, Rd.cxK]
  refine Rd.rd_start [some (V.ref a), some (V.int n), none, none, none] rfl ?_
  walk_at "rd"
  refine ite2 (fun hc => ?_) (fun _ => ?_)
  · walk_at "rd"
    refine Rd.rd_setL (k := 0) hD (by simp) ?_
    walk_at "rd"
    exact k _ _ (Int.emod_nonneg _ (by omega)) (Int.emod_lt_of_pos _ h0) rolled_upd
  · walk_at "rd"
    refine Rd.rd_setL (k := 2) hD (by simp) ?_
    walk_at "rd"
    exact k _ _ (Int.emod_nonneg _ (by omega)) (Int.emod_lt_of_pos _ h0) rolled_upd
theorem ok_one_of (F : Rd.Has K mg "_law_one_of" s__law_one_of) (g : Glob mg) (c__law_roll : Rd.Fn gd P w K mg base CX0 1 "_law_roll" spRoll) : Rd.Fn gd P w K mg base CX0 2 "_law_one_of" (spOneOf K) := by
  refine F.fn sc__law_one_of (fun _ => rfl) (fun _ _ _ _ _ _ us hl => match us, hl with | [_, _], _ => rfl) fun f cdv A outer s H Q E a hr h => ?_
  obtain ⟨a, b, xs⟩ := a
  obtain ⟨hD, hne, hS, h0, h1, k⟩ := h
  dsimp only at hD hne hS h0 h1 k
  refine ⟨_, (pss_one (ps_ret (pe_ix ix_list (pv 1) (Rd.pe_fn c__law_roll (hr.mono (by decide)) (by rfl) (pa_cons (pv 0) (pa_cons (pe_callB Rd.c_len (by rfl) g.len (by decide +kernel) (pa_cons (pv 1) pa_nil)) pa_nil))) (fun _ _ => rfl)))), ?_⟩
  try simp only [Rd.noxK, Rd.cxK]
  refine Rd.rd_start [some (V.ref a), some (V.ref b)] rfl ?_
  walk_at "rd"
  refine Rd.rd_sp (a, (xs.length : Int)) rfl ⟨hD, by show (0 : Int) < xs.length; omega, by show (xs.length : Int) < _; omega, fun r H' hr0 hr1 hR => ?_⟩
  dsimp only at hr1 hR ⊢
  obtain ⟨j, rfl⟩ : ∃ j : Nat, r = (j : Int) := ⟨r.toNat, by omega⟩
  have hj : j < xs.length := by omega
  refine Rd.rd_ixL (hR.sqL hne hS) (atI_nat (v := xs[j]) (List.getElem?_eq_getElem hj)) ?_
  exact k _ _ (List.getElem_mem hj) hR
end
/-! ### growths -/
abbrev s_is_integer : Stmt := top 7
theorem sc_is_integer : FnScope ["value"] ["value"] (defScope s_is_integer) := ⟨rfl, rfl, rfl, by decide +kernel, rfl, by decide +kernel, by decide +kernel⟩
abbrev s_is_growth : Stmt := top 15
theorem sc_is_growth : FnScope ["value", "word", "number"] ["value"] (defScope s_is_growth) := ⟨rfl, rfl, rfl, by decide +kernel, rfl, by decide +kernel, by decide +kernel⟩
abbrev s_require_growth : Stmt := top 16
theorem sc_require_growth : FnScope ["value"] ["value"] (defScope s_require_growth) := ⟨rfl, rfl, rfl, by decide +kernel, rfl, by decide +kernel, by decide +kernel⟩
abbrev s_place_of : Stmt := top 17
theorem sc_place_of : FnScope ["growth", "word", "numbers"] ["growth"] (defScope s_place_of) := ⟨rfl, rfl, rfl, by decide +kernel, rfl, by decide +kernel, by decide +kernel⟩
abbrev s_compared : Stmt := top 18
theorem sc_compared : FnScope ["growth", "other", "one", "two"] ["growth", "other"] (defScope s_compared) := ⟨rfl, rfl, rfl, by decide +kernel, rfl, by decide +kernel, by decide +kernel⟩
abbrev s_greatest_of : Stmt := top 19
theorem sc_greatest_of : FnScope ["growths", "found", "one", "here", "there"] ["growths"] (defScope s_greatest_of) := ⟨rfl, rfl, rfl, by decide +kernel, rfl, by decide +kernel, by decide +kernel⟩
abbrev s_greatest_growth : Stmt := top 20
theorem sc_greatest_growth : FnScope ["growths", "one"] ["growths"] (defScope s_greatest_growth) := ⟨rfl, rfl, rfl, by decide +kernel, rfl, by decide +kernel, by decide +kernel⟩
inductive Gw where
  | pw (n : Nat)
  | be
  | fr (n : Nat)
namespace Gw
def items : Gw → List V
  | pw n => [.str "power", .int n]
  | be => [.str "beyond"]
  | fr n => [.str "free", .int n]
def ds : Gw → List PyData
  | pw n => [.str "power", .int n]
  | be => [.str "beyond"]
  | fr n => [.str "free", .int n]
def pl : Gw → Int × Int
  | pw n => (0, n)
  | be => (1, 0)
  | fr _ => (2, 0)
def lt : Gw → Gw → Bool
  | pw a, pw b => decide (a < b)
  | pw _, _ => true
  | be, fr _ => true
  | fr a, fr b => decide (b < a)
  | _, _ => false
def mx (a b : Gw) : Gw := if lt a b then b else a
def top (gs : List Gw) : Gw := gs.foldl mx (pw 0)
def plV (g : Gw) : List V := [.int g.pl.1, .int g.pl.2]
def wd (g h : Gw) : Str := if g.plV = h.plV then "equal" else if Rd.lexLt g.plV h.plV then "less" else "greater"
theorem mx_pp (a b : Nat) : mx (pw a) (pw b) = pw (max a b) := by
  simp only [mx, lt, decide_eq_true_eq]
  split
  · rw [Nat.max_eq_right (by omega)]
  · rw [Nat.max_eq_left (by omega)]
theorem mx_ff (a b : Nat) : mx (fr a) (fr b) = fr (min a b) := by
  simp only [mx, lt, decide_eq_true_eq]
  split
  · rw [Nat.min_eq_right (by omega)]
  · rw [Nat.min_eq_left (by omega)]
theorem mx_pb (a : Nat) : mx (pw a) be = be := rfl
theorem mx_pf (a b : Nat) : mx (pw a) (fr b) = fr b := rfl
theorem mx_bp (a : Nat) : mx be (pw a) = be := rfl
theorem mx_bb : mx be be = be := rfl
theorem mx_bf (b : Nat) : mx be (fr b) = fr b := rfl
theorem mx_fp (a b : Nat) : mx (fr a) (pw b) = fr a := rfl
theorem mx_fb (a : Nat) : mx (fr a) be = fr a := rfl
theorem mx_comm (a b : Gw) : mx a b = mx b a := by
  cases a <;> cases b <;> simp only [mx_pp, mx_ff, mx_pb, mx_pf, mx_bp, mx_bb, mx_bf, mx_fp, mx_fb, Nat.max_comm, Nat.min_comm]
theorem mx_self (a : Gw) : mx a a = a := by
  cases a <;> simp only [mx_pp, mx_ff, mx_bb, Nat.max_self, Nat.min_self]
theorem mx_assoc (a b c : Gw) : mx (mx a b) c = mx a (mx b c) := by
  cases a <;> cases b <;> cases c <;> simp only [mx_pp, mx_ff, mx_pb, mx_pf, mx_bp, mx_bb, mx_bf, mx_fp, mx_fb, Nat.max_assoc, Nat.min_assoc]
theorem fold_mx (gs : List Gw) (a b : Gw) : gs.foldl mx (mx a b) = mx a (gs.foldl mx b) := by
  induction gs generalizing b with
  | nil => rfl
  | cons g gs ih => rw [List.foldl_cons, List.foldl_cons, mx_assoc, ih]
theorem top_cons (g : Gw) (gs : List Gw) : top (g :: gs) = mx g (top gs) := by
  unfold top
  rw [List.foldl_cons, mx_comm, fold_mx]
theorem top_nil : top [] = pw 0 := rfl
theorem mx0 (g : Gw) : mx g (pw 0) = g := by
  cases g <;> simp [mx, lt]
/-- the greatest one of the first, the greatest one of the others, the second -/
theorem top3 (g0 g1 : Gw) (r : List Gw) : top [g0, top (g1 :: r), g1] = top (g0 :: g1 :: r) := by
  have e1 : top [g1] = g1 := by rw [top_cons, top_nil, mx0]
  rw [top_cons g0 [_, _], top_cons _ [g1], e1, top_cons g0 (g1 :: r), top_cons g1 r, mx_comm (mx g1 (top r)) g1, ← mx_assoc g1 g1, mx_self]
end Gw
/-- v is the growth g -/
def Gr (K : PySem.W.Frag) (H : Hp) (v : V) (g : Gw) : Prop := ∃ a, v = .ref a ∧ SqT K H a g.items
def Grs (K : PySem.W.Frag) (H : Hp) (vs : List V) (gs : List Gw) : Prop := vs.length = gs.length ∧ ∀ (i : Nat) (v : V) (g : Gw), vs[i]? = some v → gs[i]? = some g → Gr K H v g
/-- what is no text -/
def NoStr (K : PySem.W.Frag) (H : Hp) (v : V) : Prop := (∃ i, v = .int i) ∨ ∃ a xs, v = .ref a ∧ SqT K H a xs
/-- what is no number from 0 on -/
def NoNum (K : PySem.W.Frag) (H : Hp) (v : V) : Prop := (∃ b, v = .bl b) ∨ (∃ z, v = .str z) ∨ v = .non ∨ (∃ i, v = .int i ∧ i < 0) ∨ ∃ a xs, v = .ref a ∧ SqT K H a xs
inductive BadT (K : PySem.W.Frag) (H : Hp) : List V → Prop
  | nil : BadT K H []
  | first {y : V} {r : List V} : NoStr K H y → BadT K H (y :: r)
  | one {z : Str} : z ≠ "beyond" → BadT K H [.str z]
  | word {z : Str} {y : V} : z ≠ "power" → z ≠ "free" → BadT K H [.str z, y]
  | num {z : Str} {y : V} : NoNum K H y → BadT K H [.str z, y]
  | long {z : Str} {y y' : V} {r : List V} : BadT K H (.str z :: y :: y' :: r)
/-- v is no growth -/
inductive Odd (K : PySem.W.Frag) (H : Hp) : V → Prop
  | non : Odd K H .non
  | bl (b : Bool) : Odd K H (.bl b)
  | int (i : Int) : Odd K H (.int i)
  | str (z : Str) : Odd K H (.str z)
  | lst {a : Addr} {xs : List V} : SqL K H a xs → Odd K H (.ref a)
  | dict {a : Addr} : H a = some (.dK []) → Odd K H (.ref a)
  | tup {a : Addr} {xs : List V} {ds : List PyData} : SqT K H a xs → Rd.DtAll K H xs ds → SeqAt.shaped (.tuple ds) = true → BadT K H xs → Odd K H (.ref a)
section
variable {K : PySem.W.Frag} {H H' : Hp} {v : V} {g : Gw} {vs : List V} {gs : List Gw}
theorem Gr.mono (h : Gr K H v g) (m : ∀ a xs, SqT K H a xs → SqT K H' a xs) : Gr K H' v g := by
  obtain ⟨a, e, h⟩ := h
  exact ⟨a, e, m _ _ h⟩
theorem Gr.same (h : Gr K H v g) (s : Same H H') : Gr K H' v g := h.mono fun _ _ q => Rd.Same.sqT s q
theorem Grs.mono (h : Grs K H vs gs) (m : ∀ a xs, SqT K H a xs → SqT K H' a xs) : Grs K H' vs gs := ⟨h.1, fun i v g e1 e2 => (h.2 i v g e1 e2).mono m⟩
theorem Grs.same (h : Grs K H vs gs) (s : Same H H') : Grs K H' vs gs := h.mono fun _ _ q => Rd.Same.sqT s q
theorem Grs.nil : Grs K H [] [] := ⟨rfl, fun i v g e => by simp at e⟩
theorem Grs.cons (h : Gr K H v g) (hs : Grs K H vs gs) : Grs K H (v :: vs) (g :: gs) := by
  refine ⟨by simp [hs.1], fun i u x e1 e2 => ?_⟩
  cases i with
  | zero => cases e1; cases e2; exact h
  | succ i => exact hs.2 i u x e1 e2
theorem NoStr.mono (h : NoStr K H v) (m : ∀ a xs, SqT K H a xs → SqT K H' a xs) : NoStr K H' v := by
  rcases h with h | ⟨a, xs, e, h⟩
  · exact .inl h
  · exact .inr ⟨a, xs, e, m _ _ h⟩
theorem NoNum.mono (h : NoNum K H v) (m : ∀ a xs, SqT K H a xs → SqT K H' a xs) : NoNum K H' v := by
  rcases h with h | h | h | h | ⟨a, xs, e, h⟩
  · exact .inl h
  · exact .inr (.inl h)
  · exact .inr (.inr (.inl h))
  · exact .inr (.inr (.inr (.inl h)))
  · exact .inr (.inr (.inr (.inr ⟨a, xs, e, m _ _ h⟩)))
theorem BadT.mono {xs : List V} (h : BadT K H xs) (m : ∀ a xs, SqT K H a xs → SqT K H' a xs) : BadT K H' xs := by
  cases h with
  | nil => exact .nil
  | first h => exact .first (h.mono m)
  | one h => exact .one h
  | word h1 h2 => exact .word h1 h2
  | num h => exact .num (h.mono m)
  | long => exact .long
theorem Odd.mono (h : Odd K H v) (m : ∀ a xs, SqT K H a xs → SqT K H' a xs) (l : ∀ a xs, v = .ref a → SqL K H a xs → SqL K H' a xs) (d : ∀ a, v = .ref a → H a = some (.dK []) → H' a = some (.dK [])) : Odd K H' v := by
  cases h with
  | non => exact .non
  | bl b => exact .bl b
  | int i => exact .int i
  | str z => exact .str z
  | lst h => exact .lst (l _ _ rfl h)
  | dict h => exact .dict (d _ rfl h)
  | tup h1 h2 h3 h4 => exact .tup (m _ _ h1) (Rd.DtAll.mono' m _ _ h2) h3 (h4.mono m)
theorem Odd.same (h : Odd K H v) (s : Same H H') : Odd K H' v := h.mono (fun _ _ q => Rd.Same.sqT s q) (fun _ _ _ q => L2.Same.seq s q) fun _ _ q => s _ _ q
theorem gr_dt (h : Gr K H v g) : Rd.Dt K H v (.tuple g.ds) := by
  obtain ⟨a, rfl, h⟩ := h
  refine .tup h ?_
  cases g with
  | pw n => exact .cons (.str _) (.cons (.int _) .nil)
  | be => exact .cons (.str _) .nil
  | fr n => exact .cons (.str _) (.cons (.int _) .nil)
theorem sh_g (g : Gw) : SeqAt.shaped (.tuple g.ds) = true := by cases g <;> simp [SeqAt.shaped, Gw.ds, PyData.canLay0, PyData.canLayAll0, PyData.depth, PyData.depthAll] <;> decide +kernel
end
/-- the errors -/
structure ErrO (K : PySem.W.Frag) (mg : Str → Option Value) (IG IO : Addr) : Prop where
  p : PySem.W.excIn K IO He.veBase "ValueError.__new__" = true
  g : mg "InvalidOperation" = some (.ref IO)
  k : PySem.W.keepIn K (.ref IO) = true
  b : PySem.W.subIn K (.ref IO) (.type "BaseException") = some true
  t : PySem.W.typeIn K (.ref IO) = some (.type "type")
  gG : mg "InvalidGraph" = some (.ref IG)
  x1 : PySem.W.exmOne K (.ref IO) (.ref IG) = some false
  x2 : PySem.W.exmOne K (.ref IO) (.ref IO) = some true
structure Words (mg : Str → Option Value) : Prop where
  POWER : ∃ t, mg "POWER" = some (.str "power" t)
  BEYOND : ∃ t, mg "BEYOND" = some (.str "beyond" t)
  FREE : ∃ t, mg "FREE" = some (.str "free" t)
  LESS : ∃ t, mg "LESS" = some (.str "less" t)
  EQUAL : ∃ t, mg "EQUAL" = some (.str "equal" t)
  GREATER : ∃ t, mg "GREATER" = some (.str "greater" t)
def spInt (K : PySem.W.Frag) : Sp := Rd.mkSp (fun (v : V) => [v]) fun v H Q _ => (∃ i, v = .int i ∧ Q (.bl true) H) ∨ (((∃ b, v = .bl b) ∨ (∃ z, v = .str z) ∨ v = .non ∨ ∃ a xs, v = .ref a ∧ SqT K H a xs) ∧ Q (.bl false) H)
def spIsG (K : PySem.W.Frag) : Sp := Rd.mkSp (fun (v : V) => [v]) fun v H Q _ => (∃ g, Gr K H v g ∧ ∀ H', Same H H' → Q (.bl true) H') ∨ (Odd K H v ∧ ∀ H', Same H H' → Q (.bl false) H')
def spReq (K : PySem.W.Frag) (IO : Addr) : Sp := Rd.mkSp (fun (v : V) => [v]) fun v H Q E => (∃ g, Gr K H v g ∧ ∀ H', Same H H' → Q .non H') ∨ (Odd K H v ∧ ∀ H', Same H H' → E (.ref IO) none H')
def spPlace (K : PySem.W.Frag) : Sp := Rd.mkSp (fun (a : V × Gw) => [a.1]) fun a H Q _ => Gr K H a.1 a.2 ∧ ∀ p H', Same H H' → H' p = some (.tup a.2.plV) → Q (.ref p) H'
def spCmp (K : PySem.W.Frag) (IO : Addr) : Sp := Rd.mkSp (fun (a : V × V) => [a.1, a.2]) fun a H Q E => (∃ g h, Gr K H a.1 g ∧ Gr K H a.2 h ∧ ∀ H', Same H H' → Q (.str (Gw.wd g h)) H') ∨
  ((Odd K H a.1 ∨ (∃ g, Gr K H a.1 g) ∧ Odd K H a.2) ∧ ∀ H', Same H H' → E (.ref IO) none H')
def spTop (K : PySem.W.Frag) : Sp := Rd.mkSp (fun (a : Addr × List V × List Gw) => [.ref a.1]) fun a H Q _ => SqT K H a.1 a.2.1 ∧ Grs K H a.2.1 a.2.2 ∧ ∀ v H', Same H H' → Gr K H' v (Gw.top a.2.2) → Q v H'
def preGG (K : PySem.W.Frag) (IO : Addr) (vs : List V) (H : Hp) (Q : VK) (E : XK) : Prop := (∃ gs, Grs K H vs gs ∧ ∀ v H', Same H H' → Gr K H' v (Gw.top gs) → Q v H') ∨
  (∃ (us : List V) (gs : List Gw) (y : V) (r : List V), vs = us ++ y :: r ∧ Grs K H us gs ∧ Odd K H y ∧ ∀ H', Same H H' → E (.ref IO) none H')
def spGG (K : PySem.W.Frag) (IO : Addr) : Sp := Rd.spStar 0 (Rd.mkSp (fun (a : Addr × List V) => [.ref a.1]) fun a H Q E => SqT K H a.1 a.2 ∧ preGG K IO a.2 H Q E)
end M
set_option Elab.async false
set_option linter.all false
set_option maxRecDepth 100000
set_option maxHeartbeats 4000000
namespace M
open PySem L2
local macro_rules | `(tactic| walk_at "rdc") => `(tactic| first | exact Or.inl ⟨by decide, by decide⟩ | exact Or.inr ⟨by decide, by decide⟩ | exact ⟨by decide, by decide, by decide⟩ | exact ⟨by decide, by decide⟩ | decide | omega | assumption | (refine Or.inl ⟨?_, ?_⟩ <;> omega) | (refine Or.inr ⟨?_, ?_⟩ <;> omega) | (refine ⟨?_, ?_⟩ <;> omega))
local macro_rules | `(tactic| walk_at "rd1") => `(tactic| with_reducible first
  | refine Rd.rd_seq ?_ | refine Rd.rd_asg ?_ | refine Rd.rd_op ?_ | (refine' Rd.rd_var ?vh ?_; (case vh => with_unfolding_all rfl)) | refine Rd.rd_c ?_ | refine Rd.rd_I0 ?_ | refine Rd.rd_name0 ?_ | refine Rd.rd_nameS ?_ | refine Rd.rd_fn ?_
  | refine Rd.rd_cb ?_ | refine Rd.rd_cons ?_ | refine Rd.rd_nil ?_ | refine Rd.rd_int ?_ | refine Rd.rd_intB ?_ | refine Rd.rd_abs ?_ | refine Rd.rd_max2 ?_ | refine Rd.rd_min2 ?_
  | refine Rd.rd_call ?_ | refine Rd.rd_ifE ?_ | refine Rd.rd_test ?_ | refine Rd.rd_tB ?_ | refine Rd.rd_blV ?_ | refine Rd.rd_and ?_ | refine Rd.rd_or ?_ | refine Rd.rd_not ?_
  | refine Rd.rd_andV ?_ | refine Rd.rd_orV ?_ | refine Rd.rd_notV ?_ | refine Rd.rd_next ?_ | refine Rd.rd_ret ?_ | refine Rd.rd_drop ?_ | refine Rd.rd_ifS ?_ | refine Rd.rd_nx ?_ | refine Rd.rd_rt ?_ | refine Rd.rd_tMatch ?_ | refine Rd.rd_tPar ?_ | refine Rd.rd_par ?_ | refine Rd.rd_sl ?_ | refine Rd.rd_noPart ?_ | refine Rd.rd_part ?_ | refine Rd.rd_intV ?_ | refine Rd.rd_lc ?_ | (refine' Rd.rd_aug ?vh ?_; (case vh => with_unfolding_all rfl)) | refine Rd.rd_ipI ?_ | refine Rd.rd_for ?_ | (refine' Rd.rd_IT ?ln ?_; (case ln => with_unfolding_all walk_at "at")) | (refine' Rd.rd_IL ?ln ?_; (case ln => with_unfolding_all walk_at "at")) | refine Rd.rd_iTup ?_ | refine Rd.rd_iList ?_ | refine Rd.rd_iRng1 ?_ | refine Rd.rd_iRng2 ?_ | refine Rd.rd_isi (Rd.isi_int Rd.kk_int_int) ?_ | refine Rd.rd_isi (Rd.isi_int Rd.kk_int_bool) ?_ | refine Rd.rd_methR ?_ | refine Rd.rd_cmeth ?_ | refine Rd.rd_fldS ?_ | refine Rd.rd_fld ?_ | (refine' Rd.rd_mkVS ?vh ?_; (case vh => with_unfolding_all rfl)) | (refine' Rd.rd_starT ?ln ?_; (case ln => with_unfolding_all walk_at "at")) | refine Rd.rd_iEnum ?_ | refine Rd.rd_iZip ?_ | (refine' Rd.rd_IE ?ln ?_; (case ln => with_unfolding_all walk_at "at")) | (refine' Rd.rd_IZ ?ln ?lm ?_; (case ln => with_unfolding_all walk_at "at"); (case lm => with_unfolding_all walk_at "at")) | (refine' Rd.rd_gTup ?ln ?lk ?_; (case ln => with_unfolding_all walk_at "at"); (case lk => with_unfolding_all rfl)) | refine Rd.rd_gCons ?_ | refine Rd.rd_gNil ?_ | refine Rd.rd_m1 ?_ | refine Rd.rd_strV ?_ | refine Rd.rd_tXiM ?_ | refine Rd.rd_tXiB ?_ | refine Rd.rd_tXiS ?_ | refine Rd.rd_bm ?_ | refine Rd.rd_bm0 ?_ | refine Rd.rd_isN ?_ | refine Rd.rd_notN ?_ | refine Rd.rd_sub ?_ | refine Rd.rd_un ?_ | refine Rd.rd_U ?_
  | (refine' Rd.rd_eq ?sc ?_; (case sc => with_unfolding_all rfl)) | (refine' Rd.rd_ne ?sc ?_; (case sc => with_unfolding_all rfl))
  | (refine' Rd.rd_I ?cc ?_; (case cc => with_unfolding_all walk_at "rdc"))
  | (refine' Rd.rd_lenL ?ln ?_; (case ln => with_unfolding_all walk_at "at")) | (refine' Rd.rd_lenT ?ln ?_; (case ln => with_unfolding_all walk_at "at"))
  | (refine' Rd.rd_ixL ?ln ?ia ?_; (case ln => with_unfolding_all walk_at "at"); (case ia => with_unfolding_all first | exact Rd.at0 | exact Rd.at1 | exact Rd.at2 | exact Rd.at3 | exact Rd.at4 | rfl)) | (refine' Rd.rd_ixT ?ln ?ia ?_; (case ln => with_unfolding_all walk_at "at"); (case ia => with_unfolding_all first | exact Rd.at0 | exact Rd.at1 | exact Rd.at2 | exact Rd.at3 | exact Rd.at4 | rfl)))
local macro_rules | `(tactic| walk_at "at") => `(tactic| first | assumption | (apply SqL.of; assumption) | (apply SqT.of; assumption) | (apply SqL.of; exact upd_same) | (apply SqT.of; exact upd_same))
local macro_rules | `(tactic| walk_at "rd") => `(tactic| repeat walk_at "rd1")
section
variable {gd : Bool} {P : Program} {w : World} {K : PySem.W.Frag} {mg : Str → Option Value} {base : Heap} {IG IO : Addr}
theorem kk_bool_int' : L2.kitB "bool" "int" = some true := by decide +kernel
theorem ok_is_integer (F : Rd.Has K mg "is_integer" s_is_integer) (g : Glob mg) : Rd.Fn gd P w K mg base CX0 1 "is_integer" (spInt K) := by
  refine F.fn sc_is_integer (fun _ => rfl) (fun _ _ _ _ _ _ us hl => match us, hl with | [_], _ => rfl) fun f cdv A outer s H Q E a hr h => ?_
  refine ⟨_, (pss_one (ps_ret (pe_and (pe_callB Rd.c_isi (by rfl) g.isinstance (by decide +kernel) (pa_cons (pv 0) (pa_cons (pe_bltn (v := .ty "int") (by rfl) g.int (by decide +kernel) rfl) pa_nil))) (pe_one (pe_not (pe_callB Rd.c_isi (by rfl) g.isinstance (by decide +kernel) (pa_cons (pv 0) (pa_cons (pe_bltn (v := .ty "bool") (by rfl) g.bool (by decide +kernel) rfl) pa_nil)))))))), ?_⟩
  try simp only [Rd.noxK, Rd.cxK]
  refine Rd.rd_start [some a] rfl ?_
  rcases h with ⟨i, rfl, q⟩ | ⟨⟨b, rfl⟩ | ⟨z, rfl⟩ | rfl | ⟨p, xs, rfl, hS⟩, q⟩
  · walk_at "rd"
    refine Rd.if_t rfl ?_
    walk_at "rd"
    exact q
  · walk_at "rd"
    refine Rd.rd_isi (Rd.isi_bl Rd.kk_bool_int) ?_
    walk_at "rd"
    refine Rd.if_t rfl ?_
    walk_at "rd"
    refine Rd.rd_isi (Rd.isi_bl Rd.kk_bool_bool) ?_
    walk_at "rd"
    exact q
  · walk_at "rd"
    refine Rd.rd_isi (Rd.isi_str Rd.kk_str_int) ?_
    walk_at "rd"
    exact Rd.if_f rfl q
  · walk_at "rd"
    refine Rd.rd_isi (Rd.isi_non Rd.kk_none_int) ?_
    walk_at "rd"
    exact Rd.if_f rfl q
  · walk_at "rd"
    refine Rd.rd_isi (Rd.isi_tup hS Rd.kk_tup_int) ?_
    walk_at "rd"
    exact Rd.if_f rfl q
theorem kk_str_str : L2.kitB "str" "str" = some true := by decide +kernel
theorem eqv_nil (d : PyData) (ds : List PyData) : PyData.eqv (.tuple (d :: ds)) (.tuple []) = false := rfl
theorem ok_is_growth (F : Rd.Has K mg "is_growth" s_is_growth) (g : Glob mg) (ws : Words mg) (c_is_integer : Rd.Fn gd P w K mg base CX0 1 "is_integer" (spInt K)) : Rd.Fn gd P w K mg base CX0 2 "is_growth" (spIsG K) := by
  refine F.fn sc_is_growth (fun _ => rfl) (fun _ _ _ _ _ _ us hl => match us, hl with | [_], _ => rfl) fun f cdv A outer s H Q E a hr h => ?_
  refine ⟨_, (pss_cons (ps_if (PW.pt (pw_or (pt_not (pt_val (pe_callB Rd.c_isi (by rfl) g.isinstance (by decide +kernel) (pa_cons (pv 0) (pa_cons (pe_bltn (v := .ty "tuple") (by rfl) g.tuple (by decide +kernel) rfl) pa_nil))))) (pw_or (pt_cmpR (op_eqD hr.units) (pv 0) (Rd.pe_tup pa_nil) (nomark _)) (pw_or1 (pt_not (pt_val (pe_callB Rd.c_isi (by rfl) g.isinstance (by decide +kernel) (pa_cons (pe_ix ix_tup (pv 0) pe_int (fun _ _ => rfl)) (pa_cons (pe_bltn (v := .ty "str") (by rfl) g.str (by decide +kernel) rfl) pa_nil))))))))) (pss_one (ps_ret pe_bl)) pss_nil)
      (pss_one (Rd.ps_match (pv 0) (Rd.pc_namesP (n := 1) rfl rfl rfl (Rd.pns_cons (i := 1) sc_is_growth.nd rfl (Or.inl rfl) Rd.pns_nil) (pss_one (ps_ret (pe_cmpR op_eq (pv 1) (Rd.pe_gls (by rfl) ws.BEYOND) (nomark _)))) (Rd.pc_namesP (n := 2) rfl rfl rfl (Rd.pns_cons (i := 1) sc_is_growth.nd rfl (Or.inl rfl) (Rd.pns_cons (i := 2) sc_is_growth.nd rfl (Or.inl rfl) Rd.pns_nil)) (pss_one (ps_ret (pe_and (pe_cmpR op_in_seq (pv 1) (Rd.pe_tup (pa_cons (Rd.pe_gls (by rfl) ws.POWER) (pa_cons (Rd.pe_gls (by rfl) ws.FREE) pa_nil))) (by rfl)) (pe_and (Rd.pe_fn c_is_integer (hr.mono (by decide)) (by rfl) (pa_cons (pv 2) pa_nil)) (pe_one (pe_cmpR op_ge (pv 2) pe_int (nomark _))))))) (Rd.pc_wild (pss_one (ps_ret pe_bl)))))))), ?_⟩
  try simp only [Rd.noxK, Rd.cxK]
  refine Rd.rd_start [some a, none, none] rfl ?_
  rcases h with ⟨gw, ⟨a, rfl, hS⟩, k⟩ | ⟨h, k⟩
  · have hD := gr_dt ⟨a, rfl, hS⟩
    walk_at "rd"
    refine Rd.rd_isi (Rd.isi_tup hS Rd.kk_tup_tup) ?_
    walk_at "rd"
    refine Rd.if_f rfl ?_
    walk_at "rd"
    refine Rd.rd_mkTup (by decide) fun p1 H1 n1 s1 h1 => ?_
    have hS1 := Rd.Same.sqT s1 hS
    refine Rd.rd_eqD (Rd.Dt.dp _ _ (hD.same s1)) (Rd.Dt.dp _ _ (.tup (SqT.of h1) .nil)) (sh_g _) rfl ?_
    walk_at "rd"
    refine Rd.if_f (by cases gw <;> rfl) ?_
    cases gw with
    | pw n =>
      have hS2 : SqT K H1 a [.str "power", .int n] := hS1
      walk_at "rd"
      refine Rd.rd_isi (Rd.isi_str kk_str_str) ?_
      walk_at "rd"
      refine Rd.if_f rfl ?_
      walk_at "rd"
      refine Rd.rd_mt hS2 (Rd.rd_case0 (by simp) (Rd.rd_case1 rfl ?_))
      walk_at "rd"
      refine Rd.rd_mkTup (by decide) fun p2 H2 n2 s2 h2 => ?_
      refine Rd.rd_inT (SqT.of h2) rfl rfl ?_
      walk_at "rd"
      refine Rd.if_t (by decide +kernel) ?_
      walk_at "rd"
      refine Rd.rd_sp (.int n) rfl (.inl ⟨_, rfl, ?_⟩)
      walk_at "rd"
      refine Rd.if_t rfl ?_
      walk_at "rd"
      rw [decide_eq_true (show (0 : Int) ≤ n by omega)]
      exact k H2 (s1.trans s2)
    | be =>
      have hS2 : SqT K H1 a [.str "beyond"] := hS1
      walk_at "rd"
      refine Rd.rd_isi (Rd.isi_str kk_str_str) ?_
      walk_at "rd"
      refine Rd.if_f rfl ?_
      walk_at "rd"
      refine Rd.rd_mt hS2 (Rd.rd_case1 rfl ?_)
      walk_at "rd"
      rw [decide_eq_true rfl]
      exact k H1 s1
    | fr n =>
      have hS2 : SqT K H1 a [.str "free", .int n] := hS1
      walk_at "rd"
      refine Rd.rd_isi (Rd.isi_str kk_str_str) ?_
      walk_at "rd"
      refine Rd.if_f rfl ?_
      walk_at "rd"
      refine Rd.rd_mt hS2 (Rd.rd_case0 (by simp) (Rd.rd_case1 rfl ?_))
      walk_at "rd"
      refine Rd.rd_mkTup (by decide) fun p2 H2 n2 s2 h2 => ?_
      refine Rd.rd_inT (SqT.of h2) rfl rfl ?_
      walk_at "rd"
      refine Rd.if_t (by decide +kernel) ?_
      walk_at "rd"
      refine Rd.rd_sp (.int n) rfl (.inl ⟨_, rfl, ?_⟩)
      walk_at "rd"
      refine Rd.if_t rfl ?_
      walk_at "rd"
      rw [decide_eq_true (show (0 : Int) ≤ n by omega)]
      exact k H2 (s1.trans s2)
  · have off : Rd.Isi K H a "tuple" false ∨ ∃ p xs ds, a = .ref p ∧ SqT K H p xs ∧ Rd.DtAll K H xs ds ∧ SeqAt.shaped (.tuple ds) = true ∧ BadT K H xs := by
      cases h with
      | non => exact .inl (Rd.isi_non (by decide +kernel))
      | bl b => exact .inl (Rd.isi_bl (by decide +kernel))
      | int i => exact .inl (Rd.isi_int (by decide +kernel))
      | str z => exact .inl (Rd.isi_str (by decide +kernel))
      | lst h => exact .inl (Rd.isi_lst h (by decide +kernel))
      | dict h => exact .inl (Rd.isi_dK h (by decide +kernel))
      | tup h1 h2 h3 h4 => exact .inr ⟨_, _, _, rfl, h1, h2, h3, h4⟩
    rcases off with hi | ⟨p, xs, ds, rfl, hS, hD, hsh, hB⟩
    · walk_at "rd"
      refine Rd.rd_isi hi ?_
      walk_at "rd"
      refine Rd.if_t rfl (Rd.if_t rfl ?_)
      walk_at "rd"
      exact k H (Same.refl H)
    · walk_at "rd"
      refine Rd.rd_isi (Rd.isi_tup hS Rd.kk_tup_tup) ?_
      walk_at "rd"
      refine Rd.if_f rfl ?_
      walk_at "rd"
      refine Rd.rd_mkTup (by decide) fun p1 H1 n1 s1 h1 => ?_
      have hS1 := Rd.Same.sqT s1 hS
      have hB1 := hB.mono fun _ _ q => Rd.Same.sqT s1 q
      refine Rd.rd_eqD (Rd.Dt.dp _ _ ((Rd.Dt.tup hS hD).same s1)) (Rd.Dt.dp _ _ (.tup (SqT.of h1) .nil)) hsh rfl ?_
      walk_at "rd"
      cases hB1 with
      | nil =>
        cases hD
        refine Rd.if_t rfl (Rd.if_t rfl ?_)
        walk_at "rd"
        exact k H1 s1
      | @first y r hy =>
        cases hD
        refine Rd.if_f rfl ?_
        walk_at "rd"
        have hi : Rd.Isi K H1 y "str" false := by
          rcases hy with ⟨i, rfl⟩ | ⟨b, ys, rfl, hb⟩
          · exact Rd.isi_int (by decide +kernel)
          · exact Rd.isi_tup hb (by decide +kernel)
        refine Rd.rd_isi hi ?_
        walk_at "rd"
        refine Rd.if_t rfl ?_
        walk_at "rd"
        exact k H1 s1
      | @one z hz =>
        cases hD
        refine Rd.if_f rfl ?_
        walk_at "rd"
        refine Rd.rd_isi (Rd.isi_str kk_str_str) ?_
        walk_at "rd"
        refine Rd.if_f rfl ?_
        walk_at "rd"
        refine Rd.rd_mt hS1 (Rd.rd_case1 rfl ?_)
        walk_at "rd"
        rw [decide_eq_false (fun e => hz (V.str.inj e))]
        exact k H1 s1
      | @word z y h1' h2' =>
        cases hD
        refine Rd.if_f rfl ?_
        walk_at "rd"
        refine Rd.rd_isi (Rd.isi_str kk_str_str) ?_
        walk_at "rd"
        refine Rd.if_f rfl ?_
        walk_at "rd"
        refine Rd.rd_mt hS1 (Rd.rd_case0 (by simp) (Rd.rd_case1 rfl ?_))
        walk_at "rd"
        refine Rd.rd_mkTup (by decide) fun p2 H2 n2 s2 h2 => ?_
        refine Rd.rd_inT (SqT.of h2) rfl rfl ?_
        walk_at "rd"
        have e1 : ¬ V.str z = V.str "power" := fun e => h1' (V.str.inj e)
        have e2 : ¬ V.str z = V.str "free" := fun e => h2' (V.str.inj e)
        refine Rd.if_f (by simp [inV, eqV, Ne.symm h1', Ne.symm h2']) ?_
        exact k H2 (s1.trans s2)
      | @num z y hy =>
        cases hD
        refine Rd.if_f rfl ?_
        walk_at "rd"
        refine Rd.rd_isi (Rd.isi_str kk_str_str) ?_
        walk_at "rd"
        refine Rd.if_f rfl ?_
        walk_at "rd"
        refine Rd.rd_mt hS1 (Rd.rd_case0 (by simp) (Rd.rd_case1 rfl ?_))
        walk_at "rd"
        refine Rd.rd_mkTup (by decide) fun p2 H2 n2 s2 h2 => ?_
        refine Rd.rd_inT (SqT.of h2) rfl rfl ?_
        walk_at "rd"
        have kk := k H2 (s1.trans s2)
        refine ite2 (fun _ => ?_) (fun _ => kk)
        walk_at "rd"
        rcases hy with ⟨b, rfl⟩ | ⟨z, rfl⟩ | rfl | ⟨i, rfl, hi⟩ | ⟨b, ys, rfl, hb⟩
        · exact Rd.rd_sp _ rfl (.inr ⟨.inl ⟨_, rfl⟩, Rd.rd_blV (Rd.if_f rfl kk)⟩)
        · exact Rd.rd_sp _ rfl (.inr ⟨.inr (.inl ⟨_, rfl⟩), Rd.rd_blV (Rd.if_f rfl kk)⟩)
        · exact Rd.rd_sp _ rfl (.inr ⟨.inr (.inr (.inl rfl)), Rd.rd_blV (Rd.if_f rfl kk)⟩)
        · refine Rd.rd_sp (.int i) rfl (.inl ⟨_, rfl, ?_⟩)
          walk_at "rd"
          refine Rd.if_t rfl ?_
          walk_at "rd"
          rw [decide_eq_false (show ¬ (0 : Int) ≤ i by omega)]
          exact kk
        · exact Rd.rd_sp _ rfl (.inr ⟨.inr (.inr (.inr ⟨_, _, rfl, Rd.Same.sqT s2 hb⟩)), Rd.rd_blV (Rd.if_f rfl kk)⟩)
      | @long z y y' r =>
        cases hD
        refine Rd.if_f rfl ?_
        walk_at "rd"
        refine Rd.rd_isi (Rd.isi_str kk_str_str) ?_
        walk_at "rd"
        refine Rd.if_f rfl ?_
        walk_at "rd"
        refine Rd.rd_mt hS1 (Rd.rd_case0 (by simp) (Rd.rd_case0 (by simp) ?_))
        walk_at "rd"
        exact k H1 s1
theorem ok_require (F : Rd.Has K mg "require_growth" s_require_growth) (T : ErrO K mg IG IO) (c_is_growth : Rd.Fn gd P w K mg base CX0 2 "is_growth" (spIsG K)) : Rd.Fn gd P w K mg base (L2.CX P w) 3 "require_growth" (spReq K IO) := by
  refine F.fnX sc_require_growth (fun _ => rfl) (fun _ _ _ _ _ _ us hl => match us, hl with | [_], _ => rfl) fun f cdv A outer s H Q E a hr h => ?_
  refine ⟨_, (pss_one (ps_if (pt_not (pt_val (Rd.pe_fn c_is_growth (hr.mono (by decide)) (by rfl) (pa_cons (pv 0) pa_nil)))) (pss_one (ps_raise rfl (takes_of rfl rfl rfl rfl) (pmk_own PySem.F.excBase_ValueError T.p T.g T.k (raises_own T.b T.t) (by exact rfl)))) pss_nil)), ?_⟩
  try simp only [Rd.noxK, Rd.cxK]
  refine Rd.rd_start [some a] rfl ?_
  rcases h with ⟨gw, hG, k⟩ | ⟨hO, k⟩
  · walk_at "rd"
    refine Rd.rd_sp a rfl (.inl ⟨gw, hG, fun H' s' => ?_⟩)
    walk_at "rd"
    refine Rd.if_f rfl ?_
    walk_at "rd"
    exact k H' s'
  · walk_at "rd"
    refine Rd.rd_sp a rfl (.inr ⟨hO, fun H' s' => ?_⟩)
    walk_at "rd"
    refine Rd.if_t rfl ?_
    exact k H' s'
theorem ok_place_of (F : Rd.Has K mg "place_of" s_place_of) (ws : Words mg) : Rd.Fn gd P w K mg base CX0 1 "place_of" (spPlace K) := by
  refine F.fn sc_place_of (fun _ => rfl) (fun _ _ _ _ _ _ us hl => match us, hl with | [_], _ => rfl) fun f cdv A outer s H Q E a hr h => ?_
  obtain ⟨v, gw⟩ := a
  obtain ⟨⟨a, ev, hS⟩, k⟩ := h
  dsimp only at ev k
  subst ev
  refine ⟨_, (pss_cons (ps_asg (pv 0) (Rd.pg_starT rfl (pgs_cons (pg_name (i := 1) sc_place_of.nd rfl (Or.inl rfl)) (Rd.pgs_star (pg_name (i := 2) sc_place_of.nd rfl (Or.inl rfl)) pgs_nil))))
      (pss_cons (ps_if (pt_cmpR op_eq (pv 1) (Rd.pe_gls (by rfl) ws.POWER) (nomark _)) (pss_one (ps_ret (Rd.pe_tup (pa_cons pe_int (pa_cons (pe_ix ix_list (pv 2) pe_int (fun _ _ => rfl)) pa_nil))))) pss_nil)
      (pss_one (ps_ret (pe_ifExp (pt_cmpR op_eq (pv 1) (Rd.pe_gls (by rfl) ws.BEYOND) (nomark _)) (Rd.pe_tup (pa_cons pe_int (pa_cons pe_int pa_nil))) (Rd.pe_tup (pa_cons pe_int (pa_cons pe_int pa_nil)))))))), ?_⟩
  try simp only [Rd.noxK, Rd.cxK]
  refine Rd.rd_start [some (V.ref a), none, none] rfl ?_
  cases gw with
  | pw n =>
    walk_at "rd"
    refine Rd.rd_gStarT (x := .str "power") (r := [.int n]) hS fun D H1 n1 s1 h1 => ?_
    walk_at "rd"
    refine Rd.if_t (by decide +kernel) ?_
    walk_at "rd"
    exact Rd.rd_mkTup (by show 2 ≤ sizeLine; decide) fun p H2 n2 s2 h2 => k p H2 (s1.trans s2) h2
  | be =>
    walk_at "rd"
    refine Rd.rd_gStarT (x := .str "beyond") (r := []) hS fun D H1 n1 s1 h1 => ?_
    walk_at "rd"
    refine Rd.if_f (by decide +kernel) ?_
    walk_at "rd"
    refine Rd.if_t (by decide +kernel) ?_
    walk_at "rd"
    exact Rd.rd_mkTup (by show 2 ≤ sizeLine; decide) fun p H2 n2 s2 h2 => k p H2 (s1.trans s2) h2
  | fr n =>
    walk_at "rd"
    refine Rd.rd_gStarT (x := .str "free") (r := [.int n]) hS fun D H1 n1 s1 h1 => ?_
    walk_at "rd"
    refine Rd.if_f (by decide +kernel) ?_
    walk_at "rd"
    refine Rd.if_f (by decide +kernel) ?_
    walk_at "rd"
    exact Rd.rd_mkTup (by show 2 ≤ sizeLine; decide) fun p H2 n2 s2 h2 => k p H2 (s1.trans s2) h2
/-- two places compared -/
theorem cmp_pl (g h : Gw) : ∀ (j : Nat) (x y : V), g.plV[j]? = some x → h.plV[j]? = some y → Rd.Cmp2 x y := by
  intro j x y e1 e2
  match j with
  | 0 => cases e1; cases e2; exact .inl ⟨_, _, rfl, rfl⟩
  | 1 => cases e1; cases e2; exact .inl ⟨_, _, rfl, rfl⟩
  | j + 2 => cases e1
theorem eqv_pl (g h : Gw) : PyData.eqv (.tuple [.int g.pl.1, .int g.pl.2]) (.tuple [.int h.pl.1, .int h.pl.2]) = decide (g.plV = h.plV) := by
  unfold Gw.plV
  by_cases e1 : g.pl.1 = h.pl.1 <;> by_cases e2 : g.pl.2 = h.pl.2 <;> simp [PyData.eqv, PyData.eqvAll, e1, e2]
theorem dt_pl {H : Hp} {p : Addr} {g : Gw} (h : H p = some (.tup g.plV)) : Rd.Dt K H (.ref p) (.tuple [.int g.pl.1, .int g.pl.2]) := .tup (SqT.of h) (.cons (.int _) (.cons (.int _) .nil))
theorem ok_compared (F : Rd.Has K mg "compared" s_compared) (ws : Words mg) (c_require_growth : Rd.Fn gd P w K mg base (L2.CX P w) 3 "require_growth" (spReq K IO)) (c_place_of : Rd.Fn gd P w K mg base CX0 1 "place_of" (spPlace K)) : Rd.Fn gd P w K mg base (L2.CX P w) 4 "compared" (spCmp K IO) := by
  refine F.fnX sc_compared (fun _ => rfl) (fun _ _ _ _ _ _ us hl => match us, hl with | [_, _], _ => rfl) fun f cdv A outer s H Q E a hr h => ?_
  obtain ⟨v, u⟩ := a
  refine ⟨_, (pss_cons (ps_expr (Rd.pe_fnX c_require_growth (hr.mono (by decide)) (by rfl) (passes_call (takes_of rfl rfl rfl rfl) fun _ _ _ _ h => h) (pa_cons (pv 0) pa_nil)))
      (pss_cons (ps_expr (Rd.pe_fnX c_require_growth (hr.mono (by decide)) (by rfl) (passes_call (takes_of rfl rfl rfl rfl) fun _ _ _ _ h => h) (pa_cons (pv 1) pa_nil)))
      (pss_cons (ps_par (i := 2) (j := 3) (by rfl) sc_compared.nd rfl rfl (by decide) rfl rfl (pa_cons (Rd.pe_fn c_place_of (hr.mono (by decide)) (by rfl) (pa_cons (pv 0) pa_nil)) (pa_cons (Rd.pe_fn c_place_of (hr.mono (by decide)) (by rfl) (pa_cons (pv 1) pa_nil)) pa_nil)) (by rfl))
      (pss_cons (ps_if (pt_cmpR (op_eqD hr.units) (pv 2) (pv 3) (nomark _)) (pss_one (ps_ret (Rd.pe_gls (by rfl) ws.EQUAL))) pss_nil)
      (pss_one (ps_ret (pe_ifExp (pt_cmpR (Rd.op_ltT (Rd.u0 hr)) (pv 2) (pv 3) (nomark _)) (Rd.pe_gls (by rfl) ws.LESS) (Rd.pe_gls (by rfl) ws.GREATER)))))))), ?_⟩
  try simp only [Rd.noxK, Rd.cxK]
  refine Rd.rd_start [some v, some u, none, none] rfl ?_
  rcases h with ⟨g1, g2, h1, h2, k⟩ | ⟨hO | ⟨⟨g1, h1⟩, hO⟩, k⟩
  · walk_at "rd"
    refine Rd.rd_sp v rfl (.inl ⟨g1, h1, fun H1 s1 => ?_⟩)
    walk_at "rd"
    refine Rd.rd_sp u rfl (.inl ⟨g2, h2.same s1, fun H2 s2 => ?_⟩)
    walk_at "rd"
    refine Rd.rd_sp (v, g1) rfl ⟨(h1.same s1).same s2, fun p H3 s3 e3 => ?_⟩
    walk_at "rd"
    refine Rd.rd_sp (u, g2) rfl ⟨((h2.same s1).same s2).same s3, fun q H4 s4 e4 => ?_⟩
    walk_at "rd"
    have e3' := s4 _ _ e3
    refine Rd.rd_eqD (Rd.Dt.dp _ _ (dt_pl e3')) (Rd.Dt.dp _ _ (dt_pl e4)) (Rd.shTI [_, _]) (Rd.shTI [_, _]) ?_
    rw [eqv_pl]
    walk_at "rd"
    have kk := k H4 (((s1.trans s2).trans s3).trans s4)
    unfold Gw.wd at kk
    refine ite2 (fun hc => ?_) (fun hc => ?_)
    · rw [if_pos (of_decide_eq_true hc)] at kk
      walk_at "rd"
      exact kk
    · rw [if_neg (fun e => hc (decide_eq_true e))] at kk
      walk_at "rd"
      refine Rd.rd_ltT (SqT.of e3') (SqT.of e4) (cmp_pl g1 g2) ?_
      walk_at "rd"
      refine ite2 (fun hl => ?_) (fun hl => ?_)
      · rw [if_pos hl] at kk
        walk_at "rd"
        exact kk
      · rw [if_neg hl] at kk
        walk_at "rd"
        exact kk
  · walk_at "rd"
    exact Rd.rd_sp v rfl (.inr ⟨hO, fun H1 s1 => k H1 s1⟩)
  · walk_at "rd"
    refine Rd.rd_sp v rfl (.inl ⟨g1, h1, fun H1 s1 => ?_⟩)
    walk_at "rd"
    exact Rd.rd_sp u rfl (.inr ⟨hO.same s1, fun H2 s2 => k H2 (s1.trans s2)⟩)
theorem lt_eq (f g : Gw) : Gw.lt f g = (Rd.lexLt f.plV g.plV || (decide (g.plV = f.plV) && Rd.lexLt g.items f.items)) := by
  cases f with
  | pw a => cases g with
    | pw b =>
      by_cases q : a = b
      · subst q; simp [Gw.lt, Gw.plV, Gw.pl, Rd.lexLt, Gw.items]
      · have q' : ¬ b = a := fun z => q z.symm
        have c1 : ¬ (a : Int) = (b : Int) := by omega
        have c2 : ¬ (b : Int) = (a : Int) := by omega
        simp [Gw.lt, Gw.plV, Gw.pl, Rd.lexLt, Rd.ltV, Gw.items, q, q', c1, c2]
    | be => simp [Gw.lt, Gw.plV, Gw.pl, Rd.lexLt, Rd.ltV]
    | fr b => simp [Gw.lt, Gw.plV, Gw.pl, Rd.lexLt, Rd.ltV]
  | be => cases g with
    | pw b => simp [Gw.lt, Gw.plV, Gw.pl, Rd.lexLt, Rd.ltV]
    | be => simp [Gw.lt, Gw.plV, Gw.pl, Rd.lexLt, Rd.ltV, Gw.items]
    | fr b => simp [Gw.lt, Gw.plV, Gw.pl, Rd.lexLt, Rd.ltV]
  | fr a => cases g with
    | pw b => simp [Gw.lt, Gw.plV, Gw.pl, Rd.lexLt, Rd.ltV]
    | be => simp [Gw.lt, Gw.plV, Gw.pl, Rd.lexLt, Rd.ltV]
    | fr b =>
      by_cases q : a = b
      · subst q; simp [Gw.lt, Gw.plV, Gw.pl, Rd.lexLt, Gw.items]
      · have q' : ¬ b = a := fun z => q z.symm
        have c1 : ¬ (a : Int) = (b : Int) := by omega
        have c2 : ¬ (b : Int) = (a : Int) := by omega
        simp [Gw.lt, Gw.plV, Gw.pl, Rd.lexLt, Rd.ltV, Gw.items, q, q', c1, c2]
theorem cmp_it {f g : Gw} (h : g.plV = f.plV) : ∀ (j : Nat) (x y : V), g.items[j]? = some x → f.items[j]? = some y → Rd.Cmp2 x y := by
  intro j x y e1 e2
  cases f with
  | pw a => cases g with
    | pw b => match j with
      | 0 => cases e1; cases e2; exact .inr ⟨_, rfl, rfl⟩
      | 1 => cases e1; cases e2; exact .inl ⟨_, _, rfl, rfl⟩
      | j + 2 => cases e1
    | be => simp [Gw.plV, Gw.pl] at h
    | fr b => simp [Gw.plV, Gw.pl] at h
  | be => cases g with
    | pw b => simp [Gw.plV, Gw.pl] at h
    | be => match j with
      | 0 => cases e1; cases e2; exact .inr ⟨_, rfl, rfl⟩
      | j + 1 => cases e1
    | fr b => simp [Gw.plV, Gw.pl] at h
  | fr a => cases g with
    | pw b => simp [Gw.plV, Gw.pl] at h
    | be => simp [Gw.plV, Gw.pl] at h
    | fr b => match j with
      | 0 => cases e1; cases e2; exact .inr ⟨_, rfl, rfl⟩
      | 1 => cases e1; cases e2; exact .inl ⟨_, _, rfl, rfl⟩
      | j + 2 => cases e1
theorem top_take {gs : List Gw} {i : Nat} {g : Gw} (h : gs[i]? = some g) : Gw.top (gs.take (i + 1)) = Gw.mx (Gw.top (gs.take i)) g := by
  unfold Gw.top
  rw [List.take_add_one, h, List.foldl_append]
  rfl
theorem gr0 {H : Hp} {p : Addr} (h : H p = some (.tup [.str "power", .int 0])) : Gr K H (.ref p) (Gw.top []) := ⟨p, rfl, SqT.of h⟩
theorem ok_greatest_of (F : Rd.Has K mg "greatest_of" s_greatest_of) (ws : Words mg) (c_place_of : Rd.Fn gd P w K mg base CX0 1 "place_of" (spPlace K)) : Rd.Fn gd P w K mg base CX0 2 "greatest_of" (spTop K) := by
  refine F.fn sc_greatest_of (fun _ => rfl) (fun _ _ _ _ _ _ us hl => match us, hl with | [_], _ => rfl) fun f cdv A outer s H Q E a hr h => ?_
  obtain ⟨a, vs, gs⟩ := a
  obtain ⟨hS, hG, k⟩ := h
  dsimp only at hS hG k
  refine ⟨_, (pss_cons (ps_set (i := 1) sc_greatest_of.nd rfl (Or.inl rfl) (Rd.pe_tup (pa_cons (Rd.pe_gls (by rfl) ws.POWER) (pa_cons pe_int pa_nil))))
      (pss_cons (ps_for PassesOwn.never rfl (pi_tup (pv 0)) (pg_name (i := 2) sc_greatest_of.nd rfl (Or.inl rfl)) (pss_cons (ps_par (i := 3) (j := 4) (by rfl) sc_greatest_of.nd rfl rfl (by decide) rfl rfl (pa_cons (Rd.pe_fn c_place_of (hr.mono (by decide)) (by rfl) (pa_cons (pv 2) pa_nil)) (pa_cons (Rd.pe_fn c_place_of (hr.mono (by decide)) (by rfl) (pa_cons (pv 1) pa_nil)) pa_nil)) (by rfl))
      (pss_one (ps_if (PW.pt (pw_or (pt_cmpR (Rd.op_gtT (Rd.u0 hr)) (pv 3) (pv 4) (nomark _)) (pw_or1 (PW.pt (pw_and (pt_cmpR (op_eqD hr.units) (pv 3) (pv 4) (nomark _)) (pw_and1 (pt_cmpR (Rd.op_ltT (Rd.u0 hr)) (pv 2) (pv 1) (nomark _)))))))) (pss_one (ps_set (i := 1) sc_greatest_of.nd rfl (Or.inl rfl) (pv 2))) pss_nil))))
      (pss_one (ps_ret (pv 1))))), ?_⟩
  try simp only [Rd.noxK, Rd.cxK]
  refine Rd.rd_start [some (V.ref a), none, none, none, none] rfl ?_
  walk_at "rd"
  refine Rd.rd_mkTup (by decide) fun p1 H1 n1 s1 h1 => ?_
  have hS1 := Rd.Same.sqT s1 hS
  walk_at "rd"
  refine Rd.for_tup (xs := vs) (fun i σ H' => Same H1 H' ∧ ∃ v o1 o2 o3, σ = [some (.ref a), some v, o1, o2, o3] ∧ Gr K H' v (Gw.top (gs.take i))) ⟨Same.refl _, _, _, _, _, rfl, ?_⟩ (fun i σ H' _ q => Rd.Same.sqT q.1 hS1) ?_ ?_
  · exact gr0 h1
  · rintro i x σ H2 hx ⟨s2, v, o1, o2, o3, rfl, hv⟩
    have hi : i < gs.length := by
      have := (List.getElem?_eq_some_iff.mp hx).1
      rw [hG.1] at this
      exact this
    have hgi := List.getElem?_eq_getElem hi
    have hx2 := (hG.2 i x _ hx hgi).same (s1.trans s2)
    rw [top_take hgi]
    generalize Gw.top (gs.take i) = fw at hv ⊢
    generalize gs[i] = gw at hx2 ⊢
    walk_at "rd"
    refine Rd.rd_sp (x, gw) rfl ⟨hx2, fun p H3 s3 e3 => ?_⟩
    walk_at "rd"
    refine Rd.rd_sp (v, fw) rfl ⟨hv.same s3, fun q H4 s4 e4 => ?_⟩
    walk_at "rd"
    have e3' := s4 _ _ e3
    have hx4 := (hx2.same s3).same s4
    have hv4 := (hv.same s3).same s4
    have sE := (s2.trans s3).trans s4
    refine Rd.rd_gtT (SqT.of e3') (SqT.of e4) (cmp_pl gw fw) ?_
    walk_at "rd"
    have up : Gw.lt fw gw = true → Gr K H4 x (Gw.mx fw gw) := fun e => by unfold Gw.mx; rw [if_pos e]; exact hx4
    have dn : Gw.lt fw gw = false → Gr K H4 v (Gw.mx fw gw) := fun e => by unfold Gw.mx; rw [if_neg (by rw [e]; decide)]; exact hv4
    rw [lt_eq] at up dn
    refine ite2 (fun hc => ?_) (fun hc => ?_)
    · refine Rd.if_t rfl ?_
      walk_at "rd"
      exact ⟨sE, _, _, _, _, rfl, up (by rw [hc]; rfl)⟩
    · have hc' : Rd.lexLt fw.plV gw.plV = false := by simpa using hc
      walk_at "rd"
      refine Rd.rd_eqD (Rd.Dt.dp _ _ (dt_pl e3')) (Rd.Dt.dp _ _ (dt_pl e4)) (Rd.shTI [_, _]) (Rd.shTI [_, _]) ?_
      rw [eqv_pl]
      walk_at "rd"
      refine ite2 (fun he => ?_) (fun he => ?_)
      · have he' : gw.plV = fw.plV := of_decide_eq_true he
        obtain ⟨x', ex, hxs⟩ := hx4
        obtain ⟨v', ev, hvs⟩ := hv4
        subst ex ev
        walk_at "rd"
        refine Rd.rd_ltT hxs hvs (cmp_it he') ?_
        walk_at "rd"
        refine ite2 (fun hl => ?_) (fun hl => ?_)
        · walk_at "rd"
          exact ⟨sE, _, _, _, _, rfl, up (by rw [hc', he, hl]; rfl)⟩
        · walk_at "rd"
          exact ⟨sE, _, _, _, _, rfl, dn (by rw [hc', he, show Rd.lexLt gw.items fw.items = false by simpa using hl]; rfl)⟩
      · refine Rd.if_f rfl ?_
        walk_at "rd"
        exact ⟨sE, _, _, _, _, rfl, dn (by rw [hc', show decide (gw.plV = fw.plV) = false by simpa using he]; rfl)⟩
  · rintro σ H2 ⟨s2, v, o1, o2, o3, rfl, hv⟩
    walk_at "rd"
    rw [hG.1, List.take_length] at hv
    exact k v H2 (s1.trans s2) hv
theorem ok_greatest_growth (F : Rd.Has K mg "greatest_growth" s_greatest_growth) (c_require_growth : Rd.Fn false P w K mg base (L2.CX P w) 3 "require_growth" (spReq K IO)) (c_greatest_of : Rd.Fn false P w K mg base CX0 2 "greatest_of" (spTop K)) :
    Rd.Fn gd P w K mg base (L2.CX P w) 4 "greatest_growth" (spGG K IO) := by
  refine F.starX (ps := []) sc_greatest_growth StX.cxUp (fun _ _ _ _ _ _ us rest hl => match us, rest, hl with | [], [], _ => rfl | [], _ :: _, _ => rfl) fun f cdv A outer s H Q E a hr h => ?_
  obtain ⟨a, vs⟩ := a
  obtain ⟨hS, h⟩ := h
  dsimp only at hS h
  refine ⟨_, (pss_cons (ps_for (passes_of rfl) rfl (pi_tup (pv 0)) (pg_name (i := 1) sc_greatest_growth.nd rfl (Or.inl rfl)) (pss_one (ps_expr (Rd.pe_fnX c_require_growth (hr.mono (by decide)) (by rfl) (passes_call (takes_of rfl rfl rfl rfl) fun _ _ _ _ h => h) (pa_cons (pv 1) pa_nil)))))
      (pss_one (ps_ret (Rd.pe_fn c_greatest_of (hr.mono (by decide)) (by rfl) (pa_cons (pv 0) pa_nil))))), ?_⟩
  try simp only [Rd.noxK, Rd.cxK]
  refine Rd.rd_start [some (V.ref a), none] rfl ?_
  walk_at "rd"
  rcases h with ⟨gs, hG, k⟩ | ⟨us, gs, y, r, ev, hG, hO, k⟩
  · refine Rd.for_tup (xs := vs) (fun i σ H' => Same H H' ∧ ∃ o1, σ = [some (.ref a), o1]) ⟨Same.refl _, _, rfl⟩ (fun i σ H' _ q => Rd.Same.sqT q.1 hS) ?_ ?_
    · rintro i x σ H2 hx ⟨s2, o1, rfl⟩
      have hi : i < gs.length := by
        have := (List.getElem?_eq_some_iff.mp hx).1
        rw [hG.1] at this
        exact this
      walk_at "rd"
      refine Rd.rd_sp x rfl (.inl ⟨_, (hG.2 i x _ hx (List.getElem?_eq_getElem hi)).same s2, fun H3 s3 => ?_⟩)
      walk_at "rd"
      exact ⟨s2.trans s3, _, rfl⟩
    · rintro σ H2 ⟨s2, o1, rfl⟩
      walk_at "rd"
      refine Rd.rd_sp (a, vs, gs) rfl ⟨Rd.Same.sqT s2 hS, hG.same s2, fun v H3 s3 hv => ?_⟩
      exact k v H3 (s2.trans s3) hv
  · refine Rd.for_tup (xs := vs) (fun i σ H' => i ≤ us.length ∧ Same H H' ∧ ∃ o1, σ = [some (.ref a), o1]) ⟨Nat.zero_le _, Same.refl _, _, rfl⟩ (fun i σ H' _ q => Rd.Same.sqT q.2.1 hS) ?_ ?_
    · rintro i x σ H2 hx ⟨hle, s2, o1, rfl⟩
      rw [ev] at hx
      by_cases hi : i < us.length
      · rw [List.getElem?_append_left hi] at hx
        have hi' : i < gs.length := by rw [← hG.1]; exact hi
        walk_at "rd"
        refine Rd.rd_sp x rfl (.inl ⟨_, (hG.2 i x _ hx (List.getElem?_eq_getElem hi')).same s2, fun H3 s3 => ?_⟩)
        walk_at "rd"
        exact ⟨hi, s2.trans s3, _, rfl⟩
      · have e : i = us.length := by omega
        subst e
        rw [List.getElem?_append_right (Nat.le_refl _), Nat.sub_self] at hx
        cases hx
        walk_at "rd"
        exact Rd.rd_sp _ rfl (.inr ⟨hO.same s2, fun H3 s3 => k H3 (s2.trans s3)⟩)
    · rintro σ H2 ⟨hle, _⟩
      exfalso
      rw [ev, List.length_append] at hle
      simp at hle
      omega
end
end M
set_option Elab.async false
set_option linter.all false
set_option maxRecDepth 100000
set_option maxHeartbeats 4000000
namespace M
open PySem L2
local macro_rules | `(tactic| walk_at "rdc") => `(tactic| first | exact Or.inl ⟨by decide, by decide⟩ | exact Or.inr ⟨by decide, by decide⟩ | exact ⟨by decide, by decide, by decide⟩ | exact ⟨by decide, by decide⟩ | decide | omega | assumption | (refine Or.inl ⟨?_, ?_⟩ <;> omega) | (refine Or.inr ⟨?_, ?_⟩ <;> omega) | (refine ⟨?_, ?_⟩ <;> omega))
local macro_rules | `(tactic| walk_at "rd1") => `(tactic| with_reducible first
  | refine Rd.rd_seq ?_ | refine Rd.rd_asg ?_ | refine Rd.rd_op ?_ | (refine' Rd.rd_var ?vh ?_; (case vh => with_unfolding_all rfl)) | refine Rd.rd_c ?_ | refine Rd.rd_I0 ?_ | refine Rd.rd_name0 ?_ | refine Rd.rd_nameS ?_ | refine Rd.rd_fn ?_
  | refine Rd.rd_cb ?_ | refine Rd.rd_cons ?_ | refine Rd.rd_nil ?_ | refine Rd.rd_int ?_ | refine Rd.rd_intB ?_ | refine Rd.rd_abs ?_ | refine Rd.rd_max2 ?_ | refine Rd.rd_min2 ?_
  | refine Rd.rd_call ?_ | refine Rd.rd_ifE ?_ | refine Rd.rd_test ?_ | refine Rd.rd_tB ?_ | refine Rd.rd_blV ?_ | refine Rd.rd_and ?_ | refine Rd.rd_or ?_ | refine Rd.rd_not ?_
  | refine Rd.rd_andV ?_ | refine Rd.rd_orV ?_ | refine Rd.rd_notV ?_ | refine Rd.rd_next ?_ | refine Rd.rd_ret ?_ | refine Rd.rd_drop ?_ | refine Rd.rd_ifS ?_ | refine Rd.rd_nx ?_ | refine Rd.rd_rt ?_ | refine Rd.rd_tMatch ?_ | refine Rd.rd_tPar ?_ | refine Rd.rd_par ?_ | refine Rd.rd_sl ?_ | refine Rd.rd_noPart ?_ | refine Rd.rd_part ?_ | refine Rd.rd_intV ?_ | refine Rd.rd_lc ?_ | (refine' Rd.rd_aug ?vh ?_; (case vh => with_unfolding_all rfl)) | refine Rd.rd_ipI ?_ | refine Rd.rd_for ?_ | (refine' Rd.rd_IT ?ln ?_; (case ln => with_unfolding_all walk_at "at")) | (refine' Rd.rd_IL ?ln ?_; (case ln => with_unfolding_all walk_at "at")) | refine Rd.rd_iTup ?_ | refine Rd.rd_iList ?_ | refine Rd.rd_iRng1 ?_ | refine Rd.rd_iRng2 ?_ | refine Rd.rd_isi (Rd.isi_int Rd.kk_int_int) ?_ | refine Rd.rd_isi (Rd.isi_int Rd.kk_int_bool) ?_ | refine Rd.rd_methR ?_ | refine Rd.rd_cmeth ?_ | refine Rd.rd_fldS ?_ | refine Rd.rd_fld ?_ | (refine' Rd.rd_mkVS ?vh ?_; (case vh => with_unfolding_all rfl)) | (refine' Rd.rd_starT ?ln ?_; (case ln => with_unfolding_all walk_at "at")) | refine Rd.rd_iEnum ?_ | refine Rd.rd_iZip ?_ | (refine' Rd.rd_IE ?ln ?_; (case ln => with_unfolding_all walk_at "at")) | (refine' Rd.rd_IZ ?ln ?lm ?_; (case ln => with_unfolding_all walk_at "at"); (case lm => with_unfolding_all walk_at "at")) | (refine' Rd.rd_gTup ?ln ?lk ?_; (case ln => with_unfolding_all walk_at "at"); (case lk => with_unfolding_all rfl)) | refine Rd.rd_gCons ?_ | refine Rd.rd_gNil ?_ | refine Rd.rd_m1 ?_ | refine Rd.rd_strV ?_ | refine Rd.rd_tXiM ?_ | refine Rd.rd_tXiB ?_ | refine Rd.rd_tXiS ?_ | refine Rd.rd_bm ?_ | refine Rd.rd_bm0 ?_ | refine Rd.rd_isN ?_ | refine Rd.rd_notN ?_ | refine Rd.rd_sub ?_ | refine Rd.rd_un ?_ | refine Rd.rd_U ?_
  | (refine' Rd.rd_eq ?sc ?_; (case sc => with_unfolding_all rfl)) | (refine' Rd.rd_ne ?sc ?_; (case sc => with_unfolding_all rfl))
  | (refine' Rd.rd_I ?cc ?_; (case cc => with_unfolding_all walk_at "rdc"))
  | (refine' Rd.rd_lenL ?ln ?_; (case ln => with_unfolding_all walk_at "at")) | (refine' Rd.rd_lenT ?ln ?_; (case ln => with_unfolding_all walk_at "at"))
  | (refine' Rd.rd_ixL ?ln ?ia ?_; (case ln => with_unfolding_all walk_at "at"); (case ia => with_unfolding_all first | exact Rd.at0 | exact Rd.at1 | exact Rd.at2 | exact Rd.at3 | exact Rd.at4 | rfl)) | (refine' Rd.rd_ixT ?ln ?ia ?_; (case ln => with_unfolding_all walk_at "at"); (case ia => with_unfolding_all first | exact Rd.at0 | exact Rd.at1 | exact Rd.at2 | exact Rd.at3 | exact Rd.at4 | rfl)))
local macro_rules | `(tactic| walk_at "at") => `(tactic| first | assumption | (apply SqL.of; assumption) | (apply SqT.of; assumption) | (apply SqL.of; exact upd_same) | (apply SqT.of; exact upd_same))
local macro_rules | `(tactic| walk_at "rd") => `(tactic| repeat walk_at "rd1")
abbrev s__law_place : Stmt := top 25
theorem sc__law_place : FnScope ["_law_one"] ["_law_one"] (defScope s__law_place) := ⟨rfl, rfl, rfl, by decide +kernel, rfl, by decide +kernel, by decide +kernel⟩
abbrev s__law_greatest : Stmt := top 26
theorem sc__law_greatest : FnScope ["_law_some", "_law_found", "_law_one"] ["_law_some"] (defScope s__law_greatest) := ⟨rfl, rfl, rfl, by decide +kernel, rfl, by decide +kernel, by decide +kernel⟩
abbrev s__law_word : Stmt := top 30
theorem sc__law_word : FnScope ["_law_one", "_law_other"] ["_law_one", "_law_other"] (defScope s__law_word) := ⟨rfl, rfl, rfl, by decide +kernel, rfl, by decide +kernel, by decide +kernel⟩
abbrev s__law_most_of : Stmt := top 31
theorem sc__law_most_of : FnScope ["_law_some"] ["_law_some"] (defScope s__law_most_of) := ⟨rfl, rfl, rfl, by decide +kernel, rfl, by decide +kernel, by decide +kernel⟩
abbrev s__law_growth : Stmt := top 28
theorem sc__law_growth : FnScope ["_law_dice_here", "_law_number"] ["_law_dice_here"] (defScope s__law_growth) := ⟨rfl, rfl, rfl, by decide +kernel, rfl, by decide +kernel, by decide +kernel⟩
abbrev s__law_odd : Stmt := top 29
theorem sc__law_odd : FnScope ["_law_dice_here", "_law_some"] ["_law_dice_here"] (defScope s__law_odd) := ⟨rfl, rfl, rfl, by decide +kernel, rfl, by decide +kernel, by decide +kernel⟩
abbrev s__law_error : Stmt := top 27
theorem sc__law_error : FnScope ["_law_call", "e"] ["_law_call"] (defScope s__law_error) := ⟨rfl, rfl, rfl, by decide +kernel, rfl, by decide +kernel, by decide +kernel⟩
section
variable {gd : Bool} {P : Program} {w : World} {K : PySem.W.Frag} {mg : Str → Option Value} {base : Heap} {IG IO : Addr}
theorem ok_lplace (F : Rd.Has K mg "_law_place" s__law_place) : Rd.Fn gd P w K mg base CX0 1 "_law_place" (spPlace K) := by
  refine F.fn sc__law_place (fun _ => rfl) (fun _ _ _ _ _ _ us hl => match us, hl with | [_], _ => rfl) fun f cdv A outer s H Q E a hr h => ?_
  obtain ⟨v, gw⟩ := a
  obtain ⟨⟨a, ev, hS⟩, k⟩ := h
  dsimp only at ev k
  subst ev
  refine ⟨_, (pss_cons (ps_if (pt_cmpR op_eq (pe_ix ix_tup (pv 0) pe_int (fun _ _ => rfl)) pe_str (nomark _)) (pss_one (ps_ret (Rd.pe_tup (pa_cons pe_int (pa_cons (pe_ix ix_tup (pv 0) pe_int (fun _ _ => rfl)) pa_nil))))) pss_nil)
      (pss_one (ps_ret (pe_ifExp (pt_cmpR op_eq (pe_ix ix_tup (pv 0) pe_int (fun _ _ => rfl)) pe_str (nomark _)) (Rd.pe_tup (pa_cons pe_int (pa_cons pe_int pa_nil))) (Rd.pe_tup (pa_cons pe_int (pa_cons pe_int pa_nil))))))), ?_⟩
  try simp only [Rd.noxK, Rd.cxK]
  refine Rd.rd_start [some (V.ref a)] rfl ?_
  cases gw with
  | pw n =>
    have hS2 : SqT K H a [.str "power", .int n] := hS
    walk_at "rd"
    refine Rd.if_t (by decide +kernel) ?_
    walk_at "rd"
    exact Rd.rd_mkTup (by show 2 ≤ sizeLine; decide) fun p H2 n2 s2 h2 => k p H2 s2 h2
  | be =>
    have hS2 : SqT K H a [.str "beyond"] := hS
    walk_at "rd"
    refine Rd.if_f (by decide +kernel) ?_
    walk_at "rd"
    refine Rd.if_t (by decide +kernel) ?_
    walk_at "rd"
    exact Rd.rd_mkTup (by show 2 ≤ sizeLine; decide) fun p H2 n2 s2 h2 => k p H2 s2 h2
  | fr n =>
    have hS2 : SqT K H a [.str "free", .int n] := hS
    walk_at "rd"
    refine Rd.if_f (by decide +kernel) ?_
    walk_at "rd"
    refine Rd.if_f (by decide +kernel) ?_
    walk_at "rd"
    exact Rd.rd_mkTup (by show 2 ≤ sizeLine; decide) fun p H2 n2 s2 h2 => k p H2 s2 h2
theorem cut1 (x : V) (r : List V) : cutV (x :: r) (some 1) none = r := by
  unfold cutV HT.sIx
  simp
theorem cut_items (g : Gw) : cutV g.items (some 1) none = g.items.tail := by cases g <;> exact cut1 _ _
theorem lt_tail {f g : Gw} (h : g.plV = f.plV) : Rd.lexLt g.items f.items = Rd.lexLt g.items.tail f.items.tail := by
  cases f <;> cases g <;> simp [Gw.plV, Gw.pl] at h <;> simp [Gw.items, Rd.lexLt]
theorem cmp_tail {f g : Gw} (h : g.plV = f.plV) : ∀ (j : Nat) (x y : V), g.items.tail[j]? = some x → f.items.tail[j]? = some y → Rd.Cmp2 x y := by
  intro j x y e1 e2
  refine cmp_it h (j + 1) x y ?_ ?_
  · cases g <;> exact e1
  · cases f <;> exact e2
def spTopL (K : PySem.W.Frag) : Sp := Rd.mkSp (fun (a : Addr × List V × List Gw) => [.ref a.1]) fun a H Q _ => SqL K H a.1 a.2.1 ∧ Grs K H a.2.1 a.2.2 ∧ ∀ v H', Same H H' → Gr K H' v (Gw.top a.2.2) → Q v H'
theorem ok_lgreatest (F : Rd.Has K mg "_law_greatest" s__law_greatest) (c__law_place : Rd.Fn gd P w K mg base CX0 1 "_law_place" (spPlace K)) : Rd.Fn gd P w K mg base CX0 2 "_law_greatest" (spTopL K) := by
  refine F.fn sc__law_greatest (fun _ => rfl) (fun _ _ _ _ _ _ us hl => match us, hl with | [_], _ => rfl) fun f cdv A outer s H Q E a hr h => ?_
  obtain ⟨a, vs, gs⟩ := a
  obtain ⟨hS, hG, k⟩ := h
  dsimp only at hS hG k
  refine ⟨_, (pss_cons (ps_set (i := 1) sc__law_greatest.nd rfl (Or.inl rfl) (Rd.pe_tup (pa_cons pe_str (pa_cons pe_int pa_nil))))
      (pss_cons (ps_for PassesOwn.never rfl (pi_list (pv 0)) (pg_name (i := 2) sc__law_greatest.nd rfl (Or.inl rfl)) (pss_one (ps_if (PW.pt (pw_or (pt_cmpR (Rd.op_gtT (Rd.u0 hr)) (Rd.pe_fn c__law_place (hr.mono (by decide)) (by rfl) (pa_cons (pv 2) pa_nil)) (Rd.pe_fn c__law_place (hr.mono (by decide)) (by rfl) (pa_cons (pv 1) pa_nil)) (nomark _)) (pw_or1 (PW.pt (pw_and (pt_cmpR (op_eqD hr.units) (Rd.pe_fn c__law_place (hr.mono (by decide)) (by rfl) (pa_cons (pv 2) pa_nil)) (Rd.pe_fn c__law_place (hr.mono (by decide)) (by rfl) (pa_cons (pv 1) pa_nil)) (nomark _)) (pw_and1 (pt_cmpR (Rd.op_ltT (Rd.u0 hr)) (pe_slice sl_tupA (pv 2) (po_some pe_int) po_none) (pe_slice sl_tupA (pv 1) (po_some pe_int) po_none) (nomark _)))))))) (pss_one (ps_set (i := 1) sc__law_greatest.nd rfl (Or.inl rfl) (pv 2))) pss_nil)))
      (pss_one (ps_ret (pv 1))))), ?_⟩
  try simp only [Rd.noxK, Rd.cxK]
  refine Rd.rd_start [some (V.ref a), none, none] rfl ?_
  walk_at "rd"
  refine Rd.rd_mkTup (by decide) fun p1 H1 n1 s1 h1 => ?_
  have hS1 := L2.Same.seq s1 hS
  walk_at "rd"
  refine Rd.for_list (xs := vs) (fun i σ H' => Same H1 H' ∧ ∃ v o1, σ = [some (.ref a), some v, o1] ∧ Gr K H' v (Gw.top (gs.take i))) ⟨Same.refl _, _, _, rfl, ?_⟩ (fun i σ H' _ q => L2.Same.seq q.1 hS1) ?_ ?_
  · exact gr0 h1
  · rintro i x σ H2 hx ⟨s2, v, o1, rfl, hv⟩
    have hi : i < gs.length := by
      have := (List.getElem?_eq_some_iff.mp hx).1
      rw [hG.1] at this
      exact this
    have hgi := List.getElem?_eq_getElem hi
    have hx2 := (hG.2 i x _ hx hgi).same (s1.trans s2)
    rw [top_take hgi]
    generalize Gw.top (gs.take i) = fw at hv ⊢
    generalize gs[i] = gw at hx2 ⊢
    walk_at "rd"
    refine Rd.rd_sp (x, gw) rfl ⟨hx2, fun p H3 s3 e3 => ?_⟩
    walk_at "rd"
    refine Rd.rd_sp (v, fw) rfl ⟨hv.same s3, fun q H4 s4 e4 => ?_⟩
    walk_at "rd"
    have e3' := s4 _ _ e3
    have hx4 := (hx2.same s3).same s4
    have hv4 := (hv.same s3).same s4
    have sE := (s2.trans s3).trans s4
    refine Rd.rd_gtT (SqT.of e3') (SqT.of e4) (cmp_pl gw fw) ?_
    walk_at "rd"
    have up : Gw.lt fw gw = true → ∀ H', Same H4 H' → Gr K H' x (Gw.mx fw gw) := fun e H' s' => by unfold Gw.mx; rw [if_pos e]; exact hx4.same s'
    have dn : Gw.lt fw gw = false → ∀ H', Same H4 H' → Gr K H' v (Gw.mx fw gw) := fun e H' s' => by unfold Gw.mx; rw [if_neg (by rw [e]; decide)]; exact hv4.same s'
    rw [lt_eq] at up dn
    refine ite2 (fun hc => ?_) (fun hc => ?_)
    · refine Rd.if_t rfl ?_
      walk_at "rd"
      exact ⟨sE, _, _, rfl, up (by rw [hc]; rfl) _ (Same.refl _)⟩
    · have hc' : Rd.lexLt fw.plV gw.plV = false := by simpa using hc
      walk_at "rd"
      refine Rd.rd_sp (x, gw) rfl ⟨hx4, fun p5 H5 s5 e5 => ?_⟩
      walk_at "rd"
      refine Rd.rd_sp (v, fw) rfl ⟨hv4.same s5, fun p6 H6 s6 e6 => ?_⟩
      walk_at "rd"
      have e5' := s6 _ _ e5
      have s46 := s5.trans s6
      refine Rd.rd_eqD (Rd.Dt.dp _ _ (dt_pl e5')) (Rd.Dt.dp _ _ (dt_pl e6)) (Rd.shTI [_, _]) (Rd.shTI [_, _]) ?_
      rw [eqv_pl]
      walk_at "rd"
      refine ite2 (fun he => ?_) (fun he => ?_)
      · have he' : gw.plV = fw.plV := of_decide_eq_true he
        obtain ⟨x', ex, hxs⟩ := hx4.same s46
        obtain ⟨v', ev, hvs⟩ := hv4.same s46
        subst ex ev
        walk_at "rd"
        refine Rd.rd_cut hxs fun p7 H7 s7 h7 => ?_
        walk_at "rd"
        refine Rd.rd_cut (Rd.Same.sqT s7 hvs) fun p8 H8 s8 h8 => ?_
        rw [cut_items] at h7 h8
        refine Rd.rd_ltT (Rd.Same.sqT s8 h7) h8 (cmp_tail he') ?_
        rw [← lt_tail he']
        walk_at "rd"
        have s48 := (s46.trans s7).trans s8
        refine ite2 (fun hl => ?_) (fun hl => ?_)
        · walk_at "rd"
          exact ⟨sE.trans s48, _, _, rfl, up (by rw [hc', he, hl]; rfl) _ s48⟩
        · walk_at "rd"
          exact ⟨sE.trans s48, _, _, rfl, dn (by rw [hc', he, show Rd.lexLt gw.items fw.items = false by simpa using hl]; rfl) _ s48⟩
      · refine Rd.if_f rfl ?_
        walk_at "rd"
        exact ⟨sE.trans s46, _, _, rfl, dn (by rw [hc', show decide (gw.plV = fw.plV) = false by simpa using he]; rfl) _ s46⟩
  · rintro σ H2 ⟨s2, v, o1, rfl, hv⟩
    walk_at "rd"
    rw [hG.1, List.take_length] at hv
    exact k v H2 (s1.trans s2) hv
def spWord (K : PySem.W.Frag) : Sp := Rd.mkSp (fun (a : V × V) => [a.1, a.2]) fun a H Q _ => ∃ g h, Gr K H a.1 g ∧ Gr K H a.2 h ∧ ∀ H', Same H H' → Q (.str (Gw.wd g h)) H'
theorem ok_lword (F : Rd.Has K mg "_law_word" s__law_word) (c__law_place : Rd.Fn gd P w K mg base CX0 1 "_law_place" (spPlace K)) : Rd.Fn gd P w K mg base CX0 2 "_law_word" (spWord K) := by
  refine F.fn sc__law_word (fun _ => rfl) (fun _ _ _ _ _ _ us hl => match us, hl with | [_, _], _ => rfl) fun f cdv A outer s H Q E a hr h => ?_
  obtain ⟨v, u⟩ := a
  obtain ⟨g1, g2, h1, h2, k⟩ := h
  dsimp only at h1 h2
  refine ⟨_, (pss_cons (ps_if (pt_cmpR (op_eqD hr.units) (Rd.pe_fn c__law_place (hr.mono (by decide)) (by rfl) (pa_cons (pv 0) pa_nil)) (Rd.pe_fn c__law_place (hr.mono (by decide)) (by rfl) (pa_cons (pv 1) pa_nil)) (nomark _)) (pss_one (ps_ret pe_str)) pss_nil)
      (pss_one (ps_ret (pe_ifExp (pt_cmpR (Rd.op_ltT (Rd.u0 hr)) (Rd.pe_fn c__law_place (hr.mono (by decide)) (by rfl) (pa_cons (pv 0) pa_nil)) (Rd.pe_fn c__law_place (hr.mono (by decide)) (by rfl) (pa_cons (pv 1) pa_nil)) (nomark _)) pe_str pe_str)))), ?_⟩
  try simp only [Rd.noxK, Rd.cxK]
  refine Rd.rd_start [some v, some u] rfl ?_
  walk_at "rd"
  refine Rd.rd_sp (v, g1) rfl ⟨h1, fun p H3 s3 e3 => ?_⟩
  walk_at "rd"
  refine Rd.rd_sp (u, g2) rfl ⟨h2.same s3, fun q H4 s4 e4 => ?_⟩
  walk_at "rd"
  have e3' := s4 _ _ e3
  refine Rd.rd_eqD (Rd.Dt.dp _ _ (dt_pl e3')) (Rd.Dt.dp _ _ (dt_pl e4)) (Rd.shTI [_, _]) (Rd.shTI [_, _]) ?_
  rw [eqv_pl]
  walk_at "rd"
  have s34 := s3.trans s4
  unfold Gw.wd at k
  refine ite2 (fun hc => ?_) (fun hc => ?_)
  · rw [if_pos (of_decide_eq_true hc)] at k
    walk_at "rd"
    exact k _ s34
  · rw [if_neg (fun e => hc (decide_eq_true e))] at k
    walk_at "rd"
    refine Rd.rd_sp (v, g1) rfl ⟨h1.same s34, fun p5 H5 s5 e5 => ?_⟩
    walk_at "rd"
    refine Rd.rd_sp (u, g2) rfl ⟨(h2.same s34).same s5, fun p6 H6 s6 e6 => ?_⟩
    walk_at "rd"
    refine Rd.rd_ltT (SqT.of (s6 _ _ e5)) (SqT.of e6) (cmp_pl g1 g2) ?_
    walk_at "rd"
    refine ite2 (fun hl => ?_) (fun hl => ?_)
    · rw [if_pos hl] at k
      walk_at "rd"
      exact k _ ((s34.trans s5).trans s6)
    · rw [if_neg hl] at k
      walk_at "rd"
      exact k _ ((s34.trans s5).trans s6)
end
end M
set_option Elab.async false
set_option linter.all false
set_option maxRecDepth 100000
set_option maxHeartbeats 4000000
namespace M
open PySem L2
local macro_rules | `(tactic| walk_at "rdc") => `(tactic| first | exact Or.inl ⟨by decide, by decide⟩ | exact Or.inr ⟨by decide, by decide⟩ | exact ⟨by decide, by decide, by decide⟩ | exact ⟨by decide, by decide⟩ | decide | omega | assumption | (refine Or.inl ⟨?_, ?_⟩ <;> omega) | (refine Or.inr ⟨?_, ?_⟩ <;> omega) | (refine ⟨?_, ?_⟩ <;> omega))
local macro_rules | `(tactic| walk_at "rd1") => `(tactic| with_reducible first
  | refine Rd.rd_seq ?_ | refine Rd.rd_asg ?_ | refine Rd.rd_op ?_ | (refine' Rd.rd_var ?vh ?_; (case vh => with_unfolding_all rfl)) | refine Rd.rd_c ?_ | refine Rd.rd_I0 ?_ | refine Rd.rd_name0 ?_ | refine Rd.rd_nameS ?_ | refine Rd.rd_fn ?_
  | refine Rd.rd_cb ?_ | refine Rd.rd_cons ?_ | refine Rd.rd_nil ?_ | refine Rd.rd_int ?_ | refine Rd.rd_intB ?_ | refine Rd.rd_abs ?_ | refine Rd.rd_max2 ?_ | refine Rd.rd_min2 ?_
  | refine Rd.rd_call ?_ | refine Rd.rd_ifE ?_ | refine Rd.rd_test ?_ | refine Rd.rd_tB ?_ | refine Rd.rd_blV ?_ | refine Rd.rd_and ?_ | refine Rd.rd_or ?_ | refine Rd.rd_not ?_
  | refine Rd.rd_andV ?_ | refine Rd.rd_orV ?_ | refine Rd.rd_notV ?_ | refine Rd.rd_next ?_ | refine Rd.rd_ret ?_ | refine Rd.rd_drop ?_ | refine Rd.rd_ifS ?_ | refine Rd.rd_nx ?_ | refine Rd.rd_rt ?_ | refine Rd.rd_tMatch ?_ | refine Rd.rd_tPar ?_ | refine Rd.rd_par ?_ | refine Rd.rd_sl ?_ | refine Rd.rd_noPart ?_ | refine Rd.rd_part ?_ | refine Rd.rd_intV ?_ | refine Rd.rd_lc ?_ | (refine' Rd.rd_aug ?vh ?_; (case vh => with_unfolding_all rfl)) | refine Rd.rd_ipI ?_ | refine Rd.rd_for ?_ | (refine' Rd.rd_IT ?ln ?_; (case ln => with_unfolding_all walk_at "at")) | (refine' Rd.rd_IL ?ln ?_; (case ln => with_unfolding_all walk_at "at")) | refine Rd.rd_iTup ?_ | refine Rd.rd_iList ?_ | refine Rd.rd_iRng1 ?_ | refine Rd.rd_iRng2 ?_ | refine Rd.rd_isi (Rd.isi_int Rd.kk_int_int) ?_ | refine Rd.rd_isi (Rd.isi_int Rd.kk_int_bool) ?_ | refine Rd.rd_methR ?_ | refine Rd.rd_cmeth ?_ | refine Rd.rd_fldS ?_ | refine Rd.rd_fld ?_ | (refine' Rd.rd_mkVS ?vh ?_; (case vh => with_unfolding_all rfl)) | (refine' Rd.rd_starT ?ln ?_; (case ln => with_unfolding_all walk_at "at")) | refine Rd.rd_iEnum ?_ | refine Rd.rd_iZip ?_ | (refine' Rd.rd_IE ?ln ?_; (case ln => with_unfolding_all walk_at "at")) | (refine' Rd.rd_IZ ?ln ?lm ?_; (case ln => with_unfolding_all walk_at "at"); (case lm => with_unfolding_all walk_at "at")) | (refine' Rd.rd_gTup ?ln ?lk ?_; (case ln => with_unfolding_all walk_at "at"); (case lk => with_unfolding_all rfl)) | refine Rd.rd_gCons ?_ | refine Rd.rd_gNil ?_ | refine Rd.rd_m1 ?_ | refine Rd.rd_strV ?_ | refine Rd.rd_tXiM ?_ | refine Rd.rd_tXiB ?_ | refine Rd.rd_tXiS ?_ | refine Rd.rd_bm ?_ | refine Rd.rd_bm0 ?_ | refine Rd.rd_isN ?_ | refine Rd.rd_notN ?_ | refine Rd.rd_sub ?_ | refine Rd.rd_un ?_ | refine Rd.rd_U ?_
  | (refine' Rd.rd_eq ?sc ?_; (case sc => with_unfolding_all rfl)) | (refine' Rd.rd_ne ?sc ?_; (case sc => with_unfolding_all rfl))
  | (refine' Rd.rd_I ?cc ?_; (case cc => with_unfolding_all walk_at "rdc"))
  | (refine' Rd.rd_lenL ?ln ?_; (case ln => with_unfolding_all walk_at "at")) | (refine' Rd.rd_lenT ?ln ?_; (case ln => with_unfolding_all walk_at "at"))
  | (refine' Rd.rd_ixL ?ln ?ia ?_; (case ln => with_unfolding_all walk_at "at"); (case ia => with_unfolding_all first | exact Rd.at0 | exact Rd.at1 | exact Rd.at2 | exact Rd.at3 | exact Rd.at4 | rfl)) | (refine' Rd.rd_ixT ?ln ?ia ?_; (case ln => with_unfolding_all walk_at "at"); (case ia => with_unfolding_all first | exact Rd.at0 | exact Rd.at1 | exact Rd.at2 | exact Rd.at3 | exact Rd.at4 | rfl)))
local macro_rules | `(tactic| walk_at "at") => `(tactic| first | assumption | (apply SqL.of; assumption) | (apply SqT.of; assumption) | (apply SqL.of; exact upd_same) | (apply SqT.of; exact upd_same))
local macro_rules | `(tactic| walk_at "rd") => `(tactic| repeat walk_at "rd1")
section
variable {gd : Bool} {P : Program} {w : World} {K : PySem.W.Frag} {mg : Str → Option Value} {base : Heap} {IG IO : Addr}
/-- a call with growths alone -/
theorem rd_gg {H : Hp} {Q : VK} {E : XK} {vs : List V} {gs : List Gw} (hl : vs.length ≤ 100) (hG : Grs K H vs gs) (q : ∀ v H', Same H H' → Gr K H' v (Gw.top gs) → Q v H') : spGG K IO vs H Q E := by
  refine ⟨[], vs, rfl, rfl, Nat.le_trans hl (by decide), fun p H' hp s' h' => ?_⟩
  exact Rd.rd_sp (p, vs) rfl ⟨SqT.of h', .inl ⟨gs, hG.same s', fun v H2 s2 hv => q v H2 (s'.trans s2) hv⟩⟩
/-- a call with one that is none -/
theorem rd_ggX {H : Hp} {Q : VK} {E : XK} {us r : List V} {y : V} {gs : List Gw} (hl : (us ++ y :: r).length ≤ 100) (hG : Grs K H us gs) (hO : Odd K H y) (q : ∀ H', Same H H' → E (.ref IO) none H') : spGG K IO (us ++ y :: r) H Q E := by
  refine ⟨[], us ++ y :: r, rfl, rfl, Nat.le_trans hl (by decide), fun p H' hp s' h' => ?_⟩
  exact Rd.rd_sp (p, us ++ y :: r) rfl ⟨SqT.of h', .inr ⟨us, gs, y, r, rfl, hG.same s', hO.same s', fun H2 s2 => q H2 (s'.trans s2)⟩⟩
def spMost (K : PySem.W.Frag) (n : Nat) : Sp := Rd.mkSp (fun (a : Addr × List V × List Gw) => [.ref a.1]) fun a H Q _ => a.2.1.length ≤ n ∧ SqL K H a.1 a.2.1 ∧ Grs K H a.2.1 a.2.2 ∧ ∀ v H', Same H H' → Gr K H' v (Gw.top a.2.2) → Q v H'
theorem Grs.tail {H : Hp} {v : V} {g : Gw} {vs : List V} {gs : List Gw} (h : Grs K H (v :: vs) (g :: gs)) : Grs K H vs gs := ⟨by simpa using h.1, fun i u x e1 e2 => h.2 (i + 1) u x e1 e2⟩
theorem Grs.head {H : Hp} {v : V} {g : Gw} {vs : List V} {gs : List Gw} (h : Grs K H (v :: vs) (g :: gs)) : Gr K H v g := h.2 0 v g rfl rfl
theorem Grs.one {H : Hp} {v : V} {g : Gw} (h : Gr K H v g) : Grs K H [v] [g] := Grs.cons h Grs.nil
theorem ok_most {n k : Nat} {sp0 : Sp} (F : Rd.Has K mg "_law_most_of" s__law_most_of) (g : Glob mg) (hk : 4 ≤ k) (c_greatest_growth : Rd.Fn gd P w K mg base (L2.CX P w) 4 "greatest_growth" (spGG K IO)) (c__law_most_of : Rd.Fn gd P w K mg base CX0 k "_law_most_of" sp0)
    (h0 : 3 ≤ n → ∀ vs H Q E, spMost K n vs H Q E → sp0 vs H Q E) : Rd.Fn gd P w K mg base CX0 (k + 1) "_law_most_of" (spMost K (n + 1)) := by
  refine F.fn sc__law_most_of (fun _ => rfl) (fun _ _ _ _ _ _ us hl => match us, hl with | [_], _ => rfl) fun f cdv A outer s H Q E a hr h => ?_
  obtain ⟨a, vs, gs⟩ := a
  obtain ⟨hl, hS, hG, q⟩ := h
  dsimp only at hl hS hG q
  refine ⟨_, (pss_cons (ps_if (pt_cmpR op_lt (pe_callB Rd.c_len (by rfl) g.len (by decide +kernel) (pa_cons (pv 0) pa_nil)) pe_int (nomark _)) (pss_one (ps_ret (pe_ifExp (pt_cmpR op_eq (pe_callB Rd.c_len (by rfl) g.len (by decide +kernel) (pa_cons (pv 0) pa_nil)) pe_int (nomark _)) (Rd.pe_fnX c_greatest_growth (hr.mono (by omega)) (by rfl) Rd.passNo (pa_cons (pe_ix ix_list (pv 0) pe_int (fun _ _ => rfl)) pa_nil)) (Rd.pe_fnX0 c_greatest_growth (hr.mono (by omega)) (by rfl) Rd.passNo)))) pss_nil)
      (pss_cons (ps_if (pt_cmpR op_eq (pe_callB Rd.c_len (by rfl) g.len (by decide +kernel) (pa_cons (pv 0) pa_nil)) pe_int (nomark _)) (pss_one (ps_ret (Rd.pe_fnX c_greatest_growth (hr.mono (by omega)) (by rfl) Rd.passNo (pa_cons (pe_ix ix_list (pv 0) pe_int (fun _ _ => rfl)) (pa_cons (pe_ix ix_list (pv 0) pe_int (fun _ _ => rfl)) pa_nil))))) pss_nil)
      (pss_cons (ps_if (pt_cmpR op_eq (pe_callB Rd.c_len (by rfl) g.len (by decide +kernel) (pa_cons (pv 0) pa_nil)) pe_int (nomark _)) (pss_one (ps_ret (Rd.pe_fnX c_greatest_growth (hr.mono (by omega)) (by rfl) Rd.passNo (pa_cons (pe_ix ix_list (pv 0) pe_int (fun _ _ => rfl)) (pa_cons (pe_ix ix_list (pv 0) pe_int (fun _ _ => rfl)) (pa_cons (pe_ix ix_list (pv 0) pe_int (fun _ _ => rfl)) pa_nil)))))) pss_nil)
      (pss_one (ps_ret (Rd.pe_fnX c_greatest_growth (hr.mono (by omega)) (by rfl) Rd.passNo (pa_cons (pe_ix ix_list (pv 0) pe_int (fun _ _ => rfl)) (pa_cons (Rd.pe_fn c__law_most_of (hr.mono (by omega)) (by rfl) (pa_cons (pe_slice sl_list (pv 0) (po_some pe_int) po_none) pa_nil)) (pa_cons (pe_ix ix_list (pv 0) pe_int (fun _ _ => rfl)) pa_nil))))))))), ?_⟩
  try simp only [Rd.noxK, Rd.cxK]
  refine Rd.rd_start [some (V.ref a)] rfl ?_
  match vs, gs, hG, hS, hl, q with
  | [], [], hG, hS, hl, q =>
    walk_at "rd"
    refine Rd.if_t rfl ?_
    walk_at "rd"
    refine Rd.if_f rfl ?_
    walk_at "rd"
    exact rd_gg (by decide) hG q
  | [v], [x], hG, hS, hl, q =>
    walk_at "rd"
    refine Rd.if_t rfl ?_
    walk_at "rd"
    refine Rd.if_t rfl ?_
    walk_at "rd"
    exact rd_gg (by simp) hG q
  | [v, u], [x, y], hG, hS, hl, q =>
    walk_at "rd"
    refine Rd.if_f rfl ?_
    walk_at "rd"
    refine Rd.if_t rfl ?_
    walk_at "rd"
    exact rd_gg (by simp) hG q
  | [v, u, t], [x, y, z], hG, hS, hl, q =>
    walk_at "rd"
    refine Rd.if_f rfl ?_
    walk_at "rd"
    refine Rd.if_f rfl ?_
    walk_at "rd"
    refine Rd.if_t rfl ?_
    walk_at "rd"
    exact rd_gg (by simp) hG q
  | v :: u :: t :: t' :: r, x :: y :: z, hG, hS, hl, q =>
    have l1 : decide (((v :: u :: t :: t' :: r).length : Int) < 2) = false := decide_eq_false (by simp only [List.length_cons]; omega)
    have l2 : decide (V.int ((v :: u :: t :: t' :: r).length : Nat) = V.int 2) = false := decide_eq_false (by intro e; injection e with e; simp only [List.length_cons] at e; omega)
    have l3 : decide (V.int ((v :: u :: t :: t' :: r).length : Nat) = V.int 3) = false := decide_eq_false (by intro e; injection e with e; simp only [List.length_cons] at e; omega)
    walk_at "rd"
    refine Rd.if_f l1 ?_
    walk_at "rd"
    refine Rd.if_f l2 ?_
    walk_at "rd"
    refine Rd.if_f l3 ?_
    walk_at "rd"
    refine Rd.rd_slL hS fun p H1 n1 s1 h1 => ?_
    rw [cut1] at h1
    walk_at "rd"
    refine h0 (by simp at hl; omega) _ _ _ _ (Rd.rd_sp (p, u :: t :: t' :: r, y :: z) rfl ⟨by simp at hl ⊢; omega, SqL.of h1, hG.tail.same s1, fun m H2 s2 hm => ?_⟩)
    have hS2 := L2.Same.seq (s1.trans s2) hS
    have hG2 := hG.same (s1.trans s2)
    walk_at "rd"
    refine rd_gg (gs := [x, Gw.top (y :: z), y]) (by simp) (Grs.cons hG2.head (Grs.cons hm (Grs.one hG2.tail.head))) fun v' H3 s3 hv' => ?_
    rw [Gw.top3] at hv'
    exact q v' H3 ((s1.trans s2).trans s3) hv'
  | [], _ :: _, hG, _, _, _ => simp [Grs] at hG
  | [_], [], hG, _, _, _ => simp [Grs] at hG
  | [_], _ :: _ :: _, hG, _, _, _ => simp [Grs] at hG
  | [_, _], [], hG, _, _, _ => simp [Grs] at hG
  | [_, _], [_], hG, _, _, _ => simp [Grs] at hG
  | [_, _], _ :: _ :: _ :: _, hG, _, _, _ => simp [Grs] at hG
  | [_, _, _], [], hG, _, _, _ => simp [Grs] at hG
  | [_, _, _], [_], hG, _, _, _ => simp [Grs] at hG
  | [_, _, _], [_, _], hG, _, _, _ => simp [Grs] at hG
  | [_, _, _], _ :: _ :: _ :: _ :: _, hG, _, _, _ => simp [Grs] at hG
  | _ :: _ :: _ :: _ :: _, [], hG, _, _, _ => simp [Grs] at hG
  | _ :: _ :: _ :: _ :: _, [_], hG, _, _, _ => simp [Grs] at hG
/-- a promise of nothing -/
theorem fn_none {k : Nat} {x : Str} {st : Stmt} (F : Rd.Has K mg x st) : Rd.Fn gd P w K mg base CX0 k x (fun _ _ _ _ => False) := by
  obtain ⟨f, _, hm, hk⟩ := F
  exact ⟨f, fun _ _ _ _ _ _ _ _ _ _ _ z => z.elim, hm, hk⟩
theorem ok_most5 (F : Rd.Has K mg "_law_most_of" s__law_most_of) (g : Glob mg) (c_greatest_growth : Rd.Fn gd P w K mg base (L2.CX P w) 4 "greatest_growth" (spGG K IO)) : Rd.Fn gd P w K mg base CX0 7 "_law_most_of" (spMost K 5) := by
  have m3 : Rd.Fn gd P w K mg base CX0 5 "_law_most_of" (spMost K 3) := ok_most F g (Nat.le_refl 4) c_greatest_growth (fn_none F) (fun h => absurd h (by decide))
  have m4 : Rd.Fn gd P w K mg base CX0 6 "_law_most_of" (spMost K 4) := ok_most F g (by decide) c_greatest_growth m3 (fun _ _ _ _ _ h => h)
  exact ok_most F g (by decide) c_greatest_growth m4 (fun _ _ _ _ _ h => h)
/-- small enough to be shown -/
def SmG : Gw → Prop
  | .pw n => n ≤ 10 ^ 30 + 1
  | .be => True
  | .fr n => n ≤ 10 ^ 30 + 1
def spDraw (K : PySem.W.Frag) : Sp := Rd.mkSp (fun (d : Addr) => [.ref d]) fun d H Q _ => Dice H d ∧ ∀ v g H', Rolled d H H' → Gr K H' v g → SmG g → Q v H'
theorem ok_growth (F : Rd.Has K mg "_law_growth" s__law_growth) (g : Glob mg) (c__law_one_of : Rd.Fn gd P w K mg base CX0 2 "_law_one_of" (spOneOf K)) : Rd.Fn gd P w K mg base CX0 3 "_law_growth" (spDraw K) := by
  refine F.fn sc__law_growth (fun _ => rfl) (fun _ _ _ _ _ _ us hl => match us, hl with | [_], _ => rfl) fun f cdv A outer s H Q E d hr h => ?_
  obtain ⟨hD, k⟩ := h
  refine ⟨_, (pss_cons (ps_set (i := 1) sc__law_growth.nd rfl (Or.inl rfl) (Rd.pe_fn c__law_one_of (hr.mono (by decide)) (by rfl) (pa_cons (pv 0) (pa_cons (Rd.pe_lst (pa_cons pe_int (pa_cons pe_int (pa_cons pe_int (pa_cons pe_int (pa_cons pe_int (pa_cons pe_int (pa_cons pe_int (pa_cons (pe_op op_pow pe_int pe_int) (pa_cons (pe_op op_add (pe_op op_pow pe_int pe_int) pe_int) pa_nil)))))))))) pa_nil))))
      (pss_one (ps_ret (Rd.pe_fn c__law_one_of (hr.mono (by decide)) (by rfl) (pa_cons (pv 0) (pa_cons (Rd.pe_lst (pa_cons (Rd.pe_tup (pa_cons pe_str (pa_cons (pv 1) pa_nil))) (pa_cons (Rd.pe_tup (pa_cons pe_str (pa_cons (pv 1) pa_nil))) (pa_cons (Rd.pe_tup (pa_cons pe_str pa_nil)) (pa_cons (Rd.pe_tup (pa_cons pe_str (pa_cons (pv 1) pa_nil))) (pa_cons (Rd.pe_tup (pa_cons pe_str (pa_cons (pv 1) pa_nil))) pa_nil)))))) pa_nil)))))), ?_⟩
  try simp only [Rd.noxK, Rd.cxK]
  refine Rd.rd_start [some (V.ref d), none] rfl ?_
  walk_at "rd"
  refine Rd.rd_mkLst (by show 9 ≤ sizeLine; decide) fun p1 H1 n1 s1 h1 => ?_
  walk_at "rd"
  refine rd_one (hD.same s1) (hD.ne n1) (SqL.of h1) (by show 0 < 9; decide) (by show 9 < 1000; decide) fun x H2 hx r2 => ?_
  have hx' : ∃ n : Nat, x = .int n ∧ n ≤ 10 ^ 30 + 1 := by
    simp only [List.mem_cons, List.not_mem_nil, or_false] at hx
    rcases hx with rfl | rfl | rfl | rfl | rfl | rfl | rfl | rfl | rfl
    · exact ⟨0, rfl, by decide⟩
    · exact ⟨0, rfl, by decide⟩
    · exact ⟨1, rfl, by decide⟩
    · exact ⟨1, rfl, by decide⟩
    · exact ⟨2, rfl, by decide⟩
    · exact ⟨3, rfl, by decide⟩
    · exact ⟨9, rfl, by decide⟩
    · exact ⟨10 ^ 30, rfl, by decide⟩
    · exact ⟨10 ^ 30 + 1, rfl, by decide⟩
  obtain ⟨n, rfl, hn⟩ := hx'
  have r12 : Rolled d H H2 := Rolled.pre s1 r2
  walk_at "rd"
  refine Rd.rd_mkTup (by show 2 ≤ sizeLine; decide) fun p3 H3 n3 s3 h3 => ?_
  walk_at "rd"
  refine Rd.rd_mkTup (by show 2 ≤ sizeLine; decide) fun p4 H4 n4 s4 h4 => ?_
  walk_at "rd"
  refine Rd.rd_mkTup (by show 1 ≤ sizeLine; decide) fun p5 H5 n5 s5 h5 => ?_
  walk_at "rd"
  refine Rd.rd_mkTup (by show 2 ≤ sizeLine; decide) fun p6 H6 n6 s6 h6 => ?_
  walk_at "rd"
  refine Rd.rd_mkTup (by show 2 ≤ sizeLine; decide) fun p7 H7 n7 s7 h7 => ?_
  walk_at "rd"
  refine Rd.rd_mkLst (by show 5 ≤ sizeLine; decide) fun p8 H8 n8 s8 h8 => ?_
  walk_at "rd"
  have r8 : Rolled d H H8 := (((((r12.same s3).same s4).same s5).same s6).same s7).same s8
  have hD7 := (((((r12.same s3).same s4).same s5).same s6).same s7).dice
  refine rd_one r8.dice (hD7.ne n8) (SqL.of h8) (by show 0 < 5; decide) (by show 5 < 1000; decide) fun y H9 hy r9 => ?_
  have rr : Rolled d H H9 := r8.trans r9
  have q3 : SqT K H8 p3 (Gw.pw n).items := SqT.of (s8 _ _ (s7 _ _ (s6 _ _ (s5 _ _ (s4 _ _ h3)))))
  have q4 : SqT K H8 p4 (Gw.pw n).items := SqT.of (s8 _ _ (s7 _ _ (s6 _ _ (s5 _ _ h4))))
  have q5 : SqT K H8 p5 Gw.be.items := SqT.of (s8 _ _ (s7 _ _ (s6 _ _ h5)))
  have q6 : SqT K H8 p6 (Gw.fr n).items := SqT.of (s8 _ _ (s7 _ _ h6))
  have q7 : SqT K H8 p7 (Gw.fr n).items := SqT.of (s8 _ _ h7)
  simp only [List.mem_cons, List.not_mem_nil, or_false] at hy
  rcases hy with rfl | rfl | rfl | rfl | rfl
  · exact k _ _ _ rr ⟨_, rfl, r9.sqT r8.dice q3⟩ hn
  · exact k _ _ _ rr ⟨_, rfl, r9.sqT r8.dice q4⟩ hn
  · exact k _ _ _ rr ⟨_, rfl, r9.sqT r8.dice q5⟩ True.intro
  · exact k _ _ _ rr ⟨_, rfl, r9.sqT r8.dice q6⟩ hn
  · exact k _ _ _ rr ⟨_, rfl, r9.sqT r8.dice q7⟩ hn
end
end M
set_option Elab.async false
set_option linter.all false
set_option maxRecDepth 100000
set_option maxHeartbeats 4000000
namespace M
open PySem L2
local macro_rules | `(tactic| walk_at "rdc") => `(tactic| first | exact Or.inl ⟨by decide, by decide⟩ | exact Or.inr ⟨by decide, by decide⟩ | exact ⟨by decide, by decide, by decide⟩ | exact ⟨by decide, by decide⟩ | decide | omega | assumption | (refine Or.inl ⟨?_, ?_⟩ <;> omega) | (refine Or.inr ⟨?_, ?_⟩ <;> omega) | (refine ⟨?_, ?_⟩ <;> omega))
local macro_rules | `(tactic| walk_at "rd1") => `(tactic| with_reducible first
  | refine Rd.rd_seq ?_ | refine Rd.rd_asg ?_ | refine Rd.rd_op ?_ | (refine' Rd.rd_var ?vh ?_; (case vh => with_unfolding_all rfl)) | refine Rd.rd_c ?_ | refine Rd.rd_I0 ?_ | refine Rd.rd_name0 ?_ | refine Rd.rd_nameS ?_ | refine Rd.rd_fn ?_
  | refine Rd.rd_cb ?_ | refine Rd.rd_cons ?_ | refine Rd.rd_nil ?_ | refine Rd.rd_int ?_ | refine Rd.rd_intB ?_ | refine Rd.rd_abs ?_ | refine Rd.rd_max2 ?_ | refine Rd.rd_min2 ?_
  | refine Rd.rd_call ?_ | refine Rd.rd_ifE ?_ | refine Rd.rd_test ?_ | refine Rd.rd_tB ?_ | refine Rd.rd_blV ?_ | refine Rd.rd_and ?_ | refine Rd.rd_or ?_ | refine Rd.rd_not ?_
  | refine Rd.rd_andV ?_ | refine Rd.rd_orV ?_ | refine Rd.rd_notV ?_ | refine Rd.rd_next ?_ | refine Rd.rd_ret ?_ | refine Rd.rd_drop ?_ | refine Rd.rd_ifS ?_ | refine Rd.rd_nx ?_ | refine Rd.rd_rt ?_ | refine Rd.rd_tMatch ?_ | refine Rd.rd_tPar ?_ | refine Rd.rd_par ?_ | refine Rd.rd_sl ?_ | refine Rd.rd_noPart ?_ | refine Rd.rd_part ?_ | refine Rd.rd_intV ?_ | refine Rd.rd_lc ?_ | (refine' Rd.rd_aug ?vh ?_; (case vh => with_unfolding_all rfl)) | refine Rd.rd_ipI ?_ | refine Rd.rd_for ?_ | (refine' Rd.rd_IT ?ln ?_; (case ln => with_unfolding_all walk_at "at")) | (refine' Rd.rd_IL ?ln ?_; (case ln => with_unfolding_all walk_at "at")) | refine Rd.rd_iTup ?_ | refine Rd.rd_iList ?_ | refine Rd.rd_iRng1 ?_ | refine Rd.rd_iRng2 ?_ | refine Rd.rd_isi (Rd.isi_int Rd.kk_int_int) ?_ | refine Rd.rd_isi (Rd.isi_int Rd.kk_int_bool) ?_ | refine Rd.rd_methR ?_ | refine Rd.rd_cmeth ?_ | refine Rd.rd_fldS ?_ | refine Rd.rd_fld ?_ | (refine' Rd.rd_mkVS ?vh ?_; (case vh => with_unfolding_all rfl)) | (refine' Rd.rd_starT ?ln ?_; (case ln => with_unfolding_all walk_at "at")) | refine Rd.rd_iEnum ?_ | refine Rd.rd_iZip ?_ | (refine' Rd.rd_IE ?ln ?_; (case ln => with_unfolding_all walk_at "at")) | (refine' Rd.rd_IZ ?ln ?lm ?_; (case ln => with_unfolding_all walk_at "at"); (case lm => with_unfolding_all walk_at "at")) | (refine' Rd.rd_gTup ?ln ?lk ?_; (case ln => with_unfolding_all walk_at "at"); (case lk => with_unfolding_all rfl)) | refine Rd.rd_gCons ?_ | refine Rd.rd_gNil ?_ | refine Rd.rd_m1 ?_ | refine Rd.rd_strV ?_ | refine Rd.rd_tXiM ?_ | refine Rd.rd_tXiB ?_ | refine Rd.rd_tXiS ?_ | refine Rd.rd_bm ?_ | refine Rd.rd_bm0 ?_ | refine Rd.rd_isN ?_ | refine Rd.rd_notN ?_ | refine Rd.rd_sub ?_ | refine Rd.rd_un ?_ | refine Rd.rd_U ?_
  | (refine' Rd.rd_eq ?sc ?_; (case sc => with_unfolding_all rfl)) | (refine' Rd.rd_ne ?sc ?_; (case sc => with_unfolding_all rfl))
  | (refine' Rd.rd_I ?cc ?_; (case cc => with_unfolding_all walk_at "rdc"))
  | (refine' Rd.rd_lenL ?ln ?_; (case ln => with_unfolding_all walk_at "at")) | (refine' Rd.rd_lenT ?ln ?_; (case ln => with_unfolding_all walk_at "at"))
  | (refine' Rd.rd_ixL ?ln ?ia ?_; (case ln => with_unfolding_all walk_at "at"); (case ia => with_unfolding_all first | exact Rd.at0 | exact Rd.at1 | exact Rd.at2 | exact Rd.at3 | exact Rd.at4 | rfl)) | (refine' Rd.rd_ixT ?ln ?ia ?_; (case ln => with_unfolding_all walk_at "at"); (case ia => with_unfolding_all first | exact Rd.at0 | exact Rd.at1 | exact Rd.at2 | exact Rd.at3 | exact Rd.at4 | rfl)))
local macro_rules | `(tactic| walk_at "at") => `(tactic| first | assumption | (apply SqL.of; assumption) | (apply SqT.of; assumption) | (apply SqL.of; exact upd_same) | (apply SqT.of; exact upd_same))
local macro_rules | `(tactic| walk_at "rd") => `(tactic| repeat walk_at "rd1")
/-! ### odd values -/
/-- what te makes is no growth, and new if it is an object -/
def MkO (K : PySem.W.Frag) (te : TE) (σ : L2.St) : Prop := ∀ H Q, (∀ v H', Same H H' → Odd K H' v → (∀ a, v = .ref a → H a = none) → Q v H') → te σ H Q
def MkOs (K : PySem.W.Frag) (ta : TA) (σ : L2.St) (n : Nat) : Prop := ∀ H QA, (∀ vs H', Same H H' → vs.length = n → (∀ v ∈ vs, Odd K H' v ∧ ∀ a, v = .ref a → H a = none) → QA vs H') → ta σ H QA
section
variable {K : PySem.W.Frag} {σ : L2.St} {te : TE} {ta : TA} {n : Nat}
theorem none_back {H H' : Hp} {a : Addr} (s : Same H H') (h : H' a = none) : H a = none := by
  cases e : H a with
  | none => rfl
  | some o => rw [s _ _ e] at h; cases h
theorem mkO_nil : MkOs K tNil σ 0 := fun H QA q => q [] H (Same.refl H) rfl fun v hv => by simp at hv
theorem mkO_cons (h1 : MkO K te σ) (h2 : MkOs K ta σ n) : MkOs K (tCons te ta) σ (n + 1) := fun H QA q =>
  h1 H _ fun v H1 s1 o1 f1 => h2 H1 _ fun vs H2 s2 hl ho => q (v :: vs) H2 (s1.trans s2) (by simp [hl]) fun u hu => by
    rcases List.mem_cons.mp hu with rfl | hu
    · exact ⟨o1.same s2, f1⟩
    · exact ⟨(ho u hu).1, fun a e => none_back s1 ((ho u hu).2 a e)⟩
theorem mkO_use {H : Hp} {QA : List V → Hp → Prop} (n : Nat) (h : MkOs K ta σ n) (q : ∀ vs H', Same H H' → vs.length = n → (∀ v ∈ vs, Odd K H' v ∧ ∀ a, v = .ref a → H a = none) → QA vs H') : ta σ H QA := h H QA q
theorem mkO_non : MkO K (tC .non) σ := fun H Q q => q _ H (Same.refl H) .non fun a e => nomatch e
theorem mkO_bl {b : Bool} : MkO K (tC (.bl b)) σ := fun H Q q => q _ H (Same.refl H) (.bl b) fun a e => nomatch e
theorem mkO_int {i : Int} : MkO K (tC (.int i)) σ := fun H Q q => q _ H (Same.refl H) (.int i) fun a e => nomatch e
theorem mkO_str {z : Str} : MkO K (tC (.str z)) σ := fun H Q q => q _ H (Same.refl H) (.str z) fun a e => nomatch e
theorem mkO_dict : MkO K tDNewK σ := fun H Q q => Rd.rd_dnew fun p H' hp s' h' => q _ H' s' (.dict h') fun a e => by cases e; exact hp
/-- a list, a tuple of constants -/
theorem mkO_lst {xs : List V} (h : ∀ H QA, QA xs H → ta σ H QA) (hz : xs.length ≤ 100) : MkO K (tCB Rd.rMkLst ta) σ := fun H Q q => h H _ (Rd.rd_mkLst (Nat.le_trans hz (by decide)) fun p H' hp s' h' => q _ H' s' (.lst (SqL.of h')) fun a e => by cases e; exact hp)
theorem mkO_tup {xs : List V} {ds : List PyData} (h : ∀ H QA, QA xs H → ta σ H QA) (hz : xs.length ≤ 100) (hd : ∀ H, Rd.DtAll K H xs ds) (hs : SeqAt.shaped (.tuple ds) = true) (hb : ∀ H, BadT K H xs) : MkO K (tCB Rd.rMkTup ta) σ :=
  fun H Q q => h H _ (Rd.rd_mkTup (Nat.le_trans hz (by decide)) fun p H' hp s' h' => q _ H' s' (.tup (SqT.of h') (hd H') hs (hb H')) fun a e => by cases e; exact hp)
end
theorem mkO_pp {K : PySem.W.Frag} {σ : L2.St} {z : Str} {i : Int} (hz : PyData.strOk z = true := by decide +kernel) : MkO K (tCB Rd.rMkTup (tCons (tC (.str z)) (tCons (tCB Rd.rMkTup (tCons (tC (.int i)) tNil)) tNil))) σ := by
  intro H Q q
  walk_at "rd"
  refine Rd.rd_mkTup (by show 1 ≤ sizeLine; decide) fun p1 H1 n1 s1 h1 => ?_
  refine Rd.rd_mkTup (by show 2 ≤ sizeLine; decide) fun p2 H2 n2 s2 h2 => ?_
  have h12 : SqT K H2 p1 [.int i] := SqT.of (s2 _ _ h1)
  exact q _ H2 (s1.trans s2) (.tup (SqT.of h2) (.cons (.str z) (.cons (.tup h12 (.cons (.int i) .nil)) .nil)) (by simp [SeqAt.shaped, PyData.canLay0, PyData.canLayAll0, PyData.depth, PyData.depthAll, hz]) (.num (.inr (.inr (.inr (.inr ⟨_, _, rfl, h12⟩)))))) fun a e => by cases e; exact none_back s1 n2
theorem mkO_pf {K : PySem.W.Frag} {σ : L2.St} {z : Str} {i : Int} (hz : PyData.strOk z = true := by decide +kernel) : MkO K (tCB Rd.rMkTup (tCons (tCB Rd.rMkTup (tCons (tC (.str z)) tNil)) (tCons (tC (.int i)) tNil))) σ := by
  intro H Q q
  walk_at "rd"
  refine Rd.rd_mkTup (by show 1 ≤ sizeLine; decide) fun p1 H1 n1 s1 h1 => ?_
  refine Rd.rd_mkTup (by show 2 ≤ sizeLine; decide) fun p2 H2 n2 s2 h2 => ?_
  have h12 : SqT K H2 p1 [.str z] := SqT.of (s2 _ _ h1)
  exact q _ H2 (s1.trans s2) (.tup (SqT.of h2) (.cons (.tup h12 (.cons (.str z) .nil)) (.cons (.int i) .nil)) (by simp [SeqAt.shaped, PyData.canLay0, PyData.canLayAll0, PyData.depth, PyData.depthAll, hz]) (.first (.inr ⟨_, _, rfl, h12⟩))) fun a e => by cases e; exact none_back s1 n2
theorem odd_rolled {K : PySem.W.Frag} {H H' : Hp} {v : V} {d : Addr} (h : Odd K H v) (hD : Dice H d) (r : Rolled d H H') (ne : ∀ a, v = .ref a → a ≠ d) : Odd K H' v :=
  h.mono (fun _ _ q => r.sqT hD q) (fun a _ e q => r.sqL (ne a e) q) fun a e q => r.keep _ _ (ne a e) q
local macro_rules | `(tactic| walk_at "odd_c") => `(tactic| (intro H QA q; walk_at "rd"; exact q))
local macro_rules | `(tactic| walk_at "odd_d") => `(tactic| (intro H; repeat' constructor))
local macro_rules | `(tactic| walk_at "odd_b") => `(tactic| (intro H; first | exact .nil | exact .one (by decide +kernel) | exact .word (by decide +kernel) (by decide +kernel) | exact .num (.inl ⟨_, rfl⟩) | exact .num (.inr (.inl ⟨_, rfl⟩)) | exact .num (.inr (.inr (.inl rfl))) | exact .num (.inr (.inr (.inr (.inl ⟨_, rfl, by decide⟩)))) | exact .first (.inl ⟨_, rfl⟩) | exact .long))
section
variable {gd : Bool} {P : Program} {w : World} {K : PySem.W.Frag} {mg : Str → Option Value} {base : Heap} {IG IO : Addr}
def spOdd (K : PySem.W.Frag) : Sp := Rd.mkSp (fun (d : Addr) => [.ref d]) fun d H Q _ => Dice H d ∧ ∀ v H', Rolled d H H' → Odd K H' v → (∀ a, v = .ref a → a ≠ d) → Q v H'
theorem ok_odd (F : Rd.Has K mg "_law_odd" s__law_odd) (g : Glob mg) (c__law_one_of : Rd.Fn gd P w K mg base CX0 2 "_law_one_of" (spOneOf K)) : Rd.Fn gd P w K mg base CX0 3 "_law_odd" (spOdd K) := by
  refine F.fn sc__law_odd (fun _ => rfl) (fun _ _ _ _ _ _ us hl => match us, hl with | [_], _ => rfl) fun f cdv A outer s H Q E d hr h => ?_
  obtain ⟨hD, k⟩ := h
  refine ⟨_, (pss_cons (ps_set (i := 1) sc__law_odd.nd rfl (Or.inl rfl) (Rd.pe_lst (pa_cons pe_non (pa_cons pe_bl (pa_cons pe_int (pa_cons pe_str (pa_cons pe_str (pa_cons (Rd.pe_tup pa_nil) (pa_cons (Rd.pe_lst pa_nil) (pa_cons pe_dnewK (pa_cons (Rd.pe_tup (pa_cons pe_str (pa_cons pe_int pa_nil))) (pa_cons (Rd.pe_tup (pa_cons pe_str pa_nil)) (pa_cons (Rd.pe_tup (pa_cons pe_str pa_nil)) (pa_cons (Rd.pe_tup (pa_cons pe_str (pa_cons (pe_un un_neg pe_int) pa_nil))) pa_nil))))))))))))))
      (pss_cons (ps_set (i := 1) sc__law_odd.nd rfl (Or.inl rfl) (pe_op op_cat (pv 1) (Rd.pe_lst (pa_cons (Rd.pe_tup (pa_cons pe_str (pa_cons (pe_un un_neg pe_int) pa_nil))) (pa_cons (Rd.pe_tup (pa_cons pe_str (pa_cons pe_bl pa_nil))) (pa_cons (Rd.pe_tup (pa_cons pe_str (pa_cons pe_bl pa_nil))) (pa_cons (Rd.pe_tup (pa_cons pe_str (pa_cons pe_str pa_nil))) (pa_cons (Rd.pe_tup (pa_cons pe_str (pa_cons (Rd.pe_tup (pa_cons pe_int pa_nil)) pa_nil))) (pa_cons (Rd.pe_tup (pa_cons pe_str (pa_cons pe_int pa_nil))) pa_nil)))))))))
      (pss_cons (ps_set (i := 1) sc__law_odd.nd rfl (Or.inl rfl) (pe_op op_cat (pv 1) (Rd.pe_lst (pa_cons (Rd.pe_tup (pa_cons pe_int (pa_cons pe_str pa_nil))) (pa_cons (Rd.pe_tup (pa_cons pe_str (pa_cons pe_int pa_nil))) (pa_cons (Rd.pe_lst (pa_cons pe_str (pa_cons pe_int pa_nil))) (pa_cons (Rd.pe_tup (pa_cons pe_str (pa_cons pe_int (pa_cons pe_int pa_nil)))) (pa_cons (Rd.pe_tup (pa_cons pe_str (pa_cons pe_non pa_nil))) (pa_cons (Rd.pe_tup (pa_cons (Rd.pe_tup (pa_cons pe_str pa_nil)) (pa_cons pe_int pa_nil))) pa_nil)))))))))
      (pss_one (ps_ret (Rd.pe_fn c__law_one_of (hr.mono (by decide)) (by rfl) (pa_cons (pv 0) (pa_cons (pe_op op_cat (pv 1) (Rd.pe_lst (pa_cons (Rd.pe_tup (pa_cons pe_str (pa_cons pe_non pa_nil))) (pa_cons (Rd.pe_tup (pa_cons pe_str pa_nil)) pa_nil)))) pa_nil)))))))), ?_⟩
  try simp only [Rd.noxK, Rd.cxK]
  refine Rd.rd_start [some (V.ref d), none] rfl ?_
  refine Rd.rd_seq (Rd.rd_asg (Rd.rd_cb (mkO_use (K := K) 12 ?_ fun v1 H1 s1 l1 o1 => ?_)))
  ·
    refine mkO_cons mkO_non ?_
    refine mkO_cons mkO_bl ?_
    refine mkO_cons mkO_int ?_
    refine mkO_cons mkO_str ?_
    refine mkO_cons mkO_str ?_
    refine mkO_cons (mkO_tup (xs := []) (ds := []) (by walk_at "odd_c") (by decide) (by walk_at "odd_d") (by decide +kernel) (by walk_at "odd_b")) ?_
    refine mkO_cons (mkO_lst (xs := []) (by walk_at "odd_c") (by decide)) ?_
    refine mkO_cons mkO_dict ?_
    refine mkO_cons (mkO_tup (xs := [.str "beyond", .int (0)]) (ds := [.str "beyond", .int (0)]) (by walk_at "odd_c") (by decide) (by walk_at "odd_d") (by decide +kernel) (by walk_at "odd_b")) ?_
    refine mkO_cons (mkO_tup (xs := [.str "power"]) (ds := [.str "power"]) (by walk_at "odd_c") (by decide) (by walk_at "odd_d") (by decide +kernel) (by walk_at "odd_b")) ?_
    refine mkO_cons (mkO_tup (xs := [.str "free"]) (ds := [.str "free"]) (by walk_at "odd_c") (by decide) (by walk_at "odd_d") (by decide +kernel) (by walk_at "odd_b")) ?_
    refine mkO_cons (mkO_tup (xs := [.str "power", .int (-1)]) (ds := [.str "power", .int (-1)]) (by walk_at "odd_c") (by decide) (by walk_at "odd_d") (by decide +kernel) (by walk_at "odd_b")) ?_
    exact mkO_nil
  refine Rd.rd_mkLst (by rw [l1]; decide) fun p2 H2 n2 s2 h2 => ?_
  refine Rd.rd_nameS (Rd.rd_name0 (Rd.rd_nx (Rd.rd_seq (Rd.rd_asg (Rd.rd_op (Rd.rd_var rfl (Rd.rd_cb (mkO_use (K := K) 6 ?_ fun v3 H3 s3 l3 o3 => ?_))))))))
  ·
    refine mkO_cons (mkO_tup (xs := [.str "free", .int (-1)]) (ds := [.str "free", .int (-1)]) (by walk_at "odd_c") (by decide) (by walk_at "odd_d") (by decide +kernel) (by walk_at "odd_b")) ?_
    refine mkO_cons (mkO_tup (xs := [.str "power", .bl true]) (ds := [.str "power", .bool true]) (by walk_at "odd_c") (by decide) (by walk_at "odd_d") (by decide +kernel) (by walk_at "odd_b")) ?_
    refine mkO_cons (mkO_tup (xs := [.str "free", .bl false]) (ds := [.str "free", .bool false]) (by walk_at "odd_c") (by decide) (by walk_at "odd_d") (by decide +kernel) (by walk_at "odd_b")) ?_
    refine mkO_cons (mkO_tup (xs := [.str "power", .str "1"]) (ds := [.str "power", .str "1"]) (by walk_at "odd_c") (by decide) (by walk_at "odd_d") (by decide +kernel) (by walk_at "odd_b")) ?_
    refine mkO_cons mkO_pp ?_
    refine mkO_cons (mkO_tup (xs := [.str "Power", .int (1)]) (ds := [.str "Power", .int (1)]) (by walk_at "odd_c") (by decide) (by walk_at "odd_d") (by decide +kernel) (by walk_at "odd_b")) ?_
    exact mkO_nil
  refine Rd.rd_mkLst (by rw [l3]; decide) fun p4 H4 n4 s4 h4 => ?_
  refine Rd.rd_cat (s4 _ _ (s3 _ _ h2)) h4 (by rw [l1, l3]; decide) fun p5 H5 n5 s5 h5 => ?_
  refine Rd.rd_nameS (Rd.rd_name0 (Rd.rd_nx (Rd.rd_seq (Rd.rd_asg (Rd.rd_op (Rd.rd_var rfl (Rd.rd_cb (mkO_use (K := K) 6 ?_ fun v6 H6 s6 l6 o6 => ?_))))))))
  ·
    refine mkO_cons (mkO_tup (xs := [.int (1), .str "power"]) (ds := [.int (1), .str "power"]) (by walk_at "odd_c") (by decide) (by walk_at "odd_d") (by decide +kernel) (by walk_at "odd_b")) ?_
    refine mkO_cons (mkO_tup (xs := [.str "n", .int (2)]) (ds := [.str "n", .int (2)]) (by walk_at "odd_c") (by decide) (by walk_at "odd_d") (by decide +kernel) (by walk_at "odd_b")) ?_
    refine mkO_cons (mkO_lst (xs := [.str "power", .int (1)]) (by walk_at "odd_c") (by decide)) ?_
    refine mkO_cons (mkO_tup (xs := [.str "power", .int (1), .int (2)]) (ds := [.str "power", .int (1), .int (2)]) (by walk_at "odd_c") (by decide) (by walk_at "odd_d") (by decide +kernel) (by walk_at "odd_b")) ?_
    refine mkO_cons (mkO_tup (xs := [.str "beyond", .non]) (ds := [.str "beyond", .none]) (by walk_at "odd_c") (by decide) (by walk_at "odd_d") (by decide +kernel) (by walk_at "odd_b")) ?_
    refine mkO_cons mkO_pf ?_
    exact mkO_nil
  refine Rd.rd_mkLst (by rw [l6]; decide) fun p7 H7 n7 s7 h7 => ?_
  refine Rd.rd_cat (s7 _ _ (s6 _ _ h5)) h7 (by rw [List.length_append, l1, l3, l6]; decide) fun p8 H8 n8 s8 h8 => ?_
  refine Rd.rd_nameS (Rd.rd_name0 (Rd.rd_nx (Rd.rd_ret (Rd.rd_fn (Rd.rd_cons (Rd.rd_var rfl (Rd.rd_cons (Rd.rd_op (Rd.rd_var rfl (Rd.rd_cb (mkO_use (K := K) 2 ?_ fun v9 H9 s9 l9 o9 => ?_)))))))))))
  ·
    refine mkO_cons (mkO_tup (xs := [.str "free", .non]) (ds := [.str "free", .none]) (by walk_at "odd_c") (by decide) (by walk_at "odd_d") (by decide +kernel) (by walk_at "odd_b")) ?_
    refine mkO_cons (mkO_tup (xs := [.str ""]) (ds := [.str ""]) (by walk_at "odd_c") (by decide) (by walk_at "odd_d") (by decide +kernel) (by walk_at "odd_b")) ?_
    exact mkO_nil
  refine Rd.rd_mkLst (by rw [l9]; decide) fun p10 H10 n10 s10 h10 => ?_
  refine Rd.rd_cat (s10 _ _ (s9 _ _ h8)) h10 (by rw [List.length_append, List.length_append, l1, l3, l6, l9]; decide) fun p11 H11 n11 s11 h11 => ?_
  walk_at "rd"
  have t2 : Same H H2 := s1.trans s2
  have t3 : Same H2 H11 := ((((((((s3.trans s4).trans s5).trans s6).trans s7).trans s8).trans s9).trans s10).trans s11)
  have t5 : Same H5 H11 := ((((((s6.trans s7).trans s8).trans s9).trans s10).trans s11))
  have t35 : Same H3 H11 := (s4.trans s5).trans t5
  have t6 : Same H6 H11 := (((((s7.trans s8).trans s9).trans s10).trans s11))
  have t9 : Same H9 H11 := (s10.trans s11)
  have tA : Same H H11 := t2.trans t3
  have tB : Same H H10 := t2.trans ((((((((s3.trans s4).trans s5).trans s6).trans s7).trans s8).trans s9).trans s10))
  have t05 : Same H H5 := t2.trans ((s3.trans s4).trans s5)
  have t08 : Same H H8 := t05.trans ((s6.trans s7).trans s8)
  refine rd_one (hD.same tA) (Dice.ne (hD.same tB) n11) (SqL.of h11) (by simp only [List.length_append, l1, l3, l6, l9]; decide) (by simp only [List.length_append, l1, l3, l6, l9]; decide) fun y H12 hy r12 => ?_
  have hO : Odd K H11 y ∧ ∀ a, y = .ref a → H a = none := by
    simp only [List.mem_append] at hy
    rcases hy with ((hy | hy) | hy) | hy
    · exact ⟨(o1 y hy).1.same (s2.trans t3), (o1 y hy).2⟩
    · exact ⟨(o3 y hy).1.same t35, fun a e => none_back t2 ((o3 y hy).2 a e)⟩
    · exact ⟨(o6 y hy).1.same t6, fun a e => none_back t05 ((o6 y hy).2 a e)⟩
    · exact ⟨(o9 y hy).1.same t9, fun a e => none_back t08 ((o9 y hy).2 a e)⟩
  have ne : ∀ a, y = .ref a → a ≠ d := fun a e => hD.ne (hO.2 a e)
  refine k y H12 (Rolled.pre tA r12) (odd_rolled hO.1 (hD.same tA) r12 ne) ne
end
end M
set_option Elab.async false
set_option linter.all false
set_option maxRecDepth 100000
set_option maxHeartbeats 4000000
namespace M
open PySem L2
local macro_rules | `(tactic| walk_at "rdc") => `(tactic| first | exact Or.inl ⟨by decide, by decide⟩ | exact Or.inr ⟨by decide, by decide⟩ | exact ⟨by decide, by decide, by decide⟩ | exact ⟨by decide, by decide⟩ | decide | omega | assumption | (refine Or.inl ⟨?_, ?_⟩ <;> omega) | (refine Or.inr ⟨?_, ?_⟩ <;> omega) | (refine ⟨?_, ?_⟩ <;> omega))
local macro_rules | `(tactic| walk_at "rd1") => `(tactic| with_reducible first
  | refine Rd.rd_seq ?_ | refine Rd.rd_asg ?_ | refine Rd.rd_op ?_ | (refine' Rd.rd_var ?vh ?_; (case vh => with_unfolding_all rfl)) | refine Rd.rd_c ?_ | refine Rd.rd_I0 ?_ | refine Rd.rd_name0 ?_ | refine Rd.rd_nameS ?_ | refine Rd.rd_fn ?_
  | refine Rd.rd_cb ?_ | refine Rd.rd_cons ?_ | refine Rd.rd_nil ?_ | refine Rd.rd_int ?_ | refine Rd.rd_intB ?_ | refine Rd.rd_abs ?_ | refine Rd.rd_max2 ?_ | refine Rd.rd_min2 ?_
  | refine Rd.rd_call ?_ | refine Rd.rd_ifE ?_ | refine Rd.rd_test ?_ | refine Rd.rd_tB ?_ | refine Rd.rd_blV ?_ | refine Rd.rd_and ?_ | refine Rd.rd_or ?_ | refine Rd.rd_not ?_
  | refine Rd.rd_andV ?_ | refine Rd.rd_orV ?_ | refine Rd.rd_notV ?_ | refine Rd.rd_next ?_ | refine Rd.rd_ret ?_ | refine Rd.rd_drop ?_ | refine Rd.rd_ifS ?_ | refine Rd.rd_nx ?_ | refine Rd.rd_rt ?_ | refine Rd.rd_tMatch ?_ | refine Rd.rd_tPar ?_ | refine Rd.rd_par ?_ | refine Rd.rd_sl ?_ | refine Rd.rd_noPart ?_ | refine Rd.rd_part ?_ | refine Rd.rd_intV ?_ | refine Rd.rd_lc ?_ | (refine' Rd.rd_aug ?vh ?_; (case vh => with_unfolding_all rfl)) | refine Rd.rd_ipI ?_ | refine Rd.rd_for ?_ | (refine' Rd.rd_IT ?ln ?_; (case ln => with_unfolding_all walk_at "at")) | (refine' Rd.rd_IL ?ln ?_; (case ln => with_unfolding_all walk_at "at")) | refine Rd.rd_iTup ?_ | refine Rd.rd_iList ?_ | refine Rd.rd_iRng1 ?_ | refine Rd.rd_iRng2 ?_ | refine Rd.rd_isi (Rd.isi_int Rd.kk_int_int) ?_ | refine Rd.rd_isi (Rd.isi_int Rd.kk_int_bool) ?_ | refine Rd.rd_methR ?_ | refine Rd.rd_cmeth ?_ | refine Rd.rd_fldS ?_ | refine Rd.rd_fld ?_ | (refine' Rd.rd_mkVS ?vh ?_; (case vh => with_unfolding_all rfl)) | (refine' Rd.rd_starT ?ln ?_; (case ln => with_unfolding_all walk_at "at")) | refine Rd.rd_iEnum ?_ | refine Rd.rd_iZip ?_ | (refine' Rd.rd_IE ?ln ?_; (case ln => with_unfolding_all walk_at "at")) | (refine' Rd.rd_IZ ?ln ?lm ?_; (case ln => with_unfolding_all walk_at "at"); (case lm => with_unfolding_all walk_at "at")) | (refine' Rd.rd_gTup ?ln ?lk ?_; (case ln => with_unfolding_all walk_at "at"); (case lk => with_unfolding_all rfl)) | refine Rd.rd_gCons ?_ | refine Rd.rd_gNil ?_ | refine Rd.rd_m1 ?_ | refine Rd.rd_strV ?_ | refine Rd.rd_tXiM ?_ | refine Rd.rd_tXiB ?_ | refine Rd.rd_tXiS ?_ | refine Rd.rd_bm ?_ | refine Rd.rd_bm0 ?_ | refine Rd.rd_isN ?_ | refine Rd.rd_notN ?_ | refine Rd.rd_sub ?_ | refine Rd.rd_un ?_ | refine Rd.rd_U ?_
  | (refine' Rd.rd_eq ?sc ?_; (case sc => with_unfolding_all rfl)) | (refine' Rd.rd_ne ?sc ?_; (case sc => with_unfolding_all rfl))
  | (refine' Rd.rd_I ?cc ?_; (case cc => with_unfolding_all walk_at "rdc"))
  | (refine' Rd.rd_lenL ?ln ?_; (case ln => with_unfolding_all walk_at "at")) | (refine' Rd.rd_lenT ?ln ?_; (case ln => with_unfolding_all walk_at "at"))
  | (refine' Rd.rd_ixL ?ln ?ia ?_; (case ln => with_unfolding_all walk_at "at"); (case ia => with_unfolding_all first | exact Rd.at0 | exact Rd.at1 | exact Rd.at2 | exact Rd.at3 | exact Rd.at4 | rfl)) | (refine' Rd.rd_ixT ?ln ?ia ?_; (case ln => with_unfolding_all walk_at "at"); (case ia => with_unfolding_all first | exact Rd.at0 | exact Rd.at1 | exact Rd.at2 | exact Rd.at3 | exact Rd.at4 | rfl)))
local macro_rules | `(tactic| walk_at "at") => `(tactic| first | assumption | (apply SqL.of; assumption) | (apply SqT.of; assumption) | (apply SqL.of; exact upd_same) | (apply SqT.of; exact upd_same))
local macro_rules | `(tactic| walk_at "rd") => `(tactic| repeat walk_at "rd1")
/-! ### errors told -/
abbrev s__law_right : Stmt := top 32
theorem sc__law_right : FnScope ["_law_dice_here", "_law_one", "_law_other", "_law_odd_here", "_law_some", "_law_told", "_law_turn"] ["_law_dice_here"] (defScope s__law_right) := ⟨rfl, rfl, rfl, by decide +kernel, rfl, by decide +kernel, by decide +kernel⟩
abbrev s_law : Stmt := top 33
theorem sc_law : FnScope ["_law_script", "_law_at", "_law_dice_here", "_law_turn", "_law_told", "_law_some", "_law_one", "_law_two", "_law_great", "_law_wrong"] ["_law_script"] (defScope s_law) := ⟨rfl, rfl, rfl, by decide +kernel, rfl, by decide +kernel, by decide +kernel⟩
theorem pe_err {X : Cx} {T : List (Addr × Str)} {c P IG IO : Addr} {k : Nat} {params : Arguments} {body : Expr} {scope : Scope} {t : XK → TE} {p lpos pos : Pos} (hE : Rd.Has X.K X.mg "_law_error" s__law_error) (To : ErrO X.K X.mg IG IO) (hg : Gl X "_law_error")
    (TB : LamX.TabB X.base X.mg c P) (hcode : X.env.code = .ref c) (hmT : (P, X.env.qual ++ "<lambda>") ∈ T) (hu : ∀ p ∈ T, p.1 = P → p.2 = X.env.qual ++ "<lambda>") (hr : Room (k + 2) X.A) (L : LamX.LamS X.env.scope scope) (hdef : defaultsOf params X.env = ([], []))
    (hbind : ∀ (q : Str) (cl : List (Str × Addr)) (pm cv ctv : Value), bindArgs (PySem.W.kla_fn "<lambda>" q params body scope cl pm cv ctv) ⟨[], []⟩ = pure [])
    (hbody : ∀ (A : Around) (outer : List Env) (s : Shared) (H : Hp) (E : XK) (f c' : Addr), Room k (A.deeper (LamX.lamEnv X scope s.heap.objs.size f c')) → PE (LamX.lamCx X A outer s H E scope f c') body (t E)) :
    PE X (.Call (.Name "_law_error" p) [.Lambda params body scope lpos] [] pos) (LamX.tLam T (Rd.TErr (.ref IO) "operation" "returned") t) := by
  obtain ⟨g, ⟨fd, F⟩, hm, hk⟩ := hE
  obtain ⟨oc, od, dV, kV, doc, pm, an, cdv, ct, osl, e, lk, hcd, hD, hK⟩ := F.ex
  subst e
  rcases hD with ⟨_, e⟩ | ⟨e, _⟩
  · subst e
    refine LamX.pe_lamcall (a := "_law_call") (Ng := ["_law_call", "e"]) hg hm hk lk hcd (Binds.all fun us hl => match us, hl with | [_], _ => rfl) sc__law_error rfl (.inl rfl) ?_ TB hcode hmT hu hr L hdef hbind hbody
    exact Rd.err_gives rfl rfl To.gG To.g (by decide) (by decide) To.x1 To.x2 fun f => rfl
  · exact absurd rfl e
end M
set_option Elab.async false
set_option linter.all false
set_option maxRecDepth 100000
set_option maxHeartbeats 4000000
namespace M
open PySem L2
local macro_rules | `(tactic| walk_at "rdc") => `(tactic| first | exact Or.inl ⟨by decide, by decide⟩ | exact Or.inr ⟨by decide, by decide⟩ | exact ⟨by decide, by decide, by decide⟩ | exact ⟨by decide, by decide⟩ | decide | omega | assumption | (refine Or.inl ⟨?_, ?_⟩ <;> omega) | (refine Or.inr ⟨?_, ?_⟩ <;> omega) | (refine ⟨?_, ?_⟩ <;> omega))
local macro_rules | `(tactic| walk_at "rd1") => `(tactic| with_reducible first
  | refine Rd.rd_seq ?_ | refine Rd.rd_asg ?_ | refine Rd.rd_op ?_ | (refine' Rd.rd_var ?vh ?_; (case vh => with_unfolding_all rfl)) | refine Rd.rd_c ?_ | refine Rd.rd_I0 ?_ | refine Rd.rd_name0 ?_ | refine Rd.rd_nameS ?_ | refine Rd.rd_fn ?_
  | refine Rd.rd_cb ?_ | refine Rd.rd_cons ?_ | refine Rd.rd_nil ?_ | refine Rd.rd_int ?_ | refine Rd.rd_intB ?_ | refine Rd.rd_abs ?_ | refine Rd.rd_max2 ?_ | refine Rd.rd_min2 ?_
  | refine Rd.rd_call ?_ | refine Rd.rd_ifE ?_ | refine Rd.rd_test ?_ | refine Rd.rd_tB ?_ | refine Rd.rd_blV ?_ | refine Rd.rd_and ?_ | refine Rd.rd_or ?_ | refine Rd.rd_not ?_
  | refine Rd.rd_andV ?_ | refine Rd.rd_orV ?_ | refine Rd.rd_notV ?_ | refine Rd.rd_next ?_ | refine Rd.rd_ret ?_ | refine Rd.rd_drop ?_ | refine Rd.rd_ifS ?_ | refine Rd.rd_nx ?_ | refine Rd.rd_rt ?_ | refine Rd.rd_tMatch ?_ | refine Rd.rd_tPar ?_ | refine Rd.rd_par ?_ | refine Rd.rd_sl ?_ | refine Rd.rd_noPart ?_ | refine Rd.rd_part ?_ | refine Rd.rd_intV ?_ | refine Rd.rd_lc ?_ | (refine' Rd.rd_aug ?vh ?_; (case vh => with_unfolding_all rfl)) | refine Rd.rd_ipI ?_ | refine Rd.rd_for ?_ | (refine' Rd.rd_IT ?ln ?_; (case ln => with_unfolding_all walk_at "at")) | (refine' Rd.rd_IL ?ln ?_; (case ln => with_unfolding_all walk_at "at")) | refine Rd.rd_iTup ?_ | refine Rd.rd_iList ?_ | refine Rd.rd_iRng1 ?_ | refine Rd.rd_iRng2 ?_ | refine Rd.rd_isi (Rd.isi_int Rd.kk_int_int) ?_ | refine Rd.rd_isi (Rd.isi_int Rd.kk_int_bool) ?_ | refine Rd.rd_methR ?_ | refine Rd.rd_cmeth ?_ | refine Rd.rd_fldS ?_ | refine Rd.rd_fld ?_ | (refine' Rd.rd_mkVS ?vh ?_; (case vh => with_unfolding_all rfl)) | (refine' Rd.rd_starT ?ln ?_; (case ln => with_unfolding_all walk_at "at")) | refine Rd.rd_iEnum ?_ | refine Rd.rd_iZip ?_ | (refine' Rd.rd_IE ?ln ?_; (case ln => with_unfolding_all walk_at "at")) | (refine' Rd.rd_IZ ?ln ?lm ?_; (case ln => with_unfolding_all walk_at "at"); (case lm => with_unfolding_all walk_at "at")) | (refine' Rd.rd_gTup ?ln ?lk ?_; (case ln => with_unfolding_all walk_at "at"); (case lk => with_unfolding_all rfl)) | refine Rd.rd_gCons ?_ | refine Rd.rd_gNil ?_ | refine Rd.rd_m1 ?_ | refine Rd.rd_strV ?_ | refine Rd.rd_tXiM ?_ | refine Rd.rd_tXiB ?_ | refine Rd.rd_tXiS ?_ | refine Rd.rd_bm ?_ | refine Rd.rd_bm0 ?_ | refine Rd.rd_isN ?_ | refine Rd.rd_notN ?_ | refine Rd.rd_sub ?_ | refine Rd.rd_un ?_ | refine Rd.rd_U ?_
  | (refine' Rd.rd_eq ?sc ?_; (case sc => with_unfolding_all rfl)) | (refine' Rd.rd_ne ?sc ?_; (case sc => with_unfolding_all rfl))
  | (refine' Rd.rd_I ?cc ?_; (case cc => with_unfolding_all walk_at "rdc"))
  | (refine' Rd.rd_lenL ?ln ?_; (case ln => with_unfolding_all walk_at "at")) | (refine' Rd.rd_lenT ?ln ?_; (case ln => with_unfolding_all walk_at "at"))
  | (refine' Rd.rd_ixL ?ln ?ia ?_; (case ln => with_unfolding_all walk_at "at"); (case ia => with_unfolding_all first | exact Rd.at0 | exact Rd.at1 | exact Rd.at2 | exact Rd.at3 | exact Rd.at4 | rfl)) | (refine' Rd.rd_ixT ?ln ?ia ?_; (case ln => with_unfolding_all walk_at "at"); (case ia => with_unfolding_all first | exact Rd.at0 | exact Rd.at1 | exact Rd.at2 | exact Rd.at3 | exact Rd.at4 | rfl)))
local macro_rules | `(tactic| walk_at "at") => `(tactic| first | assumption | (apply SqL.of; assumption) | (apply SqT.of; assumption) | (apply SqL.of; exact upd_same) | (apply SqT.of; exact upd_same))
local macro_rules | `(tactic| walk_at "rd") => `(tactic| repeat walk_at "rd1")
/-- but for the dice at d and the tables all is as it was -/
structure Kept (d : Addr) (H H' : Hp) : Prop where
  keep : ∀ b o, b ≠ d → H b = some o → (∀ ps, o ≠ .tbl ps) → H' b = some o
  dice : Dice H' d
section
variable {K : PySem.W.Frag} {H H' H1 H2 : Hp} {d a : Addr} {xs : List V} {v : V} {g : Gw} {T : List (Addr × Str)}
theorem Rolled.kept (r : Rolled d H H') : Kept d H H' := ⟨fun b o hb e _ => r.keep b o hb e, r.dice⟩
theorem Kept.same (k : Kept d H H1) (s : Same H1 H2) : Kept d H H2 := ⟨fun b o hb e n => s _ _ (k.keep b o hb e n), k.dice.same s⟩
theorem Kept.trans (k : Kept d H H1) (k' : Kept d H1 H2) : Kept d H H2 := ⟨fun b o hb e n => k'.keep b o hb (k.keep b o hb e n) n, k'.dice⟩
theorem dice_N (h : Dice H d) (e : LamX.ExtN H H') : Dice H' d := by
  obtain ⟨x, y, z, h⟩ := h
  exact ⟨x, y, z, e _ _ h fun ps q => by cases q⟩
theorem Kept.extN (k : Kept d H H1) (e : LamX.ExtN H1 H2) : Kept d H H2 := ⟨fun b o hb q n => e _ _ (k.keep b o hb q n) n, dice_N k.dice e⟩
theorem tabs_rolled (h : LamX.Tabs T H) (hD : Dice H d) (r : Rolled d H H') : LamX.Tabs T H' := by
  obtain ⟨x, y, z, e⟩ := hD
  exact Rd.tabs_keep h e r.keep
theorem gr_rolled (h : Gr K H v g) (hD : Dice H d) (r : Rolled d H H') : Gr K H' v g := h.mono fun _ _ q => r.sqT hD q
theorem gr_N (h : Gr K H v g) (e : LamX.ExtN H H') : Gr K H' v g := h.mono fun _ _ q => Rd.sqT_N e q
theorem odd_N (h : Odd K H v) (e : LamX.ExtN H H') : Odd K H' v := h.mono (fun _ _ q => Rd.sqT_N e q) (fun _ _ _ q => Rd.sqL_N e q) fun _ _ q => e _ _ q fun ps z => by cases z
theorem small_g (h : SmG g) : ∀ x ∈ g.ds, Rd.Small x := by
  have hn : ∀ n : Nat, n ≤ 10 ^ 30 + 1 → Rd.Small (.int (n : Int)) := fun n h => Rd.small_int (by
    show (n : Int).natAbs.log2 < 250
    have e : (n : Int).natAbs = n := Int.natAbs_natCast n
    rw [e]
    by_cases hz : n = 0
    · subst hz; decide
    · exact (Nat.log2_lt hz).mpr (Nat.lt_of_le_of_lt h (by decide)))
  intro x hx
  cases g with
  | pw n =>
    simp only [Gw.ds, List.mem_cons, List.not_mem_nil, or_false] at hx
    rcases hx with rfl | rfl
    · exact ⟨by decide +kernel, by decide +kernel, by decide +kernel, by decide +kernel⟩
    · exact hn n h
  | be =>
    simp only [Gw.ds, List.mem_cons, List.not_mem_nil, or_false] at hx
    subst hx
    exact ⟨by decide +kernel, by decide +kernel, by decide +kernel, by decide +kernel⟩
  | fr n =>
    simp only [Gw.ds, List.mem_cons, List.not_mem_nil, or_false] at hx
    rcases hx with rfl | rfl
    · exact ⟨by decide +kernel, by decide +kernel, by decide +kernel, by decide +kernel⟩
    · exact hn n h
theorem smG_mx {a b : Gw} (h1 : SmG a) (h2 : SmG b) : SmG (Gw.mx a b) := by
  unfold Gw.mx
  split
  · exact h2
  · exact h1
theorem smG_top : ∀ (gs : List Gw), (∀ g ∈ gs, SmG g) → SmG (Gw.top gs)
  | [], _ => Nat.zero_le _
  | g :: gs, h => by
    rw [Gw.top_cons]
    exact smG_mx (h g List.mem_cons_self) (smG_top gs fun x hx => h x (List.mem_cons_of_mem _ hx))
end
def lamQ (x : Str) : Str := (PyProof.Rows.envOfC x (defScope s__law_right) 0 0 .none).qual ++ "<lambda>"
def spRight (T : List (Addr × Str)) : Sp := Rd.mkSp (fun (d : Addr) => [.ref d]) fun d H Q _ => Dice H d ∧ LamX.Tabs T H ∧ ∀ H', Kept d H H' → LamX.Tabs T H' → Q (.bl true) H'
section
variable {P : Program} {w : World} {K : PySem.W.Frag} {mg : Str → Option Value} {base : Heap} {IG IO c Pt : Addr} {T : List (Addr × Str)}
theorem ok_right (F : Rd.HasC K mg "_law_right" s__law_right c) (g : Glob mg) (To : ErrO K mg IG IO) (hE : Rd.Has K mg "_law_error" s__law_error) (TB : LamX.TabB base mg c Pt) (mT : (Pt, lamQ "_law_right") ∈ T) (uT : ∀ p ∈ T, p.1 = Pt → p.2 = lamQ "_law_right")
    (c_is_growth : Rd.Fn true P w K mg base CX0 2 "is_growth" (spIsG K)) (c_compared : Rd.Fn true P w K mg base (L2.CX P w) 4 "compared" (spCmp K IO)) (cF_compared : Rd.Fn false P w K mg base (L2.CX P w) 4 "compared" (spCmp K IO))
    (cF_greatest_growth : Rd.Fn false P w K mg base (L2.CX P w) 4 "greatest_growth" (spGG K IO)) (c__law_growth : Rd.Fn true P w K mg base CX0 3 "_law_growth" (spDraw K)) (c__law_odd : Rd.Fn true P w K mg base CX0 3 "_law_odd" (spOdd K))
    (c__law_word : Rd.Fn true P w K mg base CX0 2 "_law_word" (spWord K)) (c__law_most_of : Rd.Fn true P w K mg base CX0 7 "_law_most_of" (spMost K 5)) (c__law_greatest : Rd.Fn true P w K mg base CX0 2 "_law_greatest" (spTopL K)) (c__law_roll : Rd.Fn true P w K mg base CX0 1 "_law_roll" spRoll) :
    Rd.Fn true P w K mg base CX0 8 "_law_right" (spRight T) := by
  refine F.fn sc__law_right (fun _ => rfl) (fun _ _ _ _ _ _ us hl => match us, hl with | [_], _ => rfl) fun f A outer s H Q E d hr h => ?_
  obtain ⟨hD, hT, k⟩ := h
  refine ⟨_, (pss_cons (ps_asg (Rd.pe_tup (pa_cons (Rd.pe_fn c__law_growth (hr.mono (by decide)) (by rfl) (pa_cons (pv 0) pa_nil)) (pa_cons (Rd.pe_fn c__law_growth (hr.mono (by decide)) (by rfl) (pa_cons (pv 0) pa_nil)) pa_nil))) (pg_tup rfl (pgs_cons (pg_name (i := 1) sc__law_right.nd rfl (Or.inr rfl)) (pgs_cons (pg_name (i := 2) sc__law_right.nd rfl (Or.inr rfl)) pgs_nil))))
      (pss_cons (ps_set (i := 3) sc__law_right.nd rfl (Or.inr rfl) (Rd.pe_fn c__law_odd (hr.mono (by decide)) (by rfl) (pa_cons (pv 0) pa_nil)))
      (pss_cons (ps_if (pt_cmpR (op_neD hr.units) (Rd.pe_lst (pa_cons (Rd.pe_fn c_is_growth (hr.mono (by decide)) (by rfl) (pa_cons (pv 1) pa_nil)) (pa_cons (Rd.pe_fn c_is_growth (hr.mono (by decide)) (by rfl) (pa_cons (pv 2) pa_nil)) (pa_cons (Rd.pe_fn c_is_growth (hr.mono (by decide)) (by rfl) (pa_cons (pv 3) pa_nil)) pa_nil)))) (Rd.pe_lst (pa_cons pe_bl (pa_cons pe_bl (pa_cons pe_bl pa_nil)))) (nomark _)) (pss_one (ps_ret pe_bl)) pss_nil)
      (pss_cons (ps_if (PW.pt (pw_or (pt_cmpR op_ne (Rd.pe_fnX c_compared (hr.mono (by decide)) (by rfl) Rd.passNo (pa_cons (pv 1) (pa_cons (pv 2) pa_nil))) (Rd.pe_fn c__law_word (hr.mono (by decide)) (by rfl) (pa_cons (pv 1) (pa_cons (pv 2) pa_nil))) (nomark _)) (pw_or1 (pt_cmpR op_ne (Rd.pe_fnX c_compared (hr.mono (by decide)) (by rfl) Rd.passNo (pa_cons (pv 2) (pa_cons (pv 1) pa_nil))) (Rd.pe_fn c__law_word (hr.mono (by decide)) (by rfl) (pa_cons (pv 2) (pa_cons (pv 1) pa_nil))) (nomark _))))) (pss_one (ps_ret pe_bl)) pss_nil)
      (pss_cons (ps_setLc (i := 4) (own := [("_law_turn", 6)]) (by rfl) sc__law_right.nd rfl rfl (sw_true rfl rfl rfl (by decide +kernel)) (pi_range1 (by rfl) g.range (pa_cons (Rd.pe_fn c__law_roll (hr.mono (by decide)) (by rfl) (pa_cons (pv 0) (pa_cons pe_int pa_nil))) pa_nil)) (blkOk_by (own := [("_law_turn", 6)]) (N := ["_law_dice_here", "_law_one", "_law_other", "_law_odd_here", "_law_some", "_law_told", "_law_turn"]) (sc := defScope s__law_right) (by decide +kernel)) (fun _ _ _ _ _ => (pg_name (i := 6) sc__law_right.nd rfl (Or.inl rfl))) (fun _ _ _ _ _ => pts_nil) (fun _ _ _ _ _ => (Rd.pe_fn c__law_growth (hr.mono (by decide)) (by rfl) (pa_cons (pv 0) pa_nil))))
      (pss_cons (ps_if (pt_cmpR op_ne (pe_callB (Rd.c_reprD hr.gd hr.units) (by rfl) g.repr (by decide +kernel) (pa_cons (Rd.pe_fn c__law_most_of (hr.mono (by decide)) (by rfl) (pa_cons (pv 4) pa_nil)) pa_nil)) (pe_callB (Rd.c_reprD hr.gd hr.units) (by rfl) g.repr (by decide +kernel) (pa_cons (Rd.pe_fn c__law_greatest (hr.mono (by decide)) (by rfl) (pa_cons (pv 4) pa_nil)) pa_nil)) (nomark _)) (pss_one (ps_ret pe_bl)) pss_nil)
      (pss_cons (ps_set (i := 5) sc__law_right.nd rfl (Or.inl rfl) (Rd.pe_lst (pa_cons (pe_err (T := T) (k := 4) hE To (by rfl) TB rfl mT uT (hr.mono (by decide)).toRoom (LamX.lamS_by (sc := defScope s__law_right) (by decide +kernel)) rfl (fun _ _ _ _ _ => rfl) (fun A outer s H E f c hr2 => (Rd.pe_fnX cF_compared (Rd.RoomG.any (hr2.mono (by decide))) (by rfl) (passes_call (takes_of rfl rfl rfl rfl) fun _ _ _ _ h => h) (pa_cons (pv 3) (pa_cons (pv 1) pa_nil))))) pa_nil)))
      (pss_cons (ps_expr (pe_bm PySem.F.plainAttrs_list PySem.F.slot_list_append PySem.F.type_list_append mt_append (pv 5) (pa_cons (pe_err (T := T) (k := 4) hE To (by rfl) TB rfl mT uT (hr.mono (by decide)).toRoom (LamX.lamS_by (sc := defScope s__law_right) (by decide +kernel)) rfl (fun _ _ _ _ _ => rfl) (fun A outer s H E f c hr2 => (Rd.pe_fnX cF_compared (Rd.RoomG.any (hr2.mono (by decide))) (by rfl) (passes_call (takes_of rfl rfl rfl rfl) fun _ _ _ _ h => h) (pa_cons (pv 1) (pa_cons (pv 3) pa_nil))))) pa_nil)))
      (pss_cons (ps_expr (pe_bm PySem.F.plainAttrs_list PySem.F.slot_list_append PySem.F.type_list_append mt_append (pv 5) (pa_cons (pe_err (T := T) (k := 4) hE To (by rfl) TB rfl mT uT (hr.mono (by decide)).toRoom (LamX.lamS_by (sc := defScope s__law_right) (by decide +kernel)) rfl (fun _ _ _ _ _ => rfl) (fun A outer s H E f c hr2 => (Rd.pe_fnX cF_greatest_growth (Rd.RoomG.any (hr2.mono (by decide))) (by rfl) (passes_call (takes_of rfl rfl rfl rfl) fun _ _ _ _ h => h) (pa_cons (pv 1) (pa_cons (pv 3) (pa_cons (pv 2) pa_nil)))))) pa_nil)))
      (pss_one (ps_ret (pe_cmpR (op_eqD hr.units) (pe_op op_cat (pv 5) (Rd.pe_lst (pa_cons (pe_err (T := T) (k := 4) hE To (by rfl) TB rfl mT uT (hr.mono (by decide)).toRoom (LamX.lamS_by (sc := defScope s__law_right) (by decide +kernel)) rfl (fun _ _ _ _ _ => rfl) (fun A outer s H E f c hr2 => (Rd.pe_fnX cF_greatest_growth (Rd.RoomG.any (hr2.mono (by decide))) (by rfl) (passes_call (takes_of rfl rfl rfl rfl) fun _ _ _ _ h => h) (pa_cons (pv 3) pa_nil)))) pa_nil))) (pe_op op_rep (Rd.pe_lst (pa_cons pe_str pa_nil)) pe_int) (nomark _))))))))))))), ?_⟩
  try simp only [Rd.noxK, Rd.cxK]
  refine Rd.rd_start [some (V.ref d), none, none, none, none, none, none] rfl ?_
  walk_at "rd"
  refine Rd.rd_sp d rfl ⟨hD, fun v1 g1 H1 r1 G1 m1 => ?_⟩
  have T1 := tabs_rolled hT hD r1
  walk_at "rd"
  refine Rd.rd_sp d rfl ⟨r1.dice, fun v2 g2 H2 r2 G2 m2 => ?_⟩
  have T2 := tabs_rolled T1 r1.dice r2
  walk_at "rd"
  refine Rd.rd_mkTup (by show 2 ≤ sizeLine; decide) fun p3 H3 n3 s3 h3 => ?_
  walk_at "rd"
  have D3 := r2.dice.same s3
  refine Rd.rd_sp d rfl ⟨D3, fun v4 H4 r4 O4 ne => ?_⟩
  have G14 := gr_rolled ((gr_rolled G1 r1.dice r2).same s3) D3 r4
  have G24 := gr_rolled (G2.same s3) D3 r4
  have T4 := tabs_rolled (Rd.tabs_same T2 s3) D3 r4
  have R4 : Rolled d H H4 := ((r1.trans r2).same s3).trans r4
  clear T1 T2 h3 n3
  walk_at "rd"
  refine Rd.rd_sp v1 rfl (.inl ⟨g1, G14, fun H5 s5 => ?_⟩)
  walk_at "rd"
  refine Rd.rd_sp v2 rfl (.inl ⟨g2, G24.same s5, fun H6 s6 => ?_⟩)
  walk_at "rd"
  refine Rd.rd_sp v4 rfl (.inr ⟨(O4.same s5).same s6, fun H7 s7 => ?_⟩)
  walk_at "rd"
  refine Rd.rd_mkLst (by show 3 ≤ sizeLine; decide) fun p8 H8 n8 s8 h8 => ?_
  walk_at "rd"
  refine Rd.rd_mkLst (by show 3 ≤ sizeLine; decide) fun p9 H9 n9 s9 h9 => ?_
  refine Rd.rd_neD (.lst (SqL.of (s9 _ _ h8)) (Rd.dpB [true, true, false])) (.lst (SqL.of h9) (Rd.dpB [true, true, false])) (Rd.shLB _) (Rd.shLB _) ?_
  rw [Rd.eqLB]
  walk_at "rd"
  refine Rd.if_f rfl ?_
  have s49 : Same H4 H9 := (((s5.trans s6).trans s7).trans s8).trans s9
  have G1x := G14.same s49
  have G2x := G24.same s49
  have Ox := O4.same s49
  have Tx := Rd.tabs_same T4 s49
  have Rx := R4.same s49
  clear G14 G24 O4 T4 R4 h8 h9 n8 n9
  walk_at "rd"
  refine Rd.rd_sp (v1, v2) rfl (.inl ⟨g1, g2, G1x, G2x, fun H10 s10 => ?_⟩)
  walk_at "rd"
  refine Rd.rd_sp (v1, v2) rfl ⟨g1, g2, G1x.same s10, G2x.same s10, fun H11 s11 => ?_⟩
  walk_at "rd"
  refine Rd.if_f (by simp) ?_
  walk_at "rd"
  have s911 := s10.trans s11
  refine Rd.rd_sp (v2, v1) rfl (.inl ⟨g2, g1, G2x.same s911, G1x.same s911, fun H12 s12 => ?_⟩)
  walk_at "rd"
  have s912 := s911.trans s12
  refine Rd.rd_sp (v2, v1) rfl ⟨g2, g1, G2x.same s912, G1x.same s912, fun H13 s13 => ?_⟩
  walk_at "rd"
  refine Rd.if_f (by simp) ?_
  have s9D := s912.trans s13
  have G1y := G1x.same s9D
  have G2y := G2x.same s9D
  have Oy := Ox.same s9D
  have Ty := Rd.tabs_same Tx s9D
  have Ry := Rx.same s9D
  clear G1x G2x Ox Tx Rx
  walk_at "rd"
  refine rd_roll Ry.dice (by decide) (by decide) fun r H14 r0 r6 R14 => ?_
  have G1z := gr_rolled G1y Ry.dice R14
  have G2z := gr_rolled G2y Ry.dice R14
  have Oz := odd_rolled Oy Ry.dice R14 ne
  have Tz := tabs_rolled Ty Ry.dice R14
  have Rz := Ry.trans R14
  clear G1y G2y Oy Ty Ry
  walk_at "rd"
  refine Rd.rd_IR1 (by omega) (by omega) ?_
  refine Rd.lc_rngI (fun j D acc H5 => Rolled d H14 H5 ∧ H5 D = some (.lst acc) ∧ acc.length = j ∧ ∃ gs, Grs K H5 acc gs ∧ ∀ x ∈ gs, SmG x) (fun D hD' => ?_) (fun j D acc H5 N hj hD' h5 hN => ?_) (fun D acc H5 hD' h5 => ?_)
  · exact ⟨⟨fun b o _ e => by rw [upd_ne (ne_of_none e hD')]; exact e, Rz.dice.same (Rd.same_new hD')⟩, upd_same, rfl, [], Grs.nil, fun x hx => nomatch hx⟩
  · obtain ⟨R5, hacc, hl, gs, hG, hm⟩ := h5
    have hDd := Rz.dice.ne hD'
    refine Rd.rd_start' [some (V.ref d), some v1, some v2, some v4, none, none, none] rfl ?_
    walk_at "rd"
    refine ⟨rfl, ?_⟩
    walk_at "rd"
    refine Rd.rd_sp d rfl ⟨R5.dice, fun y gy H6 R6 Gy my => ?_⟩
    have h6 : H6 D = some (.lst acc) := R6.keep _ _ hDd hacc
    have tup : ∀ a xs, SqT K H6 a xs → SqT K (upd H6 D (.lst (acc ++ [y]))) a xs := fun a xs q => by
      rcases q with (q | ⟨o, q⟩) | q
      · exact .inl (.inl (by rw [upd_ne (ne_of q h6 (by intro z; cases z))]; exact q))
      · exact .inl (.inr ⟨o, by rw [upd_ne (ne_of q h6 (by intro z; cases z))]; exact q⟩)
      · exact .inr q
    refine hN _ _ h6 (by rw [hl]; exact Nat.lt_of_lt_of_le hj (by have e := sizeLine_eq; omega)) ⟨(R5.trans R6).mut hD' hDd, upd_same, by simp [hl], gs ++ [gy], ?_, fun x hx => ?_⟩
    · have hG6 := (hG.mono fun _ _ q => R6.sqT R5.dice q).mono tup
      refine ⟨by simp [hG.1], fun i u x e1 e2 => ?_⟩
      by_cases hi : i < acc.length
      · rw [List.getElem?_append_left hi] at e1
        rw [List.getElem?_append_left (by rw [← hG.1]; exact hi)] at e2
        exact hG6.2 i u x e1 e2
      · rw [List.getElem?_append_right (by omega)] at e1
        rw [List.getElem?_append_right (by rw [← hG.1]; omega), ← hG.1] at e2
        have ei : i - acc.length = 0 := by
          have := (List.getElem?_eq_some_iff.mp e1).1
          simp at this
          omega
        rw [ei] at e1 e2
        cases e1
        cases e2
        exact Gy.mono tup
    · rcases List.mem_append.mp hx with q | q
      · exact hm x q
      · rw [List.mem_singleton.mp q]; exact my
  · obtain ⟨R5, hacc, hl, gs, hG, hm⟩ := h5
    have G1u := gr_rolled G1z Rz.dice R5
    have G2u := gr_rolled G2z Rz.dice R5
    have Ou := odd_rolled Oz Rz.dice R5 ne
    have Tu := tabs_rolled Tz Rz.dice R5
    have Ru := Rz.trans R5
    clear G1z G2z Oz Tz Rz
    walk_at "rd"
    refine Rd.rd_sp (D, acc, gs) rfl ⟨by show acc.length ≤ 5; rw [hl]; omega, SqL.of hacc, hG, fun y H15 s15 Gy => ?_⟩
    have ds1 := smG_top gs hm
    have dl : ((Gw.top gs).ds).length ≤ 100 := by cases Gw.top gs <;> simp [Gw.ds]
    obtain ⟨py, rfl, _⟩ := id Gy
    walk_at "rd"
    refine Rd.rd_reprT (Rd.Dt.dp _ _ (gr_dt Gy)) (small_g ds1) dl ?_
    walk_at "rd"
    refine Rd.rd_sp (D, acc, gs) rfl ⟨SqL.of (s15 _ _ hacc), hG.same s15, fun y' H16 s16 Gy' => ?_⟩
    obtain ⟨py', rfl, _⟩ := id Gy'
    walk_at "rd"
    refine Rd.rd_reprT (Rd.Dt.dp _ _ (gr_dt Gy')) (small_g ds1) dl ?_
    walk_at "rd"
    refine Rd.if_f (by simp) ?_
    have s516 := s15.trans s16
    walk_at "rd"
    refine Rd.rd_err (Rd.tabs_same Tu s516) fun Ha ea Ta => ?_
    have G1a := gr_N (G1u.same s516) ea
    have G2a := gr_N (G2u.same s516) ea
    have Oa := odd_N (Ou.same s516) ea
    have Ka := (Ru.kept.same s516).extN ea
    clear G1u G2u Ou Tu Ru
    walk_at "rd"
    refine Rd.rd_sp (v4, v1) rfl (.inr ⟨.inl Oa, fun Hb sb => ⟨rfl, ?_⟩⟩)
    walk_at "rd"
    refine Rd.rd_mkLst (by show 1 ≤ sizeLine; decide) fun p7 H17 n17 s17 h17 => ?_
    have G1b := G1a.same sb
    have G2b := G2a.same sb
    have Ob := Oa.same sb
    have Kb := Ka.same sb
    have X17 : LamX.ExtN Hb H17 := Rd.extN_same s17
    have T17 := Rd.tabs_same (Rd.tabs_same Ta sb) s17
    clear G1a G2a Oa Ka Ta
    walk_at "rd"
    refine ⟨Rd.tyL (SqL.of h17), ?_⟩
    walk_at "rd"
    refine Rd.rd_err T17 fun Hc ec Tc => ?_
    walk_at "rd"
    refine Rd.rd_sp (v1, v4) rfl (.inr ⟨.inr ⟨⟨g1, gr_N G1b (X17.trans ec)⟩, odd_N Ob (X17.trans ec)⟩, fun Hd sd => ⟨rfl, ?_⟩⟩)
    have Xd := (X17.trans ec).trans (Rd.extN_same sd)
    have hd := sd _ _ (ec _ _ h17 fun ps z => by cases z)
    walk_at "rd"
    refine Rd.rd_append (xs := [.str "operation"]) hd (by show 1 < sizeLine; decide) ?_
    have T18 : LamX.Tabs T (upd Hd p7 (.lst ([V.str "operation"] ++ [V.str "operation"]))) := Rd.tabs_keep (Rd.tabs_same Tc sd) hd fun b o hb e => by rw [upd_ne hb]; exact e
    have X18 : LamX.ExtN Hb (upd Hd p7 (.lst ([V.str "operation"] ++ [V.str "operation"]))) := fun b o e n => by rw [upd_ne (ne_of_none e n17)]; exact Xd b o e n
    have h18 : upd Hd p7 (.lst ([V.str "operation"] ++ [V.str "operation"])) p7 = some (.lst [.str "operation", .str "operation"]) := upd_same
    generalize upd Hd p7 (.lst ([V.str "operation"] ++ [V.str "operation"])) = H18 at T18 X18 h18 ⊢
    walk_at "rd"
    refine ⟨Rd.tyL (SqL.of h18), ?_⟩
    walk_at "rd"
    refine Rd.rd_err T18 fun He ee Te => ?_
    walk_at "rd"
    refine rd_ggX (us := [v1]) (y := v4) (r := [v2]) (gs := [g1]) (by simp) (Grs.one (gr_N G1b (X18.trans ee))) (odd_N Ob (X18.trans ee)) fun Hf sf => ⟨rfl, ?_⟩
    have Xf := (X18.trans ee).trans (Rd.extN_same sf)
    have hf := sf _ _ (ee _ _ h18 fun ps z => by cases z)
    walk_at "rd"
    refine Rd.rd_append (xs := [.str "operation", .str "operation"]) hf (by show 2 < sizeLine; decide) ?_
    have T19 : LamX.Tabs T (upd Hf p7 (.lst ([V.str "operation", V.str "operation"] ++ [V.str "operation"]))) := Rd.tabs_keep (Rd.tabs_same Te sf) hf fun b o hb e => by rw [upd_ne hb]; exact e
    have X19 : LamX.ExtN Hb (upd Hf p7 (.lst ([V.str "operation", V.str "operation"] ++ [V.str "operation"]))) := fun b o e n => by rw [upd_ne (ne_of_none e n17)]; exact Xf b o e n
    have h19 : upd Hf p7 (.lst ([V.str "operation", V.str "operation"] ++ [V.str "operation"])) p7 = some (.lst [.str "operation", .str "operation", .str "operation"]) := upd_same
    generalize upd Hf p7 (.lst ([V.str "operation", V.str "operation"] ++ [V.str "operation"])) = H19 at T19 X19 h19 ⊢
    walk_at "rd"
    refine Rd.rd_err T19 fun Hg eg Tg => ?_
    walk_at "rd"
    refine rd_ggX (us := []) (y := v4) (r := []) (gs := []) (by simp) Grs.nil (odd_N Ob (X19.trans eg)) fun Hh sh => ⟨rfl, ?_⟩
    have Xh := (X19.trans eg).trans (Rd.extN_same sh)
    have hh := sh _ _ (eg _ _ h19 fun ps z => by cases z)
    walk_at "rd"
    refine Rd.rd_mkLst (by show 1 ≤ sizeLine; decide) fun p20 H20 n20 s20 h20 => ?_
    refine Rd.rd_cat (s20 _ _ hh) h20 (by show 3 + 1 ≤ sizeLine; decide) fun p21 H21 n21 s21 h21 => ?_
    walk_at "rd"
    refine Rd.rd_mkLst (by show 1 ≤ sizeLine; decide) fun p22 H22 n22 s22 h22 => ?_
    walk_at "rd"
    refine Rd.rd_rep h22 (by decide) (by decide) (by show 1 ≤ 1000; decide) fun p23 H23 n23 s23 h23 => ?_
    have sE := ((s20.trans s21).trans s22).trans s23
    refine Rd.rd_eqD (.lst (ds := [.str "operation", .str "operation", .str "operation", .str "operation"]) (SqL.of ((s22.trans s23) _ _ h21)) (.cons (.str _) (.cons (.str _) (.cons (.str _) (.cons (.str _) .nil))))) (.lst (ds := [.str "operation", .str "operation", .str "operation", .str "operation"]) (SqL.of h23) (.cons (.str _) (.cons (.str _) (.cons (.str _) (.cons (.str _) .nil))))) (by decide +kernel) (by decide +kernel) ?_
    rw [show PyData.eqv (.list [.str "operation", .str "operation", .str "operation", .str "operation"]) (.list [.str "operation", .str "operation", .str "operation", .str "operation"]) = true by decide +kernel]
    walk_at "rd"
    exact k H23 ((Kb.extN Xh).same sE) (Rd.tabs_same (Rd.tabs_same Tg sh) sE)
end
end M
set_option Elab.async false
set_option linter.all false
set_option maxRecDepth 100000
set_option maxHeartbeats 4000000
namespace M
open PySem L2
local macro_rules | `(tactic| walk_at "rdc") => `(tactic| first | exact Or.inl ⟨by decide, by decide⟩ | exact Or.inr ⟨by decide, by decide⟩ | exact ⟨by decide, by decide, by decide⟩ | exact ⟨by decide, by decide⟩ | decide | omega | assumption | (refine Or.inl ⟨?_, ?_⟩ <;> omega) | (refine Or.inr ⟨?_, ?_⟩ <;> omega) | (refine ⟨?_, ?_⟩ <;> omega))
local macro_rules | `(tactic| walk_at "rd1") => `(tactic| with_reducible first
  | refine Rd.rd_seq ?_ | refine Rd.rd_asg ?_ | refine Rd.rd_op ?_ | (refine' Rd.rd_var ?vh ?_; (case vh => with_unfolding_all rfl)) | refine Rd.rd_c ?_ | refine Rd.rd_I0 ?_ | refine Rd.rd_name0 ?_ | refine Rd.rd_nameS ?_ | refine Rd.rd_fn ?_
  | refine Rd.rd_cb ?_ | refine Rd.rd_cons ?_ | refine Rd.rd_nil ?_ | refine Rd.rd_int ?_ | refine Rd.rd_intB ?_ | refine Rd.rd_abs ?_ | refine Rd.rd_max2 ?_ | refine Rd.rd_min2 ?_
  | refine Rd.rd_call ?_ | refine Rd.rd_ifE ?_ | refine Rd.rd_test ?_ | refine Rd.rd_tB ?_ | refine Rd.rd_blV ?_ | refine Rd.rd_and ?_ | refine Rd.rd_or ?_ | refine Rd.rd_not ?_
  | refine Rd.rd_andV ?_ | refine Rd.rd_orV ?_ | refine Rd.rd_notV ?_ | refine Rd.rd_next ?_ | refine Rd.rd_ret ?_ | refine Rd.rd_drop ?_ | refine Rd.rd_ifS ?_ | refine Rd.rd_nx ?_ | refine Rd.rd_rt ?_ | refine Rd.rd_tMatch ?_ | refine Rd.rd_tPar ?_ | refine Rd.rd_par ?_ | refine Rd.rd_sl ?_ | refine Rd.rd_noPart ?_ | refine Rd.rd_part ?_ | refine Rd.rd_intV ?_ | refine Rd.rd_lc ?_ | (refine' Rd.rd_aug ?vh ?_; (case vh => with_unfolding_all rfl)) | refine Rd.rd_ipI ?_ | refine Rd.rd_for ?_ | (refine' Rd.rd_IT ?ln ?_; (case ln => with_unfolding_all walk_at "at")) | (refine' Rd.rd_IL ?ln ?_; (case ln => with_unfolding_all walk_at "at")) | refine Rd.rd_iTup ?_ | refine Rd.rd_iList ?_ | refine Rd.rd_iRng1 ?_ | refine Rd.rd_iRng2 ?_ | refine Rd.rd_isi (Rd.isi_int Rd.kk_int_int) ?_ | refine Rd.rd_isi (Rd.isi_int Rd.kk_int_bool) ?_ | refine Rd.rd_methR ?_ | refine Rd.rd_cmeth ?_ | refine Rd.rd_fldS ?_ | refine Rd.rd_fld ?_ | (refine' Rd.rd_mkVS ?vh ?_; (case vh => with_unfolding_all rfl)) | (refine' Rd.rd_starT ?ln ?_; (case ln => with_unfolding_all walk_at "at")) | refine Rd.rd_iEnum ?_ | refine Rd.rd_iZip ?_ | (refine' Rd.rd_IE ?ln ?_; (case ln => with_unfolding_all walk_at "at")) | (refine' Rd.rd_IZ ?ln ?lm ?_; (case ln => with_unfolding_all walk_at "at"); (case lm => with_unfolding_all walk_at "at")) | (refine' Rd.rd_gTup ?ln ?lk ?_; (case ln => with_unfolding_all walk_at "at"); (case lk => with_unfolding_all rfl)) | refine Rd.rd_gCons ?_ | refine Rd.rd_gNil ?_ | refine Rd.rd_m1 ?_ | refine Rd.rd_strV ?_ | refine Rd.rd_tXiM ?_ | refine Rd.rd_tXiB ?_ | refine Rd.rd_tXiS ?_ | refine Rd.rd_bm ?_ | refine Rd.rd_bm0 ?_ | refine Rd.rd_isN ?_ | refine Rd.rd_notN ?_ | refine Rd.rd_sub ?_ | refine Rd.rd_un ?_ | refine Rd.rd_U ?_
  | (refine' Rd.rd_eq ?sc ?_; (case sc => with_unfolding_all rfl)) | (refine' Rd.rd_ne ?sc ?_; (case sc => with_unfolding_all rfl))
  | (refine' Rd.rd_I ?cc ?_; (case cc => with_unfolding_all walk_at "rdc"))
  | (refine' Rd.rd_lenL ?ln ?_; (case ln => with_unfolding_all walk_at "at")) | (refine' Rd.rd_lenT ?ln ?_; (case ln => with_unfolding_all walk_at "at"))
  | (refine' Rd.rd_ixL ?ln ?ia ?_; (case ln => with_unfolding_all walk_at "at"); (case ia => with_unfolding_all first | exact Rd.at0 | exact Rd.at1 | exact Rd.at2 | exact Rd.at3 | exact Rd.at4 | rfl)) | (refine' Rd.rd_ixT ?ln ?ia ?_; (case ln => with_unfolding_all walk_at "at"); (case ia => with_unfolding_all first | exact Rd.at0 | exact Rd.at1 | exact Rd.at2 | exact Rd.at3 | exact Rd.at4 | rfl)))
local macro_rules | `(tactic| walk_at "at") => `(tactic| first | assumption | (apply SqL.of; assumption) | (apply SqT.of; assumption) | (apply SqL.of; exact upd_same) | (apply SqT.of; exact upd_same))
local macro_rules | `(tactic| walk_at "rd") => `(tactic| repeat walk_at "rd1")
def spLaw (K : PySem.W.Frag) (T : List (Addr × Str)) : Sp := Rd.mkSp (fun (a : Addr × List Int) => [.ref a.1]) fun a H Q _ => SqL K H a.1 (a.2.map V.int) ∧ a.2.length ≤ 63 ∧ LamX.Tabs T H ∧ ∀ H', Q (.bl true) H'
section
variable {P : Program} {w : World} {K : PySem.W.Frag} {mg : Str → Option Value} {base : Heap} {IG IO c Pt : Addr} {T : List (Addr × Str)}
theorem rd_mkG {H : Hp} {Q : VK} {xs : List V} (x : Gw) (e : xs = x.items) (q : ∀ v H', Same H H' → Gr K H' v x → Q v H') : Rd.rMkTup xs H Q := by
  subst e
  refine Rd.rd_mkTup ?_ fun p H' hp s' h' => q _ H' s' ⟨p, rfl, SqT.of h'⟩
  cases x
  · show 2 ≤ sizeLine; decide
  · show 1 ≤ sizeLine; decide
  · show 2 ≤ sizeLine; decide
theorem wd_gr {n : Nat} (h : 1 ≤ n) : Gw.wd (.pw n) (.pw (n - 1)) = "greater" := by
  have e1 : ¬ ((n : Int) = ((n - 1 : Nat) : Int)) := by omega
  have e2 : ¬ ((n : Int) < ((n - 1 : Nat) : Int)) := by omega
  have e3 : ¬ (n = n - 1) := by omega
  have e4 : ¬ (n < n - 1) := by omega
  simp [Gw.wd, Gw.plV, Gw.pl, Rd.lexLt, Rd.ltV, e1, e2, e3, e4]
theorem ok_law (F : Rd.HasC K mg "law" s_law c) (g : Glob mg) (To : ErrO K mg IG IO) (hE : Rd.Has K mg "_law_error" s__law_error) (TB : LamX.TabB base mg c Pt) (mT : (Pt, lamQ "law") ∈ T) (uT : ∀ p ∈ T, p.1 = Pt → p.2 = lamQ "law")
    (c_is_growth : Rd.Fn true P w K mg base CX0 2 "is_growth" (spIsG K)) (c_compared : Rd.Fn true P w K mg base (L2.CX P w) 4 "compared" (spCmp K IO)) (c_greatest_growth : Rd.Fn true P w K mg base (L2.CX P w) 4 "greatest_growth" (spGG K IO))
    (cF_greatest_growth : Rd.Fn false P w K mg base (L2.CX P w) 4 "greatest_growth" (spGG K IO)) (c__law_dice : Rd.Fn true P w K mg base CX0 1 "_law_dice" (spDice K)) (c__law_right : Rd.Fn true P w K mg base CX0 8 "_law_right" (spRight T)) :
    Rd.Fn true P w K mg base CX0 9 "law" (spLaw K T) := by
  refine F.fn sc_law (fun _ => rfl) (fun _ _ _ _ _ _ us hl => match us, hl with | [_], _ => rfl) fun f A outer s H Q E a hr h => ?_
  obtain ⟨a, ns⟩ := a
  obtain ⟨hS, hl, hT, k⟩ := h
  dsimp only at hS hl hT
  refine ⟨_, (pss_cons (ps_for PassesOwn.never rfl (pi_range1 (by rfl) g.range (pa_cons (pe_callB (Rd.c_max2 rfl) (by rfl) g.max (by decide +kernel) (pa_cons pe_int (pa_cons (pe_callB (Rd.c_min2 rfl) (by rfl) g.min (by decide +kernel) (pa_cons pe_int (pa_cons (pe_callB Rd.c_len (by rfl) g.len (by decide +kernel) (pa_cons (pv 0) pa_nil)) pa_nil))) pa_nil))) pa_nil)) (pg_name (i := 1) sc_law.nd rfl (Or.inl rfl)) (pss_cons (ps_set (i := 2) sc_law.nd rfl (Or.inl rfl) (Rd.pe_fn c__law_dice (hr.mono (by decide)) (by rfl) (pa_cons (pv 0) (pa_cons (pv 1) pa_nil))))
      (pss_one (ps_for PassesOwn.never rfl (pi_range1 (by rfl) g.range (pa_cons pe_int pa_nil)) (pg_name (i := 3) sc_law.nd rfl (Or.inl rfl)) (pss_one (ps_if (pt_not (pt_val (Rd.pe_fn c__law_right (hr.mono (by decide)) (by rfl) (pa_cons (pv 2) pa_nil)))) (pss_one (ps_ret pe_bl)) pss_nil))))))
      (pss_cons (ps_set (i := 4) sc_law.nd rfl (Or.inl rfl) (Rd.pe_lst (pa_cons (Rd.pe_fnX c_compared (hr.mono (by decide)) (by rfl) Rd.passNo (pa_cons (Rd.pe_tup (pa_cons pe_str (pa_cons pe_int pa_nil))) (pa_cons (Rd.pe_tup (pa_cons pe_str (pa_cons pe_int pa_nil))) pa_nil))) (pa_cons (Rd.pe_fnX c_compared (hr.mono (by decide)) (by rfl) Rd.passNo (pa_cons (Rd.pe_tup (pa_cons pe_str pa_nil)) (pa_cons (Rd.pe_tup (pa_cons pe_str (pa_cons (pe_op op_pow pe_int pe_int) pa_nil))) pa_nil))) pa_nil))))
      (pss_cons (ps_expr (pe_bm PySem.F.plainAttrs_list PySem.F.slot_list_append PySem.F.type_list_append mt_append (pv 4) (pa_cons (Rd.pe_fnX c_compared (hr.mono (by decide)) (by rfl) Rd.passNo (pa_cons (Rd.pe_tup (pa_cons pe_str (pa_cons pe_int pa_nil))) (pa_cons (Rd.pe_tup (pa_cons pe_str (pa_cons pe_int pa_nil))) pa_nil))) pa_nil)))
      (pss_cons (ps_set (i := 5) sc_law.nd rfl (Or.inl rfl) (Rd.pe_lst (pa_cons (Rd.pe_fnX c_greatest_growth (hr.mono (by decide)) (by rfl) Rd.passNo (pa_cons (Rd.pe_tup (pa_cons pe_str (pa_cons pe_int pa_nil))) (pa_cons (Rd.pe_tup (pa_cons pe_str (pa_cons pe_int pa_nil))) (pa_cons (Rd.pe_tup (pa_cons pe_str (pa_cons pe_int pa_nil))) pa_nil)))) (pa_cons (Rd.pe_fnX0 c_greatest_growth (hr.mono (by decide)) (by rfl) Rd.passNo) (pa_cons (Rd.pe_fnX c_greatest_growth (hr.mono (by decide)) (by rfl) Rd.passNo (pa_cons (Rd.pe_tup (pa_cons pe_str (pa_cons pe_int pa_nil))) pa_nil)) pa_nil)))))
      (pss_cons (ps_if (PW.pt (pw_or (pt_cmpR (op_neD hr.units) (pv 4) (Rd.pe_lst (pa_cons pe_str (pa_cons pe_str (pa_cons pe_str pa_nil)))) (nomark _)) (pw_or1 (pt_cmpR (op_neD hr.units) (pv 5) (Rd.pe_lst (pa_cons (Rd.pe_tup (pa_cons pe_str (pa_cons pe_int pa_nil))) (pa_cons (Rd.pe_tup (pa_cons pe_str (pa_cons pe_int pa_nil))) (pa_cons (Rd.pe_tup (pa_cons pe_str (pa_cons pe_int pa_nil))) pa_nil)))) (nomark _))))) (pss_one (ps_ret pe_bl)) pss_nil)
      (pss_cons (ps_asg (Rd.pe_tup (pa_cons (Rd.pe_tup (pa_cons pe_str (pa_cons pe_int pa_nil))) (pa_cons (Rd.pe_tup (pa_cons pe_str (pa_cons pe_int pa_nil))) (pa_cons (pe_op Rd.op_powW (pe_op op_pow pe_int pe_int) pe_int) pa_nil)))) (pg_tup rfl (pgs_cons (pg_name (i := 6) sc_law.nd rfl (Or.inr rfl)) (pgs_cons (pg_name (i := 7) sc_law.nd rfl (Or.inr rfl)) (pgs_cons (pg_name (i := 8) sc_law.nd rfl (Or.inl rfl)) pgs_nil)))))
      (pss_cons (ps_set (i := 4) sc_law.nd rfl (Or.inl rfl) (Rd.pe_lst (pa_cons (Rd.pe_fnX c_greatest_growth (hr.mono (by decide)) (by rfl) Rd.passNo (pa_cons (pv 6) (pa_cons (pv 7) (pa_cons (pv 7) (pa_cons (Rd.pe_tup (pa_cons pe_str (pa_cons pe_int pa_nil))) (pa_cons (Rd.pe_tup (pa_cons pe_str pa_nil)) pa_nil)))))) pa_nil)))
      (pss_cons (ps_expr (pe_bm PySem.F.plainAttrs_list PySem.F.slot_list_append PySem.F.type_list_append mt_append (pv 4) (pa_cons (Rd.pe_fnX c_greatest_growth (hr.mono (by decide)) (by rfl) Rd.passNo (pa_cons (pv 6) (pa_cons (pv 7) (pa_cons (pv 7) (pa_cons (pv 7) (pa_cons (Rd.pe_tup (pa_cons pe_str (pa_cons pe_int pa_nil))) (pa_cons (pv 6) pa_nil))))))) pa_nil)))
      (pss_cons (ps_set (i := 4) sc_law.nd rfl (Or.inl rfl) (pe_op op_cat (pv 4) (Rd.pe_lst (pa_cons (Rd.pe_fn c_is_growth (hr.mono (by decide)) (by rfl) (pa_cons (Rd.pe_tup (pa_cons pe_str (pa_cons (pv 8) pa_nil))) pa_nil)) (pa_cons (Rd.pe_fnX c_compared (hr.mono (by decide)) (by rfl) Rd.passNo (pa_cons (Rd.pe_tup (pa_cons pe_str (pa_cons (pv 8) pa_nil))) (pa_cons (Rd.pe_tup (pa_cons pe_str (pa_cons (pe_op op_sub (pv 8) pe_int) pa_nil))) pa_nil))) pa_nil)))))
      (pss_cons (ps_set (i := 9) sc_law.nd rfl (Or.inl rfl) (pe_err (T := T) (k := 4) hE To (by rfl) TB rfl mT uT (hr.mono (by decide)).toRoom (LamX.lamS_by (sc := defScope s_law) (by decide +kernel)) rfl (fun _ _ _ _ _ => rfl) (fun A outer s H E f c hr2 => (Rd.pe_fnX cF_greatest_growth (Rd.RoomG.any (hr2.mono (by decide))) (by rfl) (passes_call (takes_of rfl rfl rfl rfl) fun _ _ _ _ h => h) (pa_cons (pv 6) (pa_cons (pv 7) (pa_cons (pv 6) (pa_cons (Rd.pe_tup (pa_cons pe_str pa_nil)) (pa_cons (pv 7) pa_nil)))))))))
      (pss_one (ps_ret (pe_and (pe_cmpR (op_eqD hr.units) (pv 4) (Rd.pe_lst (pa_cons (Rd.pe_tup (pa_cons pe_str pa_nil)) (pa_cons (Rd.pe_tup (pa_cons pe_str (pa_cons pe_int pa_nil))) (pa_cons pe_bl (pa_cons pe_str pa_nil))))) (nomark _)) (pe_one (pe_cmpR op_eq (pv 9) pe_str (nomark _)))))))))))))))), ?_⟩
  try simp only [Rd.noxK, Rd.cxK]
  refine Rd.rd_start [some (V.ref a), none, none, none, none, none, none, none, none, none] rfl ?_
  walk_at "rd"
  refine Rd.rd_IR1 (by simp only [List.length_map]; split <;> (try split) <;> omega) (by simp only [List.length_map]; split <;> (try split) <;> omega) ?_
  refine Rd.for_range (fun i σ H' => LamX.ExtN H H' ∧ LamX.Tabs T H' ∧ ∃ o1 o2 o3, σ = [some (V.ref a), o1, o2, o3, none, none, none, none, none, none]) ⟨LamX.ExtN.refl H, hT, _, _, _, rfl⟩ ?_ ?_
  · rintro i σ H1 hi ⟨x1, T1, o1, o2, o3, rfl⟩
    walk_at "rd"
    refine Rd.rd_sp (a, ns, i) (by simp) ⟨Rd.sqL_N x1 hS, fun p H2 n2 s2 D2 => ?_⟩
    walk_at "rd"
    refine Rd.rd_IR1 (by decide) (by decide) ?_
    refine Rd.for_range (fun j σ H' => LamX.ExtN H1 H' ∧ Dice H' p ∧ LamX.Tabs T H' ∧ ∃ o1 o3, σ = [some (V.ref a), o1, some (V.ref p), o3, none, none, none, none, none, none]) ⟨Rd.extN_same s2, D2, Rd.tabs_same T1 s2, _, _, rfl⟩ ?_ ?_
    · rintro j σ H3 hj ⟨x3, D3, T3, o1, o3, rfl⟩
      walk_at "rd"
      refine Rd.rd_sp p rfl ⟨D3, T3, fun H4 k4 T4 => ?_⟩
      walk_at "rd"
      refine Rd.if_f rfl ?_
      walk_at "rd"
      exact ⟨fun b o e n => k4.keep b o (ne_of_none e n2) (x3 b o e n) n, k4.dice, T4, _, _, rfl⟩
    · rintro σ H3 ⟨x3, D3, T3, o1, o3, rfl⟩
      walk_at "rd"
      exact ⟨x1.trans x3, T3, _, _, _, rfl⟩
  · rintro σ H1 ⟨x1, T1, o1, o2, o3, rfl⟩
    clear hS hT
    walk_at "rd"
    refine rd_mkG (K := K) (.fr 0) rfl fun a1 Ha sa A1 => ?_
    walk_at "rd"
    refine rd_mkG (K := K) (.fr 3) rfl fun a2 Hb sb A2 => ?_
    walk_at "rd"
    refine Rd.rd_sp (a1, a2) rfl (.inl ⟨_, _, A1.same sb, A2, fun Hc sc => ?_⟩)
    walk_at "rd"
    refine rd_mkG (K := K) .be rfl fun a3 Hd sd A3 => ?_
    walk_at "rd"
    refine rd_mkG (K := K) (.pw (10 ^ 39)) rfl fun a4 He se A4 => ?_
    walk_at "rd"
    refine Rd.rd_sp (a3, a4) rfl (.inl ⟨_, _, A3.same se, A4, fun Hf sf => ?_⟩)
    rw [show Gw.wd (.fr 0) (.fr 3) = "equal" by rfl, show Gw.wd .be (.pw (10 ^ 39)) = "greater" by decide +kernel]
    walk_at "rd"
    refine Rd.rd_mkLst (by show 2 ≤ sizeLine; decide) fun p1 Hg ng sg hg => ?_
    have Tg := Rd.tabs_same T1 ((((((sa.trans sb).trans sc).trans sd).trans se).trans sf).trans sg)
    clear A1 A2 A3 A4 T1 x1
    walk_at "rd"
    refine ⟨Rd.tyL (SqL.of hg), ?_⟩
    walk_at "rd"
    refine rd_mkG (K := K) (.pw 2) rfl fun a5 Hh sh A5 => ?_
    walk_at "rd"
    refine rd_mkG (K := K) (.pw 2) rfl fun a6 Hi si A6 => ?_
    walk_at "rd"
    refine Rd.rd_sp (a5, a6) rfl (.inl ⟨_, _, A5.same si, A6, fun Hj sj => ?_⟩)
    rw [show Gw.wd (.pw 2) (.pw 2) = "equal" by rfl]
    walk_at "rd"
    have sgj := (sh.trans si).trans sj
    refine Rd.rd_append (xs := [.str "equal", .str "greater"]) (sgj _ _ hg) (by show 2 < sizeLine; decide) ?_
    have Tk : LamX.Tabs T (upd Hj p1 (.lst ([V.str "equal", V.str "greater"] ++ [V.str "equal"]))) := Rd.tabs_keep (Rd.tabs_same Tg sgj) (sgj _ _ hg) fun b o hb e => by rw [upd_ne hb]; exact e
    have hk : upd Hj p1 (.lst ([V.str "equal", V.str "greater"] ++ [V.str "equal"])) p1 = some (.lst [.str "equal", .str "greater", .str "equal"]) := upd_same
    generalize upd Hj p1 (.lst ([V.str "equal", V.str "greater"] ++ [V.str "equal"])) = Hk at Tk hk ⊢
    clear A5 A6 Tg
    walk_at "rd"
    refine rd_mkG (K := K) (.fr 3) rfl fun b1 Hl sl B1 => ?_
    walk_at "rd"
    refine rd_mkG (K := K) (.fr 0) rfl fun b2 Hm sm B2 => ?_
    walk_at "rd"
    refine rd_mkG (K := K) (.fr 7) rfl fun b3 Hn sn B3 => ?_
    walk_at "rd"
    refine rd_gg (gs := [.fr 3, .fr 0, .fr 7]) (by simp) (Grs.cons ((B1.same sm).same sn) (Grs.cons (B2.same sn) (Grs.one B3))) fun y1 Ho so Y1 => ?_
    walk_at "rd"
    refine rd_gg (gs := []) (by simp) Grs.nil fun y2 Hp sp Y2 => ?_
    walk_at "rd"
    refine rd_mkG (K := K) (.pw 0) rfl fun b4 Hq sq B4 => ?_
    walk_at "rd"
    refine rd_gg (gs := [.pw 0]) (by simp) (Grs.one B4) fun y3 Hr sr Y3 => ?_
    walk_at "rd"
    refine Rd.rd_mkLst (by show 3 ≤ sizeLine; decide) fun p2 Hs ns' ss hs => ?_
    have sks : Same Hk Hs := (((((((sl.trans sm).trans sn).trans so).trans sp).trans sq).trans sr).trans ss)
    have Y1s : Gr K Hs y1 (.fr 0) := (((Y1.same sp).same sq).same sr).same ss
    have Y2s : Gr K Hs y2 (.pw 0) := ((Y2.same sq).same sr).same ss
    have Y3s : Gr K Hs y3 (.pw 0) := Y3.same ss
    have Ts := Rd.tabs_same Tk sks
    have h1s := sks _ _ hk
    clear B1 B2 B3 B4 Y1 Y2 Y3 Tk hk
    walk_at "rd"
    refine Rd.rd_mkLst (by show 3 ≤ sizeLine; decide) fun p3 Ht nt st ht => ?_
    refine Rd.rd_neD (.lst (ds := [.str "equal", .str "greater", .str "equal"]) (SqL.of (st _ _ h1s)) (.cons (.str _) (.cons (.str _) (.cons (.str _) .nil)))) (.lst (ds := [.str "equal", .str "greater", .str "equal"]) (SqL.of ht) (.cons (.str _) (.cons (.str _) (.cons (.str _) .nil)))) (by decide +kernel) (by decide +kernel) ?_
    rw [show PyData.eqv (.list [.str "equal", .str "greater", .str "equal"]) (.list [.str "equal", .str "greater", .str "equal"]) = true by decide +kernel]
    walk_at "rd"
    refine Rd.if_f rfl ?_
    walk_at "rd"
    refine rd_mkG (K := K) (.fr 0) rfl fun c1 Hu su C1 => ?_
    walk_at "rd"
    refine rd_mkG (K := K) (.pw 0) rfl fun c2 Hv sv C2 => ?_
    walk_at "rd"
    refine rd_mkG (K := K) (.pw 0) rfl fun c3 Hw sw C3 => ?_
    walk_at "rd"
    refine Rd.rd_mkLst (by show 3 ≤ sizeLine; decide) fun p4 Hx nx sx hx => ?_
    have ssx : Same Hs Hx := (((st.trans su).trans sv).trans sw).trans sx
    have dp3 : ∀ {u1 u2 u3 : V}, Gr K Hx u1 (.fr 0) → Gr K Hx u2 (.pw 0) → Gr K Hx u3 (.pw 0) → DpAll K Hx [u1, u2, u3] [.tuple (Gw.fr 0).ds, .tuple (Gw.pw 0).ds, .tuple (Gw.pw 0).ds] := fun q1 q2 q3 =>
      .cons (Rd.Dt.dp _ _ (gr_dt q1)) (.cons (Rd.Dt.dp _ _ (gr_dt q2)) (.cons (Rd.Dt.dp _ _ (gr_dt q3)) .nil))
    refine Rd.rd_neD (.lst (SqL.of (ssx _ _ hs)) (dp3 (Y1s.same ssx) (Y2s.same ssx) (Y3s.same ssx))) (.lst (SqL.of hx) (dp3 (((C1.same sv).same sw).same sx) ((C2.same sw).same sx) (C3.same sx))) (by decide +kernel) (by decide +kernel) ?_
    rw [show PyData.eqv (.list [.tuple (Gw.fr 0).ds, .tuple (Gw.pw 0).ds, .tuple (Gw.pw 0).ds]) (.list [.tuple (Gw.fr 0).ds, .tuple (Gw.pw 0).ds, .tuple (Gw.pw 0).ds]) = true by decide +kernel]
    walk_at "rd"
    refine Rd.if_f rfl ?_
    have Tx := Rd.tabs_same Ts ssx
    clear Y1s Y2s Y3s C1 C2 C3 Ts h1s
    walk_at "rd"
    refine rd_mkG (K := K) (.pw 1) rfl fun d1 H20 s20 D1 => ?_
    walk_at "rd"
    refine rd_mkG (K := K) (.pw 0) rfl fun d2 H21 s21 D2 => ?_
    walk_at "rd"
    obtain ⟨n, hn, hn1⟩ : ∃ n : Nat, ((10 : Int) ^ (60 : Int).toNat) ^ (16 : Int).toNat = (n : Int) ∧ 1 ≤ n := ⟨(((10 : Int) ^ 60) ^ 16).toNat, by decide +kernel, by decide +kernel⟩
    rw [hn]
    refine Rd.rd_mkTup (by show 3 ≤ sizeLine; decide) fun p5 H22 n22 s22 h22 => ?_
    have D1a := (D1.same s21).same s22
    have D2a := D2.same s22
    have T22 := Rd.tabs_same Tx ((s20.trans s21).trans s22)
    clear D1 D2 Tx dp3
    walk_at "rd"
    refine rd_mkG (K := K) (.pw 2) rfl fun e1 H23 s23 E1 => ?_
    walk_at "rd"
    refine rd_mkG (K := K) .be rfl fun e2 H24 s24 E2 => ?_
    walk_at "rd"
    have D1b := (D1a.same s23).same s24
    have D2b := (D2a.same s23).same s24
    refine rd_gg (gs := [.pw 1, .pw 0, .pw 0, .pw 2, .be]) (by simp) (Grs.cons D1b (Grs.cons D2b (Grs.cons D2b (Grs.cons (E1.same s24) (Grs.one E2))))) fun z1 H25 s25 Z1 => ?_
    walk_at "rd"
    refine Rd.rd_mkLst (by show 1 ≤ sizeLine; decide) fun p6 H26 n26 s26 h26 => ?_
    have D1c := (D1b.same s25).same s26
    have D2c := (D2b.same s25).same s26
    have Z1c : Gr K H26 z1 .be := Z1.same s26
    have T26 := Rd.tabs_same T22 (((s23.trans s24).trans s25).trans s26)
    clear D1a D2a D1b D2b E1 E2 Z1 T22
    walk_at "rd"
    refine ⟨Rd.tyL (SqL.of h26), ?_⟩
    walk_at "rd"
    refine rd_mkG (K := K) (.fr 1) rfl fun e3 H27 s27 E3 => ?_
    walk_at "rd"
    have D1d := D1c.same s27
    have D2d := D2c.same s27
    refine rd_gg (gs := [.pw 1, .pw 0, .pw 0, .pw 0, .fr 1, .pw 1]) (by simp) (Grs.cons D1d (Grs.cons D2d (Grs.cons D2d (Grs.cons D2d (Grs.cons E3 (Grs.one D1d)))))) fun z2 H28 s28 Z2 => ?_
    walk_at "rd"
    have s2628 := s27.trans s28
    refine Rd.rd_append (xs := [z1]) (s2628 _ _ h26) (by show 1 < sizeLine; decide) ?_
    have h28 := s2628 _ _ h26
    have tup : ∀ a xs, SqT K H28 a xs → SqT K (upd H28 p6 (.lst ([z1] ++ [z2]))) a xs := fun a xs q => by
      rcases q with (q | ⟨o, q⟩) | q
      · exact .inl (.inl (by rw [upd_ne (ne_of q h28 (by intro z; cases z))]; exact q))
      · exact .inl (.inr ⟨o, by rw [upd_ne (ne_of q h28 (by intro z; cases z))]; exact q⟩)
      · exact .inr q
    have T29 : LamX.Tabs T (upd H28 p6 (.lst ([z1] ++ [z2]))) := Rd.tabs_keep (Rd.tabs_same T26 s2628) h28 fun b o hb e => by rw [upd_ne hb]; exact e
    have h29 : upd H28 p6 (.lst ([z1] ++ [z2])) p6 = some (.lst [z1, z2]) := upd_same
    have D1e := (D1d.same s28).mono tup
    have D2e := (D2d.same s28).mono tup
    have Z1e := (Z1c.same s2628).mono tup
    have Z2e : Gr K (upd H28 p6 (.lst ([z1] ++ [z2]))) z2 (.fr 1) := Z2.mono tup
    generalize upd H28 p6 (.lst ([z1] ++ [z2])) = H29 at T29 h29 D1e D2e Z1e Z2e ⊢
    clear D1c D2c D1d D2d Z1c Z2 E3 T26 tup
    walk_at "rd"
    refine rd_mkG (K := K) (.pw n) rfl fun e4 H30 s30 E4 => ?_
    walk_at "rd"
    refine Rd.rd_sp e4 rfl (.inl ⟨_, E4, fun H31 s31 => ?_⟩)
    walk_at "rd"
    refine rd_mkG (K := K) (.pw n) rfl fun e5 H32 s32 E5 => ?_
    walk_at "rd"
    refine rd_mkG (K := K) (.pw (n - 1)) (by show _ = [V.str "power", V.int ((n - 1 : Nat) : Int)]; rw [Int.ofNat_sub hn1]; rfl) fun e6 H33 s33 E6 => ?_
    walk_at "rd"
    refine Rd.rd_sp (e5, e6) rfl (.inl ⟨_, _, E5.same s33, E6, fun H34 s34 => ?_⟩)
    rw [wd_gr hn1]
    walk_at "rd"
    refine Rd.rd_mkLst (by show 2 ≤ sizeLine; decide) fun p7 H35 n35 s35 h35 => ?_
    have s2935 := ((((s30.trans s31).trans s32).trans s33).trans s34).trans s35
    refine Rd.rd_cat (s2935 _ _ h29) h35 (by show 2 + 2 ≤ sizeLine; decide) fun p8 H36 n36 s36 h36 => ?_
    have s2936 := s2935.trans s36
    have T36 := Rd.tabs_same T29 s2936
    have D1f := D1e.same s2936
    have D2f := D2e.same s2936
    have Z1f := Z1e.same s2936
    have Z2f := Z2e.same s2936
    clear D1e D2e Z1e Z2e E4 E5 E6 T29
    walk_at "rd"
    refine Rd.rd_err T36 fun H37 x37 T37 => ?_
    walk_at "rd"
    refine Rd.rd_mkTup (by show 1 ≤ sizeLine; decide) fun p9 H38 n38 s38 h38 => ?_
    walk_at "rd"
    have D1g := (gr_N D1f x37).same s38
    have D2g := (gr_N D2f x37).same s38
    have O9 : Odd K H38 (.ref p9) := .tup (SqT.of h38) (.cons (.str _) .nil) (by decide +kernel) (.one (by decide +kernel))
    refine rd_ggX (us := [d1, d2, d1]) (y := .ref p9) (r := [d2]) (gs := [.pw 1, .pw 0, .pw 1]) (by simp) (Grs.cons D1g (Grs.cons D2g (Grs.one D1g))) O9 fun H39 s39 => ⟨rfl, ?_⟩
    walk_at "rd"
    have Z1g := ((gr_N Z1f x37).same s38).same s39
    have Z2g := ((gr_N Z2f x37).same s38).same s39
    have h39 := s39 _ _ (s38 _ _ (x37 _ _ h36 fun ps z => by cases z))
    refine rd_mkG (K := K) .be rfl fun e7 H40 s40 E7 => ?_
    walk_at "rd"
    refine rd_mkG (K := K) (.fr 1) rfl fun e8 H41 s41 E8 => ?_
    walk_at "rd"
    refine Rd.rd_mkLst (by show 4 ≤ sizeLine; decide) fun p10 H42 n42 s42 h42 => ?_
    have s3942 := (s40.trans s41).trans s42
    have dp4 : ∀ {u1 u2 : V}, Gr K H42 u1 .be → Gr K H42 u2 (.fr 1) → DpAll K H42 [u1, u2, .bl true, .str "greater"] [.tuple Gw.be.ds, .tuple (Gw.fr 1).ds, .bool true, .str "greater"] := fun q1 q2 =>
      .cons (Rd.Dt.dp _ _ (gr_dt q1)) (.cons (Rd.Dt.dp _ _ (gr_dt q2)) (.cons (.bl _) (.cons (.str _) .nil)))
    refine Rd.rd_eqD (.lst (SqL.of (s3942 _ _ h39)) (dp4 (Z1g.same s3942) (Z2g.same s3942))) (.lst (SqL.of h42) (dp4 ((E7.same s41).same s42) (E8.same s42))) (by decide +kernel) (by decide +kernel) ?_
    rw [show PyData.eqv (.list [.tuple Gw.be.ds, .tuple (Gw.fr 1).ds, .bool true, .str "greater"]) (.list [.tuple Gw.be.ds, .tuple (Gw.fr 1).ds, .bool true, .str "greater"]) = true by decide +kernel]
    walk_at "rd"
    refine Rd.if_t rfl ?_
    walk_at "rd"
    rw [decide_eq_true rfl]
    exact k H42
end
end M
set_option Elab.async false
set_option linter.all false
set_option maxRecDepth 100000
set_option maxHeartbeats 4000000
/-! Hd: a head's Hook: defs by where they stand, and one Bool of one's own over what the names reach. -/
namespace Hd
open PySem PySem.Spec PyProof.Rows L2
def obsM (ex : PySem.W.Frag → Bool) (fn : List He5.DefA) (K : PySem.W.Frag) : He.AlD := (ex K && fn.all fun d => d.ok K, fn.map fun d => He5.fnA K (d.at_ K))
def SaysM (ex : PySem.W.Frag → Bool) (fn : List He5.DefA) (K : PySem.W.Frag) : Prop := obsM ex fn K = He5.valA fn
def obsMG (n : Nat) (ex : PySem.W.Frag → Bool) (fn : List He5.DefA) (g : Addr → Option Obj) : He.AlD := obsM ex fn (He.frG g (He5.asA g n))
def hookM (n : Nat) (ex : PySem.W.Frag → Bool) (fn : List He5.DefA) : PySem.W.Hook where
  α := He.AlD
  obs := fun s => obsMG n ex fn s.heap.get?
  val := fun _ => He5.valA fn
  says := fun _ h => ∃ K : PySem.W.Frag, K.In h ∧ SaysM ex fn K
  of := fun _ _ e => ⟨_, He.frG_in, e⟩
  keeps := fun _ _ _ ⟨K, hK, c⟩ k => ⟨K, PySem.W.Frag.In.keeps hK k, c⟩
theorem obsMG_eq {n : Nat} {ex : PySem.W.Frag → Bool} {fn : List He5.DefA} {g : Addr → Option Obj} {s : Shared} (h : ∀ a, g a = s.heap.get? a) : obsMG n ex fn g = (hookM n ex fn).obs s := by
  have e : g = s.heap.get? := funext h
  rw [e] <;> rfl
section
variable {ex : PySem.W.Frag → Bool} {fn : List He5.DefA} {K : PySem.W.Frag}
theorem SaysM.fact (c : SaysM ex fn K) : ex K = true := (He.ba (show (ex K && fn.all fun d => d.ok K) = true from congrArg (fun z : He.AlD => z.1) c)).1
theorem SaysM.def_ (c : SaysM ex fn K) (i : Nat) {d : He5.DefA} (h : fn[i]? = some d := by rfl) : ∃ fd, L2.FunD K d.name d.qual d.params d.body d.scope (d.dvs K) (d.kws K) (d.at_ K) fd := by
  have c2 := (He.ba (show (ex K && fn.all fun d => d.ok K) = true from congrArg (fun z : He.AlD => z.1) c)).2
  have e : fn.map (fun d => He5.fnA K (d.at_ K)) = fn.map He5.DefA.val := congrArg (fun z : He.AlD => z.2) c
  have e2 : (fn.map fun d => He5.fnA K (d.at_ K))[i]? = (fn.map He5.DefA.val)[i]? := by rw [e]
  rw [List.getElem?_map, List.getElem?_map, h] at e2
  exact He5.DefA.funD (Option.some.inj e2) (List.all_eq_true.mp c2 d (List.mem_of_getElem? h))
end
end Hd
set_option Elab.async false
set_option linter.all false
set_option maxRecDepth 100000
set_option maxHeartbeats 4000000
/-! Ht: a head's Hook that also knows the code objects of some defs and their tables, which are empty. -/
namespace Hd
open PySem PySem.Spec PyProof.Rows L2
def codeAt (K : PySem.W.Frag) (x : Str) : Addr := match Rd.codeOf K (He.ga K x) with
  | .ref c => c
  | _ => 0
def tabAt (K : PySem.W.Frag) (x : Str) : Addr := match K.lookup (codeAt K x) with
  | some ⟨_, _, .fields vs, _⟩ => (match vs.getD 11 Value.none with
    | Value.ref P => P
    | _ => 0)
  | _ => 0
def isS : Value → Bool
  | .str _ _ => true
  | _ => false
def isI : Value → Bool
  | .int _ _ => true
  | _ => false
def isB : Value → Bool
  | .bool _ => true
  | _ => false
theorem isS_ok {v : Value} (h : isS v = true) : ∃ z t, v = .str z t := by cases v <;> first | exact ⟨_, _, rfl⟩ | cases h
theorem isI_ok {v : Value} (h : isI v = true) : ∃ z t, v = .int z t := by cases v <;> first | exact ⟨_, _, rfl⟩ | cases h
theorem isB_ok {v : Value} (h : isB v = true) : ∃ z, v = .bool z := by cases v <;> first | exact ⟨_, rfl⟩ | cases h
def codeB (K : PySem.W.Frag) (x : Str) : Bool := decide (Rd.codeOf K (He.ga K x) = .ref (codeAt K x)) && (match K.lookup (codeAt K x) with
  | some ⟨cls, _, .fields vs, _⟩ => decide (cls = .type "code") && (decide (vs[11]? = some (.ref (tabAt K x))) && (isS (vs.getD 18 .none) && (isI (vs.getD 7 .none) && (isB (vs.getD 9 .none) && (isI (vs.getD 10 .none) && !decide (codeAt K x = tabAt K x))))))
  | _ => false)
theorem codeB_ok {K : PySem.W.Frag} {h : Heap} {x : Str} (X : K.In h) (c : codeB K x = true) : Rd.codeOf K (He.ga K x) = .ref (codeAt K x) ∧ PySem.W.CodeHd h (codeAt K x) (tabAt K x) := by
  obtain ⟨c1, c2⟩ := He.ba c
  refine ⟨of_decide_eq_true c1, ?_⟩
  split at c2
  · rename_i cls dd vs sl hlk
    obtain ⟨e1, c3⟩ := He.ba c2
    obtain ⟨e2, c4⟩ := He.ba c3
    obtain ⟨e3, c5⟩ := He.ba c4
    obtain ⟨e4, c6⟩ := He.ba c5
    obtain ⟨e5, c7⟩ := He.ba c6
    obtain ⟨e6, e7⟩ := He.ba c7
    obtain ⟨f, tf, q3⟩ := isS_ok e3
    obtain ⟨fl, tg, q4⟩ := isI_ok e4
    obtain ⟨b, q5⟩ := isB_ok e5
    obtain ⟨tx, tt, q6⟩ := isI_ok e6
    have q2 := of_decide_eq_true e2
    have q2' : vs.getD 11 .none = .ref (tabAt K x) := by
      rw [Array.getD_eq_getD_getElem?, q2]; rfl
    exact ⟨_, vs, f, tf, fl, tg, b, tx, tt, X _ _ hlk, of_decide_eq_true e1, rfl, q2, q2', q3, q4, q5, q6, of_decide_eq_false (by simpa using e7)⟩
  · cases c2
def tabB (g : Addr → Option Obj) (a : Addr) : Bool := match g a with
  | some ⟨cls, dd, .fields vs, sl⟩ => decide (cls = .none) && (dd.isNone && (vs.toList.isEmpty && sl.toList.isEmpty))
  | _ => false
theorem tabB_ok {g : Addr → Option Obj} {a : Addr} (c : tabB g a = true) : g a = some Rd.tab0 := by
  unfold tabB at c
  split at c
  · rename_i cls dd vs sl e
    obtain ⟨e1, c2⟩ := He.ba c
    obtain ⟨e2, c3⟩ := He.ba c2
    obtain ⟨e3, e4⟩ := He.ba c3
    obtain rfl := of_decide_eq_true e1
    obtain ⟨vs⟩ := vs
    obtain ⟨sl⟩ := sl
    cases dd with
    | some _ => cases e2
    | none =>
      cases vs with
      | cons _ _ => cases e3
      | nil => cases sl with
        | cons _ _ => cases e4
        | nil => exact e
  · cases c
def tabsB (xs : List Str) (K : PySem.W.Frag) (g : Addr → Option Obj) : Bool := xs.all fun x => codeB K x && ((K.lookup (tabAt K x)).isNone && tabB g (tabAt K x))
/-- what the names reach, but for the tables -/
def asT (xs : List Str) (g : Addr → Option Obj) (n : Nat) : List Addr := (He5.asA g n).filter fun a => !((xs.map (tabAt (He.frG g (He5.asA g n)))).contains a)
def obsT (xs : List Str) (n : Nat) (ex : PySem.W.Frag → Bool) (fn : List He5.DefA) (g : Addr → Option Obj) : He.AlD := ((obsM ex fn (He.frG g (asT xs g n))).1 && tabsB xs (He.frG g (asT xs g n)) g, (obsM ex fn (He.frG g (asT xs g n))).2)
/-- what is known of the defs xs -/
def SaysT (xs : List Str) (K : PySem.W.Frag) (h : Heap) : Prop := ∀ x ∈ xs, codeB K x = true ∧ K.lookup (tabAt K x) = none ∧ h.get? (tabAt K x) = some Rd.tab0
def hookT (xs : List Str) (n : Nat) (ex : PySem.W.Frag → Bool) (fn : List He5.DefA) : PySem.W.Hook where
  α := He.AlD
  obs := fun s => obsT xs n ex fn s.heap.get?
  val := fun _ => He5.valA fn
  says := fun _ h => ∃ K : PySem.W.Frag, K.In h ∧ SaysM ex fn K ∧ SaysT xs K h
  of := fun w s e => by
    have e1 : ((obsM ex fn (He.frG s.heap.get? (asT xs s.heap.get? n))).1 && tabsB xs (He.frG s.heap.get? (asT xs s.heap.get? n)) s.heap.get?) = true := (congrArg (fun z : He.AlD => z.1) e).trans rfl
    obtain ⟨a1, a2⟩ := He.ba e1
    refine ⟨He.frG s.heap.get? (asT xs s.heap.get? n), He.frG_in, ?_, fun x hx => ?_⟩
    · show obsM ex fn (He.frG s.heap.get? (asT xs s.heap.get? n)) = He5.valA fn
      have e2 : (obsM ex fn (He.frG s.heap.get? (asT xs s.heap.get? n))).2 = (He5.valA fn).2 := by
        have e3 := congrArg (fun z : He.AlD => z.2) e
        exact e3
      refine Prod.ext ?_ e2
      rw [a1]
      have e4 := congrArg (fun z : He.AlD => z.1) e
      exact e1.symm.trans e4
    · obtain ⟨b1, b2⟩ := He.ba (List.all_eq_true.mp a2 x hx)
      obtain ⟨b3, b4⟩ := He.ba b2
      exact ⟨b1, Option.isNone_iff_eq_none.mp b3, tabB_ok b4⟩
  keeps := fun _ _ _ ⟨K, hK, c, t⟩ k => ⟨K, PySem.W.Frag.In.keeps hK k, c, fun x hx => ⟨(t x hx).1, (t x hx).2.1, k _ _ (t x hx).2.2⟩⟩
theorem obsT_eq {xs : List Str} {n : Nat} {ex : PySem.W.Frag → Bool} {fn : List He5.DefA} {g : Addr → Option Obj} {s : Shared} (h : ∀ a, g a = s.heap.get? a) : obsT xs n ex fn g = (hookT xs n ex fn).obs s := by
  have e : g = s.heap.get? := funext h
  rw [e] <;> rfl
end Hd
set_option Elab.async false
set_option linter.all false
set_option maxRecDepth 100000
set_option maxHeartbeats 0
namespace M
open PySem L2
/-! ### the head: facts by names -/
def dF (x : Str) (st : Stmt) : He5.DefA := ⟨fun K => He.ga K x, x, x, defArgs st, defBody st, defScope st, [], []⟩
def dM (C m qual : Str) (st : Stmt) : He5.DefA := ⟨fun K => He.ma K (He.ga K C) m, m, qual, defArgs st, defBody st, defScope st, [], []⟩
def dC (C m qual : Str) (st : Stmt) : He5.DefA := ⟨fun K => He5.wf K (He.ga K C) "classmethod" m, m, qual, defArgs st, defBody st, defScope st, [], []⟩
section
variable {K : PySem.W.Frag} {h : Heap} {mg : Str → Option Value} {ex : PySem.W.Frag → Bool} {fn : List He5.DefA}
theorem keep_of {x q : Str} {ps : Arguments} {b : List Stmt} {sc : Scope} {ds : List V} {ks : List (Str × V)} {f : Addr} {fd : FuncData} (F : L2.FunD K x q ps b sc ds ks f fd) : PySem.W.keepIn K (.ref f) = true := by
  obtain ⟨oc, od, dV, kV, doc, pm, an, cdv, ct, osl, e, lk, _⟩ := F.ex
  unfold PySem.W.keepIn
  dsimp only
  rw [lk]
theorem has_of (X : K.In h) (G : h.Ns mainGlobals mg) (c : Hd.SaysM ex fn K) (i : Nat) {x : Str} {st : Stmt} (hi : fn[i]? = some (dF x st)) (hg : (He.Fa.glo x).ok K = true) : Rd.Has K mg x st := by
  obtain ⟨fd, F⟩ := c.def_ i hi
  exact ⟨He.ga K x, ⟨fd, F⟩, He.glo_ok X G hg, keep_of F⟩
theorem hasM_of (c : Hd.SaysM ex fn K) (i : Nat) {C m qual : Str} {st : Stmt} (hi : fn[i]? = some (dM C m qual st)) : Rd.HasAt K (He.ma K (He.ga K C) m) m qual st := by
  obtain ⟨fd, F⟩ := c.def_ i hi
  exact ⟨fd, F⟩
theorem hasC_of (c : Hd.SaysM ex fn K) (i : Nat) {C m qual : Str} {st : Stmt} (hi : fn[i]? = some (dC C m qual st)) : Rd.HasAt K (He5.wf K (He.ga K C) "classmethod" m) m qual st := by
  obtain ⟨fd, F⟩ := c.def_ i hi
  exact ⟨fd, F⟩
/-- attributes of the class x are read off it -/
def readB (K : PySem.W.Frag) (x : Str) : Bool := PySem.W.readsIn K (He.ga K x) (.type "type") && He.eqO (PySem.W.specialIn K (.ref (He.ga K x)) "__getattribute__") (some (some (.builtin "type.__getattribute__")))
theorem read_ok {x : Str} (h : readB K x = true) : ClX.CRead K (He.ga K x) (.type "type") := by
  obtain ⟨h1, h2⟩ := He.ba h
  exact ⟨h1, He.eqO_ok h2⟩
/-- x.m is a class method -/
def cmetB (K : PySem.W.Frag) (x m : Str) : Bool := He5.wrapB K (He.ga K x) "classmethod" "classmethod.__get__" m && PySem.W.fnIn K (He5.wf K (He.ga K x) "classmethod" m)
theorem cmet_ok {x m : Str} (h : cmetB K x m = true) : ClX.CMet K (He.ga K x) (.type "type") m (He.ma K (He.ga K x) m) (He5.wf K (He.ga K x) "classmethod" m) := by
  obtain ⟨h1, h2⟩ := He.ba h
  exact He5.cmet_of h1 h2
end
def fn : List He5.DefA := [dF "is_integer" s_is_integer, dF "is_growth" s_is_growth, dF "require_growth" s_require_growth, dF "place_of" s_place_of, dF "compared" s_compared, dF "greatest_of" s_greatest_of, dF "greatest_growth" s_greatest_growth, dF "_law_dice" s__law_dice, dF "_law_roll" s__law_roll, dF "_law_one_of" s__law_one_of, dF "_law_place" s__law_place, dF "_law_greatest" s__law_greatest, dF "_law_error" s__law_error, dF "_law_growth" s__law_growth, dF "_law_odd" s__law_odd, dF "_law_word" s__law_word, dF "_law_most_of" s__law_most_of, dF "_law_right" s__law_right, dF "law" s_law]
def fa : List He.Fa := [.glo "is_integer", .glo "is_growth", .glo "require_growth", .glo "place_of", .glo "compared", .glo "greatest_of", .glo "greatest_growth", .glo "_law_dice", .glo "_law_roll", .glo "_law_one_of", .glo "_law_place", .glo "_law_greatest", .glo "_law_error", .glo "_law_growth", .glo "_law_odd", .glo "_law_word", .glo "_law_most_of", .glo "_law_right", .glo "law", .free "len", .free "int", .free "abs", .free "max", .free "min", .free "range", .free "isinstance", .free "repr", .free "tuple", .free "str", .free "bool", .str "POWER" "power", .str "BEYOND" "beyond", .str "FREE" "free", .str "LESS" "less", .str "EQUAL" "equal", .str "GREATER" "greater", .glo "InvalidOperation", .glo "InvalidGraph", .exc "InvalidOperation", .exm "InvalidOperation" "InvalidGraph" false, .exm "InvalidOperation" "InvalidOperation" true]
def ex (K : PySem.W.Frag) : Bool := (fa.all fun f => f.ok K) && !decide (Hd.tabAt K "_law_right" = Hd.tabAt K "law")
def lams : List Str := ["_law_right", "law"]
abbrev R : PySem.W.OpenRow := PySem.W.OpenLaw.row PySem.Challenge.rw_loopgrowth_k53_orders_of_growths
abbrev hk : PySem.W.Hook := Hd.hookT lams 5 ex fn
def ob (s : PySem.W.SharedT) : He.AlD := Hd.obsT lams 5 ex fn (HandSHeadRun.getT s)
theorem ob_eq (s : PySem.W.SharedT) : ob s = hk.obs s.abs := Hd.obsT_eq (HandSHeadRun.getT_eq s)
def loose : List Str := ["LoopError", "InvalidGraph", "InvalidOperation", "InvalidNumber", "UnknownName", "is_integer", "POWER", "BEYOND", "FREE", "LESS", "EQUAL", "GREATER", "is_growth", "require_growth", "place_of", "compared", "greatest_of", "greatest_growth", "_law_dice", "_law_roll", "_law_one_of", "_law_place", "_law_greatest", "_law_error", "_law_growth", "_law_odd", "_law_word", "_law_most_of", "_law_right"]
theorem run (w : World) : HandSHeadRun.RunEq R (PySem.W.view R.prog [33]) hk ob 20000 loose w := by
  intro os
  kernel_rfl
end M
set_option Elab.async false
set_option linter.all false
set_option maxRecDepth 100000
set_option maxHeartbeats 0
namespace M
open PySem L2
abbrev q35 : Program := PySem.W.view R.prog [33]
abbrev dL : DefRec := HandSHeadRun.topDef R.prog 33
theorem h_open : PySem.W.opening R.prog = PySem.W.plainProg R.prog.main.scope.names := by kernel_rfl
theorem h_fence (s : Shared) : fenceModules? R.prog s = some s := by kernel_rfl
theorem h_def : PySem.W.defOf q35 R.name = some (dL, []) := by kernel_rfl
theorem h_the : R.prog.theDef R.name = some (dL.params, dL.body, dL.scope) := by kernel_rfl
theorem h_kw : PySem.W.kwWritten? dL.params.kwonlyargs dL.params.kw_defaults = some [] := by kernel_rfl
theorem h_said : R.wellSaid = true := by decide +kernel
theorem h_ok : (PySem.W.chainsOk q35 && PySem.W.opensWell R.prog && (PySem.W.frees R.toRowW && R.within.isEmpty)) = true := by decide +kernel
theorem h_bare : R.prog.bare := ⟨rfl, rfl, rfl, rfl, rfl, by decide +kernel⟩
theorem h_name : dL.name = ("law" : Str) := by kernel_rfl
theorem h_dfl : dL.params.defaults = [] := by kernel_rfl
theorem h_prom : R.toRowW.promised := by w_witness2
/-- the tables -/
def tabsOf (K : PySem.W.Frag) : List (Addr × Str) := [(Hd.tabAt K "_law_right", lamQ "_law_right"), (Hd.tabAt K "law", lamQ "law")]
def codesOf (K : PySem.W.Frag) : List (Addr × Addr) := [(Hd.codeAt K "_law_right", Hd.tabAt K "_law_right"), (Hd.codeAt K "law", Hd.tabAt K "law")]
theorem hasC_ofX {K : PySem.W.Frag} {h : Heap} {mg : Str → Option Value} {x : Str} {st : Stmt} (X : K.In h) (F : Rd.Has K mg x st) (hm : mg x = some (.ref (He.ga K x))) (c : Hd.codeB K x = true) : Rd.HasC K mg x st (Hd.codeAt K x) := by
  obtain ⟨f, F1, F2, F3⟩ := F
  obtain rfl : f = He.ga K x := Value.ref.inj (Option.some.inj (F2.symm.trans hm))
  exact ⟨_, F1, F2, F3, (Hd.codeB_ok X c).1⟩
theorem facts {P : Program} {w : World} {K : PySem.W.Frag} {h : Heap} {mg : Str → Option Value} (X : K.In h) (G : h.Ns mainGlobals mg) (c : Hd.SaysM ex fn K) (t : Hd.SaysT lams K h) (base : Heap) (tb : ∀ p ∈ codesOf K, LamX.TabB base mg p.1 p.2) : Rd.Fn true P w K mg base CX0 9 "law" (spLaw K (tabsOf K)) := by
  obtain ⟨c0, c1⟩ := He.ba c.fact
  have fi : ∀ (i : Nat) {f : He.Fa}, fa[i]? = some f → f.ok K = true := fun i {f} hf => List.all_eq_true.mp c0 f (List.mem_of_getElem? hf)
  have ne : Hd.tabAt K "_law_right" ≠ Hd.tabAt K "law" := of_decide_eq_false (by simpa using c1)
  have g : Glob mg := ⟨He.free_ok X G (fi 19 rfl), He.free_ok X G (fi 20 rfl), He.free_ok X G (fi 21 rfl), He.free_ok X G (fi 22 rfl), He.free_ok X G (fi 23 rfl), He.free_ok X G (fi 24 rfl), He.free_ok X G (fi 25 rfl), He.free_ok X G (fi 26 rfl), He.free_ok X G (fi 27 rfl), He.free_ok X G (fi 28 rfl), He.free_ok X G (fi 29 rfl)⟩
  have ws : Words mg := ⟨He.str_ok X G (fi 30 rfl), He.str_ok X G (fi 31 rfl), He.str_ok X G (fi 32 rfl), He.str_ok X G (fi 33 rfl), He.str_ok X G (fi 34 rfl), He.str_ok X G (fi 35 rfl)⟩
  obtain ⟨xp, xk, xb, xt⟩ := He.exc_ok (fi 38 rfl)
  have T : ErrO K mg (He.ga K "InvalidGraph") (He.ga K "InvalidOperation") := ⟨xp, He.glo_ok X G (fi 36 rfl), xk, xb, xt, He.glo_ok X G (fi 37 rfl), He.exm_ok (fi 39 rfl), He.exm_ok (fi 40 rfl)⟩
  have uR : ∀ p ∈ tabsOf K, p.1 = Hd.tabAt K "_law_right" → p.2 = lamQ "_law_right" := fun p hp e => by
    simp only [tabsOf, List.mem_cons, List.not_mem_nil, or_false] at hp
    rcases hp with rfl | rfl
    · rfl
    · exact absurd e.symm ne
  have uL : ∀ p ∈ tabsOf K, p.1 = Hd.tabAt K "law" → p.2 = lamQ "law" := fun p hp e => by
    simp only [tabsOf, List.mem_cons, List.not_mem_nil, or_false] at hp
    rcases hp with rfl | rfl
    · exact absurd e ne
    · rfl
  have cR := hasC_ofX X (has_of X G c 17 rfl (fi 17 rfl)) (He.glo_ok X G (fi 17 rfl)) (t "_law_right" (by simp [lams])).1
  have cL := hasC_ofX X (has_of X G c 18 rfl (fi 18 rfl)) (He.glo_ok X G (fi 18 rfl)) (t "law" (by simp [lams])).1
  have tR := tb (Hd.codeAt K "_law_right", Hd.tabAt K "_law_right") (by simp [codesOf])
  have tL := tb (Hd.codeAt K "law", Hd.tabAt K "law") (by simp [codesOf])
  have nt : Rd.Fn true P w K mg base CX0 1 "is_integer" (spInt K) := ok_is_integer (has_of X G c 0 rfl (fi 0 rfl)) g
  have gt : Rd.Fn true P w K mg base CX0 2 "is_growth" (spIsG K) := ok_is_growth (has_of X G c 1 rfl (fi 1 rfl)) g ws nt
  have rt : Rd.Fn true P w K mg base (L2.CX P w) 3 "require_growth" (spReq K (He.ga K "InvalidOperation")) := ok_require (has_of X G c 2 rfl (fi 2 rfl)) T gt
  have pt : Rd.Fn true P w K mg base CX0 1 "place_of" (spPlace K) := ok_place_of (has_of X G c 3 rfl (fi 3 rfl)) ws
  have mt := ok_compared (has_of X G c 4 rfl (fi 4 rfl)) ws rt pt
  have nf : Rd.Fn false P w K mg base CX0 1 "is_integer" (spInt K) := ok_is_integer (has_of X G c 0 rfl (fi 0 rfl)) g
  have gf : Rd.Fn false P w K mg base CX0 2 "is_growth" (spIsG K) := ok_is_growth (has_of X G c 1 rfl (fi 1 rfl)) g ws nf
  have rf : Rd.Fn false P w K mg base (L2.CX P w) 3 "require_growth" (spReq K (He.ga K "InvalidOperation")) := ok_require (has_of X G c 2 rfl (fi 2 rfl)) T gf
  have pf : Rd.Fn false P w K mg base CX0 1 "place_of" (spPlace K) := ok_place_of (has_of X G c 3 rfl (fi 3 rfl)) ws
  have mf := ok_compared (has_of X G c 4 rfl (fi 4 rfl)) ws rf pf
  have tf := ok_greatest_of (has_of X G c 5 rfl (fi 5 rfl)) ws pf
  have xt' : Rd.Fn true P w K mg base (L2.CX P w) 4 "greatest_growth" (spGG K (He.ga K "InvalidOperation")) := ok_greatest_growth (has_of X G c 6 rfl (fi 6 rfl)) rf tf
  have xf' : Rd.Fn false P w K mg base (L2.CX P w) 4 "greatest_growth" (spGG K (He.ga K "InvalidOperation")) := ok_greatest_growth (has_of X G c 6 rfl (fi 6 rfl)) rf tf
  have k1 : Rd.Fn true P w K mg base CX0 1 "_law_dice" (spDice K) := ok_dice (has_of X G c 7 rfl (fi 7 rfl)) g
  have k2 : Rd.Fn true P w K mg base CX0 1 "_law_roll" spRoll := ok_roll (has_of X G c 8 rfl (fi 8 rfl)) g
  have k3 := ok_one_of (has_of X G c 9 rfl (fi 9 rfl)) g k2
  have k4 : Rd.Fn true P w K mg base CX0 1 "_law_place" (spPlace K) := ok_lplace (has_of X G c 10 rfl (fi 10 rfl))
  have k5 := ok_lgreatest (has_of X G c 11 rfl (fi 11 rfl)) k4
  have k6 := ok_lword (has_of X G c 15 rfl (fi 15 rfl)) k4
  have k7 := ok_most5 (has_of X G c 16 rfl (fi 16 rfl)) g xt'
  have k8 := ok_growth (has_of X G c 13 rfl (fi 13 rfl)) g k3
  have k9 := ok_odd (has_of X G c 14 rfl (fi 14 rfl)) g k3
  have k10 := ok_right cR g T (has_of X G c 12 rfl (fi 12 rfl)) tR (T := tabsOf K) (by simp [tabsOf]) uR gt mt mf xf' k8 k9 k6 k7 k5 k2
  exact ok_law cL g T (has_of X G c 12 rfl (fi 12 rfl)) tL (T := tabsOf K) (by simp [tabsOf]) uL gt mt xt' xf' k1 k10
theorem h_walk : PySem.W.WalkO q35 loose (PySem.W.XL q35 []) hk.says R.toRowW dL [] (fun f vs => PySem.call f vs) := by
  refine Rd.walk_ofT (l := PySem.Challenge.rw_loopgrowth_k53_orders_of_growths) (n := 63) (k := 9) rfl (by decide) h_dfl (Rd.roomG_caller ⟨rfl, by decide, by decide⟩) fun w mg fa h Y G hmg0 => ?_
  obtain ⟨K, KX, c, t⟩ := Y
  have hmg : mg ("law" : PySem.Str) = some (.ref fa) := (congrArg mg h_name).symm.trans hmg0
  have tr := t "_law_right" (by simp [lams])
  have tl := t "law" (by simp [lams])
  refine ⟨K, codesOf K, spLaw K (tabsOf K), KX, fun p hp => ?_, fun H a ns hl hH hS => ⟨(a, ns), rfl, hS, hl, fun p hp => ?_, fun _ => rfl⟩, fun base tb => ?_⟩
  · simp only [codesOf, List.mem_cons, List.not_mem_nil, or_false] at hp
    rcases hp with rfl | rfl
    · exact ⟨tr.2.2, tr.2.1, (Hd.codeB_ok KX tr.1).2⟩
    · exact ⟨tl.2.2, tl.2.1, (Hd.codeB_ok KX tl.1).2⟩
  · simp only [tabsOf, List.mem_cons, List.not_mem_nil, or_false] at hp
    rcases hp with rfl | rfl
    · exact LamX.TabS.nil (hH (Hd.codeAt K "_law_right", Hd.tabAt K "_law_right") (by simp [codesOf]))
    · exact LamX.TabS.nil (hH (Hd.codeAt K "law", Hd.tabAt K "law") (by simp [codesOf]))
  · obtain ⟨f, F, hf, _⟩ := facts (P := (PySem.Challenge.rw_loopgrowth_k53_orders_of_growths).prog) (w := w) KX G c t base tb
    obtain rfl : f = fa := Value.ref.inj (Option.some.inj (hf.symm.trans hmg))
    exact F
theorem h_holds : R.Holds := HandSHeadRun.head_any (r := R) (q := q35) (H := hk) (ob := ob) (M := 20000) (loose := loose) (d := dL) (kwd := []) ob_eq h_open h_fence run h_def h_the h_kw (by rfl) h_said h_ok h_bare h_prom h_walk
end M
open PySem PySem.W PySem.Calls PyProof.Rows
theorem PySem.Challenge.cw_loopgrowth_k53_orders_of_growths_holds : PySem.Challenge.rw_loopgrowth_k53_orders_of_growths.Holds := by
  w_on; o_law
  exact M.h_holds
#print axioms PySem.Challenge.cw_loopgrowth_k53_orders_of_growths_holds
