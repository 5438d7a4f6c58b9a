import PyProof.Rows.All
import Wide.All
import OpenK.AllK
import Wide.FinOn
import HandS.ForMost
import HandS.Defaults
import HandS.Codes
import HandS.More
import HandS.Star
import HandS.IterVal
import HandS.IsInst
import HandS.Wide
import HandS.TupAny
import HandS.Ends
import HandS.HeadEnd
import HandS.RaiseMore
import HandS.Steps
import HandS.Text
import HandS.Iter
import HandS.Zip
import PyProof.ReprRoads
import PyProof.ReprLen
import HandS.TupLe
import KE.KUnpackStar
import PyProof.Rows.MatchSeqLen
import PyProof.RulesMatchSeq
import HandS.Lambda
import HandS.TryMany
import HandS.ExcOwn
import HandS.EndTab
import KE.KExcInit
import HandS.ExcValue
import HandS.ExcInit
import HandS.ExcIs
import HandS.ExcField
import KE.KOpsOwn
import KE.KFmtOwn
import HandS.Property
import HandS.ClsMeth
import HandS.TupMul
import HandS.Style
import HandS.FStr
import PyProof.SumAny
import KE.GoesMore
import HandS.SetFor
import HandS.SetTxt0
import HandS.Strs
import HandS.SortInts
import HandS.SortOrd
import KE.KSortTup
import HandS.DictComp
import HandS.MakeKwOnly
import KE.KDictPairs
import PyProof.DictUpdate
import PyProof.RowDictHeap
import KE.KStateDown
import HandS.Head0
import HandS.Head1
import HandS.Head2
import HandS.HeadHook1
import HandS.HeadHook2
import HandS.HeadNt
import PySem.Challenge.RW_loopgrowth_k58_errors_of_polynomials
set_option Elab.async false
set_option linter.all false
set_option maxRecDepth 100000
set_option maxHeartbeats 4000000
/-! Rd: readings of the hand layer answered from the head, one lemma a reading. -/
namespace Rd
open PySem L2
/-! ### named readings of built-in calls -/
def rInt1 : List V → Hp → VK → Prop := fun xs H Q => (∃ i, xs = [.int i] ∧ Q (.int i) H) ∨ ∃ k, xs = [.bl k] ∧ Q (.int (if k then 1 else 0)) H
def rAbs : List V → Hp → VK → Prop := fun xs H Q => ∃ i, xs = [.int i] ∧ Q (.int (if i < 0 then -i else i)) H
def rMax2 : List V → Hp → VK → Prop := fun xs H Q => ∃ i j, xs = [.int i, .int j] ∧ Q (.int (if j > i then j else i)) H
def rMin2 : List V → Hp → VK → Prop := fun xs H Q => ∃ i j, xs = [.int i, .int j] ∧ Q (.int (if j < i then j else i)) H
def rLen (K : PySem.W.Frag) : List V → Hp → VK → Prop := fun xs H Q => ∃ x n, xs = [x] ∧ LenV K x H n ∧ Q (.int n) H
section
variable {X : Cx}
theorem c_int : CallR X (.type "int") rInt1 := call_int1
theorem c_abs : CallR X (.builtin "abs") rAbs := call_abs
theorem c_max2 (hc : X.calm = true) : CallR X (.builtin "max") rMax2 := call_max2 hc
theorem c_min2 (hc : X.calm = true) : CallR X (.builtin "min") rMin2 := call_min2 hc
theorem c_len : CallR X (.builtin "len") (rLen X.K) := call_len
/-- ** of great ints -/
theorem op_powW : OpR X (binaryOp .Pow) (rI (fun i j => 0 ≤ j ∧ (Builtin.Int.intBits i : Int) * j ≤ 2 ^ 27) fun i j => .int (i ^ j.toNat)) :=
  opI fun _ _ _ _ _ _ _ hc q => PyProof.Rows.pow_int hc.1 hc.2 q
end
theorem cxK {CX : CXT} {P : Program} {w : World} {K : PySem.W.Frag} {mg : Str → Option Value} {base : Heap} {N : List Str} {qual : Str} {scope : Scope} {f : Addr} {cd : Value} {A : Around} {outer : List Env} {s : Shared} {H : Hp} {E : XK} :
  (cxOf CX P w K mg base N qual scope f cd A outer s H E).K = K := rfl
theorem noxK {X : Cx} : X.nox.K = X.K := rfl
/-! ### expressions, from the head -/
section
variable {K : PySem.W.Frag} {σ : L2.St} {H : Hp} {Q : VK} {QB : Bool → Hp → Prop} {QA : List V → Hp → Prop} {i : Nat} {v x y : V} {ta tb tc te : TE} {r : R2} {t u tA tB' : TT} {tr : TA} {D : Ends} {s1 s2 : TS} {g : TG}
theorem rd_var (h : σ[i]? = some (some v)) (q : Q v H) : tVar i σ H Q := ⟨v, h, q⟩
theorem rd_c (q : Q v H) : tC v σ H Q := q
theorem rd_op (q : ta σ H fun x H1 => tb σ H1 fun y H2 => r x y H2 Q) : tOp r ta tb σ H Q := q
theorem rd_un {r : V → Hp → VK → Prop} (q : ta σ H fun x H1 => r x H1 Q) : tUn r ta σ H Q := q
theorem rd_I0 {g : Int → Int → V} {a b : Int} (q : Q (g a b) H) : rI0 g (.int a) (.int b) H Q := ⟨a, b, rfl, rfl, q⟩
theorem rd_I {C : Int → Int → Prop} {g : Int → Int → V} {a b : Int} (c : C a b) (q : Q (g a b) H) : rI C g (.int a) (.int b) H Q := ⟨a, b, rfl, rfl, c, q⟩
theorem rd_U {g : Int → V} {a : Int} (q : Q (g a) H) : rU g (.int a) H Q := ⟨a, rfl, q⟩
theorem rd_eq (h : scal x y = true) (q : Q (.bl (decide (x = y))) H) : rEq x y H Q := ⟨h, q⟩
theorem rd_ne (h : scal x y = true) (q : Q (.bl (!decide (x = y))) H) : rNe x y H Q := ⟨h, q⟩
theorem rd_ixL {p : Addr} {xs : List V} {j : Int} (h : SqL K H p xs) (ha : atI xs j = some v) (q : Q v H) : rIxL K (.ref p) (.int j) H Q := ⟨p, xs, j, v, rfl, rfl, h, ha, q⟩
theorem rd_ixT {p : Addr} {xs : List V} {j : Int} (h : SqT K H p xs) (ha : atI xs j = some v) (q : Q v H) : rIxT K (.ref p) (.int j) H Q := ⟨p, xs, j, v, rfl, rfl, h, ha, q⟩
theorem at0 {α : Type} {v0 : α} {r : List α} : atI (v0 :: r) 0 = some v0 := atI_nat (j := 0) rfl
theorem at1 {α : Type} {v0 v1 : α} {r : List α} : atI (v0 :: v1 :: r) 1 = some v1 := atI_nat (j := 1) rfl
theorem at2 {α : Type} {v0 v1 v2 : α} {r : List α} : atI (v0 :: v1 :: v2 :: r) 2 = some v2 := atI_nat (j := 2) rfl
theorem at3 {α : Type} {v0 v1 v2 v3 : α} {r : List α} : atI (v0 :: v1 :: v2 :: v3 :: r) 3 = some v3 := atI_nat (j := 3) rfl
theorem at4 {α : Type} {v0 v1 v2 v3 v4 : α} {r : List α} : atI (v0 :: v1 :: v2 :: v3 :: v4 :: r) 4 = some v4 := atI_nat (j := 4) rfl
theorem ixN_nat {n j : Nat} (h : j < n) : ixN n (j : Int) = some j := by
  unfold ixN
  rw [if_pos (by omega), if_pos (by omega)]; simp
theorem rd_sub {to ti : TE} {t : TSet} {QS : L2.St → Hp → Prop} (q : to σ H fun o H1 => ti σ H1 fun i H2 => t o i v H2 fun H3 => QS σ H3) : gSub to ti t v σ H QS := q
theorem rd_setL {p : Addr} {xs : List V} {k : Nat} {QH : Hp → Prop} (h : H p = some (.lst xs)) (hk : k < xs.length) (q : QH (upd H p (.lst (xs.set k v)))) : rSetL (.ref p) (.int (k : Nat)) v H QH := ⟨p, xs, k, k, rfl, rfl, h, ixN_nat hk, q⟩
theorem rd_cb {r : List V → Hp → VK → Prop} (q : tr σ H fun vs H1 => r vs H1 Q) : tCB r tr σ H Q := q
theorem rd_nil (q : QA [] H) : tNil σ H QA := q
theorem rd_cons (q : ta σ H fun x H1 => tr σ H1 fun xs H2 => QA (x :: xs) H2) : tCons ta tr σ H QA := q
theorem rd_int {a : Int} (q : Q (.int a) H) : rInt1 [.int a] H Q := .inl ⟨a, rfl, q⟩
theorem rd_intB {b : Bool} (q : Q (.int (if b then 1 else 0)) H) : rInt1 [.bl b] H Q := .inr ⟨b, rfl, q⟩
theorem rd_abs {a : Int} (q : Q (.int (if a < 0 then -a else a)) H) : rAbs [.int a] H Q := ⟨a, rfl, q⟩
theorem rd_max2 {a b : Int} (q : Q (.int (if b > a then b else a)) H) : rMax2 [.int a, .int b] H Q := ⟨a, b, rfl, q⟩
theorem rd_min2 {a b : Int} (q : Q (.int (if b < a then b else a)) H) : rMin2 [.int a, .int b] H Q := ⟨a, b, rfl, q⟩
theorem rd_lenL {p : Addr} {xs : List V} (h : SqL K H p xs) (q : Q (.int (xs.length : Nat)) H) : rLen K [.ref p] H Q := ⟨_, _, rfl, .inl ⟨xs, h, rfl⟩, q⟩
theorem rd_lenT {p : Addr} {xs : List V} (h : SqT K H p xs) (q : Q (.int (xs.length : Nat)) H) : rLen K [.ref p] H Q := ⟨_, _, rfl, .inr ⟨xs, h, rfl⟩, q⟩
theorem rd_call {sp : Sp} {dvs : List V} {E : XK} (q : tr σ H fun vs H1 => sp (vs ++ dvs) H1 Q E) : tCall sp dvs E tr σ H Q := q
theorem rd_ifE (q : t σ H fun c H1 => if c = true then ta σ H1 Q else tb σ H1 Q) : tIf t ta tb σ H Q := q
/-! tests -/
theorem rd_test (q : te σ H fun x H' => ∃ k, x = .bl k ∧ QB k H') : tTest te σ H QB := q
theorem rd_tB (q : te σ H fun x H' => ∃ k, x = .bl k ∧ QB k H') : tB te σ H QB := q
theorem rd_bl {b : Bool} (q : QB b H) : ∃ k, V.bl b = .bl k ∧ QB k H := ⟨b, rfl, q⟩
theorem rd_blV {b : Bool} {P : Bool → Prop} (q : P b) : ∃ k, V.bl b = .bl k ∧ P k := ⟨b, rfl, q⟩
theorem rd_and (q : t σ H fun c H1 => if c = true then u σ H1 QB else QB false H1) : tAnd t u σ H QB := q
theorem rd_or (q : t σ H fun c H1 => if c = true then QB true H1 else u σ H1 QB) : tOr t u σ H QB := q
theorem rd_not (q : t σ H fun c H1 => QB (!c) H1) : tNot t σ H QB := q
theorem rd_andV (q : ta σ H fun x H1 => ∃ c, x = .bl c ∧ if c = true then tb σ H1 Q else Q (.bl false) H1) : tAndV ta tb σ H Q := q
theorem rd_orV (q : ta σ H fun x H1 => ∃ c, x = .bl c ∧ if c = true then Q (.bl true) H1 else tb σ H1 Q) : tOrV ta tb σ H Q := q
theorem rd_notV (q : ta σ H fun x H1 => ∃ c, x = .bl c ∧ Q (.bl (!c)) H1) : tNotV ta σ H Q := q
/-! statements -/
theorem rd_seq (q : s1 { nx := s2 D, rt := D.rt, bk := D.bk, ct := D.ct } σ H) : tSeq s1 s2 D σ H := q
theorem rd_asg (q : te σ H fun x H1 => g x σ H1 D.nx) : tAsg te g D σ H := q
theorem rd_name0 {QS : L2.St → Hp → Prop} {z : Option V} (q : QS (some v :: σ) H) : gName 0 v (z :: σ) H QS := q
theorem rd_nameS {QS : L2.St → Hp → Prop} {z : Option V} (q : gName i v σ H fun σ' H' => QS (z :: σ') H') : gName (i + 1) v (z :: σ) H QS := q
theorem rd_next (q : D.nx σ H) : tNext D σ H := q
theorem rd_ret (q : te σ H D.rt) : tRet te D σ H := q
theorem rd_drop (q : te σ H fun _ H1 => D.nx σ H1) : tDrop te D σ H := q
theorem rd_ifS (q : t σ H fun b H1 => if b = true then s1 D σ H1 else s2 D σ H1) : tIfS t s1 s2 D σ H := q
end
/-! ### promises -/
theorem rd_start' {g : TG} {x : V} {QS : L2.St → Hp → Prop} {σ : L2.St} {H : Hp} (σ' : L2.St) (e : σ = σ') (h : g x σ' H QS) : g x σ H QS := by subst e; exact h
theorem rd_start {t : TS} {D : Ends} {σ : L2.St} {H : Hp} (σ' : L2.St) (e : σ = σ') (h : t D σ' H) : t D σ H := by subst e; exact h
/-- a promise by its arguments: a stands for what the arguments tell -/
def mkSp {α : Type} (args : α → List V) (pre : α → Hp → VK → XK → Prop) : Sp := fun vs H Q E => ∃ a : α, vs = args a ∧ pre a H Q E
theorem rd_sp {α : Type} {args : α → List V} {pre : α → Hp → VK → XK → Prop} {vs : List V} {H : Hp} {Q : VK} {E : XK} (a : α) (e : vs = args a) (h : pre a H Q E) : mkSp args pre vs H Q E := ⟨a, e, h⟩
/-- room for k calls; if gd is told, no repr is under way -/
structure RoomG (gd : Bool) (k : Nat) (A : Around) : Prop extends Room k A where
  gs : gd = true → A.guards = some []
theorem RoomG.mono {gd : Bool} {j k : Nat} {A : Around} (r : RoomG gd k A) (h : j ≤ k) : RoomG gd j A := ⟨r.toRoom.mono h, r.gs⟩
theorem RoomG.gd {k : Nat} {A : Around} (r : RoomG true k A) : A.guards = some [] := r.gs rfl
theorem RoomG.any {k : Nat} {A : Around} (r : Room k A) : RoomG false k A := ⟨r, fun e => nomatch e⟩
theorem RoomG.deeper {gd : Bool} {k : Nat} {A : Around} (r : RoomG gd (k + 1) A) (env : Env) : RoomG gd k (A.deeper env) := ⟨r.toRoom.deeper env, r.gs⟩
theorem RoomG.make {gd : Bool} {k : Nat} {A : Around} (r : RoomG gd (k + 1) A) (C : Addr) (us : List Value) (kw : List (Str × Value)) : RoomG gd k (A.under (.builtin "type.__call__" ⟨.ref C :: us, kw⟩)) := by
  refine ⟨r.toRoom.make C us kw, fun q => ?_⟩
  have e := r.gs q
  simpa [Around.under, Code.guards, Code.isGuard, guardIds, pushGuards] using e
/-- a promise by positional values -/
def FnG (gd : Bool) (P : Program) (w : World) (K : PySem.W.Frag) (mg : Str → Option Value) (base : Heap) (CX : CXT) (k : Nat) (f : Addr) (sp : Sp) : Prop :=
  ∀ (A : Around) (outer : List Env) (s : Shared) (H : Hp) (us : List Value) (vs : List V) (Q : VK) (E : XK), RoomG gd k A → Env0 P w K mg base A outer s H → Vals vs us → sp vs H Q E →
    codeAny (model P w) A (.call (.ref f) ⟨us, []⟩) (CR CX outer P w H s Q E) s
/-- the def st at f -/
def HasAt (K : PySem.W.Frag) (f : Addr) (x qual : Str) (st : Stmt) : Prop := ∃ fd, FunD K x qual (defArgs st) (defBody st) (defScope st) [] [] f fd
/-- the module's def x, at any place -/
def Has (K : PySem.W.Frag) (mg : Str → Option Value) (x : Str) (st : Stmt) : Prop := ∃ f, HasAt K f x x st ∧ mg x = some (.ref f) ∧ PySem.W.keepIn K (.ref f) = true
/-- a def's promise, by the module's name x -/
def Fn (gd : Bool) (P : Program) (w : World) (K : PySem.W.Frag) (mg : Str → Option Value) (base : Heap) (CX : CXT) (k : Nat) (x : Str) (sp : Sp) : Prop :=
  ∃ f, FnG gd P w K mg base CX k f sp ∧ mg x = some (.ref f) ∧ PySem.W.keepIn K (.ref f) = true
section
variable {gd : Bool} {P : Program} {w : World} {K : PySem.W.Frag} {mg : Str → Option Value} {base : Heap} {CX : CXT} {k : Nat} {f : Addr} {x qual : Str} {st : Stmt} {N ps : List Str} {sp : Sp}
theorem FnG.mono {j : Nat} (F : FnG gd P w K mg base CX j f sp) (h : j ≤ k) : FnG gd P w K mg base CX k f sp := fun A outer s H us vs Q E hr => F A outer s H us vs Q E (hr.mono h)
theorem FnG.imp {sp' : Sp} (F : FnG gd P w K mg base CX k f sp) (h : ∀ vs H Q E, sp' vs H Q E → sp vs H Q E) : FnG gd P w K mg base CX k f sp' := fun A outer s H us vs Q E hr e0 r hs => F A outer s H us vs Q E hr e0 r (h _ _ _ _ hs)
/-- a def that is called by position and without defaults -/
theorem HasAt.fnX {α : Type} {args : α → List V} {pre : α → Hp → VK → XK → Prop} (h : HasAt K f x qual st) (S : FnScope N ps (defScope st)) (hl : ∀ a, (args a).length = ps.length)
    (hb : ∀ (kV doc pm : Value) (an : Option Addr) (cdv ct : Value) (us : List Value), us.length = ps.length → bindArgs (PySem.W.fnOf x qual (defArgs st) (defBody st) (defScope st) .none kV doc pm an cdv ct) ⟨us, []⟩ = pure (ps.zip us))
    (body : ∀ (cdv : Value) (A : Around) (outer : List Env) (s : Shared) (H : Hp) (Q : VK) (E : XK) (a : α), RoomG gd k (A.deeper (PyProof.Rows.envOfC qual (defScope st) s.heap.objs.size f cdv)) → pre a H Q E →
      ∃ t, PSs (cxOf CX P w K mg base N qual (defScope st) f cdv A outer s H E) (defBody st) t ∧ t { nx := fun _ H' => Q .non H', rt := Q } (start N (args a)) H) :
    FnG gd P w K mg base CX (k + 1) f (mkSp args pre) := by
  obtain ⟨fd, F⟩ := h
  obtain ⟨oc, od, dV, kV, doc, pm, an, cdv, ct, osl, e, lk, hcd, hD, hK⟩ := F.ex
  subst e
  rcases hD with ⟨_, e⟩ | ⟨e, _⟩
  · subst e
    intro A outer s H us vs Q E hr e0 r hsp
    obtain ⟨a, rfl, ha⟩ := hsp
    have hu : us.length = ps.length := by rw [← Vals.length r]; exact hl a
    refine StX.run_bnd lk hcd S hr.toRoom e0 (G := fun xs H2 => xs = args a ∧ H2 = H) (fun A' Ex Q' hq => ?_) fun s2 H2 xs hx hr' => ?_
    · rw [hb kV doc pm an cdv ct us hu]
      exact PySem.wpAny_pure (hq s H _ us e0 Un.refl rfl (fun _ _ z => z) r (hl a) ⟨rfl, rfl⟩)
    · obtain ⟨rfl, rfl⟩ := hx
      exact body cdv A outer s2 H2 Q E a ⟨hr', hr.gs⟩ ha
  · exact absurd rfl e
/-- .. which lets nothing out -/
theorem HasAt.fn {α : Type} {args : α → List V} {pre : α → Hp → VK → XK → Prop} (h : HasAt K f x qual st) (S : FnScope N ps (defScope st)) (hl : ∀ a, (args a).length = ps.length)
    (hb : ∀ (kV doc pm : Value) (an : Option Addr) (cdv ct : Value) (us : List Value), us.length = ps.length → bindArgs (PySem.W.fnOf x qual (defArgs st) (defBody st) (defScope st) .none kV doc pm an cdv ct) ⟨us, []⟩ = pure (ps.zip us))
    (body : ∀ (cdv : Value) (A : Around) (outer : List Env) (s : Shared) (H : Hp) (Q : VK) (E : XK) (a : α), RoomG gd k (A.deeper (PyProof.Rows.envOfC qual (defScope st) s.heap.objs.size f cdv)) → pre a H Q E →
      ∃ t, PSs (cxOf CX0 P w K mg base N qual (defScope st) f cdv A outer s H E).nox (defBody st) t ∧ t { nx := fun _ H' => Q .non H', rt := Q } (start N (args a)) H) :
    FnG gd P w K mg base CX0 (k + 1) f (mkSp args pre) := by
  refine HasAt.fnX h S hl hb fun cdv A outer s H Q E a hr ha => ?_
  obtain ⟨t, h1, h2⟩ := body cdv A outer s H Q E a hr ha
  exact ⟨t, h1.nox, h2⟩
theorem Has.fnX {α : Type} {args : α → List V} {pre : α → Hp → VK → XK → Prop} (h : Has K mg x st) (S : FnScope N ps (defScope st)) (hl : ∀ a, (args a).length = ps.length)
    (hb : ∀ (kV doc pm : Value) (an : Option Addr) (cdv ct : Value) (us : List Value), us.length = ps.length → bindArgs (PySem.W.fnOf x x (defArgs st) (defBody st) (defScope st) .none kV doc pm an cdv ct) ⟨us, []⟩ = pure (ps.zip us))
    (body : ∀ (f : Addr) (cdv : Value) (A : Around) (outer : List Env) (s : Shared) (H : Hp) (Q : VK) (E : XK) (a : α), RoomG gd k (A.deeper (PyProof.Rows.envOfC x (defScope st) s.heap.objs.size f cdv)) → pre a H Q E →
      ∃ t, PSs (cxOf CX P w K mg base N x (defScope st) f cdv A outer s H E) (defBody st) t ∧ t { nx := fun _ H' => Q .non H', rt := Q } (start N (args a)) H) :
    Fn gd P w K mg base CX (k + 1) x (mkSp args pre) := by
  obtain ⟨f, F, hm, hk⟩ := h
  exact ⟨f, F.fnX S hl hb (body f), hm, hk⟩
theorem Has.fn {α : Type} {args : α → List V} {pre : α → Hp → VK → XK → Prop} (h : Has K mg x st) (S : FnScope N ps (defScope st)) (hl : ∀ a, (args a).length = ps.length)
    (hb : ∀ (kV doc pm : Value) (an : Option Addr) (cdv ct : Value) (us : List Value), us.length = ps.length → bindArgs (PySem.W.fnOf x x (defArgs st) (defBody st) (defScope st) .none kV doc pm an cdv ct) ⟨us, []⟩ = pure (ps.zip us))
    (body : ∀ (f : Addr) (cdv : Value) (A : Around) (outer : List Env) (s : Shared) (H : Hp) (Q : VK) (E : XK) (a : α), RoomG gd k (A.deeper (PyProof.Rows.envOfC x (defScope st) s.heap.objs.size f cdv)) → pre a H Q E →
      ∃ t, PSs (cxOf CX0 P w K mg base N x (defScope st) f cdv A outer s H E).nox (defBody st) t ∧ t { nx := fun _ H' => Q .non H', rt := Q } (start N (args a)) H) :
    Fn gd P w K mg base CX0 (k + 1) x (mkSp args pre) := by
  obtain ⟨f, F, hm, hk⟩ := h
  exact ⟨f, F.fn S hl hb (body f), hm, hk⟩
end
section
variable {gd : Bool} {X : Cx} {CX : CXT} {k : Nat} {x : Str} {sp : Sp} {E : XK} {p pos : Pos} {e : Expr} {es : List Expr} {t : TA}
/-- the callee runs -/
theorem run_fnG {pins : List (Addr × Obj)} {σ : L2.St} {H : Hp} {s : Shared} {f : Addr} {Q : VK} {us : List Value} {vs : List V} (F : FnG gd X.prog X.w X.K X.mg X.base CX k f sp) (hr : RoomG gd k X.A) (hx : Passes CX X E) (I : Inv X pins σ H s) (r : Vals vs us) (h : sp vs H Q E) :
    codeAny (model X.prog X.w) X.A (.call (.ref f) ⟨us, []⟩) (fun r s' => match r with | .ok (.ret v) => EP X pins σ Q v s' | .ok _ => False | .error e => X.xe e s') s := by
  refine codeAny_mono (F X.A X.stack s H us vs Q E hr I.env0 r h) fun r s' hq => ?_
  match r, hq with
  | .error e, hq => exact hx pins σ H s e s' I hq
  | .ok (.ret u), hq => exact I.after hq
  | .ok .next, hq => exact False.elim hq
  | .ok .brk, hq => exact False.elim hq
  | .ok .cont, hq => exact False.elim hq
/-- f(..) by position -/
def tFn (sp : Sp) (E : XK) (t : TA) : TE := fun σ H Q => t σ H fun vs H1 => sp vs H1 Q E
theorem pe_fnX (h : Fn gd X.prog X.w X.K X.mg X.base CX k x sp) (hr : RoomG gd k X.A) (hg : Gl X x) (hx : Passes CX X E) (ha : PA X (e :: es) t) (hdb : (x == ("__debug__" : Str)) = false := by decide) (he : starEach (e :: es) X.env = (false, eval e X.env) :: starEach es X.env := by rfl)
    (hpl : (backTo pos (starEach es X.env)).any (·.1) = false := by rfl) : PE X (.Call (.Name x p) (e :: es) [] pos) (tFn sp E t) := by
  obtain ⟨f, F, hm, hk⟩ := h
  refine ⟨fun pins s σ H Q I h => ?_⟩
  refine wpAny_Call_Name_kw (ld_glob I hg hm ?_ hdb)
  refine PySem.W.callWith_K (h₀ := X.base) I.ok.mod.kin hk (thn (ha.run pos pins s σ H _ I h) fun us s1 ⟨vs, H1, I1, r, q⟩ => ⟨I1.kIn, ?_⟩) he hpl
  exact wpAny_call (run_fnG F hr hx I1 r q)
theorem pe_fnX0 (h : Fn gd X.prog X.w X.K X.mg X.base CX k x sp) (hr : RoomG gd k X.A) (hg : Gl X x) (hx : Passes CX X E) (hdb : (x == ("__debug__" : Str)) = false := by decide) : PE X (.Call (.Name x p) [] [] pos) (tFn sp E tNil) := by
  obtain ⟨f, F, hm, hk⟩ := h
  refine ⟨fun pins s σ H Q I h => ?_⟩
  refine wpAny_Call_Name_kw (ld_glob I hg hm ?_ hdb)
  exact PySem.W.callWith_K0 I.kIn hk (wpAny_call (run_fnG (us := []) F hr hx I .nil h))
theorem pe_fn (h : Fn gd X.prog X.w X.K X.mg X.base CX0 k x sp) (hr : RoomG gd k X.A) (hg : Gl X x) (ha : PA X (e :: es) t) (hdb : (x == ("__debug__" : Str)) = false := by decide) (he : starEach (e :: es) X.env = (false, eval e X.env) :: starEach es X.env := by rfl)
    (hpl : (backTo pos (starEach es X.env)).any (·.1) = false := by rfl) : PE X (.Call (.Name x p) (e :: es) [] pos) (tFn sp E0 t) := pe_fnX h hr hg pass0 ha hdb he hpl
theorem pe_fn0 (h : Fn gd X.prog X.w X.K X.mg X.base CX0 k x sp) (hr : RoomG gd k X.A) (hg : Gl X x) (hdb : (x == ("__debug__" : Str)) = false := by decide) : PE X (.Call (.Name x p) [] [] pos) (tFn sp E0 tNil) := pe_fnX0 h hr hg pass0 hdb
theorem rd_fn {σ : L2.St} {H : Hp} {Q : VK} (q : t σ H fun vs H1 => sp vs H1 Q E) : tFn sp E t σ H Q := q
end
/-! ### heaps -/
theorem same_new {H : Hp} {p : Addr} {o : HO} (h : H p = none) : Same H (upd H p o) := fun b u e => by
  rw [upd_ne (ne_of_none e h)]
  exact e
/-- a new object, told by what it is -/
theorem new_of {H : Hp} {o : HO} {Q : V → Hp → Prop} (h : ∀ p H', H p = none → Same H H' → H' p = some o → Q (.ref p) H') : ∀ p, H p = none → Q (.ref p) (upd H p o) := fun p hp => h p _ hp (same_new hp) upd_same
theorem rd_new {n : Nat} {H : Hp} {o : HO} {Q : V → Hp → Prop} (hn : n ≤ sizeLine) (h : ∀ p H', H p = none → Same H H' → H' p = some o → Q (.ref p) H') : n ≤ sizeLine ∧ ∀ p, H p = none → Q (.ref p) (upd H p o) := ⟨hn, new_of h⟩
theorem Same.at {H H' : Hp} (e : Same H H') {b : Addr} {o : HO} (h : H b = some o) : H' b = some o := e b o h
theorem Same.sqT {K : PySem.W.Frag} {H H' : Hp} {a : Addr} {xs : List V} (e : Same H H') (h : SqT K H a xs) : SqT K H' a xs := by
  rcases h with (h | ⟨o, h⟩) | h
  · exact .inl (.inl (e _ _ h))
  · exact .inl (.inr ⟨o, e _ _ h⟩)
  · exact .inr h
/-- a list that is not at p stays -/
theorem sq_upd {K : PySem.W.Frag} {H : Hp} {a p : Addr} {xs : List V} {o : HO} (hne : a ≠ p) (h : SqL K H a xs) : SqL K (upd H p o) a xs := by
  rcases h with (h | ⟨o', h⟩) | h
  · exact .inl (.inl (by rw [upd_ne hne]; exact h))
  · exact .inl (.inr ⟨o', by rw [upd_ne hne]; exact h⟩)
  · exact .inr h
theorem small64 {n : Nat} (h : n ≤ 100000) : n ≤ sizeLine := Nat.le_trans h (by decide)
/-! ### displays: a new tuple, a new list -/
def rMkTup : List V → Hp → VK → Prop := fun xs H Q => xs.length ≤ sizeLine ∧ ∀ p, H p = none → Q (.ref p) (upd H p (.tup xs))
def rMkLst : List V → Hp → VK → Prop := fun xs H Q => xs.length ≤ sizeLine ∧ ∀ p, H p = none → Q (.ref p) (upd H p (.lst xs))
section
variable {X : Cx} {es : List Expr} {t : TA} {k : Nat} {pos : Pos} {H : Hp} {Q : VK} {xs : List V}
theorem pe_tup (h : PA X es t) : PE X (.Tuple es k pos) (tCB rMkTup t) := L2.pe_tup h
theorem pe_lst (h : PA X es t) : PE X (.List es pos) (tCB rMkLst t) := L2.pe_lst h
theorem rd_mkTup (hn : xs.length ≤ sizeLine) (q : ∀ p H', H p = none → Same H H' → H' p = some (.tup xs) → Q (.ref p) H') : rMkTup xs H Q := ⟨hn, fun p hp => q p _ hp (same_new hp) upd_same⟩
theorem rd_mkLst (hn : xs.length ≤ sizeLine) (q : ∀ p H', H p = none → Same H H' → H' p = some (.lst xs) → Q (.ref p) H') : rMkLst xs H Q := ⟨hn, fun p hp => q p _ hp (same_new hp) upd_same⟩
end
/-! ### isinstance -/
/-- isinstance(v, n) for a built-in class n -/
def Isi (K : PySem.W.Frag) (H : Hp) (v : V) (n : String) (b : Bool) : Prop := ∃ t, TyX K H v t ∧ PySem.W.kitOne K t (.type n) = some b
section
variable {K : PySem.W.Frag} {H : Hp} {Q : VK} {v : V} {n : String} {b : Bool} {a : Addr} {xs : List V}
theorem rd_isi (h : Isi K H v n b) (q : Q (.bl b) H) : rIsi K [v, .ty n] H Q := by
  obtain ⟨t, h1, h2⟩ := h
  exact ⟨v, .ty n, t, .type n, b, rfl, .ty n, h1, h2, q⟩
theorem ty_tup (h : SqT K H a xs) : TyX K H (.ref a) (.type "tuple") := by
  rcases h with (h | ⟨o, h⟩) | ⟨o, its, n, h1, h2, _⟩
  · exact .base (.tup h)
  · exact .fTuple h
  · exact .kTuple h1 h2
theorem ty_lst (h : SqL K H a xs) : TyX K H (.ref a) (.type "list") := by
  rcases h with (h | ⟨o, h⟩) | ⟨o, its, n, h1, h2, _⟩
  · exact .base (.lst h)
  · exact .base (.frz h)
  · exact .kList h1 h2
theorem isi_of {t : String} (h : TyX K H v (.type t)) (hk : kitB t n = some b) : Isi K H v n b := ⟨_, h, kit_ty hk⟩
theorem isi_int {i : Int} (hk : kitB "int" n = some b) : Isi K H (.int i) n b := isi_of (.base (.int i)) hk
theorem isi_bl {i : Bool} (hk : kitB "bool" n = some b) : Isi K H (.bl i) n b := isi_of (.base (.bl i)) hk
theorem isi_str {x : Str} (hk : kitB "str" n = some b) : Isi K H (.str x) n b := isi_of (.base (.str x)) hk
theorem isi_non (hk : kitB "NoneType" n = some b) : Isi K H .non n b := isi_of (.base .non) hk
theorem isi_tup (h : SqT K H a xs) (hk : kitB "tuple" n = some b) : Isi K H (.ref a) n b := isi_of (ty_tup h) hk
theorem isi_lst (h : SqL K H a xs) (hk : kitB "list" n = some b) : Isi K H (.ref a) n b := isi_of (ty_lst h) hk
theorem isi_dK {kvs : List (Key × V)} (h : H a = some (.dK kvs)) (hk : kitB "dict" n = some b) : Isi K H (.ref a) n b := isi_of (.base (.dK h)) hk
theorem kk_int_int : kitB "int" "int" = some true := by decide +kernel
theorem kk_int_bool : kitB "int" "bool" = some false := by decide +kernel
theorem kk_bool_int : kitB "bool" "int" = some true := by decide +kernel
theorem kk_bool_bool : kitB "bool" "bool" = some true := by decide +kernel
theorem kk_str_int : kitB "str" "int" = some false := by decide +kernel
theorem kk_none_int : kitB "NoneType" "int" = some false := by decide +kernel
theorem kk_tup_int : kitB "tuple" "int" = some false := by decide +kernel
theorem kk_lst_int : kitB "list" "int" = some false := by decide +kernel
theorem kk_dict_int : kitB "dict" "int" = some false := by decide +kernel
theorem kk_tup_tup : kitB "tuple" "tuple" = some true := by decide +kernel
theorem c_isi {X : Cx} : CallR X (.builtin "isinstance") (rIsi X.K) := call_isi
theorem c_all {X : Cx} (hc : X.calm = true) : CallR X (.builtin "all") (rAll X.K) := cr_all hc
theorem rd_all {bs : List Bool} (h : SqL K H a (bs.map V.bl)) (q : Q (.bl (bs.all id)) H) : rAll K [.ref a] H Q := ⟨a, bs, rfl, h, q⟩
end
/-! ### loops and comprehensions over what stays -/
section
variable {K : PySem.W.Frag} {σ : L2.St} {H : Hp} {Q : VK} {g : TG} {te tl : TE} {tt : TT} {ta : TA} {vs : List Nat} {a : Addr} {xs : List V} {D : Ends} {tb : TS} {wi : TI}
/-- what is walked: value by value -/
def rIT (K : PySem.W.Frag) (x : V) (H : Hp) (R : It → Hp → Prop) : Prop := ∃ a, x = .ref a ∧ (∃ xs, SqT K H a xs) ∧ R (Itt K a) H
def rIL (K : PySem.W.Frag) (x : V) (H : Hp) (R : It → Hp → Prop) : Prop := ∃ a, x = .ref a ∧ (∃ xs, SqL K H a xs) ∧ R (Itl K a) H
def rIR1 (vs : List V) (H : Hp) (R : It → Hp → Prop) : Prop := ∃ j : Int, vs = [.int j] ∧ -(2 ^ 62) ≤ j ∧ j < 2 ^ 62 ∧ R (Itr 0 j.toNat) H
def rIR2 (vs : List V) (H : Hp) (R : It → Hp → Prop) : Prop := ∃ i j : Int, vs = [.int i, .int j] ∧ (-(2 ^ 62) ≤ i ∧ i < 2 ^ 62 ∧ -(2 ^ 62) ≤ j ∧ j < 2 ^ 62) ∧ R (Itr i (j - i).toNat) H
theorem rd_iTup {R : It → Hp → Prop} (q : tl σ H fun x H1 => rIT K x H1 R) : iTup K tl σ H R := q
theorem rd_iList {R : It → Hp → Prop} (q : tl σ H fun x H1 => rIL K x H1 R) : iList K tl σ H R := q
theorem rd_iRng1 {R : It → Hp → Prop} (q : ta σ H fun vs H1 => rIR1 vs H1 R) : iRng1 ta σ H R := q
theorem rd_iRng2 {R : It → Hp → Prop} (q : ta σ H fun vs H1 => rIR2 vs H1 R) : iRng2 ta σ H R := q
theorem rd_IT {R : It → Hp → Prop} (h : SqT K H a xs) (q : R (Itt K a) H) : rIT K (.ref a) H R := ⟨a, rfl, ⟨xs, h⟩, q⟩
theorem rd_IL {R : It → Hp → Prop} (h : SqL K H a xs) (q : R (Itl K a) H) : rIL K (.ref a) H R := ⟨a, rfl, ⟨xs, h⟩, q⟩
theorem rd_IR1 {R : It → Hp → Prop} {j : Int} (h0 : -(2 ^ 62) ≤ j) (h1 : j < 2 ^ 62) (q : R (Itr 0 j.toNat) H) : rIR1 [.int j] H R := ⟨j, rfl, h0, h1, q⟩
theorem rd_IR2 {R : It → Hp → Prop} {i j : Int} (h : -(2 ^ 62) ≤ i ∧ i < 2 ^ 62 ∧ -(2 ^ 62) ≤ j ∧ j < 2 ^ 62) (q : R (Itr i (j - i).toNat) H) : rIR2 [.int i, .int j] H R := ⟨i, j, rfl, h, q⟩
/-- a comprehension's, a loop's turns over J -/
def rLc (g : TG) (tt : TT) (te : TE) (vs : List Nat) (σ : L2.St) (Q : VK) (J : It) (H : Hp) : Prop := ∀ D, H D = none → ∃ W : Nat → Nat → Hp → Prop, (∃ m, W 0 m (upd H D (.lst []))) ∧ ∀ i m H, W i m H →
  (J.stop i H ∧ Q (.ref D) H) ∨ (J.go i H ∧ ∃ Nx : Hp → Prop, (∀ H', Nx H' → ∃ m', m' < m ∧ W (i + 1) m' H') ∧ ∀ x H', J.yld i H x H' → g x (wipe σ vs) H' fun σ2 H2 => wipe σ2 vs = wipe σ vs ∧ tt σ2 H2 fun b H3 =>
    if b = true then te σ2 H3 fun y H4 => ∃ acc, H4 D = some (.lst acc) ∧ acc.length < sizeLine ∧ Nx (upd H4 D (.lst (acc ++ [y]))) else Nx H3)
def rFor (g : TG) (tb : TS) (D : Ends) (σ : L2.St) (J : It) (H : Hp) : Prop := ∃ W : Nat → Nat → L2.St → Hp → Prop, (∃ m, W 0 m σ H) ∧ ∀ i m σ H, W i m σ H →
  (J.stop i H ∧ D.nx σ H) ∨ (J.go i H ∧ ∃ N : L2.St → Hp → Prop, (∀ σ' H', N σ' H' → ∃ m', m' < m ∧ W (i + 1) m' σ' H') ∧ ∀ x H', J.yld i H x H' → g x σ H' fun σ2 H2 => tb { D with nx := N, ct := N, bk := D.nx } σ2 H2)
theorem rd_lc (q : wi σ H fun J H1 => rLc g tt te vs σ Q J H1) : tLc wi g tt te vs σ H Q := q
theorem rd_for (q : wi σ H fun J H1 => rFor g tb D σ J H1) : tFor wi g tb D σ H := q
theorem for_tup (Pv : Nat → L2.St → Hp → Prop) (h0 : Pv 0 σ H) (hl : ∀ i σ H, i ≤ xs.length → Pv i σ H → SqT K H a xs)
    (hs : ∀ i x σ H, xs[i]? = some x → Pv i σ H → g x σ H fun σ2 H2 => tb { nx := Pv (i + 1), rt := D.rt, ct := Pv (i + 1), bk := D.nx } σ2 H2) (hd : ∀ σ H, Pv xs.length σ H → D.nx σ H) : rFor g tb D σ (Itt K a) H := L2.for_tup Pv h0 hl hs hd
theorem for_list (Pv : Nat → L2.St → Hp → Prop) (h0 : Pv 0 σ H) (hl : ∀ i σ H, i ≤ xs.length → Pv i σ H → SqL K H a xs)
    (hs : ∀ i x σ H, xs[i]? = some x → Pv i σ H → g x σ H fun σ2 H2 => tb { nx := Pv (i + 1), rt := D.rt, ct := Pv (i + 1), bk := D.nx } σ2 H2) (hd : ∀ σ H, Pv xs.length σ H → D.nx σ H) : rFor g tb D σ (Itl K a) H := L2.for_list Pv h0 hl hs hd
theorem for_range {lo : Int} {n : Nat} (Pv : Nat → L2.St → Hp → Prop) (h0 : Pv 0 σ H)
    (hs : ∀ i σ H, i < n → Pv i σ H → g (.int (lo + i)) σ H fun σ2 H2 => tb { nx := Pv (i + 1), rt := D.rt, ct := Pv (i + 1), bk := D.nx } σ2 H2) (hd : ∀ σ H, Pv n σ H → D.nx σ H) : rFor g tb D σ (Itr lo n) H := L2.for_range Pv h0 hs hd
/-- what a comprehension makes, item by item, of things that stay: f of each item -/
theorem lc_pure {J : It} (f : V → V) (hz : xs.length ≤ 100000)
    (go : ∀ i H1, i < xs.length → Same H H1 → J.go i H1) (stop : ∀ H1, Same H H1 → J.stop xs.length H1) (yld : ∀ i H1 x H2, i < xs.length → Same H H1 → J.yld i H1 x H2 → H2 = H1 ∧ xs[i]? = some x)
    (step : ∀ x H1 (N : V → Hp → Prop), x ∈ xs → Same H H1 → (∀ H2, Same H1 H2 → N (f x) H2) → g x (wipe σ vs) H1 fun σ2 H2 => wipe σ2 vs = wipe σ vs ∧ te σ2 H2 N)
    (done : ∀ D H', H D = none → Same H H' → H' D = some (.lst (xs.map f)) → Q (.ref D) H') : rLc g tYes te vs σ Q J H := by
  intro D hD
  let Pv : Nat → Hp → Prop := fun i H1 => Same H H1 ∧ H1 D = some (.lst ((xs.take i).map f))
  refine ⟨fun i m H1 => m = xs.length - i ∧ i ≤ xs.length ∧ Pv i H1, ⟨xs.length, by simp, Nat.zero_le _, same_new hD, by rw [upd_same]; rfl⟩, ?_⟩
  rintro i m H1 ⟨rfl, hi, s1, hd1⟩
  by_cases hlt : i < xs.length
  · refine .inr ⟨go i H1 hlt s1, Pv (i + 1), fun H' p' => ⟨xs.length - (i + 1), by omega, rfl, hlt, p'⟩, fun x H' y => ?_⟩
    obtain ⟨rfl, ex⟩ := yld i H1 x H' hlt s1 y
    refine step x H' _ (List.mem_of_getElem? ex) s1 fun H2 s2 => ?_
    have hz2 : ((xs.take i).map f).length < sizeLine := by
      rw [List.length_map, List.length_take]
      exact Nat.lt_of_le_of_lt (Nat.le_trans (Nat.min_le_right _ _) hz) (by decide)
    refine ⟨_, s2 _ _ hd1, hz2, ?_⟩
    refine ⟨fun b o e => ?_, ?_⟩
    · rw [upd_ne (ne_of_none e hD)]
      exact s2 _ _ (s1 _ _ e)
    · rw [upd_same, List.take_add_one, ex, List.map_append]
      rfl
  · have e : i = xs.length := by omega
    subst e
    refine .inl ⟨stop H1 s1, done D H1 hD s1 ?_⟩
    rw [hd1, List.take_length]
/-- .. over a tuple, a list -/
theorem lc_tup (f : V → V) (hz : xs.length ≤ 100000) (hS : SqT K H a xs)
    (step : ∀ x H1 (N : V → Hp → Prop), x ∈ xs → Same H H1 → (∀ H2, Same H1 H2 → N (f x) H2) → g x (wipe σ vs) H1 fun σ2 H2 => wipe σ2 vs = wipe σ vs ∧ te σ2 H2 N)
    (done : ∀ D H', H D = none → Same H H' → H' D = some (.lst (xs.map f)) → Q (.ref D) H') : rLc g tYes te vs σ Q (Itt K a) H := by
  refine lc_pure (xs := xs) f hz (fun i H1 hi s1 => ?_) (fun H1 s1 => ?_) (fun i H1 x H2 hi s1 y => ?_) step done
  · exact ⟨xs, xs[i], Same.sqT s1 hS, by simp [hi]⟩
  · exact ⟨xs, Same.sqT s1 hS, Nat.le_refl _⟩
  · obtain ⟨e, y⟩ := y
    exact ⟨e, y xs (Same.sqT s1 hS)⟩
theorem lc_lst (f : V → V) (hz : xs.length ≤ 100000) (hS : SqL K H a xs)
    (step : ∀ x H1 (N : V → Hp → Prop), x ∈ xs → Same H H1 → (∀ H2, Same H1 H2 → N (f x) H2) → g x (wipe σ vs) H1 fun σ2 H2 => wipe σ2 vs = wipe σ vs ∧ te σ2 H2 N)
    (done : ∀ D H', H D = none → Same H H' → H' D = some (.lst (xs.map f)) → Q (.ref D) H') : rLc g tYes te vs σ Q (Itl K a) H := by
  refine lc_pure (xs := xs) f hz (fun i H1 hi s1 => ?_) (fun H1 s1 => ?_) (fun i H1 x H2 hi s1 y => ?_) step done
  · exact ⟨xs, xs[i], L2.Same.seq s1 hS, by simp [hi]⟩
  · exact ⟨xs, L2.Same.seq s1 hS, Nat.le_refl _⟩
  · obtain ⟨e, y⟩ := y
    exact ⟨e, y xs (L2.Same.seq s1 hS)⟩
end
section
variable {σ : L2.St} {H : Hp} {c : TT} {tb : TS} {D : Ends}
/-- while: W with its measure -/
theorem rd_while (W : Nat → L2.St → Hp → Prop) (m : Nat) (w0 : W m σ H)
    (step : ∀ m σ H, W m σ H → c σ H fun b H1 => if b = true then ∃ N : L2.St → Hp → Prop, (∀ σ' H', N σ' H' → ∃ m', m' < m ∧ W m' σ' H') ∧ tb { nx := N, rt := D.rt, bk := D.nx, ct := N } σ H1 else D.nx σ H1) : tWhile c tb D σ H :=
  ⟨W, ⟨m, w0⟩, step⟩
theorem rd_turn {W : Nat → L2.St → Hp → Prop} {m : Nat} {rt : VK} {bk : L2.St → Hp → Prop} (q : tb { nx := fun σ' H' => ∃ m', m' < m ∧ W m' σ' H', rt := rt, bk := bk, ct := fun σ' H' => ∃ m', m' < m ∧ W m' σ' H' } σ H) :
    ∃ N : L2.St → Hp → Prop, (∀ σ' H', N σ' H' → ∃ m', m' < m ∧ W m' σ' H') ∧ tb { nx := N, rt := rt, bk := bk, ct := N } σ H := ⟨_, fun _ _ h => h, q⟩
theorem rd_aug {i : Nat} {x : V} {te : TE} {ti : TIp} (h : σ[i]? = some (some x)) (q : te σ H fun y H1 => ti x y H1 fun z H2 => D.nx (σ.set i (some z)) H2) : tAug i te ti D σ H := ⟨x, h, q⟩
theorem rd_ipI {f : Int → Int → Int} {Q : VK} {a b : Int} (q : Q (.int (f a b)) H) : ipI f (.int a) (.int b) H Q := ⟨a, b, rfl, rfl, q⟩
theorem rd_slice {X : V → Option Int → Option Int → Hp → VK → Prop} {Q : VK} {x : V} {lo hi : Option Int} (q : X x lo hi H Q) : X x lo hi H Q := q
theorem rd_slA {K : PySem.W.Frag} {a : Addr} {xs : List V} {lo hi : Option Int} {Q : VK} (h : SqT K H a xs) (q1 : HT.sIx xs.length 0 lo = 0 ∧ HT.sIx xs.length xs.length hi = xs.length → Q (.ref a) H)
    (q2 : ¬ (HT.sIx xs.length 0 lo = 0 ∧ HT.sIx xs.length xs.length hi = xs.length) → ∀ p, H p = none → Q (.ref p) (upd H p (.tup (cutV xs lo hi)))) : rSlA K (.ref a) lo hi H Q := ⟨a, xs, rfl, h, q1, q2⟩
/-- a slice, told by what it is -/
theorem rd_cut {K : PySem.W.Frag} {a : Addr} {xs : List V} {lo hi : Option Int} {Q : VK} (h : SqT K H a xs) (q : ∀ p H', Same H H' → SqT K H' p (cutV xs lo hi) → Q (.ref p) H') : rSlA K (.ref a) lo hi H Q := by
  refine rd_slA h (fun e => q a H (Same.refl H) ?_) fun _ p hp => q p _ (same_new hp) (SqT.of upd_same)
  unfold cutV
  rw [e.1, e.2, List.drop_zero, Nat.sub_zero, List.take_length]
  exact h
theorem cut_to (xs : List V) (n : Nat) (h : n ≤ xs.length) : cutV xs none (some (n : Int)) = xs.take n := by
  unfold cutV HT.sIx
  dsimp only
  rw [if_neg (by omega), List.drop_zero]
  congr 1
  omega
theorem rd_nx {n : L2.St → Hp → Prop} {r : VK} {b c : L2.St → Hp → Prop} (q : n σ H) : (Ends.mk n r b c).nx σ H := q
theorem rd_bk {n : L2.St → Hp → Prop} {r : VK} {b c : L2.St → Hp → Prop} (q : b σ H) : (Ends.mk n r b c).bk σ H := q
theorem rd_ct {n : L2.St → Hp → Prop} {r : VK} {b c : L2.St → Hp → Prop} (q : c σ H) : (Ends.mk n r b c).ct σ H := q
theorem rd_rt {n : L2.St → Hp → Prop} {r : VK} {b c : L2.St → Hp → Prop} {v : V} (q : r v H) : (Ends.mk n r b c).rt v H := q
theorem rd_sl {r : V → Option Int → Option Int → Hp → VK → Prop} {ta : TE} {tl th : TO} {Q : VK} (q : ta σ H fun x H1 => tl σ H1 fun lo H2 => th σ H2 fun hi H3 => r x lo hi H3 Q) : tSl r ta tl th σ H Q := q
theorem rd_noPart {Q : Option Int → Hp → Prop} (q : Q none H) : tNoPart σ H Q := q
theorem rd_part {t : TE} {Q : Option Int → Hp → Prop} (q : t σ H fun x H1 => ∃ i, x = .int i ∧ Q (some i) H1) : tPart t σ H Q := q
theorem rd_intV {a : Int} {P : Int → Prop} (q : P a) : ∃ k, V.int a = .int k ∧ P k := ⟨a, rfl, q⟩
end
end Rd
set_option Elab.async false
set_option linter.all false
set_option maxRecDepth 100000
set_option maxHeartbeats 4000000
/-! Rg: the end of a walk whose promises know that no repr is under way. -/
namespace Rd
open PySem PySem.Spec PyProof.Rows L2
theorem roomG_caller {k : Nat} (h : Room k callerA) : RoomG true k callerA := ⟨h, fun _ => rfl⟩
section
variable {P : Program} {w : World} {K : PySem.W.Frag} {mg mb : Str → Option Value} {CX : CXT} {k : Nat} {fa a : Addr} {sp : Sp} {s₁ : Shared} {vs : List Value} {ns : List Int}
/-- the law is called, its script at a being the one thing that is tracked -/
theorem law_at (H : Hp) (KX : K.In s₁.heap) (hns : s₁.heap.Ns mainGlobals mg) (hb : s₁.heap.Ns builtinsNs mb) (hbb : ∀ x : Str, x ≠ "__name__" → mb x = bootBuiltins x) (hlim : s₁.heap.NoLimit) (hg : s₁.gens = #[])
    (ha : s₁.heap.get? a = some { cls := .type "list", data := .seq vs.toArray }) (hr : RoomG true k callerA) (F : ∀ base : Heap, FnG true P w K mg base CX k fa sp) (hok : HOk P w H s₁.heap)
    (only : ∀ b, H b ≠ none → b = a ∧ K.lookup a = none ∧ ∃ o xs, H b = some (.frz o (.lst xs))) (hsp : sp [.ref a] H (fun v _ => v = .bl true) fun _ _ _ => False) (hCX : ∀ e s', ¬ CX [] H s₁ (fun _ _ _ => False) e s') :
    codeAny (model P w) callerA (.call (.ref fa) ⟨[.ref a], []⟩) (fun r s' => r = .ok (.ret (.bool true)) ∧ OldK s₁.heap s'.heap ∧ s'.os = s₁.os ∧ AllBare s'.gens) s₁ := by
  -- what is no list is not tracked
  have free : ∀ {b o es ep}, s₁.heap.get? b = some o → o.data = .dict es ep → H b = none := by
    intro b o es ep e d
    refine Classical.byContradiction fun n => ?_
    rw [(only b n).1, ha] at e
    injection e with e
    rw [← e] at d
    exact nomatch (show Data.seq vs.toArray _ = Data.dict es ep from d)
  have names : ∀ {b m}, s₁.heap.Ns b m → (hidT s₁.heap H).Ns b m := by
    rintro b m ⟨o, es, ep, e, d, r⟩
    exact ⟨o, es, ep, hidT_get e (free e d), d, r⟩
  have kin : K.In (hidT s₁.heap H) := by
    intro b o e
    refine hidT_get (KX b o e) (Classical.byContradiction fun n => ?_)
    obtain ⟨rfl, hk, _⟩ := only b n
    exact nomatch hk.symm.trans e
  obtain ⟨mc, lim1, lim2⟩ := hlim
  have md : Mod K mg (hidT s₁.heap H) := ⟨kin, names hns, ⟨mb, names hb, hbb⟩, mc, names lim1, lim2⟩
  have env : Env0 P w K mg (hidT s₁.heap H) callerA [] s₁ H :=
    { frames := rfl, mod := md, bs := fun b o e => of_hidT e, bsz := Nat.le_of_eq (hidT_size _ _), funs := trivial, frf := fun b hb => absurd (show b ∈ ([] : List Addr) from hb) (by simp), hok := hok, bare := .of_eq hg }
  refine codeAny_mono (F _ callerA [] s₁ H [.ref a] [.ref a] _ _ hr env (.cons rfl .nil) hsp) fun r s' h => ?_
  match r, h with
  | .error e, h => exact (hCX e s' h).elim
  | .ok .next, h => exact False.elim h
  | .ok .brk, h => exact False.elim h
  | .ok .cont, h => exact False.elim h
  | .ok (.ret u), h =>
    obtain ⟨v, H', os, bare, un, hok', rv, q⟩ := h
    have qv : v = .bl true := q
    rw [qv] at rv
    obtain rfl : u = Value.bool true := rv
    refine ⟨rfl, OldK.of_keep fun b o e => ?_, os, bare⟩
    by_cases n : H b = none
    · exact un.keep b o e n (fun z => absurd (show b ∈ ([] : List Addr) from z) (by simp)) (by simp)
    · obtain ⟨_, _, ob, xs, z⟩ := only b n
      obtain ⟨e1, _⟩ := hok b _ z
      obtain ⟨e2, _⟩ := hok' b _ (un.frzs b ob _ z)
      rw [e] at e1
      injection e1 with e1
      rw [e1]
      exact e2
end
theorem walk_ofG {l : PySem.W.OpenLaw} {n k : Nat} {q : Program} {loose : List Str} {XP : (Str → Option Value) → Heap → Prop} {YP : World → Heap → Prop} {d : DefRec} (hn : l.most = some n) (hn2 : n ≤ sizeLine) (hdf : d.params.defaults = []) (hr : RoomG true k callerA)
    (F : ∀ (w : World) (mg : Str → Option Value) (fa : Addr) (h : Heap), YP w h → h.Ns mainGlobals mg → mg d.name = some (.ref fa) → ∃ (K : PySem.W.Frag) (sp : Sp), K.In h ∧
      (∀ (H : Hp) (a : Addr) (ns : List Int), ns.length ≤ n → SqL K H a (ns.map V.int) → sp [.ref a] H (fun v _ => v = .bl true) fun _ _ _ => False) ∧ ∀ base : Heap, FnG true l.prog w K mg base CX0 k fa sp) :
    PySem.W.WalkO q loose XP YP l.row.toRowW d [] (fun f vs => PySem.call f vs) := by
  refine Att.attach_call hn hdf fun w s₀ s₁ mg mb fa o pm cd doc a vs ns G Y ho hd hcd hmg hobj hints hlen hg => ?_
  obtain ⟨K, sp, KX, hsp, hF⟩ := F w mg fa _ Y G.T.g hmg
  have rv := vals_ints hints
  have hl : (ns.map V.int).length ≤ sizeLine := by rw [List.length_map]; exact Nat.le_trans hlen hn2
  cases hk : K.lookup a with
  | some o =>
    have e := (KX a o hk).symm.trans hobj
    injection e with e
    subst e
    exact law_at (fun _ => none) KX G.T.g G.T.b G.T.builtins G.T.nolimit hg hobj hr hF (fun b u z => nomatch (show (none : Option HO) = some u from z)) (fun b z => absurd rfl z)
      (hsp _ a ns hlen (.inr ⟨_, vs.toArray, _, hk, rfl, rfl, rfl, by rw [List.size_toArray, hints.length]; exact Nat.le_trans hlen hn2, by simpa using rv⟩)) fun e s' z => z
  | none =>
    let H : Hp := fun b => if b = a then some (.frz { cls := .type "list", data := .seq vs.toArray } (.lst (ns.map V.int))) else none
    have hA : H a = some (.frz { cls := .type "list", data := .seq vs.toArray } (.lst (ns.map V.int))) := if_pos rfl
    have hN : ∀ {b}, b ≠ a → H b = none := fun h => if_neg h
    refine law_at H KX G.T.g G.T.b G.T.builtins G.T.nolimit hg hobj hr hF (fun b u z => ?_) (fun b z => ?_) (hsp H a ns hlen (.inl (.inr ⟨_, hA⟩))) fun e s' z => z
    · by_cases hb : b = a
      · subst hb
        obtain rfl := Option.some.inj (hA.symm.trans z)
        exact ⟨hobj, hl, vs, _, rv, hobj⟩
      · exact nomatch (hN hb).symm.trans z
    · by_cases hb : b = a
      · subst hb
        exact ⟨rfl, hk, _, _, hA⟩
      · exact absurd (hN hb) z
end Rd
set_option Elab.async false
set_option linter.all false
set_option maxRecDepth 100000
set_option maxHeartbeats 4000000
/-! Rl: lists: made of others, appended to, popped, compared, filtered. -/
namespace Rd
open PySem PySem.Spec PyProof.Rows L2
/-- a module's class or def as a value -/
theorem pe_glr {X : Cx} {x : Str} {a : Addr} {pos : Pos} (hg : Gl X x) (hm : X.mg x = some (.ref a)) (hd : (x == ("__debug__" : Str)) = false := by decide) : PE X (.Name x pos) (tC (.ref a)) := pe_glob (v := .ref a) hg hm rfl hd
/-- a module's number -/
theorem pe_gli {X : Cx} {x : Str} {i : Int} {pos : Pos} (hg : Gl X x) (hm : ∃ t, X.mg x = some (.int i t)) (hd : (x == ("__debug__" : Str)) = false := by decide) : PE X (.Name x pos) (tC (.int i)) := by
  obtain ⟨t, hm⟩ := hm
  exact pe_glob (v := .int i) hg hm ⟨t, rfl⟩ hd
theorem pe_gls {X : Cx} {x z : Str} {pos : Pos} (hg : Gl X x) (hm : ∃ t, X.mg x = some (.str z t)) (hd : (x == ("__debug__" : Str)) = false := by decide) : PE X (.Name x pos) (tC (.str z)) := by
  obtain ⟨t, hm⟩ := hm
  exact pe_glob (v := .str z) hg hm ⟨t, rfl⟩ hd
def rListOf (K : PySem.W.Frag) : List V → Hp → VK → Prop := fun xs H Q => ∃ p ys, xs = [.ref p] ∧ (SqL K H p ys ∨ SqT K H p ys) ∧ ∀ l, H l = none → Q (.ref l) (upd H l (.lst ys))
def rTupleOf (K : PySem.W.Frag) : List V → Hp → VK → Prop := fun xs H Q => ∃ p ys, xs = [.ref p] ∧ ((SqL K H p ys ∧ ∀ l, H l = none → Q (.ref l) (upd H l (.tup ys))) ∨ (SqT K H p ys ∧ Q (.ref p) H))
def rRepI : List V → Hp → VK → Prop := fun xs H Q => ∃ i, xs = [.int i] ∧ i.natAbs.log2 < 1920 ∧ Q (.str (toString i)) H
section
variable {X : Cx} {K : PySem.W.Frag} {H : Hp} {Q : VK} {a : Addr} {xs : List V} {v : V} {σ : L2.St}
theorem c_list : CallR X (.type "list") (rListOf X.K) := call_list_of
theorem c_tuple : CallR X (.type "tuple") (rTupleOf X.K) := call_tuple_of
theorem c_reprI : CallR X (.builtin "repr") rRepI := SkE.call_repr_int
theorem rd_listL (h : SqL K H a xs) (q : ∀ l H', H l = none → Same H H' → H' l = some (.lst xs) → Q (.ref l) H') : rListOf K [.ref a] H Q := ⟨a, xs, rfl, .inl h, fun l hl => q l _ hl (same_new hl) upd_same⟩
theorem rd_listT (h : SqT K H a xs) (q : ∀ l H', H l = none → Same H H' → H' l = some (.lst xs) → Q (.ref l) H') : rListOf K [.ref a] H Q := ⟨a, xs, rfl, .inr h, fun l hl => q l _ hl (same_new hl) upd_same⟩
theorem rd_tupleL (h : SqL K H a xs) (q : ∀ l H', H l = none → Same H H' → H' l = some (.tup xs) → Q (.ref l) H') : rTupleOf K [.ref a] H Q := ⟨a, xs, rfl, .inl ⟨h, fun l hl => q l _ hl (same_new hl) upd_same⟩⟩
theorem rd_tupleT (h : SqT K H a xs) (q : Q (.ref a) H) : rTupleOf K [.ref a] H Q := ⟨a, xs, rfl, .inr ⟨h, q⟩⟩
theorem rd_reprI {i : Int} (h : i.natAbs.log2 < 1920) (q : Q (.str (toString i)) H) : rRepI [.int i] H Q := ⟨i, rfl, h, q⟩
/-! methods of lists -/
theorem rd_bm {T : String} {r : V → List V → Hp → VK → Prop} {to : TE} {t : TA} (q : to σ H fun x H1 => tyV K T x H1 ∧ t σ H1 fun xs H2 => r x xs H2 Q) : tBM K T r to t σ H Q := q
theorem rd_bm0 {T : String} {r : V → List V → Hp → VK → Prop} {to : TE} (q : to σ H fun x H1 => tyV K T x H1 ∧ r x [] H1 Q) : tBM0 K T r to σ H Q := q
theorem tyL (h : SqL K H a xs) : tyV K "list" (.ref a) H := .inl ⟨rfl, _, h⟩
theorem rd_append {y : V} (h : H a = some (.lst xs)) (hz : xs.length < sizeLine) (q : Q .non (upd H a (.lst (xs ++ [y])))) : rAppend (.ref a) [y] H Q := ⟨a, xs, y, rfl, rfl, h, hz, q⟩
theorem rd_pop {y : V} (h : H a = some (.lst xs)) (hy : xs[xs.length - 1]? = some y) (q : Q y (upd H a (.lst xs.dropLast))) : rPop (.ref a) [] H Q := ⟨a, xs, y, rfl, rfl, h, hy, q⟩
theorem rd_cat {b : Addr} {ys : List V} (h1 : H a = some (.lst xs)) (h2 : H b = some (.lst ys)) (hz : xs.length + ys.length ≤ sizeLine) (q : ∀ p H', H p = none → Same H H' → H' p = some (.lst (xs ++ ys)) → Q (.ref p) H') : rCat (.ref a) (.ref b) H Q :=
  ⟨a, b, xs, ys, rfl, rfl, h1, h2, hz, fun p hp => q p _ hp (same_new hp) upd_same⟩
/-! deep data -/
theorem dpI (ns : List Int) : DpAll K H (ns.map V.int) (ns.map PyData.int) := by
  induction ns with
  | nil => exact .nil
  | cons n r ih => exact .cons (.int n) ih
theorem rd_eqD {x y : V} {d e : PyData} (h1 : Dp K H x d) (h2 : Dp K H y e) (s1 : SeqAt.shaped d = true) (s2 : SeqAt.shaped e = true) (q : Q (.bl (PyData.eqv d e)) H) : rEqD K x y H Q := ⟨d, e, h1, h2, s1, s2, q⟩
theorem rd_neD {x y : V} {d e : PyData} (h1 : Dp K H x d) (h2 : Dp K H y e) (s1 : SeqAt.shaped d = true) (s2 : SeqAt.shaped e = true) (q : Q (.bl (!PyData.eqv d e)) H) : rNeD K x y H Q := ⟨d, e, h1, h2, s1, s2, q⟩
theorem canI : ∀ ns : List Int, PyData.canLayAll0 (ns.map PyData.int) = true
  | [] => rfl
  | _ :: r => canI r
theorem depI : ∀ ns : List Int, PyData.depthAll (ns.map PyData.int) = 0
  | [] => rfl
  | _ :: r => by
    show max 0 (PyData.depthAll (r.map PyData.int)) = 0
    rw [depI r]; rfl
theorem shLI (ns : List Int) : SeqAt.shaped (.list (ns.map PyData.int)) = true := by
  unfold SeqAt.shaped
  rw [show PyData.canLay0 (.list (ns.map PyData.int)) = true from canI ns, show PyData.depth (.list (ns.map PyData.int)) = 1 by show PyData.depthAll (ns.map PyData.int) + 1 = 1; rw [depI]]
  rfl
theorem shTI (ns : List Int) : SeqAt.shaped (.tuple (ns.map PyData.int)) = true := by
  unfold SeqAt.shaped
  rw [show PyData.canLay0 (.tuple (ns.map PyData.int)) = true from canI ns, show PyData.depth (.tuple (ns.map PyData.int)) = 1 by show PyData.depthAll (ns.map PyData.int) + 1 = 1; rw [depI]]
  rfl
theorem rd_isN {x : V} (q : Q (.bl (decide (x = .non))) H) : rIsN x .non H Q := ⟨rfl, q⟩
theorem rd_notN {x : V} (q : Q (.bl (!decide (x = .non))) H) : rNotN x .non H Q := ⟨rfl, q⟩
end
/-! ### comprehensions with a test -/
section
variable {K : PySem.W.Frag} {σ : L2.St} {H : Hp} {Q : VK} {g : TG} {te : TE} {tt : TT} {vs : List Nat} {a : Addr} {xs : List V}
theorem lc_filt {J : It} (pr : V → Bool) (f : V → V) (hz : xs.length ≤ 100000)
    (go : ∀ i H1, i < xs.length → Same H H1 → J.go i H1) (stop : ∀ H1, Same H H1 → J.stop xs.length H1) (yld : ∀ i H1 x H2, i < xs.length → Same H H1 → J.yld i H1 x H2 → H2 = H1 ∧ xs[i]? = some x)
    (step : ∀ x H1 (N : Hp → Prop) (M : V → Hp → Prop), x ∈ xs → Same H H1 → (pr x = false → ∀ H2, Same H1 H2 → N H2) → (pr x = true → ∀ H2, Same H1 H2 → M (f x) H2) → g x (wipe σ vs) H1 fun σ2 H2 => wipe σ2 vs = wipe σ vs ∧ tt σ2 H2 fun b H3 => if b = true then te σ2 H3 M else N H3)
    (done : ∀ D H', H D = none → Same H H' → H' D = some (.lst ((xs.filter pr).map f)) → Q (.ref D) H') : rLc g tt te vs σ Q J H := by
  intro D hD
  let Pv : Nat → Hp → Prop := fun i H1 => Same H H1 ∧ H1 D = some (.lst (((xs.take i).filter pr).map f))
  refine ⟨fun i m H1 => m = xs.length - i ∧ i ≤ xs.length ∧ Pv i H1, ⟨xs.length, by simp, Nat.zero_le _, same_new hD, by rw [upd_same]; rfl⟩, ?_⟩
  rintro i m H1 ⟨rfl, hi, s1, hd1⟩
  by_cases hlt : i < xs.length
  · refine .inr ⟨go i H1 hlt s1, Pv (i + 1), fun H' p' => ⟨xs.length - (i + 1), by omega, rfl, hlt, p'⟩, fun x H' y => ?_⟩
    obtain ⟨rfl, ex⟩ := yld i H1 x H' hlt s1 y
    have et : ((xs.take (i + 1)).filter pr).map f = ((xs.take i).filter pr).map f ++ (if pr x = true then [f x] else []) := by
      rw [List.take_add_one, ex, List.filter_append, List.map_append]
      congr 1
      show (([x] : List V).filter pr).map f = _
      by_cases hp : pr x = true
      · rw [if_pos hp, List.filter_cons, if_pos hp]; rfl
      · rw [if_neg hp, List.filter_cons, if_neg hp]; rfl
    refine step x H' _ _ (List.mem_of_getElem? ex) s1 (fun hp H2 s2 => ?_) (fun hp H2 s2 => ?_)
    · refine ⟨s1.trans s2, ?_⟩
      rw [et, if_neg (by rw [hp]; exact Bool.false_ne_true), List.append_nil]
      exact s2 _ _ hd1
    · have hz2 : (((xs.take i).filter pr).map f).length < sizeLine := by
        rw [List.length_map]
        exact Nat.lt_of_le_of_lt (Nat.le_trans (List.length_filter_le _ _) (Nat.le_trans (by rw [List.length_take]; exact Nat.min_le_right _ _) hz)) (by decide)
      refine ⟨_, s2 _ _ hd1, hz2, fun b o e => ?_, ?_⟩
      · rw [upd_ne (ne_of_none e hD)]
        exact s2 _ _ (s1 _ _ e)
      · rw [upd_same, et, if_pos hp]
  · have e : i = xs.length := by omega
    subst e
    refine .inl ⟨stop H1 s1, done D H1 hD s1 ?_⟩
    rw [hd1, List.take_length]
theorem lc_lstP (pr : V → Bool) (f : V → V) (hz : xs.length ≤ 100000) (hS : SqL K H a xs)
    (step : ∀ x H1 (N : Hp → Prop) (M : V → Hp → Prop), x ∈ xs → Same H H1 → (pr x = false → ∀ H2, Same H1 H2 → N H2) → (pr x = true → ∀ H2, Same H1 H2 → M (f x) H2) → g x (wipe σ vs) H1 fun σ2 H2 => wipe σ2 vs = wipe σ vs ∧ tt σ2 H2 fun b H3 => if b = true then te σ2 H3 M else N H3)
    (done : ∀ D H', H D = none → Same H H' → H' D = some (.lst ((xs.filter pr).map f)) → Q (.ref D) H') : rLc g tt te vs σ Q (Itl K a) H := by
  refine lc_filt (xs := xs) pr f hz (fun i H1 hi s1 => ?_) (fun H1 s1 => ?_) (fun i H1 x H2 hi s1 y => ?_) step done
  · exact ⟨xs, xs[i], L2.Same.seq s1 hS, by simp [hi]⟩
  · exact ⟨xs, L2.Same.seq s1 hS, Nat.le_refl _⟩
  · obtain ⟨e, y⟩ := y
    exact ⟨e, y xs (L2.Same.seq s1 hS)⟩
theorem lc_tupP (pr : V → Bool) (f : V → V) (hz : xs.length ≤ 100000) (hS : SqT K H a xs)
    (step : ∀ x H1 (N : Hp → Prop) (M : V → Hp → Prop), x ∈ xs → Same H H1 → (pr x = false → ∀ H2, Same H1 H2 → N H2) → (pr x = true → ∀ H2, Same H1 H2 → M (f x) H2) → g x (wipe σ vs) H1 fun σ2 H2 => wipe σ2 vs = wipe σ vs ∧ tt σ2 H2 fun b H3 => if b = true then te σ2 H3 M else N H3)
    (done : ∀ D H', H D = none → Same H H' → H' D = some (.lst ((xs.filter pr).map f)) → Q (.ref D) H') : rLc g tt te vs σ Q (Itt K a) H := by
  refine lc_filt (xs := xs) pr f hz (fun i H1 hi s1 => ?_) (fun H1 s1 => ?_) (fun i H1 x H2 hi s1 y => ?_) step done
  · exact ⟨xs, xs[i], Same.sqT s1 hS, by simp [hi]⟩
  · exact ⟨xs, Same.sqT s1 hS, Nat.le_refl _⟩
  · obtain ⟨e, y⟩ := y
    exact ⟨e, y xs (Same.sqT s1 hS)⟩
end
end Rd
set_option Elab.async false
set_option linter.all false
set_option maxRecDepth 100000
set_option maxHeartbeats 4000000
/-! Rp: repr of data, enumerate and zip, targets in pairs, join. -/
namespace Rd
open PySem PySem.Spec PyProof.Rows L2
/-! ### repr -/
section
variable {K : PySem.W.Frag} {H : Hp}
mutual
theorem noDict : ∀ (d : PyData) (v : V), Dp K H v d → d.hasDict = false
  | .none, _, _ => rfl
  | .bool _, _, _ => rfl
  | .int _, _, _ => rfl
  | .str _, _, _ => rfl
  | .list ds, _, h => by cases h with | lst _ h => exact noDictAll ds _ h
  | .tuple ds, _, h => by cases h with | tup _ h => exact noDictAll ds _ h
  | .dict _, _, h => nomatch h
theorem noDictAll : ∀ (ds : List PyData) (vs : List V), DpAll K H vs ds → PyData.hasDictAll ds = false
  | [], _, _ => rfl
  | d :: ds, _, h => by
    cases h with
    | cons h1 h2 =>
      show (d.hasDict || PyData.hasDictAll ds) = false
      rw [noDict d _ h1, noDictAll ds _ h2]
      rfl
end
end
def rRepD (K : PySem.W.Frag) : List V → Hp → VK → Prop := fun xs H Q => ∃ a d, xs = [.ref a] ∧ Dp K H (.ref a) d ∧ d.showable = true ∧ d.depth ≤ 60 ∧ d.shown.length ≤ sizeLine ∧ Q (.str d.shown) H
theorem c_reprD {X : Cx} (hg : X.A.guards = some []) (hu : X.A.units + 64 < cLine) : CallR X (.builtin "repr") (rRepD X.K) := by
  intro pins s σ H xs us Q I r h
  obtain ⟨a, d, rfl, hd, hs, hz, hl, q⟩ := h
  cases r with
  | cons rx rr =>
    cases rr
    cases rx
    obtain ⟨as, rd⟩ := Dp.reads I d _ _ hd rfl
    exact repr_of_reads' rd hs (fun e => by rw [noDict d _ hd] at e; cases e) hg (by omega) (fun _ _ e => e) (fun h' u tk hk => ⟨.str _, H, I.kept hk, ⟨_, rfl⟩, q⟩) hl
theorem rd_reprD {K : PySem.W.Frag} {H : Hp} {Q : VK} {a : Addr} {d : PyData} (h : Dp K H (.ref a) d) (hs : d.showable = true) (hz : d.depth ≤ 60) (hl : d.shown.length ≤ sizeLine) (q : Q (.str d.shown) H) : rRepD K [.ref a] H Q := ⟨a, d, rfl, h, hs, hz, hl, q⟩
/-! ### data of tuples -/
mutual
/-- v is the data d, in which there is no list -/
inductive Dt (K : PySem.W.Frag) (H : Hp) : V → PyData → Prop
  | non : Dt K H .non .none
  | bl (b : Bool) : Dt K H (.bl b) (.bool b)
  | int (i : Int) : Dt K H (.int i) (.int i)
  | str (x : Str) : Dt K H (.str x) (.str x)
  | tup {a : Addr} {xs : List V} {ds : List PyData} : SqT K H a xs → DtAll K H xs ds → Dt K H (.ref a) (.tuple ds)
inductive DtAll (K : PySem.W.Frag) (H : Hp) : List V → List PyData → Prop
  | nil : DtAll K H [] []
  | cons {v : V} {vs : List V} {d : PyData} {ds : List PyData} : Dt K H v d → DtAll K H vs ds → DtAll K H (v :: vs) (d :: ds)
end
section
variable {K : PySem.W.Frag} {H H' : Hp}
mutual
theorem Dt.dp : ∀ (d : PyData) (v : V), Dt K H v d → Dp K H v d
  | .none, _, h => by cases h; exact .non
  | .bool _, _, h => by cases h; exact .bl _
  | .int _, _, h => by cases h; exact .int _
  | .str _, _, h => by cases h; exact .str _
  | .list _, _, h => nomatch h
  | .tuple ds, _, h => by cases h with | tup h1 h2 => exact .tup h1 (DtAll.dp ds _ h2)
  | .dict _, _, h => nomatch h
theorem DtAll.dp : ∀ (ds : List PyData) (vs : List V), DtAll K H vs ds → DpAll K H vs ds
  | [], _, h => by cases h; exact .nil
  | d :: ds, _, h => by cases h with | cons h1 h2 => exact .cons (Dt.dp d _ h1) (DtAll.dp ds _ h2)
end
mutual
theorem Dt.mono' (m : ∀ a xs, SqT K H a xs → SqT K H' a xs) : ∀ (d : PyData) (v : V), Dt K H v d → Dt K H' v d
  | .none, _, h => by cases h; exact .non
  | .bool _, _, h => by cases h; exact .bl _
  | .int _, _, h => by cases h; exact .int _
  | .str _, _, h => by cases h; exact .str _
  | .list _, _, h => nomatch h
  | .tuple ds, _, h => by cases h with | tup h1 h2 => exact .tup (m _ _ h1) (DtAll.mono' m ds _ h2)
  | .dict _, _, h => nomatch h
theorem DtAll.mono' (m : ∀ a xs, SqT K H a xs → SqT K H' a xs) : ∀ (ds : List PyData) (vs : List V), DtAll K H vs ds → DtAll K H' vs ds
  | [], _, h => by cases h; exact .nil
  | d :: ds, _, h => by cases h with | cons h1 h2 => exact .cons (Dt.mono' m d _ h1) (DtAll.mono' m ds _ h2)
end
theorem Dt.same {d : PyData} {v : V} (h : Dt K H v d) (s : Same H H') : Dt K H' v d := h.mono' (fun _ _ q => Same.sqT s q)
end
/-- short enough to be shown -/
structure Small (d : PyData) : Prop where
  sh : d.showable = true
  dp : d.depth ≤ 8
  lf : d.leavesShort 300 = true
  wt : d.weight ≤ 300
theorem small_int {i : Int} (h : i.natAbs.log2 < 250) : Small (.int i) := by
  refine ⟨decide_eq_true (by omega), by show 0 ≤ 8; decide, ?_, ?_⟩
  · refine decide_eq_true ?_
    have e := int_text_length_le (k := 250) (by decide) h
    have e2 : (PyData.shown (.int i)).length = (toString i).length := by
      show (Str.ofString (toString i)).length = _
      exact PySem.ofString_length _
    rw [e2]
    omega
  · show (if i == 0 then 0 else i.natAbs.log2 + 1) ≤ 300
    split <;> omega
theorem small_all : ∀ (ds : List PyData), (∀ d ∈ ds, Small d) → PyData.showableAll ds = true ∧ PyData.depthAll ds ≤ 8 ∧ PyData.leavesShortAll 300 ds = true ∧ PyData.weightAll ds ≤ 301 * ds.length
  | [], _ => ⟨rfl, by show 0 ≤ 8; decide, rfl, by show 0 ≤ _; exact Nat.zero_le _⟩
  | d :: ds, h => by
    obtain ⟨h1, h2, h3, h4⟩ := small_all ds fun e he => h e (List.mem_cons_of_mem _ he)
    have hd := h d List.mem_cons_self
    refine ⟨?_, ?_, ?_, ?_⟩
    · show (d.showable && PyData.showableAll ds) = true
      rw [hd.sh, h1]; rfl
    · show max d.depth (PyData.depthAll ds) ≤ 8
      exact Nat.max_le.mpr ⟨hd.dp, h2⟩
    · show (d.leavesShort 300 && PyData.leavesShortAll 300 ds) = true
      rw [hd.lf, h3]; rfl
    · show d.weight + 1 + PyData.weightAll ds ≤ 301 * (ds.length + 1)
      have := hd.wt
      omega
theorem rd_reprL {K : PySem.W.Frag} {H : Hp} {Q : VK} {a : Addr} {ds : List PyData} (h : Dp K H (.ref a) (.list ds)) (hs : ∀ d ∈ ds, Small d) (hn : ds.length ≤ 100) (q : Q (.str (PyData.list ds).shown) H) : rRepD K [.ref a] H Q := by
  obtain ⟨h1, h2, h3, h4⟩ := small_all ds hs
  refine rd_reprD h h1 (show PyData.depthAll ds + 1 ≤ 60 by omega) ?_ q
  have hw : (PyData.list ds).weight ≤ 30100 := Nat.le_trans h4 (by omega)
  have := PyData.shown_le 300 (by decide) (.list ds) h3
  have e := sizeLine_eq
  have h5 : (300 + 2) * (PyData.list ds).weight ≤ 302 * 30100 := Nat.mul_le_mul (Nat.le_refl _) hw
  omega
theorem rd_reprT {K : PySem.W.Frag} {H : Hp} {Q : VK} {a : Addr} {ds : List PyData} (h : Dp K H (.ref a) (.tuple ds)) (hs : ∀ d ∈ ds, Small d) (hn : ds.length ≤ 100) (q : Q (.str (PyData.tuple ds).shown) H) : rRepD K [.ref a] H Q := by
  obtain ⟨h1, h2, h3, h4⟩ := small_all ds hs
  refine rd_reprD h h1 (show PyData.depthAll ds + 1 ≤ 60 by omega) ?_ q
  have hw : (PyData.tuple ds).weight ≤ 30100 := Nat.le_trans h4 (by omega)
  have := PyData.shown_le 300 (by decide) (.tuple ds) h3
  have e := sizeLine_eq
  have h5 : (300 + 2) * (PyData.tuple ds).weight ≤ 302 * 30100 := Nat.mul_le_mul (Nat.le_refl _) hw
  omega
/-! ### pairs as targets -/
section
variable {K : PySem.W.Frag} {σ : L2.St} {H : Hp} {QS : L2.St → Hp → Prop} {t : TGs} {g : TG} {a : Addr} {xs : List V} {v : V} {n : Nat}
theorem rd_gTup (h : SqT K H a xs) (hn : xs.length = n) (q : t xs σ H QS) : gTup K n t (.ref a) σ H QS := ⟨a, xs, rfl, h, hn, q⟩
theorem rd_gCons (q : g v σ H fun σ' H' => t xs σ' H' QS) : gCons g t (v :: xs) σ H QS := ⟨v, xs, rfl, q⟩
theorem rd_gNil (q : QS σ H) : gNil [] σ H QS := ⟨rfl, q⟩
end
/-- a pair as target in a comprehension, where the part K is told -/
theorem pg_tupK {X : Cx} {K : PySem.W.Frag} {es : List Expr} {k : Nat} {t : TGs} {n : Nat} {pos : Pos} (hK : X.K = K) (hc : X.calm = true) (h : PGs X es t) (hn : (assignEach es X.env).length = n := by rfl) (hst : (assignEach es X.env).findIdx? (·.1) = none := by rfl) : PG X (.Tuple es k pos) (gTup K n t) := by
  subst hK
  exact pg_tup hc h hn hst
/-! ### enumerate, zip -/
section
variable {K : PySem.W.Frag} {σ : L2.St} {H : Hp} {Q : VK} {g : TG} {te : TE} {tt : TT} {ta : TA} {vs : List Nat} {a b : Addr} {xs ys : List V} {D : Ends} {tb : TS}
def rIE (K : PySem.W.Frag) (vs : List V) (H : Hp) (R : It → Hp → Prop) : Prop := ∃ a xs, vs = [.ref a] ∧ SqL K H a xs ∧ R (Ite K a) H
def rIZ (K : PySem.W.Frag) (vs : List V) (H : Hp) (R : It → Hp → Prop) : Prop := ∃ a b xs ys, vs = [.ref a, .ref b] ∧ SqL K H a xs ∧ SqL K H b ys ∧ R (Itz K a b) H
theorem rd_iEnum {R : It → Hp → Prop} (q : ta σ H fun vs H1 => rIE K vs H1 R) : iEnum K ta σ H R := q
theorem rd_iZip {R : It → Hp → Prop} (q : ta σ H fun vs H1 => rIZ K vs H1 R) : iZip K ta σ H R := q
theorem rd_IE {R : It → Hp → Prop} (h : SqL K H a xs) (q : R (Ite K a) H) : rIE K [.ref a] H R := ⟨a, xs, rfl, h, q⟩
theorem rd_IZ {R : It → Hp → Prop} (h1 : SqL K H a xs) (h2 : SqL K H b ys) (q : R (Itz K a b) H) : rIZ K [.ref a, .ref b] H R := ⟨a, b, xs, ys, rfl, h1, h2, q⟩
theorem for_enum (Pv : Nat → L2.St → Hp → Prop) (h0 : Pv 0 σ H) (hl : ∀ i σ H, i ≤ xs.length → Pv i σ H → SqL K H a xs)
    (hs : ∀ i x σ H T H', xs[i]? = some x → Pv i σ H → H T = none → Same H H' → H' T = some (.tup [.int (i : Nat), x]) → g (.ref T) σ H' fun σ2 H2 => tb { nx := Pv (i + 1), rt := D.rt, ct := Pv (i + 1), bk := D.nx } σ2 H2)
    (hd : ∀ σ H, Pv xs.length σ H → D.nx σ H) : rFor g tb D σ (Ite K a) H := by
  refine ⟨fun i m σ1 H1 => m = xs.length - i ∧ i ≤ xs.length ∧ Pv i σ1 H1, ⟨_, rfl, Nat.zero_le _, h0⟩, ?_⟩
  rintro i m σ1 H1 ⟨rfl, hi, p⟩
  have hq := hl i σ1 H1 hi p
  by_cases hlt : i < xs.length
  · refine .inr ⟨⟨xs, xs[i], hq, List.getElem?_eq_getElem hlt⟩, Pv (i + 1), fun σ' H' p' => ⟨xs.length - (i + 1), by omega, rfl, hlt, p'⟩, fun v H' y => ?_⟩
    obtain ⟨T, x, rfl, hT, rfl, hx⟩ := y
    exact hs i x σ1 H1 T _ (hx xs hq) p hT (same_new hT) upd_same
  · obtain rfl : i = xs.length := by omega
    exact .inl ⟨⟨xs, hq, Nat.le_refl _⟩, hd σ1 H1 p⟩
/-- a comprehension with a test over what stays: the items are told by zs -/
theorem lc_gen {α : Type} {J : It} (zs : List α) (is : α → V → Hp → Prop) (pr : α → Bool) (f : α → V) (hz : zs.length ≤ 100000)
    (go : ∀ i H1, i < zs.length → Same H H1 → J.go i H1) (stop : ∀ H1, Same H H1 → J.stop zs.length H1) (yld : ∀ i H1 x H2 z, zs[i]? = some z → Same H H1 → J.yld i H1 x H2 → Same H1 H2 ∧ is z x H2)
    (step : ∀ z x H1 (N : Hp → Prop) (M : V → Hp → Prop), z ∈ zs → Same H H1 → is z x H1 → (pr z = false → ∀ H2, Same H1 H2 → N H2) → (pr z = true → ∀ H2, Same H1 H2 → M (f z) H2) →
      g x (wipe σ vs) H1 fun σ2 H2 => wipe σ2 vs = wipe σ vs ∧ tt σ2 H2 fun b H3 => if b = true then te σ2 H3 M else N H3)
    (done : ∀ D H', H D = none → Same H H' → H' D = some (.lst ((zs.filter pr).map f)) → Q (.ref D) H') : rLc g tt te vs σ Q J H := by
  intro D hD
  let Pv : Nat → Hp → Prop := fun i H1 => Same H H1 ∧ H1 D = some (.lst (((zs.take i).filter pr).map f))
  refine ⟨fun i m H1 => m = zs.length - i ∧ i ≤ zs.length ∧ Pv i H1, ⟨zs.length, by simp, Nat.zero_le _, same_new hD, by rw [upd_same]; rfl⟩, ?_⟩
  rintro i m H1 ⟨rfl, hi, s1, hd1⟩
  by_cases hlt : i < zs.length
  · refine .inr ⟨go i H1 hlt s1, Pv (i + 1), fun H' p' => ⟨zs.length - (i + 1), by omega, rfl, hlt, p'⟩, fun x H' y => ?_⟩
    have ez : zs[i]? = some zs[i] := List.getElem?_eq_getElem hlt
    obtain ⟨s2, hx⟩ := yld i H1 x H' _ ez s1 y
    have et : ((zs.take (i + 1)).filter pr).map f = ((zs.take i).filter pr).map f ++ (if pr zs[i] = true then [f zs[i]] else []) := by
      rw [List.take_add_one, ez, List.filter_append, List.map_append]
      congr 1
      show (([zs[i]] : List α).filter pr).map f = _
      by_cases hp : pr zs[i] = true
      · rw [if_pos hp, List.filter_cons, if_pos hp]; rfl
      · rw [if_neg hp, List.filter_cons, if_neg hp]; rfl
    refine step zs[i] x H' _ _ (List.getElem_mem hlt) (s1.trans s2) hx (fun hp H2 s3 => ?_) (fun hp H2 s3 => ?_)
    · refine ⟨(s1.trans s2).trans s3, ?_⟩
      rw [et, if_neg (by rw [hp]; exact Bool.false_ne_true), List.append_nil]
      exact s3 _ _ (s2 _ _ hd1)
    · have hz2 : (((zs.take i).filter pr).map f).length < sizeLine := by
        rw [List.length_map]
        exact Nat.lt_of_le_of_lt (Nat.le_trans (List.length_filter_le _ _) (Nat.le_trans (by rw [List.length_take]; exact Nat.min_le_right _ _) hz)) (by decide)
      refine ⟨_, s3 _ _ (s2 _ _ hd1), hz2, fun b o e => ?_, ?_⟩
      · rw [upd_ne (ne_of_none e hD)]
        exact s3 _ _ (s2 _ _ (s1 _ _ e))
      · rw [upd_same, et, if_pos hp]
  · obtain rfl : i = zs.length := by omega
    refine .inl ⟨stop H1 s1, done D H1 hD s1 ?_⟩
    rw [hd1, List.take_length]
/-- [.. for x, y in zip(..) if ..] -/
theorem lc_zip (hl : xs.length = ys.length) (pr : V × V → Bool) (f : V × V → V) (hz : xs.length ≤ 100000) (h1 : SqL K H a xs) (h2 : SqL K H b ys)
    (step : ∀ (z : V × V) T H1 (N : Hp → Prop) (M : V → Hp → Prop), z ∈ xs.zip ys → Same H H1 → H1 T = some (.tup [z.1, z.2]) → (pr z = false → ∀ H2, Same H1 H2 → N H2) → (pr z = true → ∀ H2, Same H1 H2 → M (f z) H2) →
      g (.ref T) (wipe σ vs) H1 fun σ2 H2 => wipe σ2 vs = wipe σ vs ∧ tt σ2 H2 fun b H3 => if b = true then te σ2 H3 M else N H3)
    (done : ∀ D H', H D = none → Same H H' → H' D = some (.lst (((xs.zip ys).filter pr).map f)) → Q (.ref D) H') : rLc g tt te vs σ Q (Itz K a b) H := by
  have lz : (xs.zip ys).length = xs.length := by rw [List.length_zip]; omega
  refine lc_gen (xs.zip ys) (fun z v H2 => ∃ T, v = .ref T ∧ H2 T = some (.tup [z.1, z.2])) pr f (by omega) (fun i H1 hi s1 => ?_) (fun H1 s1 => ?_) (fun i H1 x H2 z ez s1 y => ?_) (fun z x H1 N M hz' s1 hx hN hM => ?_) done
  · exact ⟨xs, ys, xs[i]'(by omega), ys[i]'(by omega), L2.Same.seq s1 h1, L2.Same.seq s1 h2, List.getElem?_eq_getElem _, List.getElem?_eq_getElem _⟩
  · exact ⟨xs, ys, L2.Same.seq s1 h1, L2.Same.seq s1 h2, .inl (by omega)⟩
  · obtain ⟨T, u, v, rfl, hT, rfl, hu, hv⟩ := y
    have e1 := hu xs (L2.Same.seq s1 h1)
    have e2 := hv ys (L2.Same.seq s1 h2)
    have : (xs.zip ys)[i]? = some (u, v) := by rw [List.getElem?_zip_eq_some]; exact ⟨e1, e2⟩
    rw [this] at ez
    injection ez with ez
    subst ez
    exact ⟨same_new hT, T, rfl, upd_same⟩
  · obtain ⟨T, rfl, hT⟩ := hx
    exact step z T H1 N M hz' s1 hT hN hM
end
section
variable {K : PySem.W.Frag} {σ : L2.St} {H : Hp} {Q : VK} {g : TG} {te : TE} {vs : List Nat}
/-- [.. for i in range(..)] of things that stay -/
theorem lc_rng {lo : Int} {n : Nat} (f : Nat → V) (hz : n ≤ 100000)
    (step : ∀ (i : Nat) H1 (N : V → Hp → Prop), i < n → Same H H1 → (∀ H2, Same H1 H2 → N (f i) H2) → g (.int (lo + i)) (wipe σ vs) H1 fun σ2 H2 => wipe σ2 vs = wipe σ vs ∧ te σ2 H2 N)
    (done : ∀ D H', H D = none → Same H H' → H' D = some (.lst ((List.range n).map f)) → Q (.ref D) H') : rLc g tYes te vs σ Q (Itr lo n) H := by
  refine lc_gen (List.range n) (fun z v _ => z < n ∧ v = .int (lo + z)) (fun _ => true) f (by rw [List.length_range]; exact hz) (fun i H1 hi s1 => ?_) (fun H1 s1 => ?_) (fun i H1 x H2 z ez s1 y => ?_) (fun z x H1 N M hz' s1 hx hN hM => ?_) (fun D H' h1 h2 h3 => ?_)
  · rw [List.length_range] at hi
    exact hi
  · rw [List.length_range]
    exact Nat.le_refl n
  · obtain ⟨rfl, rfl⟩ := y
    obtain ⟨hi, e⟩ := List.getElem?_eq_some_iff.mp ez
    rw [List.getElem_range] at e
    subst e
    rw [List.length_range] at hi
    exact ⟨Same.refl _, hi, rfl⟩
  · obtain ⟨hi, rfl⟩ := hx
    exact step z H1 M hi s1 (hM rfl)
  · refine done D H' h1 h2 ?_
    rw [h3, List.filter_eq_self.mpr fun _ _ => rfl]
end
section
variable {K : PySem.W.Frag} {σ : L2.St} {H : Hp} {Q : VK} {g : TG} {te : TE} {vs : List Nat} {a : Addr}
/-- [.. for x in a list], the items told by zs -/
theorem lc_lstA {α : Type} (zs : List α) (val : α → V) (f : α → V) (hz : zs.length ≤ 100000) (hS : SqL K H a (zs.map val))
    (step : ∀ z H1 (N : V → Hp → Prop), z ∈ zs → Same H H1 → (∀ H2, Same H1 H2 → N (f z) H2) → g (val z) (wipe σ vs) H1 fun σ2 H2 => wipe σ2 vs = wipe σ vs ∧ te σ2 H2 N)
    (done : ∀ D H', H D = none → Same H H' → H' D = some (.lst (zs.map f)) → Q (.ref D) H') : rLc g tYes te vs σ Q (Itl K a) H := by
  refine lc_gen zs (fun z v _ => v = val z) (fun _ => true) f hz (fun i H1 hi s1 => ?_) (fun H1 s1 => ?_) (fun i H1 x H2 z ez s1 y => ?_) (fun z x H1 N M hz' s1 hx hN hM => ?_) (fun D H' h1 h2 h3 => ?_)
  · exact ⟨zs.map val, val zs[i], L2.Same.seq s1 hS, by rw [List.getElem?_map, List.getElem?_eq_getElem hi]; rfl⟩
  · exact ⟨zs.map val, L2.Same.seq s1 hS, by rw [List.length_map]; exact Nat.le_refl _⟩
  · obtain ⟨rfl, y⟩ := y
    have e := y _ (L2.Same.seq s1 hS)
    rw [List.getElem?_map, ez] at e
    exact ⟨Same.refl _, (Option.some.inj e).symm⟩
  · subst hx
    exact step z H1 M hz' s1 (hM rfl)
  · refine done D H' h1 h2 ?_
    rw [h3, List.filter_eq_self.mpr fun _ _ => rfl]
end
section
variable {K : PySem.W.Frag} {σ : L2.St} {H : Hp} {Q : VK} {g : TG} {te : TE} {vs : List Nat}
/-- [.. for i in range(..)], each turn of which may change the heap -/
theorem lc_rngI {lo : Int} {n : Nat} (P : Nat → Addr → List V → Hp → Prop) (h0 : ∀ D, H D = none → P 0 D [] (upd H D (.lst [])))
    (step : ∀ (i : Nat) D acc H1 (N : VK), i < n → H D = none → P i D acc H1 → (∀ y H3, H3 D = some (.lst acc) → acc.length < sizeLine → P (i + 1) D (acc ++ [y]) (upd H3 D (.lst (acc ++ [y]))) → N y H3) →
      g (.int (lo + i)) (wipe σ vs) H1 fun σ2 H2 => wipe σ2 vs = wipe σ vs ∧ te σ2 H2 N)
    (done : ∀ D acc H1, H D = none → P n D acc H1 → Q (.ref D) H1) : rLc g tYes te vs σ Q (Itr lo n) H := by
  intro D hD
  refine ⟨fun i m H1 => m = n - i ∧ i ≤ n ∧ ∃ acc, P i D acc H1, ⟨n, rfl, Nat.zero_le _, [], h0 D hD⟩, ?_⟩
  rintro i m H1 ⟨rfl, hi, acc, p⟩
  by_cases hlt : i < n
  · refine .inr ⟨hlt, fun H2 => ∃ acc, P (i + 1) D acc H2, fun H' p' => ⟨n - (i + 1), by omega, rfl, hlt, p'⟩, fun x H' y => ?_⟩
    obtain ⟨rfl, rfl⟩ := y
    exact step i D acc H' _ hlt hD p fun y H3 h1 h2 h3 => ⟨acc, h1, h2, _, h3⟩
  · obtain rfl : i = n := by omega
    exact .inl ⟨Nat.le_refl _, done D acc H1 hD p⟩
end
/-! bools as data -/
theorem dpB {K : PySem.W.Frag} {H : Hp} (bs : List Bool) : DpAll K H (bs.map V.bl) (bs.map PyData.bool) := by
  induction bs with
  | nil => exact .nil
  | cons n r ih => exact .cons (.bl n) ih
theorem canB : ∀ bs : List Bool, PyData.canLayAll0 (bs.map PyData.bool) = true
  | [] => rfl
  | _ :: r => canB r
theorem depB : ∀ bs : List Bool, PyData.depthAll (bs.map PyData.bool) = 0
  | [] => rfl
  | _ :: r => by
    show max 0 (PyData.depthAll (r.map PyData.bool)) = 0
    rw [depB r]; rfl
theorem shLB (bs : List Bool) : SeqAt.shaped (.list (bs.map PyData.bool)) = true := by
  unfold SeqAt.shaped
  rw [show PyData.canLay0 (.list (bs.map PyData.bool)) = true from canB bs, show PyData.depth (.list (bs.map PyData.bool)) = 1 by show PyData.depthAll (bs.map PyData.bool) + 1 = 1; rw [depB]]
  rfl
theorem eqLB (bs : List Bool) : PyData.eqv (.list (bs.map PyData.bool)) (.list (bs.map PyData.bool)) = true := SeqAt.eqv_refl _ (canB bs)
/-! ### join, sum, in -/
section
variable {K : PySem.W.Frag} {σ : L2.St} {H : Hp} {Q : VK} {a : Addr} {xs : List V} {x y : V}
def rJoin (K : PySem.W.Frag) : V → List V → Hp → VK → Prop := fun x xs H Q => ∃ a p, ∃ ys : List Str, x = .str a ∧ xs = [.ref p] ∧ (SqL K H p (ys.map V.str) ∨ SqT K H p (ys.map V.str)) ∧ (ys.map (·.length)).sum + ys.length * a.length ≤ 16777216 ∧ Q (.str (Txt.join a ys)) H
theorem pe_join {X : Cx} {o e : Expr} {to te : TE} {apos pos : Pos} (ho : PE X o to) (he : PE X e te) (hs : starEach [e] X.env = [(false, eval e X.env)] := by rfl) (hbase : attributeBase o "join" X.env (eval o X.env) = eval o X.env := by rfl) (hline : (apos.endLine == pos.line) = true := by rfl) :
    PE X (.Call (.Attribute o "join" apos) [e] [] pos) (tM1 (rJoin X.K) to te) := L2.pe_join ho he hs hbase hline
theorem rd_m1 {r : V → List V → Hp → VK → Prop} {to te : TE} (q : to σ H fun x H1 => (∃ a, x = .str a) ∧ te σ H1 fun y H2 => r x [y] H2 Q) : tM1 r to te σ H Q := q
theorem rd_strV {z : Str} {P : Prop} (q : P) : (∃ a, V.str z = .str a) ∧ P := ⟨⟨z, rfl⟩, q⟩
theorem rd_joinL {z : Str} {ys : List Str} (h : SqL K H a (ys.map V.str)) (hz : (ys.map (·.length)).sum + ys.length * z.length ≤ 16777216) (q : Q (.str (Txt.join z ys)) H) : rJoin K (.str z) [.ref a] H Q := ⟨z, a, ys, rfl, rfl, .inl h, hz, q⟩
theorem rd_sum {ns : List Int} (h : SqL K H a (ns.map V.int)) (q : Q (.int ns.sum) H) : rSum K [.ref a] H Q := ⟨a, ns, rfl, h, q⟩
theorem rd_inL {neg : Bool} (h : SqL K H a xs) (fx : flatV x = true) (fs : xs.all flatV = true) (q : Q (.bl (if neg then !inV x xs else inV x xs)) H) : rIn K neg x (.ref a) H Q := ⟨a, xs, rfl, .inl h, fx, fs, q⟩
theorem rd_inT {neg : Bool} (h : SqT K H a xs) (fx : flatV x = true) (fs : xs.all flatV = true) (q : Q (.bl (if neg then !inV x xs else inV x xs)) H) : rIn K neg x (.ref a) H Q := ⟨a, xs, rfl, .inr h, fx, fs, q⟩
end
end Rd
set_option Elab.async false
set_option linter.all false
set_option maxRecDepth 100000
set_option maxHeartbeats 4000000
/-! Rm: match over a tuple, a star among targets, tuples compared. -/
namespace Rd
open PySem PySem.Spec PyProof.Rows L2
/-! ### match -/
/-- the cases, the subject being a tuple of the items xs -/
structure PC (X : Cx) (cs : List MatchCase) (t : List V → TS) : Prop where
  run : ∀ (pins : List (Addr × Obj)) (s : Shared) (σ : L2.St) (H : Hp) (D : Ends) (a : Addr) (xs : List V) (first : Bool), Inv X pins σ H s → SqT X.K H a xs → t xs D σ H → wpAny (model X.prog X.w) X.A (matchCases cs X.env (.ref a) first) (SP X pins D) X.xe s
/-- names bound in order -/
structure PNs (X : Cx) (ns : List Str) (g : TGs) : Prop where
  run : ∀ (pins : List (Addr × Obj)) (s : Shared) (σ : L2.St) (H : Hp) (vs : List V) (us : List Value) (Q : L2.St → Hp → Prop), Inv X pins σ H s → Vals vs us → g vs σ H Q → wpAny (model X.prog X.w) X.A (assignInOrder (ns.map fun n => bindName X.env n) us) (fun _ s' => ∃ σ' H', Inv X pins σ' H' s' ∧ Q σ' H') X.xe s
def capsOf (ns : List (Str × Pos)) : List Pattern := ns.map fun n => .MatchAs none (some n.1) n.2
section
variable {X : Cx} {cs : List MatchCase} {body : List Stmt} {tb : TS} {tr : List V → TS} {g : TG} {gs : TGs} {pos : Pos} {e : Expr} {te : TE}
theorem pns_nil : PNs X [] gNil := ⟨fun pins s σ H vs us Q I r h => by
  obtain ⟨rfl, h⟩ := h
  cases r
  exact wpAny_assignInOrder_none ⟨σ, H, I, h⟩⟩
theorem pns_cons {i : Nat} {x : Str} {ns : List Str} (hN : X.N.Nodup) (hi : X.N[i]? = some x) (hx : Loc X.env.scope x) (h2 : PNs X ns gs) (hf : X.fn x = true ∨ X.env.scope.names.lookup x = some .local := by first | exact .inl rfl | exact .inr rfl | assumption) : PNs X (x :: ns) (gCons (gName i) gs) :=
  ⟨fun pins s σ H vs us Q I r h => by
    obtain ⟨v, vr, rfl, h⟩ := h
    cases r with
    | cons r rr =>
      refine wpAny_assignInOrder_more (wpAny_bind (wpAny_holding (wpAny_point (wpAny_bind (store_ok I hN hi hx r (fun s' I' => wpAny_point ?_) hf)))))
      exact h2.run pins s' _ H vr _ Q I' rr h⟩
theorem pc_nil : PC X [] (fun _ => tNext) := ⟨fun pins s σ H D a xs first I hS h => wpAny_matchCases_nil ⟨σ, H, I, h⟩⟩
/-- case [n, ..] -/
def tCaseN (n : Nat) (gs : TGs) (tb : TS) (tr : List V → TS) : List V → TS := fun xs D σ H => (xs.length = n ∧ gs xs σ H fun σ' H' => tb D σ' H') ∨ (xs.length ≠ n ∧ tr xs D σ H)
theorem match_caps {M : Model} {A : Around} {E : Value → Shared → Prop} {s : Shared} {env : Env} : ∀ (ns : List (Str × Pos)) (us : List Value) {Q : Option (List (Str × Value)) → Shared → Prop}, us.length = ns.length → Q (some ((ns.map (·.1)).zip us)) s → wpAny M A (matchEach (capsOf ns) env us) Q E s
  | [], [], Q, _, h => wpAny_matchEach_nil h
  | n :: ns, u :: us, Q, hl, h => by
    refine wpAny_matchEach_cons (p := .MatchAs none (some n.1) n.2) (ps := capsOf ns) (wpAny_matchPattern_Capture ?_) rfl
    refine match_caps ns us (by simpa using hl) ?_
    exact h
theorem pc_names {ns : List (Str × Pos)} {n : Nat} {cpos : Pos} (hc : X.calm = true) (hn : ns.length = n) (hg : PNs X (ns.map (·.1)) gs) (hb : PSs X body tb) (hr : PC X cs tr) (hstar : (capsOf ns).findIdx? (·.isStar) = none := by rfl)
    (hwild : ((capsOf ns).all fun p => p.isWildcard || (p.isStar && p.names.isEmpty)) = false := by rfl) : PC X (⟨.MatchSequence (capsOf ns) cpos, none, body⟩ :: cs) (tCaseN n gs tb tr) :=
  ⟨fun pins s σ H D a xs first I hS h => by
    obtain ⟨its, rv, ht, hz⟩ := I.tuple hS
    have hlen := rv.length
    refine wpAny_matchCases_cons (wpAny_matchPattern_Sequence ?_ hstar hwild)
    obtain ⟨o, ho, hcl, _⟩ := id ht
    refine wpAny_collectionFlag (T := "tuple") (show Shared.TypeIs s (.ref a) "tuple" from ⟨o, ho, hcl⟩) flag_seq_tuple ?_
    rw [if_pos rfl]
    refine pyLen_tuple ht (by rw [List.size_toArray, ← hlen]; have := sizeLine_eq; omega) ?_
    have cl : (capsOf ns).length = n := by unfold capsOf; rw [List.length_map, hn]
    rw [cl]
    rcases h with ⟨hx, h⟩ | ⟨hx, h⟩
    · have sz : its.toArray.size = n := by rw [List.size_toArray, ← hlen, hx]
      rw [if_neg (by rw [sz]; simp)]
      have ht2 : IsTup (⟨s.heap, s.gens, s.drawn, s.toks + 1 + 1, s.os⟩ : Shared).heap a its.toArray := ht
      rw [← sz]
      refine unpackItems_tuple (s := ⟨s.heap, s.gens, s.drawn, s.toks + 1 + 1, s.os⟩) (I.ok.hd hc) ht2 fun h' hk => ?_
      refine match_caps ns _ (by rw [hn]; simpa using sz) ?_
      have I1 : Inv X pins σ H ⟨h', s.gens, s.drawn, s.toks + 1 + 1, s.os⟩ := I.kept (t' := s.toks + 1 + 1) fun b o e => hk b o (Nat.ne_of_lt (Heap.lt_size e)) e
      have ez : ((ns.map (·.1)).zip its).map (fun p => bindName X.env p.1) = (ns.map (·.1)).map fun n => bindName X.env n := by
        have e0 : ((ns.map (·.1)).zip its).map Prod.fst = ns.map (·.1) := List.map_fst_zip (by rw [List.length_map, hn]; have := sz; simp at this; omega)
        rw [← e0, List.map_map, e0]
        rfl
      have ez2 : ((ns.map (·.1)).zip its).map (·.2) = its := List.map_snd_zip (by rw [List.length_map, hn]; have := sz; simp at this; omega)
      show wpAny _ _ (assignInOrder (((ns.map (·.1)).zip its).map fun p => bindName X.env p.1) (((ns.map (·.1)).zip its).map (·.2))) _ _ _
      rw [ez, ez2]
      exact thn (hg.run pins _ σ H xs its _ I1 rv h) fun _ s2 ⟨σ2, H2, I2, q2⟩ => hb.run pins s2 σ2 H2 D I2 q2
    · rw [if_pos (by rw [List.size_toArray, ← hlen]; simp; omega)]
      exact hr.run pins _ σ H D a xs false (I.kept (t' := s.toks + 1 + 1) fun _ _ z => z) hS h⟩
def capNs : List Pattern → List (Str × Pos)
  | .MatchAs none (some n) p :: r => (n, p) :: capNs r
  | _ => []
theorem pc_namesP {ps : List Pattern} {n : Nat} {cpos : Pos} (hp : capsOf (capNs ps) = ps) (hc : X.calm = true) (hn : (capNs ps).length = n) (hg : PNs X ((capNs ps).map (·.1)) gs) (hb : PSs X body tb) (hr : PC X cs tr) (hstar : ps.findIdx? (·.isStar) = none := by rfl)
    (hwild : (ps.all fun p => p.isWildcard || (p.isStar && p.names.isEmpty)) = false := by rfl) : PC X (⟨.MatchSequence ps cpos, none, body⟩ :: cs) (tCaseN n gs tb tr) := by
  have h := pc_names (cpos := cpos) (ns := capNs ps) hc hn hg hb hr (by rw [hp]; exact hstar) (by rw [hp]; exact hwild)
  rwa [hp] at h
/-- case _ -/
theorem pc_wild {wp : Pos} (hb : PSs X body tb) : PC X (⟨.MatchAs none none wp, none, body⟩ :: cs) (fun _ => tb) :=
  ⟨fun pins s σ H D a xs first I hS h => wpAny_matchCases_cons (wpAny_matchPattern_Capture (wpAny_assignInOrder_none (hb.run pins s σ H D I h)))⟩
def tMatch (K : PySem.W.Frag) (te : TE) (t : List V → TS) : TS := fun D σ H => te σ H fun x H1 => ∃ a xs, x = .ref a ∧ SqT K H1 a xs ∧ t xs D σ H1
theorem ps_match (he : PE X e te) (hc : PC X cs tr) : PS X (.Match e cs pos) (tMatch X.K te tr) :=
  ⟨fun pins s σ H D I h => wpAny_Match (thn (he.run pins s σ H _ I h) fun u s1 ⟨x, H1, I1, rx, a, xs, ex, hS, q⟩ => by
    subst ex
    cases rx
    exact hc.run pins s1 σ H1 D a xs true I1 hS q)⟩
end
end Rd
set_option Elab.async false
set_option linter.all false
set_option maxRecDepth 100000
set_option maxHeartbeats 4000000
/-! Rn: defs with a star, a star among targets, tuples compared, several except clauses, lambdas handed to a def. -/
namespace Rd
open PySem PySem.Spec PyProof.Rows L2
/-! ### defs with a star; a def's code object -/
def spStar (n : Nat) (sp : Sp) : Sp := fun vs H Q E => ∃ ws rest, vs = ws ++ rest ∧ ws.length = n ∧ rest.length ≤ sizeLine ∧ ∀ p H', H p = Option.none → Same H H' → H' p = some (.tup rest) → sp (ws ++ [V.ref p]) H' Q E
/-- the code of the function at f -/
def codeOf (K : PySem.W.Frag) (f : Addr) : Value := match K.lookup f with
  | some ⟨_, _, .func fd, _⟩ => fd.code
  | _ => .none
section
variable {gd : Bool} {P : Program} {w : World} {K : PySem.W.Frag} {mg : Str → Option Value} {base : Heap} {CX : CXT} {k : Nat} {f : Addr} {x qual : Str} {st : Stmt} {N ps : List Str} {sp : Sp}
theorem FnG.ofR (F : FnR P w K mg base CX k f sp) : FnG gd P w K mg base CX k f sp := fun A outer s H us vs Q E hr => F A outer s H us vs Q E hr.toRoom
theorem HasAt.starX {α : Type} {args : α → List V} {pre : α → Hp → VK → XK → Prop} {pv : Str} (h : HasAt K f x qual st) (S : FnScope N (ps ++ [pv]) (defScope st)) (hCX : StX.CXUp CX)
    (hb : ∀ (kV doc pm : Value) (an : Option Addr) (cdv ct : Value) (us rest : List Value), us.length = ps.length → bindArgs (PySem.W.fnOf x qual (defArgs st) (defBody st) (defScope st) .none kV doc pm an cdv ct) ⟨us ++ rest, []⟩ = (newTuple rest >>= fun t => pure (ps.zip us ++ [(pv, t)])))
    (body : ∀ (cdv : Value) (A : Around) (outer : List Env) (s : Shared) (H : Hp) (Q : VK) (E : XK) (a : α), RoomG false k (A.deeper (PyProof.Rows.envOfC qual (defScope st) s.heap.objs.size f cdv)) → pre a H Q E →
      ∃ t, PSs (cxOf CX P w K mg base N qual (defScope st) f cdv A outer s H E) (defBody st) t ∧ t { nx := fun _ H' => Q .non H', rt := Q } (start N (args a)) H) :
    FnG gd P w K mg base CX (k + 1) f (spStar ps.length (mkSp args pre)) := by
  obtain ⟨fd, F⟩ := h
  obtain ⟨oc, od, dV, kV, doc, pm, an, cdv, ct, osl, e, lk, hcd, hD, hK⟩ := F.ex
  subst e
  rcases hD with ⟨_, e⟩ | ⟨e, _⟩
  · subst e
    refine FnG.ofR (FnR.imp (StX.fn_star (sp := mkSp args pre) lk hcd S hCX (fun us rest hl => hb kV doc pm an cdv ct us rest hl) fun A outer s H vs Q E hr hs => ?_) fun vs H Q E hs => ?_)
    · obtain ⟨a, rfl, ha⟩ := hs
      exact body cdv A outer s H Q E a (RoomG.any hr) ha
    · obtain ⟨ws, rest, e1, e2, e3, e4⟩ := hs
      exact ⟨ws, rest, e1, e2, e3, fun p hp => e4 p _ hp (same_new hp) upd_same⟩
  · exact absurd rfl e
theorem Has.starX {α : Type} {args : α → List V} {pre : α → Hp → VK → XK → Prop} {pv : Str} (h : Has K mg x st) (S : FnScope N (ps ++ [pv]) (defScope st)) (hCX : StX.CXUp CX)
    (hb : ∀ (kV doc pm : Value) (an : Option Addr) (cdv ct : Value) (us rest : List Value), us.length = ps.length → bindArgs (PySem.W.fnOf x x (defArgs st) (defBody st) (defScope st) .none kV doc pm an cdv ct) ⟨us ++ rest, []⟩ = (newTuple rest >>= fun t => pure (ps.zip us ++ [(pv, t)])))
    (body : ∀ (f : Addr) (cdv : Value) (A : Around) (outer : List Env) (s : Shared) (H : Hp) (Q : VK) (E : XK) (a : α), RoomG false k (A.deeper (PyProof.Rows.envOfC x (defScope st) s.heap.objs.size f cdv)) → pre a H Q E →
      ∃ t, PSs (cxOf CX P w K mg base N x (defScope st) f cdv A outer s H E) (defBody st) t ∧ t { nx := fun _ H' => Q .non H', rt := Q } (start N (args a)) H) :
    Fn gd P w K mg base CX (k + 1) x (spStar ps.length (mkSp args pre)) := by
  obtain ⟨f, F, hm, hk⟩ := h
  exact ⟨f, F.starX S hCX hb (body f), hm, hk⟩
/-- the module's def x, its code object known -/
structure HasC (K : PySem.W.Frag) (mg : Str → Option Value) (x : Str) (st : Stmt) (c : Addr) : Prop where
  ex : ∃ f, HasAt K f x x st ∧ mg x = some (.ref f) ∧ PySem.W.keepIn K (.ref f) = true ∧ codeOf K f = .ref c
theorem HasC.fn {α : Type} {args : α → List V} {pre : α → Hp → VK → XK → Prop} {c : Addr} (h : HasC K mg x st c) (S : FnScope N ps (defScope st)) (hl : ∀ a, (args a).length = ps.length)
    (hb : ∀ (kV doc pm : Value) (an : Option Addr) (cdv ct : Value) (us : List Value), us.length = ps.length → bindArgs (PySem.W.fnOf x x (defArgs st) (defBody st) (defScope st) .none kV doc pm an cdv ct) ⟨us, []⟩ = pure (ps.zip us))
    (body : ∀ (f : Addr) (A : Around) (outer : List Env) (s : Shared) (H : Hp) (Q : VK) (E : XK) (a : α), RoomG gd k (A.deeper (PyProof.Rows.envOfC x (defScope st) s.heap.objs.size f (.ref c))) → pre a H Q E →
      ∃ t, PSs (cxOf CX0 P w K mg base N x (defScope st) f (.ref c) A outer s H E).nox (defBody st) t ∧ t { nx := fun _ H' => Q .non H', rt := Q } (start N (args a)) H) :
    Fn gd P w K mg base CX0 (k + 1) x (mkSp args pre) := by
  obtain ⟨f, ⟨fd, F⟩, hm, hk, hc⟩ := h.ex
  refine ⟨f, ?_, hm, hk⟩
  obtain ⟨oc, od, dV, kV, doc, pm, an, cdv, ct, osl, e, lk, hcd, hD, hK⟩ := F.ex
  subst e
  have ec : cdv = .ref c := by
    unfold codeOf at hc
    rw [lk] at hc
    exact hc
  subst ec
  rcases hD with ⟨_, e⟩ | ⟨e, _⟩
  · subst e
    intro A outer s H us vs Q E hr e0 r hsp
    obtain ⟨a, rfl, ha⟩ := hsp
    have hu : us.length = ps.length := by rw [← Vals.length r]; exact hl a
    refine StX.run_bnd lk hcd S hr.toRoom e0 (G := fun xs H2 => xs = args a ∧ H2 = H) (fun A' Ex Q' hq => ?_) fun s2 H2 xs hx hr' => ?_
    · rw [hb kV doc pm an _ ct us hu]
      exact PySem.wpAny_pure (hq s H _ us e0 Un.refl rfl (fun _ _ z => z) r (hl a) ⟨rfl, rfl⟩)
    · obtain ⟨rfl, rfl⟩ := hx
      obtain ⟨t, h1, h2⟩ := body f A outer s2 _ Q E a ⟨hr', hr.gs⟩ ha
      exact ⟨t, h1.nox, h2⟩
  · exact absurd rfl e
/-- nothing is let out -/
theorem passNo {X : Cx} {P : Program} {w : World} (eP : P = X.prog := by rfl) (ew : w = X.w := by rfl) : Passes (L2.CX P w) X E0 := by
  subst eP ew
  exact passes_call (W := fun _ _ _ _ => False) LamX.takes0 fun _ _ _ _ z => z
end
/-! ### a star among targets -/
section
variable {prog : Program} {w : World} {A : Around} {E : Value → Shared → Prop} {s : Shared}
theorem unpack_star {l : Addr} {items : Array Value} {u : Value} {us : List Value} {Q : List Value → Shared → Prop} (ht : IsTup s.heap l items) (hh : A.handled = none) (ei : items.toList = u :: us) (hz : us.length < sizeLine)
    (h : ∀ (h₂ : Heap) (tk : Nat), (∀ b o, s.heap.get? b = some o → h₂.get? b = some o) → Q [u, .ref h₂.objs.size] { s with heap := h₂.push { cls := .type "list", data := .seq us.toArray }, toks := tk }) : wpAny (model prog w) A (unpackItems (.ref l) 2 (some 1)) Q E s := by
  have hsz : items.size = us.length + 1 := by rw [← Array.length_toList, ei]; rfl
  have old : ∀ {b o}, s.heap.get? b = some o → b ≠ s.heap.objs.size := fun e => Nat.ne_of_lt (Heap.lt_size e)
  have hlt : l ≠ s.heap.objs.size := by obtain ⟨o, ho, _⟩ := ht; exact old ho
  unfold unpackItems
  refine wpAny_bind ?_
  unfold notIterableAtAll
  refine wpAny_bind (wpAny_specialOf ht.typeIs slot_tuple_iter.lookup (wpAny_pure ?_))
  simp only [Bool.false_eq_true, if_false]
  refine wpAny_bind (wpAny_holding (iter_tuple ht (wpAny_bind (wpAny_holding (draw_tuple hlt 1 0 _ _ ⟨_, Heap.get?_push_size _ rfl, rfl, rfl⟩ (ht.push _) (by omega) fun h₁ hi₁ hs₁ => ?_)))))
  have ht₁ : IsTup h₁ l items := (ht.push _).extBut hs₁.extBut hlt
  obtain ⟨oi, hoi, _⟩ := id hi₁
  obtain ⟨ol, hol, _⟩ := id ht₁
  rw [List.drop_zero, ei]
  show wpAny _ _ (if ([u] : List Value).length < 1 then _ else _) _ _ _
  rw [if_neg (by simp)]
  refine wpAny_bind (wpAny_holding (PySem.W.kun_collect (s := { s with heap := h₁ }) (T := "tuple_iterator") (k := 1) (.inr (.inr (.inr rfl))) (Walks.tuple (A := A.in1) hh s.heap.objs.size l hlt items) (fun j u st => st.1.typeIs) (by omega) ⟨hi₁, ht₁⟩ (Heap.lt_size hoi) (Heap.lt_size hol) (fun h₂ tk hk => ?_) (by omega)))
  rw [ei]
  show wpAny _ _ (if us.length < 0 then _ else (newList (us.take (us.length - 0)) >>= fun d => pure ([u] ++ [d] ++ us.drop (us.length - 0)))) _ _ _
  rw [if_neg (by omega), Nat.sub_zero, List.take_length, List.drop_length]
  refine wpAny_bind (wpAny_newList (wpAny_pure ?_) (by omega))
  exact h h₂ tk fun b o e => hk b o (old e) (hs₁.extBut b o (old e) (Heap.get?_push_of_some _ e))
end
def gStarT (K : PySem.W.Frag) (t : TGs) : TG := fun v σ H Q => ∃ a x r, v = .ref a ∧ SqT K H a (x :: r) ∧ ∀ D, H D = none → t [x, .ref D] σ (upd H D (.lst r)) Q
theorem pg_starT {X : Cx} {es : List Expr} {k : Nat} {t : TGs} {pos : Pos} (hc : X.calm = true) (h : PGs X es t) (hn : (assignEach es X.env).length = 2 := by rfl) (hst : (assignEach es X.env).findIdx? (·.1) = some 1 := by rfl) : PG X (.Tuple es k pos) (gStarT X.K t) := by
  refine ⟨fun pins s σ H v u Q I r hw => ?_⟩
  obtain ⟨a, x, rs, e1, hq, hw⟩ := hw
  subst e1
  cases r
  obtain ⟨its, rv, ht, hz⟩ := I.tuple hq
  cases rv with
  | @cons _ u _ us rx rr =>
    rw [assign_Tuple]
    refine wpAny_bind (wpAny_standAt ?_)
    unfold unpack
    rw [hn, hst]
    have hz' : us.length < sizeLine := by
      have e := rr.length
      simp at hz
      omega
    refine wpAny_bind (wpAny_holding (unpack_star (u := u) (us := us) ht (I.ok.hd hc) rfl hz' fun h₂ tk hk => ?_))
    have I1 : Inv X pins σ H { s with heap := h₂, toks := tk } := I.kept hk
    have I2 := I1.lnew (t' := tk) rr (by rw [rr.length]; omega)
    exact h.run pins _ σ _ [x, .ref h₂.objs.size] _ Q I2 (.cons rx (.cons (show RelV (.ref h₂.objs.size) (.ref h₂.objs.size) from rfl) .nil)) (hw _ I1.fresh)
theorem pgs_star {X : Cx} {e : Expr} {es : List Expr} {t : TG} {u : TGs} {p : Pos} (h1 : PG X e t) (h2 : PGs X es u) (hs : (assignEach (.Starred e p :: es) X.env).map (·.2) = assign e X.env :: (assignEach es X.env).map (·.2) := by rfl) : PGs X (.Starred e p :: es) (gCons t u) := by
  refine ⟨fun pins s σ H vs us Q I r h => ?_⟩
  obtain ⟨v, vr, rfl, h⟩ := h
  cases r with
  | cons r rr =>
    rw [hs]
    exact assignInOrder_cons (thn (h1.run pins s σ H _ _ _ I r h) fun _ s1 ⟨σ1, H1, I1, q1⟩ => h2.run pins s1 σ1 H1 _ _ Q I1 rr q1)
theorem rd_gStarT {K : PySem.W.Frag} {t : TGs} {a : Addr} {x : V} {r : List V} {σ : L2.St} {H : Hp} {Q : L2.St → Hp → Prop} (h : SqT K H a (x :: r)) (q : ∀ D H', H D = none → Same H H' → H' D = some (.lst r) → t [x, .ref D] σ H' Q) : gStarT K t (.ref a) σ H Q := ⟨a, x, r, rfl, h, fun D hD => q D _ hD (same_new hD) upd_same⟩
/-! ### readings -/
theorem u0 {gd : Bool} {k : Nat} {A : Around} (hr : RoomG gd k A) : A.units < cLine := Nat.lt_of_le_of_lt (Nat.le_add_right _ _) hr.units
section
variable {K : PySem.W.Frag} {σ : L2.St} {H : Hp} {D : Ends} {te : TE} {t : List V → TS} {a : Addr} {xs : List V} {tr : List V → TS} {tb : TS} {gs : TGs} {ta : TA} {i j n : Nat}
theorem if_t {c : Bool} {A B : Prop} (h : c = true) (q : A) : if c = true then A else B := by rw [if_pos h]; exact q
theorem if_f {c : Bool} {A B : Prop} (h : c = false) (q : B) : if c = true then A else B := by rw [if_neg (by rw [h]; decide)]; exact q
def rMt (K : PySem.W.Frag) (t : List V → TS) (D : Ends) (σ : L2.St) (x : V) (H : Hp) : Prop := ∃ a xs, x = .ref a ∧ SqT K H a xs ∧ t xs D σ H
theorem rd_tMatch (q : te σ H fun x H1 => rMt K t D σ x H1) : tMatch K te t D σ H := q
theorem rd_mt (h : SqT K H a xs) (q : t xs D σ H) : rMt K t D σ (.ref a) H := ⟨a, xs, rfl, h, q⟩
theorem rd_case1 (h : xs.length = n) (q : gs xs σ H fun σ' H' => tb D σ' H') : tCaseN n gs tb tr xs D σ H := .inl ⟨h, q⟩
theorem rd_case0 (h : xs.length ≠ n) (q : tr xs D σ H) : tCaseN n gs tb tr xs D σ H := .inr ⟨h, q⟩
def rPar (i j : Nat) (D : Ends) (σ : L2.St) (vs : List V) (H : Hp) : Prop := ∃ v w, vs = [v, w] ∧ D.nx ((σ.set i (some v)).set j (some w)) H
theorem rd_tPar (q : ta σ H fun vs H1 => rPar i j D σ vs H1) : tPar i j ta D σ H := q
theorem rd_par {v w : V} (q : D.nx ((σ.set i (some v)).set j (some w)) H) : rPar i j D σ [v, w] H := ⟨v, w, rfl, q⟩
theorem rd_dnew {Q : VK} (q : ∀ p H', H p = none → Same H H' → H' p = some (.dK []) → Q (.ref p) H') : tDNewK σ H Q := fun p hp => q p _ hp (same_new hp) upd_same
theorem rd_rep {Q : VK} {l : Addr} {k : Int} (h : H l = some (.lst xs)) (h0 : 0 ≤ k) (h1 : k < 1000) (hz : xs.length ≤ 1000) (q : ∀ p H', H p = none → Same H H' → H' p = some (.lst (List.replicate k.toNat xs).flatten) → Q (.ref p) H') : rRep (.ref l) (.int k) H Q := by
  refine ⟨l, k, xs, rfl, rfl, h, by omega, by omega, ?_, fun p hp => q p _ hp (same_new hp) upd_same⟩
  have h2 : k.toNat ≤ 1000 := by omega
  exact Nat.le_trans (Nat.mul_le_mul hz h2) (by decide)
theorem rd_slL {Q : VK} {lo hi : Option Int} (h : SqL K H a xs) (q : ∀ p H', H p = none → Same H H' → H' p = some (.lst (cutV xs lo hi)) → Q (.ref p) H') : rSlL K (.ref a) lo hi H Q := ⟨a, xs, rfl, h, fun p hp => q p _ hp (same_new hp) upd_same⟩
end
/-! ### tuples compared -/
def ltV : V → V → Bool
  | .int a, .int b => decide (a < b)
  | _, _ => false
def lexLt : List V → List V → Bool
  | [], [] => false
  | [], _ :: _ => true
  | _ :: _, [] => false
  | x :: xs, y :: ys => if x = y then lexLt xs ys else ltV x y
/-- two items: both numbers, or the same text -/
def Cmp2 (x y : V) : Prop := (∃ a b, x = .int a ∧ y = .int b) ∨ ∃ z, x = .str z ∧ y = .str z
theorem lex_of : ∀ (xs ys : List V) (i : Nat) (e r : Nat → Bool), (∀ j x y, xs[j]? = some x → ys[j]? = some y → e (i + j) = decide (x = y) ∧ (x ≠ y → r (i + j) = ltV x y)) →
    Ob.lexAt e r (decide (xs.length < ys.length)) i (min xs.length ys.length) = lexLt xs ys
  | [], [], _, _, _, _ => rfl
  | [], _ :: _, _, _, _, _ => by simp [Ob.lexAt_zero, lexLt]
  | _ :: _, [], _, _, _, _ => by simp [Ob.lexAt_zero, lexLt]
  | x :: xs, y :: ys, i, e, r, h => by
    have h0 := h 0 x y rfl rfl
    rw [Nat.add_zero] at h0
    have ih := lex_of xs ys (i + 1) e r fun j x' y' e1 e2 => by
      have := h (j + 1) x' y' e1 e2
      rwa [show i + (j + 1) = i + 1 + j by omega] at this
    have em : min (x :: xs).length (y :: ys).length = min xs.length ys.length + 1 := by simp only [List.length_cons]; omega
    have ed : decide ((x :: xs).length < (y :: ys).length) = decide (xs.length < ys.length) := by simp
    rw [em, Ob.lexAt_succ, ed, h0.1]
    unfold lexLt
    by_cases q : x = y
    · rw [if_pos (by simp [q]), if_pos q]; exact ih
    · rw [if_neg (by simp [q]), if_neg q]; exact h0.2 q
def rLtT (K : PySem.W.Frag) (up : Bool) : R2 := fun x y H Q => ∃ (a b : Addr) (xs ys : List V), x = .ref a ∧ y = .ref b ∧ SqT K H a xs ∧ SqT K H b ys ∧ (∀ (j : Nat) (x y : V), xs[j]? = some x → ys[j]? = some y → Cmp2 x y) ∧ Q (.bl (if up then lexLt ys xs else lexLt xs ys)) H
theorem vals_at : ∀ {xs : List V} {us : List Value}, Vals xs us → ∀ {j : Nat} {x : V} {u : Value}, xs[j]? = some x → us[j]? = some u → RelV x u
  | _, _, .nil, j, x, u, e, _ => by simp at e
  | _, _, .cons r rr, 0, x, u, e1, e2 => by cases e1; cases e2; exact r
  | _, _, .cons r rr, j + 1, x, u, e1, e2 => vals_at rr e1 e2
section
variable {X : Cx}
theorem eqAt_of {A : Around} {s : Shared} {x y : V} {u v : Value} (c : Cmp2 x y) (r1 : RelV x u) (r2 : RelV y v) : SeqAt.EqAt A s u v (decide (x = y)) := by
  rcases c with ⟨a, b, rfl, rfl⟩ | ⟨z, rfl, rfl⟩
  · obtain ⟨t, rfl⟩ := r1
    obtain ⟨t', rfl⟩ := r2
    have z : (a == b) = decide (V.int a = V.int b) := by
      by_cases q : a = b
      · subst q; simp
      · have : V.int a ≠ V.int b := fun e => q (by injection e)
        simp [q]
    rw [← z]
    exact SeqAt.EqAt.int_int _ _ _ _
  · obtain ⟨t, rfl⟩ := r1
    obtain ⟨t', rfl⟩ := r2
    have z' : (z == z) = decide (V.str z = V.str z) := by simp
    rw [← z']
    exact SeqAt.EqAt.str_str _ _ _ _
theorem op_ltT (hu : X.A.units < cLine) : OpR X (compareOp .Lt) (rLtT X.K false) := by
  intro pins s σ H x y v u Q I rx ry h
  obtain ⟨a, b, xs, ys, rfl, rfl, ha, hb, hc, q⟩ := h
  cases rx
  cases ry
  obtain ⟨its, r1, p1, _⟩ := I.tuple ha
  obtain ⟨its2, r2, p2, _⟩ := I.tuple hb
  have l1 := r1.length
  have l2 := r2.length
  let e : Nat → Bool := fun j => decide (xs[j]? = ys[j]?)
  let r : Nat → Bool := fun j => match xs[j]?, ys[j]? with | some x, some y => ltV x y | _, _ => false
  have R := Ob.RcOp.tuples_lt (A := X.A) (s := s) (e := e) (r := r) p1 p2 hu (fun j h1 h2 => by
    simp at h1 h2
    have x1 : j < xs.length := by omega
    have x2 : j < ys.length := by omega
    have e1 := List.getElem?_eq_getElem x1
    have e2 := List.getElem?_eq_getElem x2
    have ee : e j = decide (xs[j] = ys[j]) := by show decide (xs[j]? = ys[j]?) = _; rw [e1, e2]; simp
    rw [ee]
    exact eqAt_of (hc j _ _ e1 e2) (vals_at r1 e1 (by simp [h1])) (vals_at r2 e2 (by simp [h2]))) (fun j h1 h2 hf => by
    simp at h1 h2
    have x1 : j < xs.length := by omega
    have x2 : j < ys.length := by omega
    have e1 := List.getElem?_eq_getElem x1
    have e2 := List.getElem?_eq_getElem x2
    have er : r j = ltV xs[j] ys[j] := by show (match xs[j]?, ys[j]? with | some x, some y => ltV x y | _, _ => false) = _; rw [e1, e2]
    have ne : xs[j] ≠ ys[j] := fun z => by
      have : e j = true := by show decide (xs[j]? = ys[j]?) = true; rw [e1, e2, z]; simp
      rw [this] at hf; cases hf
    rw [er]
    have v1 := vals_at r1 e1 (u := its[j]) (by simp [h1])
    have v2 := vals_at r2 e2 (u := its2[j]) (by simp [h2])
    rcases hc j _ _ e1 e2 with ⟨m, n, z1, z2⟩ | ⟨z, z1, z2⟩
    · rw [z1] at v1; rw [z2] at v2
      obtain ⟨t, t1⟩ := v1
      obtain ⟨t', t2⟩ := v2
      rw [z1, z2]
      simp only [List.getElem_toArray]
      rw [t1, t2]
      exact Ob.RcOp.lt_int _ _ _ _
    · exact absurd (z1.trans z2.symm) ne)
  have lz : Ob.lexAt e r (decide (its.toArray.size < its2.toArray.size)) 0 (min its.toArray.size its2.toArray.size) = lexLt xs ys := by
    rw [List.size_toArray, List.size_toArray, ← l1, ← l2]
    refine lex_of xs ys 0 e r fun j x y e1 e2 => ?_
    rw [Nat.zero_add]
    refine ⟨by show decide (xs[j]? = ys[j]?) = _; rw [e1, e2]; simp, fun _ => ?_⟩
    show (match xs[j]?, ys[j]? with | some x, some y => ltV x y | _, _ => false) = _
    rw [e1, e2]
  rw [lz] at R
  exact R X.prog X.w X.xe (EP X pins σ Q) ⟨.bl _, H, I, rfl, q⟩
theorem op_gtT (hu : X.A.units < cLine) : OpR X (compareOp .Gt) (rLtT X.K true) := by
  intro pins s σ H x y v u Q I rx ry h
  obtain ⟨a, b, xs, ys, rfl, rfl, ha, hb, hc, q⟩ := h
  cases rx
  cases ry
  obtain ⟨its, r1, p1, _⟩ := I.tuple ha
  obtain ⟨its2, r2, p2, _⟩ := I.tuple hb
  have l1 := r1.length
  have l2 := r2.length
  let e : Nat → Bool := fun j => decide (xs[j]? = ys[j]?)
  let r : Nat → Bool := fun j => match xs[j]?, ys[j]? with | some x, some y => ltV y x | _, _ => false
  have R := Ob.RcOp.tuples_gt (A := X.A) (s := s) (e := e) (r := r) p1 p2 hu (fun j h1 h2 => by
    simp at h1 h2
    have x1 : j < xs.length := by omega
    have x2 : j < ys.length := by omega
    have e1 := List.getElem?_eq_getElem x1
    have e2 := List.getElem?_eq_getElem x2
    have ee : e j = decide (xs[j] = ys[j]) := by show decide (xs[j]? = ys[j]?) = _; rw [e1, e2]; simp
    rw [ee]
    exact eqAt_of (hc j _ _ e1 e2) (vals_at r1 e1 (by simp [h1])) (vals_at r2 e2 (by simp [h2]))) (fun j h1 h2 hf => by
    simp at h1 h2
    have x1 : j < xs.length := by omega
    have x2 : j < ys.length := by omega
    have e1 := List.getElem?_eq_getElem x1
    have e2 := List.getElem?_eq_getElem x2
    have er : r j = ltV ys[j] xs[j] := by show (match xs[j]?, ys[j]? with | some x, some y => ltV y x | _, _ => false) = _; rw [e1, e2]
    have ne : xs[j] ≠ ys[j] := fun z => by
      have : e j = true := by show decide (xs[j]? = ys[j]?) = true; rw [e1, e2, z]; simp
      rw [this] at hf; cases hf
    rw [er]
    have v1 := vals_at r1 e1 (u := its[j]) (by simp [h1])
    have v2 := vals_at r2 e2 (u := its2[j]) (by simp [h2])
    rcases hc j _ _ e1 e2 with ⟨m, n, z1, z2⟩ | ⟨z, z1, z2⟩
    · rw [z1] at v1; rw [z2] at v2
      obtain ⟨t, t1⟩ := v1
      obtain ⟨t', t2⟩ := v2
      rw [z1, z2]
      simp only [List.getElem_toArray]
      rw [t1, t2]
      exact Ob.RcOp.gt_int _ _ _ _
    · exact absurd (z1.trans z2.symm) ne)
  have lz : Ob.lexAt e r (decide (its.toArray.size > its2.toArray.size)) 0 (min its.toArray.size its2.toArray.size) = lexLt ys xs := by
    rw [List.size_toArray, List.size_toArray, ← l1, ← l2, Nat.min_comm]
    refine lex_of ys xs 0 e r fun j x y e1 e2 => ?_
    rw [Nat.zero_add]
    refine ⟨?_, fun _ => ?_⟩
    · show decide (xs[j]? = ys[j]?) = _
      rw [e1, e2]
      by_cases q : x = y
      · simp [q]
      · have q' : ¬ y = x := fun z => q z.symm
        simp [q, q']
    · show (match xs[j]?, ys[j]? with | some x, some y => ltV y x | _, _ => false) = _
      rw [e1, e2]
  rw [lz] at R
  exact R X.prog X.w X.xe (EP X pins σ Q) ⟨.bl _, H, I, rfl, q⟩
end
theorem rd_ltT {K : PySem.W.Frag} {H : Hp} {Q : VK} {a b : Addr} {xs ys : List V} (ha : SqT K H a xs) (hb : SqT K H b ys) (hc : ∀ (j : Nat) (x y : V), xs[j]? = some x → ys[j]? = some y → Cmp2 x y) (q : Q (.bl (lexLt xs ys)) H) : rLtT K false (.ref a) (.ref b) H Q := ⟨a, b, xs, ys, rfl, rfl, ha, hb, hc, q⟩
theorem rd_gtT {K : PySem.W.Frag} {H : Hp} {Q : VK} {a b : Addr} {xs ys : List V} (ha : SqT K H a xs) (hb : SqT K H b ys) (hc : ∀ (j : Nat) (x y : V), xs[j]? = some x → ys[j]? = some y → Cmp2 x y) (q : Q (.bl (lexLt ys xs)) H) : rLtT K true (.ref a) (.ref b) H Q := ⟨a, b, xs, ys, rfl, rfl, ha, hb, hc, q⟩
end Rd
set_option Elab.async false
set_option linter.all false
set_option maxRecDepth 100000
set_option maxHeartbeats 4000000
/-! Ro: except clauses up to the one that takes, a def that tells the error of a lambda, the end with tables of code objects. -/
namespace Rd
open PySem PySem.Spec PyProof.Rows L2
/-! ### except clauses: those behind the last one that is told are never looked at -/
inductive HdsTo (X : Cx) : List ExceptHandler → List (Value × (Addr → Value → Option Addr → TS)) → Prop
  | rest {hds : List ExceptHandler} : HdsTo X hds []
  | next {x : Str} {c : Value} {ts : Addr → Value → Option Addr → TS} {b₀ : Stmt} {suite : List Stmt} {np hp : Pos} {hds : List ExceptHandler} {l : List (Value × (Addr → Value → Option Addr → TS))} (hc : Names X x c)
      (su : ∀ (a : Addr) (oe : Obj) (cls : Value) (d : Option Addr) (pn : List (Addr × Obj)), PSs (X.suite a ((a, oe) :: pn)) (b₀ :: suite) (ts a cls d)) (r : HdsTo X hds l) :
      HdsTo X (.ExceptHandler (some (.Name x np)) none (b₀ :: suite) hp :: hds) ((c, ts) :: l)
abbrev wTo (K : PySem.W.Frag) (D : Ends) (l : List (Value × (Addr → Value → Option Addr → TS))) : WX := wMany K (fun _ _ _ _ => False) D l
section
variable {X : Cx} {body : List Stmt} {h₀ : ExceptHandler} {hds : List ExceptHandler} {l : List (Value × (Addr → Value → Option Addr → TS))} {pos : Pos} {tb : WX → TS}
theorem ps_tryTo (hs : X.stack = X.env :: X.outer) (hf : X.env.frame = some X.env.locals)
    (hb : ∀ (W : WX) (pn : List (Addr × Obj)) (xe : Value → Shared → Prop), Takes (X.tr pn xe) W → PSs (X.tr pn xe) body (tb W)) (hh : HdsTo X (h₀ :: hds) l) :
    PS X (.Try body (h₀ :: hds) [] [] pos) (fun D σ H => tb (wTo X.K D l) D σ H) := by
  refine ⟨fun pins s σ H D I h => ?_⟩
  have ok := I.ok
  have frames : X.A.frames = some (X.env :: X.outer) := by rw [ok.frames, hs]
  -- what the clauses do with e
  let go : Value → Shared → Prop := fun e z => wpAny (model X.prog X.w) X.A (noteFrame e X.env) (fun _ z₂ => wpAny (model X.prog X.w) X.A (setFlight e none) (fun _ z₃ => wpAny (model X.prog X.w) X.A (handleBy e X.env (h₀ :: hds)) (SP X pins D) X.xe z₃) X.xe z₂) X.xe z
  have tk : Takes (X.tr (X.pn ++ pins) go) (wTo X.K D l) := by
    intro u s' xx
    obtain ⟨a, B, sI, pins', σ', H', cls, d, rfl, J', nb, up, sky, na, os, ag, wish⟩ := xx
    have J : Inv X pins σ' H' sI := J'.ofTry ok
    refine Sky.land Zc.steady frames hf (show Sky B (X.env :: X.outer) a (Zc cls d) X.env.locals s'.heap by rw [← hs]; exact sky) fun h3 fl3 up3 => ?_
    have J3 : Inv X pins σ' H' { s' with heap := h3 } := J.landed nb fl3.1 (up.trans up3) os ag
    obtain ⟨oe3, vs3, he3, hz3, hd3⟩ := fl3.there
    have nfr : a ∉ frs (X.env :: X.outer) := fun hm => by
      obtain ⟨_, o', e', hnf⟩ := fl3.2.2.1.mem hm
      obtain rfl : oe3 = o' := Option.some.inj (he3.symm.trans e')
      exact hnf _ hd3
    have nL : a ≠ X.env.locals := fun z => nfr (List.mem_filterMap.mpr ⟨X.env, List.mem_cons_self, by rw [hf, z]⟩)
    have nF : a ∉ X.fs := fun hm => by
      obtain ⟨e, he, q⟩ := List.mem_filterMap.mp hm
      exact nfr (List.mem_filterMap.mpr ⟨e, List.mem_cons_of_mem _ he, q⟩)
    have S3 := J3.suite he3 hd3 na nL nF
    suffices all : ∀ {hds' : List ExceptHandler} {l' : List (Value × (Addr → Value → Option Addr → TS))}, HdsTo X hds' l' → wTo X.K D l' cls d σ' H' → wpAny (model X.prog X.w) X.A (handleBy (.ref a) X.env hds') (SP X pins D) X.xe { s' with heap := h3 } from all hh wish
    intro hds' l' hk
    induction hk with
    | rest => intro z; exact False.elim z
    | @next x c ts b₀ suite np hp hds2 l2 hc su r ih =>
      rintro ⟨b, hb1, yes, no⟩
      refine wpAny_handleBy_cons (codeAny_handlers_test ?_) (by intro q; cases q)
      have isC : PySem.W.Looks (model X.prog X.w) h3 (typeOf (.ref a)) cls := fun A Q E s k q => wpAny_typeOf_ref (k _ _ he3) (by rw [hz3.1]; exact q)
      have isM := PySem.W.exm_one (M := model X.prog X.w) J3.kIn isC hb1
      have name : ∀ {Q : Value → Shared → Prop} {E : Value → Shared → Prop}, Q c { s' with heap := h3 } → wpAny (model X.prog X.w) (X.A.mark (some (.ref a))) (eval (.Name x np) X.env) Q E { s' with heap := h3 } := by
        intro Q E q
        obtain ⟨hg, hdbg, hm | ⟨hm, hv, hnn⟩⟩ := hc
        · exact ld_glob (X := X.suite a ((a, oe3) :: (X.pn ++ pins))) S3 hg hm q hdbg
        · exact ld_blt (X := X.suite a ((a, oe3) :: (X.pn ++ pins))) S3 hg hm hv q hnn hdbg
      refine name (isM.here ?_)
      cases b with
      | false => exact ih (no rfl)
      | true =>
        refine codeAny_handlers_suite (HandSPX.lands_againZ fl3 fun h4 fl4 up4 => ?_)
        have J4 : Inv X pins σ' H' { s' with heap := h4 } := J.landed nb fl4.1 ((up.trans up3).trans up4) os ag
        obtain ⟨oe4, vs4, he4, hz4, hd4⟩ := fl4.there
        refine wpAny_mono ((su a oe4 cls d (X.pn ++ pins)).run [] _ _ H' _ (J4.suite he4 hd4 na nL nF) (yes rfl a na)) (fun f s6 hsp => ?_) (fun _ _ z => False.elim z)
        match f, hsp with
        | .next, ⟨σ6, H6, S6, q6⟩ => exact ⟨σ6, H6, S6.unsuite ok, q6⟩
        | .brk, ⟨σ6, H6, S6, q6⟩ => exact ⟨σ6, H6, S6.unsuite ok, q6⟩
        | .cont, ⟨σ6, H6, S6, q6⟩ => exact ⟨σ6, H6, S6.unsuite ok, q6⟩
        | .ret u, ⟨v6, σ6, H6, S6, r6, q6⟩ => exact ⟨v6, σ6, H6, S6.unsuite ok, r6, q6⟩
  refine wpAny_Try_except (wpAny_mono ((hb (wTo X.K D l) (X.pn ++ pins) go tk).run [] s σ H D (I.toTry _) h) (fun f s1 hsp => ?_) (fun e s1 he => he))
  match f, hsp with
  | .next, ⟨σ', H', J', q⟩ => exact wpAny_execs_nil ⟨σ', H', J'.ofTry ok, q⟩
  | .brk, ⟨σ', H', J', q⟩ => exact ⟨σ', H', J'.ofTry ok, q⟩
  | .cont, ⟨σ', H', J', q⟩ => exact ⟨σ', H', J'.ofTry ok, q⟩
  | .ret u, ⟨v, σ', H', J', r, q⟩ => exact ⟨v, σ', H', J'.ofTry ok, r, q⟩
end
/-! ### a def that tells the error of what it got -/
/-- told: try: a() / except C1: return r1 / except C2: return r2 / .. / return r0, of a call that lets out nothing but a C2 that is no C1 -/
def TErr (C2 : Value) (r2 r0 : Str) : (XK → Hp → VK → Prop) → Hp → VK → Prop := fun tl H Q => tl (fun cls _ H' => cls = C2 ∧ Q (.str r2) H') H fun _ H' => Q (.str r0) H'
section
variable {X : Cx}
theorem err_gives {Ng : List Str} {x a e1 e2 q r0 r1 r2 : Str} {sg : Scope} {g : Addr} {C1 C2 cdg : Value} {j1 j2 j0 : Nat} {hds : List ExceptHandler} {p1 p2 p3 p4 p5 p6 p7 p8 p9 p10 p11 p12 p13 p14 : Pos} (g1 : sg.names.lookup e1 = some .globalImplicit) (g2 : sg.names.lookup e2 = some .globalImplicit) (m1 : X.mg e1 = some C1) (m2 : X.mg e2 = some C2)
    (d1 : (e1 == ("__debug__" : Str)) = false) (d2 : (e2 == ("__debug__" : Str)) = false) (x1 : PySem.W.exmOne X.K C2 C1 = some false) (x2 : PySem.W.exmOne X.K C2 C2 = some true) (h0 : ∀ f : Addr, (L2.start Ng [V.ref f])[0]? = some (some (V.ref f))) :
    LamX.GivesTo X Ng x sg g cdg [.Try [.Expr (.Call (.Name a p1) [] [] p2) p3] (.ExceptHandler (some (.Name e1 p4)) none [.Return (some (.Constant (.str r1) j1 p5)) p6] p7 :: .ExceptHandler (some (.Name e2 p8)) none [.Return (some (.Constant (.str r2) j2 p9)) p10] p11 :: hds) [] [] p12, .Return (some (.Constant (.str r0) j0 p13)) p14] a q (TErr C2 r2 r0) := by
  intro f c' s H Q tl act hc h
  have l1 : Gl (cxOf C8.CX0 X.prog X.w X.K X.mg X.base Ng x sg g cdg X.A X.stack s H C8.E0).nox e1 := g1
  have l2 : Gl (cxOf C8.CX0 X.prog X.w X.K X.mg X.base Ng x sg g cdg X.A X.stack s H C8.E0).nox e2 := g2
  refine ⟨_, pss_cons (ps_tryTo (X := (cxOf C8.CX0 X.prog X.w X.K X.mg X.base Ng x sg g cdg X.A X.stack s H C8.E0).nox) (l := [(C1, fun _ _ _ => tRet (tC (.str r1))), (C2, fun _ _ _ => tRet (tC (.str r2)))])
      (tb := fun W D σ H => ∃ Ech : XK, (∀ cls d σ' H', Ech cls d H' → W cls d σ' H') ∧ σ[0]? = some (some (.ref f)) ∧ H c' = some (LamX.CodeO c' q) ∧ tl Ech H fun _ H' => D.nx σ H')
      rfl rfl (fun W pn xe tk => ?_) (.next ⟨l1, d1, .inl m1⟩ (fun a oe cls d pn => pss_one (ps_ret pe_str)) (.next ⟨l2, d2, .inl m2⟩ (fun a oe cls d pn => pss_one (ps_ret pe_str)) .rest))) (pss_one (ps_ret pe_str)), ?_⟩
  · refine ⟨fun pins s' σ H' D I h' => ?_⟩
    obtain ⟨Ech, hW, h1, h2, h3⟩ := h'
    exact (pss_one (ps_expr (pos := p3) (act W pn xe Ech p1 p2 tk hW))).run pins s' σ H' D I ⟨h1, h2, h3⟩
  · refine ⟨fun cls _ H' => cls = C2 ∧ Q (.str r2) H', fun cls d σ' H' ⟨ec, hq⟩ => ?_, h0 f, hc, h⟩
    subst ec
    exact ⟨false, x1, (fun z => nomatch z), fun _ => ⟨true, x2, fun _ _ _ => hq, fun z => nomatch z⟩⟩
end
theorem rd_lam {T : List (Addr × Str)} {TT : (XK → Hp → VK → Prop) → Hp → VK → Prop} {t : XK → TE} {σ : L2.St} {H : Hp} {Q : VK} (hT : LamX.Tabs T H) (q : ∀ H1, LamX.ExtN H H1 → LamX.Tabs T H1 → TT (fun E H' Q' => t E σ H' Q') H1 Q) : LamX.tLam T TT t σ H Q := ⟨hT, q⟩
theorem rd_err {T : List (Addr × Str)} {C2 : Value} {r2 r0 : Str} {t : XK → TE} {σ : L2.St} {H : Hp} {Q : VK} (hT : LamX.Tabs T H) (q : ∀ H1, LamX.ExtN H H1 → LamX.Tabs T H1 → t (fun cls _ H' => cls = C2 ∧ Q (.str r2) H') σ H1 fun _ H' => Q (.str r0) H') : LamX.tLam T (TErr C2 r2 r0) t σ H Q := ⟨hT, q⟩
/-! ### tables stay -/
theorem tabs_same {T : List (Addr × Str)} {H H' : Hp} (h : LamX.Tabs T H) (s : Same H H') : LamX.Tabs T H' := h.ext s
theorem extN_same {H H' : Hp} (s : Same H H') : LamX.ExtN H H' := LamX.ExtN.of s
theorem sqT_N {K : PySem.W.Frag} {H H' : Hp} {a : Addr} {xs : List V} (e : LamX.ExtN H H') (h : SqT K H a xs) : SqT K H' a xs := by
  rcases h with (h | ⟨o, h⟩) | h
  · exact .inl (.inl (e _ _ h fun ps z => by cases z))
  · exact .inl (.inr ⟨o, e _ _ h fun ps z => by cases z⟩)
  · exact .inr h
theorem sqL_N {K : PySem.W.Frag} {H H' : Hp} {a : Addr} {xs : List V} (e : LamX.ExtN H H') (h : SqL K H a xs) : SqL K H' a xs := by
  rcases h with (h | ⟨o, h⟩) | h
  · exact .inl (.inl (e _ _ h fun ps z => by cases z))
  · exact .inl (.inr ⟨o, e _ _ h fun ps z => by cases z⟩)
  · exact .inr h
/-- a list of one's own is written -/
theorem tabs_keep {T : List (Addr × Str)} {H H' : Hp} {p : Addr} {xs : List V} (h : LamX.Tabs T H) (hp : H p = some (.lst xs)) (k : ∀ b o, b ≠ p → H b = some o → H' b = some o) : LamX.Tabs T H' := by
  intro z hz
  obtain ⟨ps, h1, h2, h3⟩ := h z hz
  refine ⟨ps, k _ _ (ne_of h1 hp (by intro q; cases q)) h1, h2, fun pos cv hc => ?_⟩
  obtain ⟨c, e1, e2⟩ := h3 pos cv hc
  exact ⟨c, e1, k _ _ (ne_of e2 hp (by unfold LamX.CodeO; intro q; cases q)) e2⟩
/-! ### the end -/
section
variable {P : Program} {w : World} {K : PySem.W.Frag} {mg mb : Str → Option Value} {CX : CXT} {k : Nat} {fa a : Addr} {sp : Sp} {s₁ : Shared} {vs : List Value} {ns : List Int} {cs : List (Addr × Addr)}
abbrev tab0 : Obj := { cls := .none, data := .fields #[] }
/-- the law is called; its script at a and the tables of code objects, all empty, may be tracked -/
theorem law_atT (H : Hp) (KX : K.In s₁.heap) (hns : s₁.heap.Ns mainGlobals mg) (hb : s₁.heap.Ns builtinsNs mb) (hbb : ∀ x : Str, x ≠ "__name__" → mb x = bootBuiltins x) (hlim : s₁.heap.NoLimit) (hg : s₁.gens = #[])
    (hT : ∀ p ∈ cs, s₁.heap.get? p.2 = some tab0 ∧ K.lookup p.2 = none ∧ PySem.W.CodeHd s₁.heap p.1 p.2)
    (hbm : ∃ (bm : Addr) (ob : Obj), mg "__builtins__" = some (.ref bm) ∧ bm ≠ builtinsNs ∧ s₁.heap.get? bm = some ob ∧ ob.cls = .type "module" ∧ ob.dict = some builtinsNs ∧ ob.data = .plain)
    (ha : s₁.heap.get? a = some { cls := .type "list", data := .seq vs.toArray }) (hr : RoomG true k callerA) (F : ∀ base : Heap, (∀ p ∈ cs, LamX.TabB base mg p.1 p.2) → FnG true P w K mg base CX k fa sp) (hok : HOk P w H s₁.heap)
    (only : ∀ b, H b ≠ none → (b = a ∧ K.lookup a = none ∧ ∃ o xs, H b = some (.frz o (.lst xs))) ∨ (∃ p ∈ cs, b = p.2 ∧ H b = some (.tbl #[]))) (hsp : sp [.ref a] H (fun v _ => v = .bl true) fun _ _ _ => False) (hCX : ∀ e s', ¬ CX [] H s₁ (fun _ _ _ => False) e s') :
    codeAny (model P w) callerA (.call (.ref fa) ⟨[.ref a], []⟩) (fun r s' => r = .ok (.ret (.bool true)) ∧ OldK s₁.heap s'.heap ∧ s'.os = s₁.os ∧ AllBare s'.gens) s₁ := by
  -- what is neither a list nor an empty record is not tracked
  have free : ∀ {b o}, s₁.heap.get? b = some o → (∀ us n, o.data ≠ .seq us n) → o.data ≠ .fields #[] → H b = none := by
    intro b o e d1 d2
    refine Classical.byContradiction fun n => ?_
    rcases only b n with ⟨rfl, _⟩ | ⟨p, hp, rfl, _⟩
    · obtain rfl := Option.some.inj (ha.symm.trans e)
      exact d1 _ _ rfl
    · obtain rfl := Option.some.inj ((hT p hp).1.symm.trans e)
      exact d2 rfl
  have names : ∀ {b m}, s₁.heap.Ns b m → (hidT s₁.heap H).Ns b m := by
    rintro b m ⟨o, es, ep, e, d, r⟩
    exact ⟨o, es, ep, hidT_get e (free e (fun us n z => nomatch d.symm.trans z) fun z => nomatch d.symm.trans z), d, r⟩
  have kin : K.In (hidT s₁.heap H) := by
    intro b o e
    refine hidT_get (KX b o e) (Classical.byContradiction fun n => ?_)
    rcases only b n with ⟨rfl, hk, _⟩ | ⟨p, hp, rfl, _⟩
    · exact nomatch hk.symm.trans e
    · exact nomatch (hT p hp).2.1.symm.trans e
  obtain ⟨mc, lim1, lim2⟩ := hlim
  have md : Mod K mg (hidT s₁.heap H) := ⟨kin, names hns, ⟨mb, names hb, hbb⟩, mc, names lim1, lim2⟩
  have env : Env0 P w K mg (hidT s₁.heap H) callerA [] s₁ H :=
    { frames := rfl, mod := md, bs := fun b o e => of_hidT e, bsz := Nat.le_of_eq (hidT_size _ _), funs := trivial, frf := fun b hb => absurd (show b ∈ ([] : List Addr) from hb) (by simp), hok := hok, bare := .of_eq hg }
  have TB : ∀ p ∈ cs, LamX.TabB (hidT s₁.heap H) mg p.1 p.2 := by
    intro p hp
    obtain ⟨t1, t2, o, us, file, tf, flags, tg, inF, text, tt, e1, r1, r2, rs⟩ := hT p hp
    obtain ⟨bm, ob, b1, b2, b3, b4, b5, b6⟩ := hbm
    refine ⟨⟨o, us, file, tf, flags, tg, inF, text, tt, hidT_get e1 (free e1 (fun us n z => nomatch r2.symm.trans z) fun z => ?_), r1, r2, rs⟩, ⟨bm, ob, b1, b2, fun q => ?_, fun q => ?_, hidT_get b3 (free b3 (fun us n z => nomatch b6.symm.trans z) fun z => nomatch b6.symm.trans z), b4, b5, b6⟩, fun z => ?_⟩
    · have z' : us = #[] := by have := r2.symm.trans z; injection this
      have r3 := rs.1
      rw [z'] at r3
      simp at r3
    · obtain ⟨o', es, ep, e, d, _⟩ := hns
      rw [← q] at e
      obtain rfl := Option.some.inj (b3.symm.trans e)
      exact nomatch b6.symm.trans d
    · rw [← q] at t1
      obtain rfl := Option.some.inj (b3.symm.trans t1)
      exact nomatch b6
    · obtain ⟨o', es, ep, e, d, _⟩ := hns
      rw [z] at e
      obtain rfl := Option.some.inj (t1.symm.trans e)
      exact nomatch d
  refine codeAny_mono (F _ TB callerA [] s₁ H [.ref a] [.ref a] _ _ hr env (.cons rfl .nil) hsp) fun r s' h => ?_
  match r, h with
  | .error e, h => exact (hCX e s' h).elim
  | .ok .next, h => exact False.elim h
  | .ok .brk, h => exact False.elim h
  | .ok .cont, h => exact False.elim h
  | .ok (.ret u), h =>
    obtain ⟨v, H', os, bare, un, hok', rv, q⟩ := h
    have qv : v = .bl true := q
    rw [qv] at rv
    obtain rfl : u = Value.bool true := rv
    -- each object: it stays, or it is a table that has grown
    have each : ∀ b o, s₁.heap.get? b = some o → s'.heap.get? b = some o ∨ ∃ p ∈ cs, b = p.2 ∧ ∃ more, s'.heap.get? b = some { cls := .none, data := .fields more } := by
      intro b o e
      by_cases n : H b = none
      · exact .inl (un.keep b o e n (fun z => absurd (show b ∈ ([] : List Addr) from z) (by simp)) (by simp))
      · rcases only b n with ⟨_, _, ob, xs, z⟩ | ⟨p, hp, e2, z⟩
        · obtain ⟨e1, _⟩ := hok b _ z
          obtain ⟨e3, _⟩ := hok' b _ (un.frzs b ob _ z)
          rw [e] at e1
          injection e1 with e1
          rw [e1]
          exact .inl e3
        · obtain ⟨more, z2⟩ := un.tbls b #[] z
          exact .inr ⟨p, hp, e2, _, hok' b _ z2⟩
    refine ⟨rfl, ⟨fun b o e => ?_, fun b o e => ?_⟩, os, bare⟩
    · rcases each b o e with z | ⟨p, hp, e2, more, z⟩
      · exact .inl z
      · obtain ⟨t1, _, C⟩ := hT p hp
        subst e2
        obtain rfl := Option.some.inj (t1.symm.trans e)
        exact .inr (.inl ⟨(C.tab t1).isCodeTable, rfl, #[], more, rfl, by rw [Array.empty_append]; exact z⟩)
    · rcases each b o e with z | ⟨_, _, _, _, z⟩
      · exact ⟨_, z⟩
      · exact ⟨_, z⟩
end
theorem walk_ofT {l : PySem.W.OpenLaw} {n k : Nat} {q : Program} {loose : List Str} {XP : (Str → Option Value) → Heap → Prop} {YP : World → Heap → Prop} {d : DefRec} (hn : l.most = some n) (hn2 : n ≤ sizeLine) (hdf : d.params.defaults = []) (hr : RoomG true k callerA)
    (F : ∀ (w : World) (mg : Str → Option Value) (fa : Addr) (h : Heap), YP w h → h.Ns mainGlobals mg → mg d.name = some (.ref fa) → ∃ (K : PySem.W.Frag) (cs : List (Addr × Addr)) (sp : Sp), K.In h ∧
      (∀ p ∈ cs, h.get? p.2 = some tab0 ∧ K.lookup p.2 = none ∧ PySem.W.CodeHd h p.1 p.2) ∧
      (∀ (H : Hp) (a : Addr) (ns : List Int), ns.length ≤ n → (∀ p ∈ cs, H p.2 = some (.tbl #[])) → SqL K H a (ns.map V.int) → sp [.ref a] H (fun v _ => v = .bl true) fun _ _ _ => False) ∧
      ∀ base : Heap, (∀ p ∈ cs, LamX.TabB base mg p.1 p.2) → FnG true l.prog w K mg base CX0 k fa sp) :
    PySem.W.WalkO q loose XP YP l.row.toRowW d [] (fun f vs => PySem.call f vs) := by
  refine Att.attach_call hn hdf fun w s₀ s₁ mg mb fa o pm cd doc a vs ns G Y ho hd hcd hmg hobj hints hlen hg => ?_
  obtain ⟨K, cs, sp, KX, hT, hsp, hF⟩ := F w mg fa _ Y G.T.g hmg
  have rv := vals_ints hints
  have hl : (ns.map V.int).length ≤ sizeLine := by rw [List.length_map]; exact Nat.le_trans hlen hn2
  have aT : ∀ p ∈ cs, p.2 ≠ a := fun p hp z => by
    have t := (hT p hp).1
    rw [z] at t
    exact nomatch congrArg Obj.data (Option.some.inj (hobj.symm.trans t))
  cases hk : K.lookup a with
  | some o =>
    have e := (KX a o hk).symm.trans hobj
    injection e with e
    subst e
    let H : Hp := fun b => if b ∈ cs.map (·.2) then some (.tbl #[]) else none
    have hA : ∀ p ∈ cs, H p.2 = some (.tbl #[]) := fun p hp => if_pos (List.mem_map.mpr ⟨p, hp, rfl⟩)
    have hN : ∀ {b}, b ∉ cs.map (·.2) → H b = none := fun h => if_neg h
    refine law_atT H KX G.T.g G.T.b G.T.builtins G.T.nolimit hg hT G.T.bmain hobj hr hF (fun b u z => ?_) (fun b z => ?_)
      (hsp _ a ns hlen hA (.inr ⟨_, vs.toArray, _, hk, rfl, rfl, rfl, by rw [List.size_toArray, hints.length]; exact Nat.le_trans hlen hn2, by simpa using rv⟩)) fun e s' z => z
    · by_cases hb : b ∈ cs.map (·.2)
      · obtain ⟨p, hp, rfl⟩ := List.mem_map.mp hb
        obtain rfl := Option.some.inj ((hA p hp).symm.trans z)
        exact (hT p hp).1
      · exact nomatch (hN hb).symm.trans z
    · by_cases hb : b ∈ cs.map (·.2)
      · obtain ⟨p, hp, rfl⟩ := List.mem_map.mp hb
        exact .inr ⟨p, hp, rfl, hA p hp⟩
      · exact absurd (hN hb) z
  | none =>
    let H : Hp := fun b => if b = a then some (.frz { cls := .type "list", data := .seq vs.toArray } (.lst (ns.map V.int))) else if b ∈ cs.map (·.2) then some (.tbl #[]) else none
    have hA : H a = some (.frz { cls := .type "list", data := .seq vs.toArray } (.lst (ns.map V.int))) := if_pos rfl
    have hC : ∀ p ∈ cs, H p.2 = some (.tbl #[]) := fun p hp => (if_neg (aT p hp)).trans (if_pos (List.mem_map.mpr ⟨p, hp, rfl⟩))
    have hN : ∀ {b}, b ≠ a → b ∉ cs.map (·.2) → H b = none := fun h h' => (if_neg h).trans (if_neg h')
    refine law_atT H KX G.T.g G.T.b G.T.builtins G.T.nolimit hg hT G.T.bmain hobj hr hF (fun b u z => ?_) (fun b z => ?_) (hsp H a ns hlen hC (.inl (.inr ⟨_, hA⟩))) fun e s' z => z
    · by_cases hb : b = a
      · subst hb
        obtain rfl := Option.some.inj (hA.symm.trans z)
        exact ⟨hobj, hl, vs, _, rv, hobj⟩
      · by_cases hc : b ∈ cs.map (·.2)
        · obtain ⟨p, hp, rfl⟩ := List.mem_map.mp hc
          obtain rfl := Option.some.inj ((hC p hp).symm.trans z)
          exact (hT p hp).1
        · exact nomatch (hN hb hc).symm.trans z
    · by_cases hb : b = a
      · subst hb
        exact .inl ⟨rfl, hk, _, _, hA⟩
      · by_cases hc : b ∈ cs.map (·.2)
        · obtain ⟨p, hp, rfl⟩ := List.mem_map.mp hc
          exact .inr ⟨p, hp, rfl, hC p hp⟩
        · exact absurd (hN hb hc) z
end Rd
set_option Elab.async false
set_option linter.all false
set_option maxRecDepth 100000
set_option maxHeartbeats 4000000
/-! Rx: exceptions held as values: made with and without an own __init__, asked by isinstance, their fields read. -/
namespace Rd
open PySem PySem.Spec PyProof.Rows L2
abbrev keMro : List Value := [.type "KeyError", .type "LookupError", .type "Exception", .type "BaseException", .type "object"]
/-- what B.__init__ is -/
structure IniW (B initId : String) : Prop where
  kind : builtinKind initId = some .slot
  split : splitId initId = some (B, "__init__")
  row : Manifest.signature? initId = some ⟨.positional, "*", B, .self, [⟨"args", .varPos, false⟩]⟩
  plain : plainId initId = true
  entry : entryFor table initId = some Builtin.«BaseException.__init__»
  star : (B != "*") = true
theorem ini_of {B newId initId : String} {bmB : List Value} (F : ExcBaseFacts B newId initId bmB) : IniW B initId := ⟨F.initKind, F.initSplit, F.initRow, F.init.plain, F.initEntry, F.noStar⟩
theorem ini_Key : IniW "KeyError" "KeyError.__init__" := ⟨by kernel_rfl, by kernel_rfl, by kernel_rfl, by decide +kernel, entryFor_alias (id' := "BaseException.__init__") (by rw [fastTable_eq_tree]; kernel_rfl) (by first | rfl | decide +kernel) (by decide +kernel) (by rw [fastTable_eq_tree]; kernel_rfl), by decide +kernel⟩
/-! ### a class whose __new__ is that of a base's base -/
section
variable {prog : Program} {w : World} {A : Around} {E : Value → Shared → Prop} {R : Result → Shared → Prop} {h : Heap} {g : Array GenState} {d : Drawn} {t : Nat} {os : OsState}
variable {nm q : Str} {C N : Addr} {bs bm bmB : List Value} {hdct : Bool} {sn : List Str} {sub : List Value} {ab : Bool} {col : Option Bool} {dd : Option Addr} {k0 k1 k2 k3 k5 : Option Value} {B newId initId i0 : String}
theorem xw_new (F : ExcBaseFacts B newId i0 bmB) (hB : bm.contains (.type B) = true) (hA : bm.contains (.type "AttributeError") = false) (hN : bm.contains (.type "NameError") = false) {us : List Value}
    (hC : h.get? C = some (excClassObj nm q C N bs bm hdct sn sub ab col dd k0 k1 k2 k3 k5 newId)) (hz : us.length ≤ sizeLine)
    (hq : R (.ok (.ret (.ref (h.objs.size + 1)))) ⟨(h.push (PySem.W.kdv_tup us)).push (HandSPX.excO C h.objs.size), g, d, t, os⟩) : codeAny (model prog w) A (.call (.builtin newId) ⟨.ref C :: us, []⟩) R ⟨h, g, d, t, os⟩ := by
  have c1 : (Value.ref C :: bm).contains (.type B) = true := by rw [List.contains_cons, hB, Bool.or_true]
  have c2 : (Value.ref C :: bm).contains (.type "AttributeError") = false := by rw [List.contains_cons, hA]; rfl
  have c3 : (Value.ref C :: bm).contains (.type "NameError") = false := by rw [List.contains_cons, hN]; rfl
  have st := F.noStar
  have en := F.ends
  have chk : ∀ {M : Model} {A : Around} {E : Value → Shared → Prop} {Q : Unit → Shared → Prop}, Q () ⟨h, g, d, t, os⟩ → wpAny M A (checkBuiltinCall newId ⟨.ref C :: us, []⟩) Q E ⟨h, g, d, t, os⟩ := fun {M A E Q} z => by
    simp only [checkBuiltinCall, F.newKind, F.newSplit, F.newRow]
    repeat (first | refine wpAny_loadPart_at hC ?_ | (refine wpAny_isSubtype_exc hC ?_; rw [c1]) | refine wpAny_staticBase_exc hC ?_ | refine wpAny_madeBy_exc hC ?_ | wp_step | simp only [bne_self_eq_false, Bool.false_eq_true, if_false])
    exact z
  refine codeAny_call_builtin_code (Code.quiet_builtin _ F.quiet) (chk (codeAny_builtinAt F.entry ?_))
  unfold Builtin.«BaseException.__new__»
  refine PySem.wpAt_bind (show PySem.wpAt _ _ _ (stack >>= _) _ _ _ from PySem.wpAt_bind (PySem.wpAt_stack fun p below => PySem.wpAt_of_wpAny ?_))
  wp_walk
  refine PySem.wpAt_of_wpAny ?_
  rw [F.owner]
  repeat (first | with_reducible refine wpAny_loadPart_at hC ?_ | with_reducible refine wpAny_madeHere_exc F.canon hC ?_ | (with_reducible refine wpAny_isSubtype_exc hC ?_; first | rw [c1] | rw [c2] | rw [c3]) | wp_step)
  show R _ _
  rw [Heap.size_push]
  exact hq
end
theorem es_Key : StoreFacts "KeyError" keMro "object.__setattr__" "object" := {
  mro := by kernel_rfl, entry := F.store_object.entry, kind := by decide +kernel, split := by decide +kernel, hasOwner := by decide +kernel, args := fun a b c => by unfold argsOk; kernel_rfl, passes := fun self => by kernel_rfl,
  slot := .of (n := "__setattr__") (owner := "object") (by rw [typeLookup_type, builtinLookup_eq_fast]; kernel_rfl) (by decide +kernel) (by decide +kernel) (by decide +kernel) (by first | exact .inl (by decide +kernel) | exact .inr (by decide +kernel)) (by rw [isSubtype_type]; kernel_rfl) }
section
variable {prog : Program} {w : World} {A : Around} {E : Value → Shared → Prop} {R : Result → Shared → Prop} {h : Heap} {g : Array GenState} {d : Drawn} {t : Nat} {os : OsState}
variable {nm q : Str} {C N fI : Addr} {bs bm bmB us : List Value} {hdct : Bool} {sn : List Str} {sub : List Value} {ab : Bool} {col : Option Bool} {dd : Option Addr} {k0 k1 k2 k3 k5 : Option Value} {B newId initId i0 : String}
/-- C(us..): made by the base's __new__, then the own __init__ -/
theorem xw_call (F : ExcBaseFacts B newId i0 bmB) (hB : bm.contains (.type B) = true) (hA : bm.contains (.type "AttributeError") = false) (hN : bm.contains (.type "NameError") = false)
    (hC : h.get? C = some (excClassObj nm q C N bs bm hdct sn sub ab col dd k0 k1 k2 k3 k5 newId)) (hi : PySem.W.Looks (model prog w) h (typeLookup (.ref C) "__init__") (some (.ref fI)))
    (hb : ∀ self, PySem.W.Looks (model prog w) h (bindSpecial (.ref fI) self) (.ref fI, [self])) (hz : us.length ≤ sizeLine)
    (hq : codeAny (model prog w) (A.under (.builtin "type.__call__" ⟨.ref C :: us, []⟩)) (.call (.ref fI) ⟨.ref (h.objs.size + 1) :: us, []⟩) (PySem.W.InitBack (h.objs.size + 1) R) ⟨(h.push (PySem.W.kdv_tup us)).push (HandSPX.excO C h.objs.size), g, d, t, os⟩) :
    codeAny (model prog w) A (.call (.ref C) ⟨us, []⟩) R ⟨h, g, d, t, os⟩ := by
  have f1 := tc_lookup
  have f2 := tc_bind (.ref C)
  have ty : (⟨h, g, d, t, os⟩ : Shared).TypeIs (.ref C) "type" := ⟨_, hC, rfl⟩
  refine codeAny_of_tree (show wpAny _ _ (callAny (.ref C) _) _ _ _ from ?_)
  repeat (any_goals (first | assumption | with_reducible refine wpAny_loadPart_at hC ?_ | wp_step))
  refine ⟨rfl, codeAny_call_builtin_at (Code.quiet_builtin _ (by decide +kernel)) entry_typeCall (wpAny_check_type_call_sub hC ?_)⟩
  repeat (first | with_reducible refine wpAny_madeBy_exc hC ?_ | with_reducible refine wpAny_loadPart_at hC ?_ | wp_step)
  refine xw_new F hB hA hN hC hz (show wpAny _ _ _ _ _ _ from ?_)
  have kk : ∀ b o, h.get? b = some o → ((h.push (PySem.W.kdv_tup us)).push (HandSPX.excO C h.objs.size)).get? b = some o := fun b o e => Heap.get?_push_of_some _ (Heap.get?_push_of_some _ e)
  have hC2 := kk _ _ hC
  have hg : ((h.push (PySem.W.kdv_tup us)).push (HandSPX.excO C h.objs.size)).get? (h.objs.size + 1) = some (HandSPX.excO C h.objs.size) := by heap_get
  have cc : (Value.ref C :: bm).contains (.ref C) = true := by simp
  unfold isInstance
  repeat (first | with_reducible refine wpAny_loadPart_at hg ?_ | wp_step)
  refine (show wpAny _ _ (isSubtype (Value.ref C) (Value.ref C)) _ _ (⟨(h.push (PySem.W.kdv_tup us)).push (HandSPX.excO C h.objs.size), g, d, t, os⟩ : Shared) from wpAny_isSubtype_exc hC2 ?_)
  rw [cc]
  repeat wp_step
  refine (show wpAny _ _ (typeLookup (.ref C) _) _ _ _ from (hi.keeps kk).at (wpAny_holding (wpAny_bind (((hb (.ref (h.objs.size + 1))).keeps kk).at ?_))))
  refine wpAny_bind (wpAny_call (codeAny_mono hq fun r s' z => ?_))
  match r, z with
  | .error e, z => exact z
  | .ok .next, z => exact z.elim
  | .ok .brk, z => exact z.elim
  | .ok .cont, z => exact z.elim
  | .ok (.ret v), z =>
    obtain ⟨rfl, z⟩ := z
    first | exact wpAny_pure (wpAny_pure z) | (wp_walk; exact z)
/-- B.__init__(e, ..) -/
theorem xw_init (F : IniW B initId) (hB : bm.contains (.type B) = true) {e t0 : Addr} (hC : h.get? C = some (excClassObj nm q C N bs bm hdct sn sub ab col dd k0 k1 k2 k3 k5 newId)) (he : h.get? e = some (HandSPX.excO C t0)) (hz : us.length ≤ sizeLine)
    (hq : ∀ h' t1, (∀ b o, b ≠ e → h.get? b = some o → h'.get? b = some o) → h'.get? e = some (HandSPX.excO C t1) → R (.ok (.ret .none)) ⟨h', g, d, t, os⟩) : codeAny (model prog w) A (.call (.builtin initId) ⟨.ref e :: us, []⟩) R ⟨h, g, d, t, os⟩ := by
  have c1 : (Value.ref C :: bm).contains (.type B) = true := by rw [List.contains_cons, hB, Bool.or_true]
  have st := F.star
  have chk : ∀ {M : Model} {A : Around} {E : Value → Shared → Prop} {Q : Unit → Shared → Prop}, Q () ⟨h, g, d, t, os⟩ → wpAny M A (checkBuiltinCall initId ⟨.ref e :: us, []⟩) Q E ⟨h, g, d, t, os⟩ := fun {M A E Q} z => by
    simp only [checkBuiltinCall, F.kind, F.split, F.row]
    repeat (first | (with_reducible refine wpAny_loadPart_at he ?_) | with_reducible refine wpAny_loadPart_at hC ?_ | (with_reducible refine wpAny_isSubtype_exc hC ?_; rw [c1]) | wp_step)
    refine wpAny_onRaise ?_
    have ck : ∀ (a b : String) (n : Nat), Bind.check ⟨.positional, "*", B, .self, [⟨"args", .varPos, false⟩]⟩ a b n (List.map (fun x => x.fst) ({ pos := Value.ref e :: us } : Args).kw) = pure () := fun a b n => check_star_args _ _ _ _ _ _
    rw [ck]
    exact wpAny_pure z
  refine codeAny_call_builtin F.plain F.entry (chk ?_)
  wp_walk
  refine hq _ h.objs.size (fun b o hb ho => ?_) ((Heap.get?_update_self _ (Heap.get?_push_of_some _ he) rfl).trans rfl)
  exact (Heap.get?_update_other _ _ (Ne.symm hb)).trans (Heap.get?_push_of_some _ ho)
end
/-- an exception class with an own __init__, by its base's mro -/
structure XiC (K : PySem.W.Frag) (C : Addr) (bmB : List Value) (newId : String) : Prop where
  cl : PySem.W.excInitIn K C bmB newId = true
  ov : PySem.W.excOver K C bmB = true
  sa : PySem.W.findIn K (.ref C) "__setattr__" = some (some (.builtin "object.__setattr__"))
  hd : PySem.W.hasDictIn K C = true
  kp : PySem.W.keepIn K (.ref C) = true
section
variable {X : Cx} {pins : List (Addr × Obj)} {σ : L2.St} {H : Hp} {s : Shared} {a C : Addr} {f : Str} {y : V} {u : Value} {B newId initId : String} {bmB : List Value} {E : Value → Shared → Prop} {A : Around}
/-- the first field -/
theorem xi_store {Q : Unit → Shared → Prop} (SF : StoreFacts B bmB "object.__setattr__" "object") (T : XiC X.K C bmB newId) (I : Inv X pins σ H s) (e : H a = some (exo a C none)) (hno : PySem.W.takerIn X.K C f = some none) (ry : RelV y u)
    (h : ∀ dx s', H dx = none → dx ≠ a → Inv X pins σ (upd (upd H dx (exd dx [(f, y)])) a (exo a C (some dx))) s' → Q () s') : wpAny (model X.prog X.w) A (setAttr (.ref a) f u) Q E s := by
  obtain ⟨t1, ho⟩ := exo_at I.hok e
  obtain ⟨cd, hc, hd⟩ := PySem.W.any_some T.hd
  obtain ⟨hp, g, d, t, os⟩ := s
  refine PySem.W.set_plain I.kIn (od := none) ⟨ho, rfl, rfl, True.intro⟩ T.sa ?_
  refine PySem.W.osa_openX (od := none) SF I.kIn ⟨ho, rfl, rfl, True.intro⟩ T.ov hno fun b => ?_
  have hcls : PySem.W.Looks (model X.prog X.w) hp (classData C) cd := PySem.W.looks_clsIn I.kIn hc
  have hxs : a ≠ hp.objs.size := Nat.ne_of_lt (Heap.lt_size ho)
  refine wpAny_bind (wpAny_pure (wpAny_bind (PySem.W.instanceDict_exc (s := ⟨hp, g, d, t + 1, os⟩) ho hcls hd ?_)))
  show wpAny _ _ (Builtin.ObjectAttr.storeInDict hp.objs.size (.str f t) f u) _ _ _
  have hx1 : (hp.push (PySem.W.dictOf [] 0)).get? a = some _ := Heap.get?_push_of_some _ ho
  refine HandSPX.store_in_new (hp := (hp.push (PySem.W.dictOf [] 0)).update a fun o => { o with dict := some hp.objs.size }) ?_ fun h' tk' hn hs => ?_
  · exact ⟨_, #[], _, (Heap.get?_update_ne _ _ _ _ hxs.symm).trans (Heap.get?_push_at rfl rfl), rfl, fun e he => absurd he (by simp), fun _ => rfl⟩
  have k : ∀ b o, b ≠ a → hp.get? b = some o → h'.get? b = some o := fun b o hb q => (hs.2 b (Nat.ne_of_lt (Heap.lt_size q))).trans ((Heap.get?_update_ne _ _ _ _ hb).trans (Heap.get?_push_of_some _ q))
  have hx : h'.get? a = some ({ cls := .ref C, dict := some hp.objs.size, data := .fields #[.ref t1, .none, .none, .none, .bool false, .none] } : Obj) := (hs.2 a hxs).trans (Heap.get?_update_self _ hx1 rfl)
  have hnd : H hp.objs.size = none := I.hok.fresh (Nat.le_refl _)
  have nd : ∀ {b : Addr} {o : Obj}, hp.get? b = some o → b ≠ hp.objs.size := fun {b o} q => Nat.ne_of_lt (Heap.lt_size q)
  have na : ∀ {b : Addr}, H b = none → b ≠ a := fun {b} n z => by rw [z, e] at n; cases n
  have exA : ∃ o', h'.get? a = some o' := ⟨_, hx⟩
  have U : Un X.fs [] H (upd (upd H hp.objs.size (exd hp.objs.size [(f, y)])) a (exo a C (some hp.objs.size))) hp h' := {
    keep := fun b o q n _ _ => k b o (na n) q, slot := fun b o q n _ _ => ⟨o.slots, k b o (na n) q⟩, free := fun b o q n _ => by rw [upd_ne (na n), upd_ne (nd q)]; exact n,
    there := fun b o q _ => (Classical.em (b = a)).elim (fun hb => hb ▸ exA) fun hb => ⟨o, k b o hb q⟩,
    tups := fun b xs q => by rw [upd_ne (at_ne e q exo_tup), upd_ne (ne_of_none q hnd)]; exact q,
    frzs := fun b o v q => by rw [upd_ne (at_ne e q exo_frz), upd_ne (ne_of_none q hnd)]; exact q,
    tbls := fun b ps q => ⟨#[], by rw [upd_ne (at_ne e q exo_tbl), upd_ne (ne_of_none q hnd), q]; simp⟩ }
  refine h hp.objs.size _ hnd hxs.symm (I.un (t' := tk') U fun b o q => ?_)
  by_cases hb : b = a
  · subst hb; rw [upd_same] at q; cases q; exact exo_ok hx
  rw [upd_ne hb] at q
  by_cases hdd : b = hp.objs.size
  · subst hdd; rw [upd_same] at q; cases q; exact exd_ok hn (relO_put (fs := []) ry fun g => True.intro)
  rw [upd_ne hdd] at q
  refine (I.hok b o q).stay (fun c v hc z => k c v (by rcases hc with hc | hc; · exact hc ▸ hb
                                                       · exact at_ne e hc exo_own) z) (fun c hc => ?_) fun c xs hc => ?_
  · rw [upd_ne (at_ne e hc exo_own), upd_ne (ne_of_none hc hnd)]; exact hc
  · rw [upd_ne (at_ne e hc exo_tup), upd_ne (ne_of_none hc hnd)]; exact hc
/-- B.__init__(self, ..) -/
theorem xi_base {us : List Value} {Q : Value → Shared → Prop} (FB : IniW B initId) (hB : bmB.contains (.type B) = true) (T : XiC X.K C bmB newId) (I : Inv X pins σ H s) (e : H a = some (exo a C none)) (hl : us.length ≤ sizeLine) (h : ∀ s', Inv X pins σ H s' → Q .none s') :
    wpAny (model X.prog X.w) A (call (.builtin initId) (.ref a :: us)) Q E s := by
  obtain ⟨nm, N, q, bs, bm, hdct, sn, sub, ab, col, dd, k0, k1, k2, k3, k5, hC, hT⟩ := PySem.W.excInit_of I.kIn T.cl
  obtain ⟨t1, ho⟩ := exo_at I.hok e
  obtain ⟨hp, g, d, t, os⟩ := s
  refine wpAny_call (xw_init FB ((hT B).trans hB) hC ho hl fun h' t2 k hx => ?_)
  have J := I.write (t' := t) (x := a) (e := a) (o := exo a C none) (by rw [e]; exact True.intro) (.inl rfl) k ⟨_, hx⟩ (exo_ok hx)
  rw [show upd H a (exo a C none) = H from funext fun b => if hb : b = a then by rw [hb, upd_same, e] else upd_ne hb] at J
  exact h _ J
end
/-! ### rules -/
def tXiB (C : Addr) (ta : TA) : TE := fun σ H Q => ta σ H fun vs H1 => ∃ (a : Addr) (ws : List V), vs = .ref a :: ws ∧ ws.length ≤ 1000 ∧ H1 a = some (exo a C none) ∧ Q .non H1
def tXiS (C : Addr) (f : Str) (to te : TE) : TS := fun D σ H => te σ H fun y H1 => to σ H1 fun x H2 => ∃ a : Addr, x = .ref a ∧ H2 a = some (exo a C none) ∧ ∀ dx, H2 dx = none → dx ≠ a → D.nx σ (upd (upd H2 dx (exd dx [(f, y)])) a (exo a C (some dx)))
def tXiM (C : Addr) (sp : Sp) (E : XK) (ta : TA) : TE := fun σ H Q => ta σ H fun vs H1 => vs.length ≤ 1000 ∧ ∀ a, H1 a = none → sp (.ref a :: vs) (upd H1 a (exo a C none)) (fun v H2 => v = .non ∧ Q (.ref a) H2) E
section
variable {X : Cx} {o e : Expr} {es : List Expr} {to te : TE} {ta : TA} {f x : Str} {p p' p1 p2 pos : Pos} {B newId initId : String} {bmB : List Value} {C fI : Addr} {CX : CXT} {k : Nat} {sp : Sp} {E : XK}
theorem pe_xiB {b : Str} {pl : Sem Bool} (FB : IniW B initId) (bB : bmB.contains (.type B) = true) (T : XiC X.K C bmB newId) (hg : Gl X b) (hm : X.mg b = none) (hB : bootBuiltins b = some (.type B)) (hn : b ≠ "__name__") (hdb : (b == ("__debug__" : Str)) = false)
    (ty : typeOf (.type B) = pure (.type "type")) (hst : Manifest.isStub B = false) (hh : PySem.W.handedIn (.builtin initId) = true) (vV : PySem.W.findCls X.K (.type B) (.type "type") "__init__" = some (.val (.builtin initId))) (ha : PA X (e :: es) ta)
    (hc : eval (.Call (.Attribute (.Name b p1) "__init__" p2) (e :: es) [] pos) X.env = (do
      let ov ← eval (.Name b p1) X.env; standAt p2.atName; let (f, first) ← holding [ov] (getMethod ov "__init__" pl)
      callWith pos f first (backTo pos (starEach (e :: es) X.env)) (backToKw pos (keywordEach [] X.env))) := by rfl)
    (he : starEach (e :: es) X.env = (false, eval e X.env) :: starEach es X.env := by rfl) (hpl : (backTo pos (starEach es X.env)).any (·.1) = false := by rfl) :
    PE X (.Call (.Attribute (.Name b p1) "__init__" p2) (e :: es) [] pos) (tXiB C ta) := by
  refine ⟨fun pins s σ H Q I h => ?_⟩
  refine PySem.W.methodCall_KW (ld_blt I hg hm hB ?_ hn hdb) hc
  obtain ⟨m, fr⟩ := I.fr
  refine PySem.W.method_type fr I.ok.mod.kin ty hst vV hh ?_
  show wpAny _ _ (callWith pos (Value.builtin initId) [] (backTo pos (starEach (e :: es) X.env)) []) _ _ _
  refine PyProof.Rows.callWith_method1 (thn (ha.run pos pins _ σ H _ (I.tok _) h) fun us s1 ⟨vs, H1, I1, r1, a, ws, ev, hl, ea, q⟩ => ?_) he hpl
  subst ev
  cases r1 with
  | @cons _ u0 _ ur ra rw' =>
    obtain rfl : u0 = Value.ref a := ra
    exact xi_base FB bB T I1 ea (by rw [← Paired.length rw', sizeLine_eq]; omega) fun s' J => ⟨.non, H1, J, rfl, q⟩
theorem ps_xiS (SF : StoreFacts B bmB "object.__setattr__" "object") (T : XiC X.K C bmB newId) (hno : PySem.W.takerIn X.K C f = some none) (ho : PE X o to) (he : PE X e te) (hs : swapsWith e (some (.Attribute o f p')) pos.line X.env = pure false := by rfl) :
    PS X (.Assign [.Attribute o f p'] e pos) (tXiS C f to te) := by
  refine ⟨fun pins s σ H D I h => ?_⟩
  refine plainObj_wpAny_Assign_Attribute (thn (he.run pins s σ H _ I h) fun v s1 ⟨y, H1, I1, r1, q1⟩ => thn (ho.run pins s1 σ H1 _ I1 q1) fun u s2 ⟨x, H2, I2, r2, a, ex, ea, q⟩ => ?_) hs
  subst ex
  obtain rfl : u = Value.ref a := r2
  exact xi_store SF T I2 ea hno r1 fun dx s' n ne J => ⟨σ, _, J, q dx n ne⟩
theorem pe_xiM {gd : Bool} {BN i0 : String} {bmN : List Value} (FB : ExcBaseFacts BN newId i0 bmN) (bB : bmB.contains (.type BN) = true) (bA : bmB.contains (.type "AttributeError") = false) (bN : bmB.contains (.type "NameError") = false) (T : XiC X.K C bmB newId) (iC : PySem.W.findIn X.K (.ref C) "__init__" = some (some (.ref fI))) (tI : PySem.W.typeIn X.K (.ref fI) = some (.type "function"))
    (F1 : FnG gd X.prog X.w X.K X.mg X.base CX k fI sp) (hr : RoomG gd (k + 1) X.A) (hx : Passes CX X E) (hg : Gl X x) (hm : X.mg x = some (.ref C)) (ha : PA X (e :: es) ta)
    (hdb : (x == ("__debug__" : Str)) = false := by decide) (he : starEach (e :: es) X.env = (false, eval e X.env) :: starEach es X.env := by rfl) (hpl : (backTo pos (starEach es X.env)).any (·.1) = false := by rfl) :
    PE X (.Call (.Name x p) (e :: es) [] pos) (tXiM C sp E ta) := by
  refine ⟨fun pins s σ H Q I h => ?_⟩
  refine wpAny_Call_Name_kw (ld_glob I hg hm ?_ hdb)
  refine PySem.W.callWith_K (h₀ := X.base) I.ok.mod.kin T.kp (thn (ha.run pos pins s σ H _ I h) fun us s1 ⟨vs, H1, I1, r1, hz, q1⟩ => ⟨I1.kIn, ?_⟩) he hpl
  show wpAny _ _ (call (.ref C) us) _ _ _
  obtain ⟨nm, N, q, bs, bm, hdct, sn, sub, ab, col, dd, k0, k1, k2, k3, k5, hC, hT⟩ := PySem.W.excInit_of I1.kIn T.cl
  obtain ⟨hp, g, dr, tk, os⟩ := s1
  let n := hp.objs.size + 1
  have hn : H1 n = none := I1.hok.fresh (Nat.le_succ _)
  have kk : ∀ b o, hp.get? b = some o → ((hp.push (PySem.W.kdv_tup us)).push (HandSPX.excO C hp.objs.size)).get? b = some o := fun b o e => Heap.get?_push_of_some _ (Heap.get?_push_of_some _ e)
  have hget : ((hp.push (PySem.W.kdv_tup us)).push (HandSPX.excO C hp.objs.size)).get? n = some (HandSPX.excO C hp.objs.size) := by show Heap.get? _ (hp.objs.size + 1) = _; heap_get
  have I2 := I1.laid (t' := tk) (a := n) (o := exo n C none) kk (Nat.le_succ _) (exo_ok hget)
  have r2 : Vals (V.ref n :: vs) (Value.ref n :: us) := .cons rfl r1
  refine wpAny_call (xw_call FB ((hT _).trans bB) ((hT _).trans bA) ((hT _).trans bN) hC (PySem.W.looks_findIn I1.kIn iC) (fun self => PySem.W.bind_fn I1.kIn self tI) (by rw [← Paired.length r1, sizeLine_eq]; omega)
    (codeAny_mono (F1 _ X.stack _ _ (Value.ref n :: us) _ _ E (hr.make C us []) (I2.env0.make C us []) r2 (q1 n hn)) fun r s' hq' => ?_))
  match r, hq' with
  | .error er, hq' => exact hx pins σ _ _ er s' I2 hq'
  | .ok (.ret u), hq' =>
    obtain ⟨v, H', I3, rv, ev, q3⟩ := I2.after hq'
    subst ev
    exact ⟨rv, ⟨V.ref n, H', I3, rfl, q3⟩⟩
  | .ok .next, hq' => exact False.elim hq'
  | .ok .brk, hq' => exact False.elim hq'
  | .ok .cont, hq' => exact False.elim hq'
end
/-! ### what they are -/
/-- at a: an exception of the class at D -/
def Ex (H : Hp) (a D : Addr) : Prop := H a = some (ExO (.ref D) a) ∨ ∃ (d : Addr) (fs : List (Str × V)), H a = some (exo a D (some d)) ∧ H d = some (exd d fs)
/-- .. with the field f -/
def ExF (H : Hp) (a D : Addr) (f : Str) (v : V) : Prop := ∃ (d : Addr) (fs : List (Str × V)), H a = some (exo a D (some d)) ∧ H d = some (exd d fs) ∧ fs.lookup f = some v
theorem ExF.ex {H : Hp} {a D : Addr} {f : Str} {v : V} (h : ExF H a D f v) : Ex H a D := by
  obtain ⟨d, fs, h1, h2, _⟩ := h
  exact .inr ⟨d, fs, h1, h2⟩
theorem Ex.same {H H' : Hp} {a D : Addr} (h : Ex H a D) (s : Same H H') : Ex H' a D := by
  rcases h with h | ⟨d, fs, h1, h2⟩
  · exact .inl (s _ _ h)
  · exact .inr ⟨d, fs, s _ _ h1, s _ _ h2⟩
theorem ExF.same {H H' : Hp} {a D : Addr} {f : Str} {v : V} (h : ExF H a D f v) (s : Same H H') : ExF H' a D f v := by
  obtain ⟨d, fs, h1, h2, h3⟩ := h
  exact ⟨d, fs, s _ _ h1, s _ _ h2, h3⟩
section
variable {X : Cx} {pins : List (Addr × Obj)} {σ : L2.St} {H : Hp} {s : Shared} {a D : Addr}
theorem Ex.inst (I : Inv X pins σ H s) (h : Ex H a D) : ∃ ox od, PySem.W.InstAt s.heap a ox D od := by
  rcases h with h | ⟨d, fs, h1, h2⟩
  · obtain ⟨⟨oe, vs, g, z, hd, _⟩, _⟩ := (show ObjOk X.prog X.w H s.heap a (ExO (.ref D) a) from I.hok a _ h)
    exact ⟨oe, none, g, z.1, by unfold PySem.W.notCls; rw [hd] <;> rfl, by rw [z.2]; trivial⟩
  · obtain ⟨t1, g⟩ := exo_at I.hok h1
    obtain ⟨mA, ⟨o, _, _, e, _⟩, _⟩ := exd_at I.hok h2
    exact ⟨_, some o, g, rfl, rfl, e⟩
end
section
variable {K : PySem.W.Frag} {D : Addr} {prog : Program} {w : World} {A : Around} {E : Value → Shared → Prop} {s : Shared} {x : Addr} {ox : Obj} {od : Option Obj}
theorem find_data {C : Addr} {name : Str} {a g : Value} (hc : (PySem.W.clsIn K C).isSome = true) (ha : PySem.W.findIn K (.ref C) name = some (some a)) (hg : PySem.W.specialIn K a "__get__" = some (some g)) (ht : PySem.W.takesIn K a = some true) : PySem.W.findObj K C od name = some (.bind g a) := by
  obtain ⟨cd, hc⟩ := Option.isSome_iff_exists.mp hc
  simp only [PySem.W.findObj, hc, ha, hg, ht, Option.bind_some, Option.bind_eq_bind, Option.map_some]
  try simp [hg, ht]
set_option maxHeartbeats 400000 in
/-- e.__class__ -/
theorem ask_class {Q : Option Value → Shared → Prop} (C : ExcC K D) (X : K.In s.heap) (I : PySem.W.InstAt s.heap x ox D od) (h : Q (some (.ref D)) { s with toks := s.toks + 1 }) : wpAny (model prog w) A (getAttr? (.ref x) "__class__") Q E s := by
  have hf : PySem.W.findObj K D od "__class__" = some (.bind (.builtin "getset_descriptor.__get__") (.builtin "object.__class__")) := find_data (by obtain ⟨cd, hc, _⟩ := PySem.W.any_some C.hd; rw [hc]; rfl) C.ha C.hn C.ht
  obtain ⟨hp, g, d, t, os⟩ := s
  have l0 := I.type (M := model prog w)
  have l1 := PySem.W.looks_findIn (M := model prog w) X C.hg
  have l2 := PySem.W.looks_findIn (M := model prog w) X C.hk
  have l3 := PySem.W.looks_find (M := model prog w) X I hf
  have sub : PySem.W.Looks (model prog w) hp (isInstance (.ref x) (.type "BaseException")) true := l0.andThen (PySem.W.looks_subIn X C.hs)
  have n2 : (Value.builtin "BaseException.__getattribute__" == Value.builtin "object.__getattribute__") = false := by decide +kernel
  have n1 : (onTheHeap (Value.ref D) && Value.builtin "BaseException.__getattribute__" == Value.builtin "object.__getattribute__") = false := (congrArg (fun b => onTheHeap (Value.ref D) && b) n2).trans rfl
  unfold getAttr? getAttrBy? getAttrBy
  refine wpAny_bind (wpAny_mkText (wpAny_bind (wpAny_attempt (wpAny_holding (wpAny_bind (l0.at (wpAny_bind (l1.at ?_))))))))
  show wpAny _ _ (if (onTheHeap (.ref D) && Value.builtin "BaseException.__getattribute__" == Value.builtin "object.__getattribute__") = true then _ else _) _ _ _
  rw [n1, if_neg Bool.false_ne_true]
  unfold getAttrByItsOwn hookBefore
  refine wpAny_bind ?_
  rw [if_pos (show onTheHeap (Value.ref D) = true from rfl)]
  refine l2.at (wpAny_bind (wpAny_attempt (wpAny_holding ?_)))
  unfold callGetattribute
  rw [show (false && onTheHeap (Value.builtin "BaseException.__getattribute__")) = false from rfl, if_neg Bool.false_ne_true]
  unfold boundAndCalled
  rw [PySem.F.excAttr_ValueError.ga.bind (.ref x)]
  refine wpAny_bind (wpAny_pure ?_)
  show wpAny _ _ (call (.builtin "BaseException.__getattribute__") [Value.ref x, .str "__class__" t]) _ _ _
  refine wpAny_call (codeAny_call_builtin F.excAttr_ValueError.ga.plain F.entry_bexc_ga ?_)
  refine @PySem.W.check_slot (model prog w) _ _ (⟨hp, g, d, t + 1, os⟩ : Shared) "BaseException.__getattribute__" "BaseException" "__getattribute__" (Value.ref x) [.str "__class__" t] [] _ (by decide +kernel) (by decide +kernel) sub (PySem.F.args_bexc_ga (.ref x) (.str "__class__" t)) ?_
  unfold Builtin.«object.__getattribute__»
  refine wpAny_bind (wpAny_of_eq (a := ((Value.ref x : Value), [Value.str "__class__" t])) (by first | rfl | (simp only [slotArgs]; rfl)) ?_)
  refine wpAny_bind (wpAny_pure (wpAny_bind (l0.at (wpAny_bind (l3.at ?_)))))
  show wpAny _ _ (holding [.builtin "object.__class__"] (call (.builtin "getset_descriptor.__get__") [.builtin "object.__class__", .ref x, .ref D]) >>= ret) _ _ _
  refine wpAny_bind (wpAny_holding (wpAny_call (PySem.W.class_get (s := ⟨hp, g, d, t + 1, os⟩) (od := od) (ox := ox) X I C.hm ?_)))
  refine wpAny_pure ?_
  show wpAny _ _ (handedOut (Value.ref D)) _ _ _
  rw [PySem.W.handedOut_of (v := .ref D) rfl]
  first | exact wpAny_pure (wpAny_pure h) | exact wpAny_pure h | exact wpAny_pure (wpAny_bind (wpAny_pure (wpAny_pure h)))
theorem kit_ex (C : ExcC K D) : PySem.W.KitX K (.ref x) (.ref D) (fun h => PySem.W.InstAt h x ox D od) where
  ty := fun _ _ _ I => I.type
  ca := fun X I k => ask_class C X I k
  it := fun _ _ X _ => by
    obtain ⟨cd, hc, _⟩ := PySem.W.any_some C.hd
    unfold PySem.W.clsIn at hc
    split at hc
    · rename_i c' d' cd' sl' ho
      exact fun A' Q' E' s' k q => by unfold isType loadHead; exact wpAny_bind (wpAny_loadPart (k _ _ (X _ _ ho)) (wpAny_pure q))
    · cases hc
  ne := fun h tp dd its n sl X htp => by
    obtain ⟨cd, hc, _⟩ := PySem.W.any_some C.hd
    refine Bool.eq_false_iff.mpr fun q => ?_
    have e : D = tp := Value.ref.inj (beq_iff_eq.mp q)
    subst e
    unfold PySem.W.clsIn at hc
    split at hc
    · rename_i c' d' cd' sl' ho
      exact nomatch (X _ _ ho).symm.trans htp
    · cases hc
end
/-- isinstance(e, c), e an exception that is held -/
def rIsX (K : PySem.W.Frag) : List V → Hp → VK → Prop := fun xs H Q => ∃ (a D : Addr) (c : V) (cv : Value) (b : Bool), xs = [.ref a, c] ∧ Ex H a D ∧ ExcC K D ∧ (∀ u, RelV c u → u = cv) ∧ PySem.W.kitOne K (.ref D) cv = some b ∧ Q (.bl b) H
theorem c_isX {X : Cx} : CallR X (.builtin "isinstance") (rIsX X.K) := by
  intro pins s σ H xs us Q I r h
  obtain ⟨a, D, c, cv, b, rfl, hE, hC, hcv, e, q⟩ := h
  cases r with
  | cons rx rr =>
    cases rr with
    | cons rt rr =>
      cases rr
      cases rx
      have ec := hcv _ rt
      subst ec
      obtain ⟨ox, od, J⟩ := hE.inst I
      exact PySem.W.kia_one (kit_ex hC) I.kIn J e (fun z => nomatch z) fun tk => ⟨.bl b, H, I.kept (t' := tk) fun _ _ z => z, rfl, q⟩
section
variable {K : PySem.W.Frag} {H : Hp} {Q : VK} {a D C : Addr} {b : Bool} {n : String}
theorem rd_isXr (h : Ex H a D) (hC : ExcC K D) (hk : PySem.W.kitOne K (.ref D) (.ref C) = some b) (q : Q (.bl b) H) : rIsX K [.ref a, .ref C] H Q := ⟨a, D, _, .ref C, b, rfl, h, hC, fun u r => r, hk, q⟩
theorem rd_isXt (h : Ex H a D) (hC : ExcC K D) (hk : PySem.W.kitOne K (.ref D) (.type n) = some b) (q : Q (.bl b) H) : rIsX K [.ref a, .ty n] H Q := ⟨a, D, _, .type n, b, rfl, h, hC, fun u r => r, hk, q⟩
end
/-- e.f -/
def rXf (K : PySem.W.Frag) (f : Str) : V → Hp → VK → Prop := fun x H Q => ∃ (a C : Addr) (v : V), x = .ref a ∧ XfC K C ∧ PySem.W.findIn K (.ref C) f = some none ∧ ExF H a C f v ∧ Q v H
theorem pe_xfv {X : Cx} {e : Expr} {te : TE} {pos : Pos} {n : Str} (he : PE X e te) (hb : attributeBase e n X.env (eval e X.env) = eval e X.env := by rfl) : PE X (.Attribute e n pos) (tUn (rXf X.K n) te) := by
  refine ⟨fun pins s σ H Q I h => ?_⟩
  refine attr_of hb (thn (he.run pins s σ H _ I h) fun u s1 ⟨x, H1, I1, rx, a, C, v, ex, T, hno, ⟨dd, fs, h1, h2, l⟩, q⟩ => ?_)
  subst ex
  obtain rfl : u = Value.ref a := rx
  obtain ⟨t1, g⟩ := exo_at I1.hok h1
  obtain ⟨mA, hns, hr⟩ := exd_at I1.hok h2
  obtain ⟨od, ho, hl⟩ := lookIn_ns hns
  obtain ⟨u, hu, ru⟩ := RelO.some_of (v := v) (o := mA n) (by rw [← l]; exact hr n)
  have J : PySem.W.InstAt s1.heap a _ C (some od) := ⟨g, rfl, rfl, ho⟩
  exact HandSPX.exc_get I1.kIn J T.ga T.gg T.exC (PySem.W.findObj_own T.hdC hno rfl (by rw [hl, hu])) (handed_of ru) ⟨v, H1, I1.tok _, ru, q⟩
theorem rd_xf {K : PySem.W.Frag} {f : Str} {a C : Addr} {v : V} {H : Hp} {Q : VK} (T : XfC K C) (hno : PySem.W.findIn K (.ref C) f = some none) (h : ExF H a C f v) (q : Q v H) : rXf K f (.ref a) H Q := ⟨a, C, v, rfl, T, hno, h, q⟩
/-! ### made, told by what it is -/
/-- X(e), X without an own __init__ -/
def rEx1 (C : Addr) : V → Hp → VK → Prop := fun _ H Q => ∀ a, H a = none → Q (.ref a) (upd H a (ExO (.ref C) a))
theorem pe_ex1 {X : Cx} {C : Addr} {bmB : List Value} {B newId initId : String} {x : Str} {e : Expr} {ta : TE} {p pos : Pos} (F : ExcBaseFacts B newId initId bmB) (q : PySem.W.excIn X.K C bmB newId = true) (g : X.mg x = some (.ref C) ∧ PySem.W.keepIn X.K (.ref C) = true) (hg : Gl X x)
    (he : PE X e ta) (hs : starEach [e] X.env = (false, eval e X.env) :: starEach [] X.env := by rfl) (hdb : (x == ("__debug__" : Str)) = false := by decide) : PE X (.Call (.Name x p) [e] [] pos) (tUn (rEx1 C) ta) := pe_exc1 F q g.1 g.2 hg he hs hdb
theorem rd_ex1 {C : Addr} {x : V} {H : Hp} {Q : VK} (q : ∀ a H', H a = none → Same H H' → Ex H' a C → Q (.ref a) H') : rEx1 C x H Q := fun a ha => q a _ ha (same_new ha) (.inl upd_same)
/-- the promise of an __init__ that keeps its argument as f -/
def spXi (C : Addr) (f : Str) : Sp := mkSp (fun (a : Addr × V) => [.ref a.1, a.2]) fun a H Q _ => H a.1 = some (exo a.1 C none) ∧ ∀ H', (∀ b o, b ≠ a.1 → H b = some o → H' b = some o) → ExF H' a.1 C f a.2 → Q .non H'
def rXiM (C : Addr) (sp : Sp) (E : XK) : List V → Hp → VK → Prop := fun vs H Q => vs.length ≤ 1000 ∧ ∀ a, H a = none → sp (.ref a :: vs) (upd H a (exo a C none)) (fun v H2 => v = .non ∧ Q (.ref a) H2) E
theorem rd_tXiM {C : Addr} {sp : Sp} {E : XK} {ta : TA} {σ : L2.St} {H : Hp} {Q : VK} (q : ta σ H fun vs H1 => rXiM C sp E vs H1 Q) : tXiM C sp E ta σ H Q := q
theorem rd_xiM {C : Addr} {f : Str} {E : XK} {v : V} {H : Hp} {Q : VK} (q : ∀ a H', H a = none → Same H H' → ExF H' a C f v → Q (.ref a) H') : rXiM C (spXi C f) E [v] H Q := by
  refine ⟨by show 1 ≤ 1000; decide, fun a ha => rd_sp (a, v) rfl ⟨upd_same, fun H' k h => ⟨rfl, q a H' ha (fun b o e => ?_) h⟩⟩⟩
  exact k b o (ne_of_none e ha) (by rw [upd_ne (ne_of_none e ha)]; exact e)
theorem rd_tXiB {C : Addr} {ta : TA} {σ : L2.St} {H : Hp} {Q : VK} (q : ta σ H fun vs H1 => ∃ (a : Addr) (ws : List V), vs = .ref a :: ws ∧ ws.length ≤ 1000 ∧ H1 a = some (exo a C none) ∧ Q .non H1) : tXiB C ta σ H Q := q
theorem rd_tXiS {C : Addr} {f : Str} {to te : TE} {D : Ends} {σ : L2.St} {H : Hp} (q : te σ H fun y H1 => to σ H1 fun x H2 => ∃ a : Addr, x = .ref a ∧ H2 a = some (exo a C none) ∧ ∀ dx, H2 dx = none → dx ≠ a → D.nx σ (upd (upd H2 dx (exd dx [(f, y)])) a (exo a C (some dx)))) : tXiS C f to te D σ H := q
end Rd
set_option Elab.async false
set_option linter.all false
set_option maxRecDepth 100000
set_option maxHeartbeats 4000000
/-! Rte: except clauses with and without a name, up to the one that takes; raise X(e), X with an own __init__. -/
namespace Rd
open PySem PySem.Spec PyProof.Rows L2
/-- a clause: its class, and what it wishes of the exception at a -/
abbrev Cl : Type := Value × (Ends → Addr → Value → Option Addr → L2.St → Hp → Prop)
/-- except X: suite -/
abbrev clP (c : Value) (ts : Addr → Value → Option Addr → TS) : Cl := (c, fun D a cls d σ H => ts a cls d D σ H)
/-- except X as n: suite (n in slot i) -/
abbrev clA (c : Value) (i : Nat) (ts : Addr → Value → Option Addr → TS) : Cl := (c, fun D a cls d σ H => ts a cls d { nx := fun σ' H' => D.nx (σ'.set i none) H', rt := D.rt, bk := fun σ' H' => D.bk (σ'.set i none) H', ct := fun σ' H' => D.ct (σ'.set i none) H' } (σ.set i (some (.ref a))) H)
def wCl (K : PySem.W.Frag) (D : Ends) : List Cl → WX
  | [] => fun _ _ _ _ => False
  | (c, w) :: r => fun cls d σ H => ∃ b, PySem.W.exmOne K cls c = some b ∧ (b = true → ∀ a, H a = none → w D a cls d σ H) ∧ (b = false → wCl K D r cls d σ H)
inductive HdsAs (X : Cx) : List ExceptHandler → List Cl → Prop
  | rest {hds : List ExceptHandler} : HdsAs X hds []
  | next {x : Str} {c : Value} {ts : Addr → Value → Option Addr → TS} {b₀ : Stmt} {suite : List Stmt} {np hp : Pos} {hds : List ExceptHandler} {l : List Cl} (hc : Names X x c)
      (su : ∀ (a : Addr) (oe : Obj) (cls : Value) (d : Option Addr) (pn : List (Addr × Obj)), Zc cls d oe → (∃ vs, oe.data = .fields vs) → PSs (X.suite a ((a, oe) :: pn)) (b₀ :: suite) (ts a cls d)) (r : HdsAs X hds l) :
      HdsAs X (.ExceptHandler (some (.Name x np)) none (b₀ :: suite) hp :: hds) (clP c ts :: l)
  | nextAs {x n : Str} {c : Value} {i : Nat} {ts : Addr → Value → Option Addr → TS} {b₀ : Stmt} {suite : List Stmt} {np hp : Pos} {hds : List ExceptHandler} {l : List Cl} (hN : X.N.Nodup) (hi : X.N[i]? = some n) (hln : X.env.kindOf n = some .local) (hc : Names X x c)
      (su : ∀ (a : Addr) (oe : Obj) (cls : Value) (d : Option Addr) (pn : List (Addr × Obj)), Zc cls d oe → (∃ vs, oe.data = .fields vs) → PSs (X.suite a ((a, oe) :: pn)) (b₀ :: suite) (ts a cls d)) (r : HdsAs X hds l) :
      HdsAs X (.ExceptHandler (some (.Name x np)) (some n) (b₀ :: suite) hp :: hds) (clA c i ts :: l)
section
variable {X : Cx} {body : List Stmt} {h₀ : ExceptHandler} {hds : List ExceptHandler} {l : List Cl} {pos : Pos} {tb : WX → TS}
theorem ps_tryAs (hs : X.stack = X.env :: X.outer) (hf : X.env.frame = some X.env.locals)
    (hb : ∀ (W : WX) (pn : List (Addr × Obj)) (xe : Value → Shared → Prop), Takes (X.tr pn xe) W → PSs (X.tr pn xe) body (tb W)) (hh : HdsAs X (h₀ :: hds) l) :
    PS X (.Try body (h₀ :: hds) [] [] pos) (fun D σ H => tb (wCl X.K D l) D σ H) := by
  refine ⟨fun pins s σ H D I h => ?_⟩
  have ok := I.ok
  have frames : X.A.frames = some (X.env :: X.outer) := by rw [ok.frames, hs]
  let go : Value → Shared → Prop := fun e z => wpAny (model X.prog X.w) X.A (noteFrame e X.env) (fun _ z₂ => wpAny (model X.prog X.w) X.A (setFlight e none) (fun _ z₃ => wpAny (model X.prog X.w) X.A (handleBy e X.env (h₀ :: hds)) (SP X pins D) X.xe z₃) X.xe z₂) X.xe z
  have tk : Takes (X.tr (X.pn ++ pins) go) (wCl X.K D l) := by
    intro u s' xx
    obtain ⟨a, B, sI, pins', σ', H', cls, d, rfl, J', nb, up, sky, na, os, ag, wish⟩ := xx
    have J : Inv X pins σ' H' sI := J'.ofTry ok
    refine Sky.land Zc.steady frames hf (show Sky B (X.env :: X.outer) a (Zc cls d) X.env.locals s'.heap by rw [← hs]; exact sky) fun h3 fl3 up3 => ?_
    have J3 : Inv X pins σ' H' { s' with heap := h3 } := J.landed nb fl3.1 (up.trans up3) os ag
    obtain ⟨oe3, vs3, he3, hz3, hd3⟩ := fl3.there
    have nfr : a ∉ frs (X.env :: X.outer) := fun hm => by
      obtain ⟨_, o', e', hnf⟩ := fl3.2.2.1.mem hm
      obtain rfl : oe3 = o' := Option.some.inj (he3.symm.trans e')
      exact hnf _ hd3
    have nL : a ≠ X.env.locals := fun z => nfr (List.mem_filterMap.mpr ⟨X.env, List.mem_cons_self, by rw [hf, z]⟩)
    have nF : a ∉ X.fs := fun hm => by
      obtain ⟨e, he, q⟩ := List.mem_filterMap.mp hm
      exact nfr (List.mem_filterMap.mpr ⟨e, List.mem_cons_of_mem _ he, q⟩)
    have S3 := J3.suite he3 hd3 na nL nF
    have isC : PySem.W.Looks (model X.prog X.w) h3 (typeOf (.ref a)) cls := fun A Q E s k q => wpAny_typeOf_ref (k _ _ he3) (by rw [hz3.1]; exact q)
    have name : ∀ {x : Str} {c : Value} {np : Pos} {Q : Value → Shared → Prop} {E : Value → Shared → Prop}, Names X x c → Q c { s' with heap := h3 } → wpAny (model X.prog X.w) (X.A.mark (some (.ref a))) (eval (.Name x np) X.env) Q E { s' with heap := h3 } := by
      intro x c np Q E hc q
      obtain ⟨hg, hdbg, hm | ⟨hm, hv, hnn⟩⟩ := hc
      · exact ld_glob (X := X.suite a ((a, oe3) :: (X.pn ++ pins))) S3 hg hm q hdbg
      · exact ld_blt (X := X.suite a ((a, oe3) :: (X.pn ++ pins))) S3 hg hm hv q hnn hdbg
    suffices all : ∀ {hds' : List ExceptHandler} {l' : List Cl}, HdsAs X hds' l' → wCl X.K D l' cls d σ' H' → wpAny (model X.prog X.w) X.A (handleBy (.ref a) X.env hds') (SP X pins D) X.xe { s' with heap := h3 } from all hh wish
    intro hds' l' hk
    induction hk with
    | rest => intro z; exact False.elim z
    | @next x c ts b₀ suite np hp hds2 l2 hc su r ih =>
      rintro ⟨b, hb1, yes, no⟩
      refine wpAny_handleBy_cons (codeAny_handlers_test ?_) (by intro q; cases q)
      have isM := PySem.W.exm_one (M := model X.prog X.w) J3.kIn isC hb1
      refine name hc (isM.here ?_)
      cases b with
      | false => exact ih (no rfl)
      | true =>
        refine codeAny_handlers_suite (HandSPX.lands_againZ fl3 fun h4 fl4 up4 => ?_)
        have J4 : Inv X pins σ' H' { s' with heap := h4 } := J.landed nb fl4.1 ((up.trans up3).trans up4) os ag
        obtain ⟨oe4, vs4, he4, hz4, hd4⟩ := fl4.there
        refine wpAny_mono ((su a oe4 cls d (X.pn ++ pins) hz4 ⟨_, hd4⟩).run [] _ _ H' _ (J4.suite he4 hd4 na nL nF) (yes rfl a na)) (fun f s6 hsp => ?_) (fun _ _ z => False.elim z)
        match f, hsp with
        | .next, ⟨σ6, H6, S6, q6⟩ => exact ⟨σ6, H6, S6.unsuite ok, q6⟩
        | .brk, ⟨σ6, H6, S6, q6⟩ => exact ⟨σ6, H6, S6.unsuite ok, q6⟩
        | .cont, ⟨σ6, H6, S6, q6⟩ => exact ⟨σ6, H6, S6.unsuite ok, q6⟩
        | .ret u, ⟨v6, σ6, H6, S6, r6, q6⟩ => exact ⟨v6, σ6, H6, S6.unsuite ok, r6, q6⟩
    | @nextAs x n c i ts b₀ suite np hp hds2 l2 hN hi hln hc su r ih =>
      rintro ⟨b, hb1, yes, no⟩
      refine wpAny_handleBy_cons (codeAny_handlers_test ?_) (by intro q; cases q)
      have isM := PySem.W.exm_one (M := model X.prog X.w) J3.kIn isC hb1
      refine name hc (isM.here ?_)
      cases b with
      | false => exact ih (no rfl)
      | true =>
        have hloc : Loc X.env.scope n := .inl hln
        refine codeAny_handlers_suite_as (HandSPX.lands_againZ fl3 fun h4 fl4 up4 => ?_)
        have J4 : Inv X pins σ' H' { s' with heap := h4 } := J.landed nb fl4.1 ((up.trans up3).trans up4) os ag
        obtain ⟨oe4, vs4, he4, hz4, hd4⟩ := fl4.there
        refine store_ok (X := X.suite a ((a, oe4) :: (X.pn ++ pins))) (v := .ref a) (J4.suite he4 hd4 na nL nF) hN hi hloc rfl (fun s5 S5 => ?_) (.inr hln)
        refine wpAny_mono ((su a oe4 cls d (X.pn ++ pins) hz4 ⟨_, hd4⟩).run [] s5 _ H' _ S5 (yes rfl a na)) (fun f s6 hsp => ?_) (fun _ _ z => False.elim z)
        have end_ : ∀ {σ6 : L2.St} {H6 : Hp} {Q : Shared → Prop}, Inv (X.suite a ((a, oe4) :: (X.pn ++ pins))) [] σ6 H6 s6 → (∀ s7, Inv X pins (σ6.set i none) H6 s7 → Q s7) →
            wpAny (model X.prog X.w) X.A (do bindName X.env n .none; unbindBehindTheSuite X.env n hp) (fun _ s7 => Q s7) X.xe s6 := fun {σ6 H6 Q} S6 hq => gone_ok (S6.unsuite ok) hN hi hln hq
        match f, hsp with
        | .next, ⟨σ6, H6, S6, q6⟩ => exact end_ S6 fun s7 J7 => ⟨_, _, J7, q6⟩
        | .brk, ⟨σ6, H6, S6, q6⟩ => exact end_ S6 fun s7 J7 => ⟨_, _, J7, q6⟩
        | .cont, ⟨σ6, H6, S6, q6⟩ => exact end_ S6 fun s7 J7 => ⟨_, _, J7, q6⟩
        | .ret u, ⟨v6, σ6, H6, S6, r6, q6⟩ => exact end_ S6 fun s7 J7 => ⟨_, _, _, J7, r6, q6⟩
  refine wpAny_Try_except (wpAny_mono ((hb (wCl X.K D l) (X.pn ++ pins) go tk).run [] s σ H D (I.toTry _) h) (fun f s1 hsp => ?_) (fun e s1 he => he))
  match f, hsp with
  | .next, ⟨σ', H', J', q⟩ => exact wpAny_execs_nil ⟨σ', H', J'.ofTry ok, q⟩
  | .brk, ⟨σ', H', J', q⟩ => exact ⟨σ', H', J'.ofTry ok, q⟩
  | .cont, ⟨σ', H', J', q⟩ => exact ⟨σ', H', J'.ofTry ok, q⟩
  | .ret u, ⟨v, σ', H', J', r, q⟩ => exact ⟨v, σ', H', J'.ofTry ok, r, q⟩
end
/-! ### raise X(e), X with an own __init__ that keeps its argument as f -/
/-- an error of the class C with the field f -/
def XdF (H : Hp) (d : Option Addr) (f : Str) (v : V) : Prop := ∃ dd, d = some dd ∧ H dd = some (.xd [(f, v)])
def tMkXi (C : Addr) (f : Str) (ta : TA) : L2.St → Hp → XK → Prop := fun σ H Q => ta σ H fun vs H1 => ∃ v, vs = [v] ∧ ∀ d H', H1 d = none → Same H1 H' → H' d = some (.xd [(f, v)]) → Q (.ref C) (some d) H'
theorem rd_mkXi {C : Addr} {f : Str} {ta : TA} {σ : L2.St} {H : Hp} {Q : XK} (q : ta σ H fun vs H1 => ∃ v, vs = [v] ∧ ∀ d H', H1 d = none → Same H1 H' → H' d = some (.xd [(f, v)]) → Q (.ref C) (some d) H') : tMkXi C f ta σ H Q := q
/-- the promise of such an __init__ -/
def spXr (C : Addr) (f : Str) : Sp := mkSp (fun (a : Addr × V) => [.ref a.1, a.2]) fun a H Q _ => H a.1 = some (exo a.1 C none) ∧ ∀ d H', H d = none → d ≠ a.1 → H' a.1 = some (exo a.1 C (some d)) → H' d = some (exd d [(f, a.2)]) → (∀ b o, b ≠ a.1 → H b = some o → H' b = some o) → Q .non H'
section
variable {X : Cx} {e : Expr} {ta : TA} {f x : Str} {p pos : Pos} {newId : String} {bmB : List Value} {C fI : Addr} {CX : CXT} {k : Nat}
theorem pmk_xi {gd : Bool} {BN i0 : String} {bmN : List Value} (FB : ExcBaseFacts BN newId i0 bmN) (bB : bmB.contains (.type BN) = true) (bA : bmB.contains (.type "AttributeError") = false) (bN : bmB.contains (.type "NameError") = false) (T : XiC X.K C bmB newId) (iC : PySem.W.findIn X.K (.ref C) "__init__" = some (some (.ref fI))) (tI : PySem.W.typeIn X.K (.ref fI) = some (.type "function"))
    (exC : PySem.W.subIn X.K (.ref C) (.type "BaseException") = some true) (tyC : PySem.W.typeIn X.K (.ref C) = some (.type "type")) (F1 : FnG gd X.prog X.w X.K X.mg X.base CX k fI (spXr C f)) (hr : RoomG gd (k + 1) X.A) (hx : Passes CX X E0) (hg : Gl X x) (hm : X.mg x = some (.ref C)) (ha : PA X [e] ta)
    (hdb : (x == ("__debug__" : Str)) = false := by decide) (he : starEach [e] X.env = (false, eval e X.env) :: starEach [] X.env := by rfl) (hpl : (backTo pos (starEach [] X.env)).any (·.1) = false := by rfl) :
    PMk X (.Call (.Name x p) [e] [] pos) (tMkXi C f ta) := by
  intro pins s σ H Q I h
  refine wpAny_Call_Name_kw (ld_glob I hg hm ?_ hdb)
  refine PySem.W.callWith_K (h₀ := X.base) I.ok.mod.kin T.kp (thn (ha.run pos pins s σ H _ I h) fun us s1 ⟨vs, H1, I1, r1, v, ev, q1⟩ => ⟨I1.kIn, ?_⟩) he hpl
  subst ev
  show wpAny _ _ (call (.ref C) us) _ _ _
  obtain ⟨nm, N, q, bs, bm, hdct, sn, sub, ab, col, dd, k0, k1, k2, k3, k5, hC, hT⟩ := PySem.W.excInit_of I1.kIn T.cl
  obtain ⟨hp, g, dr, tk, os⟩ := s1
  have hn : H1 (hp.objs.size + 1) = none := I1.hok.fresh (Nat.le_succ _)
  have kk : ∀ b o, hp.get? b = some o → ((hp.push (PySem.W.kdv_tup us)).push (HandSPX.excO C hp.objs.size)).get? b = some o := fun b o e => Heap.get?_push_of_some _ (Heap.get?_push_of_some _ e)
  have hget : ((hp.push (PySem.W.kdv_tup us)).push (HandSPX.excO C hp.objs.size)).get? (hp.objs.size + 1) = some (HandSPX.excO C hp.objs.size) := by heap_get
  have I2 := I1.laid (t' := tk) (a := hp.objs.size + 1) (o := exo (hp.objs.size + 1) C none) kk (Nat.le_succ _) (exo_ok hget)
  have r2 : Vals [V.ref (hp.objs.size + 1), v] (Value.ref (hp.objs.size + 1) :: us) := .cons rfl r1
  have hsp : spXr C f [V.ref (hp.objs.size + 1), v] (upd H1 (hp.objs.size + 1) (exo (hp.objs.size + 1) C none)) (fun v' H2 => v' = .non ∧ ∃ d, H2 (hp.objs.size + 1) = some (exo (hp.objs.size + 1) C (some d)) ∧ H2 d = some (exd d [(f, v)]) ∧ H1 d = none ∧ Q (.ref C) (some d) (upd (del H2 (hp.objs.size + 1)) d (.xd [(f, v)]))) E0 := by
    refine rd_sp (hp.objs.size + 1, v) rfl ⟨upd_same, fun d H2 hd hne h1 h2 h3 => ⟨rfl, d, h1, h2, by rw [upd_ne hne] at hd; exact hd, q1 d _ (by rw [upd_ne hne] at hd; exact hd) (fun b o e => ?_) upd_same⟩⟩
    have ne1 : b ≠ hp.objs.size + 1 := ne_of_none e hn
    have ne2 : b ≠ d := ne_of_none e (by rw [upd_ne hne] at hd; exact hd)
    rw [upd_ne ne2, del_ne ne1]
    exact h3 b o ne1 (by rw [upd_ne ne1]; exact e)
  refine wpAny_call (xw_call FB ((hT _).trans bB) ((hT _).trans bA) ((hT _).trans bN) hC (PySem.W.looks_findIn I1.kIn iC) (fun self => PySem.W.bind_fn I1.kIn self tI) (by rw [← Paired.length r1, sizeLine_eq]; show 1 ≤ _; omega)
    (codeAny_mono (F1 _ X.stack _ _ (Value.ref (hp.objs.size + 1) :: us) _ _ E0 (hr.make C us []) (I2.env0.make C us []) r2 hsp) fun r s' hq' => ?_))
  match r, hq' with
  | .error er, hq' => exact hx pins σ _ _ er s' I2 hq'
  | .ok (.ret u), hq' =>
    obtain ⟨v', H2, os2, bare2, un2, hok2, rv, ev, d, ea, ed, hd1, q2⟩ := hq'
    subst ev
    obtain ⟨h2, g2, d2, t2, os'⟩ := s'
    exact ⟨rv, mk_end (raises_own exC tyC) I1 (Nat.le_succ _) kk un2 hok2 os2 bare2 ea ed hd1 q2⟩
  | .ok .next, hq' => exact False.elim hq'
  | .ok .brk, hq' => exact False.elim hq'
  | .ok .cont, hq' => exact False.elim hq'
end
end Rd
set_option Elab.async false
set_option linter.all false
set_option maxRecDepth 100000
set_option maxHeartbeats 4000000
/-! Rq: classes: making instances, properties, own operators. -/
namespace Rd
open PySem PySem.Spec PyProof.Rows L2
theorem FnG.toR {P : Program} {w : World} {K : PySem.W.Frag} {mg : Str → Option Value} {base : Heap} {CX : CXT} {k : Nat} {f : Addr} {sp : Sp} (F : FnG false P w K mg base CX k f sp) : FnR P w K mg base CX k f sp := fun A outer s H us vs Q E hr => F A outer s H us vs Q E (RoomG.any hr)
/-! ### making -/
section
variable {X : Cx} {CX : CXT} {k i : Nat} {f C : Addr} {sp : Sp} {E : XK} {x m : Str} {e o : Expr} {es : List Expr} {te ta : TE} {t : TA} {p pos sp_ apos : Pos}
/-- a new instance of C, by the promise of its __init__ -/
def rMake (C : Addr) (sp : Sp) (E : XK) : List V → Hp → VK → Prop := fun vs H Q => ∀ x dx, H x = Option.none → H dx = Option.none → dx ≠ x → sp (V.ref x :: vs) (upd (upd H dx (.own x)) x (.ins C dx [])) (fun v H2 => v = .non ∧ Q (.ref x) H2) E
theorem pe_mk (M : Mk X.K C f) (F : FnR X.prog X.w X.K X.mg X.base CX k f sp) (hr : Room (k + 1) X.A) (hg : Gl X x) (hm : X.mg x = some (.ref C)) (hx : Passes CX X E) (ha : PA X (e :: es) t) (hdb : (x == ("__debug__" : Str)) = false := by decide)
    (he : starEach (e :: es) X.env = (false, eval e X.env) :: starEach es X.env := by rfl) (hpl : (backTo pos (starEach es X.env)).any (·.1) = false := by rfl) : PE X (.Call (.Name x p) (e :: es) [] pos) (tCB (rMake C sp E) t) := StX.pe_makeR M F hr hg hm hx ha hdb he hpl
theorem pe_mk0 (M : Mk X.K C f) (F : FnR X.prog X.w X.K X.mg X.base CX k f sp) (hr : Room (k + 1) X.A) (hg : Gl X x) (hm : X.mg x = some (.ref C)) (hx : Passes CX X E) (hdb : (x == ("__debug__" : Str)) = false := by decide) : PE X (.Call (.Name x p) [] [] pos) (tCB (rMake C sp E) tNil) := by
  refine ⟨fun pins s σ H Q I h => ?_⟩
  refine wpAny_Call_Name_kw (ld_glob I hg hm ?_ hdb)
  exact PySem.W.callWith_K0 I.kIn M.kp (StX.run_makeR (us := []) M F hr hx I .nil h)
/-- C(*e), C a global -/
def rStar (K : PySem.W.Frag) (r : List V → Hp → VK → Prop) : V → Hp → VK → Prop := fun y H Q => ∃ a xs, y = V.ref a ∧ (SqT K H a xs ∨ SqL K H a xs) ∧ r xs H Q
theorem pe_mkS (M : Mk X.K C f) (F : FnR X.prog X.w X.K X.mg X.base CX k f sp) (hr : Room (k + 1) X.A) (hg : Gl X x) (hm : X.mg x = some (.ref C)) (hx : Passes CX X E) (he : PE X e te) (hd : (x == ("__debug__" : Str)) = false := by decide)
    (hst : starEach [.Starred e sp_] X.env = [(true, eval e X.env)] := by rfl) : PE X (.Call (.Name x p) [.Starred e sp_] [] pos) (tUn (rStar X.K (rMake C sp E)) te) := by
  refine ⟨fun pins s σ H Q I h => ?_⟩
  refine wpAny_Call_Name_kw (ld_glob I hg hm ?_ hd)
  refine PySem.W.callWith_S (h₀ := X.base) I.ok.mod.kin M.kp (thn (he.run pins s σ H _ I h) fun v s1 ⟨y, H1, I1, ry, a, xs, ey, hxs, q⟩ => ?_) hst
  subst ey
  obtain rfl : v = Value.ref a := ry
  exact StX.star_any I1 hxs fun us s2 I2 rv => ⟨I2.kIn, StX.run_makeR M F hr hx I2 rv q⟩
/-- c(*e), c a local name that holds the class -/
def tMkVS (K : PySem.W.Frag) (i : Nat) (C : Addr) (r : List V → Hp → VK → Prop) (te : TE) : TE := fun σ H Q => σ[i]? = some (some (.ref C)) ∧ te σ H fun y H1 => rStar K r y H1 Q
theorem pe_mkVS (M : Mk X.K C f) (F : FnR X.prog X.w X.K X.mg X.base CX k f sp) (hr : Room (k + 1) X.A) (hx : Passes CX X E) (hN : X.N[i]? = some x) (hv : Vis X.env.scope x) (he : PE X e te) (hd : (x == ("__debug__" : Str)) = false := by decide) (hcd : (x == ("__classdict__" : Str)) = false := by decide)
    (hst : starEach [.Starred e sp_] X.env = [(true, eval e X.env)] := by rfl) : PE X (.Call (.Name x p) [.Starred e sp_] [] pos) (tMkVS X.K i C (rMake C sp E) te) := by
  refine ⟨fun pins s σ H Q I h => ?_⟩
  obtain ⟨hs, h⟩ := h
  refine wpAny_Call_Name_kw (thn ((pe_var (pos := p) (i := i) hN hv hd hcd).run pins s σ H (fun v H1 => v = .ref C ∧ H1 = H) I ⟨.ref C, hs, rfl, rfl⟩) fun u s1 ⟨v, H1, I1, r1, ev, eH⟩ => ?_)
  subst ev
  rw [eH] at I1
  cases r1
  refine PySem.W.callWith_S (h₀ := X.base) I.ok.mod.kin M.kp (thn (he.run pins s1 σ H _ I1 h) fun v s2 ⟨y, H2, I2, ry, a, xs, ey, hxs, q⟩ => ?_) hst
  subst ey
  obtain rfl : v = Value.ref a := ry
  exact StX.star_any I2 hxs fun us s3 I3 rv => ⟨I3.kIn, StX.run_makeR M F hr hx I3 rv q⟩
/-! readings -/
abbrev rFld (K : PySem.W.Frag) (f : Str) (x : V) (H1 : Hp) (Q : VK) : Prop := ∃ a C dx fs v, x = .ref a ∧ H1 a = some (.ins C dx fs) ∧ Cls K C ∧ NoAttr K C f ∧ fs.lookup f = some v ∧ Q v H1
variable {σ : L2.St} {H : Hp} {Q : VK}
theorem rd_mkVS {K : PySem.W.Frag} {r : List V → Hp → VK → Prop} (h : σ[i]? = some (some (.ref C))) (q : te σ H fun y H1 => rStar K r y H1 Q) : tMkVS K i C r te σ H Q := ⟨h, q⟩
theorem rd_starT {K : PySem.W.Frag} {r : List V → Hp → VK → Prop} {a : Addr} {xs : List V} (h : SqT K H a xs) (q : r xs H Q) : rStar K r (.ref a) H Q := ⟨a, xs, rfl, .inl h, q⟩
abbrev rMethA (C : Addr) (m : Str) (sp : Sp) (E : XK) (t : TA) (σ : L2.St) (Q : VK) (x : V) (H1 : Hp) : Prop := ∃ a dx fs, x = .ref a ∧ H1 a = some (.ins C dx fs) ∧ fs.lookup m = none ∧ t σ H1 fun vs H2 => sp (x :: vs) H2 Q E
theorem rd_methR (q : ta σ H fun x H1 => rMethA C m sp E t σ Q x H1) : tMethR C m sp E ta t σ H Q := q
theorem rd_cmeth (q : ta σ H fun x H1 => x = .ref C ∧ t σ H1 fun vs H2 => sp (.ref C :: vs) H2 Q E) : ClX.tCMeth C sp E ta t σ H Q := q
theorem rd_fldS {K : PySem.W.Frag} {tv : TE} {f : Str} {D : Ends} (q : tv σ H fun y H1 => ta σ H1 fun x H2 => ∃ a C dx fs, x = .ref a ∧ H2 a = some (.ins C dx fs) ∧ Cls K C ∧ NoAttr K C f ∧ fs.length < 1000 ∧ D.nx σ (upd H2 a (.ins C dx (putF f y fs)))) : sFld K ta tv f D σ H := q
theorem rd_fld {K : PySem.W.Frag} {f : Str} (q : ta σ H fun x H1 => rFld K f x H1 Q) : tFld K ta f σ H Q := q
end
/-- isinstance(x, C) of an own class -/
theorem rd_isiC {K : PySem.W.Frag} {H : Hp} {Q : VK} {v : V} {t : Value} {C : Addr} {b : Bool} (h : TyX K H v t) (hk : PySem.W.kitOne K t (.ref C) = some b) (q : Q (.bl b) H) : rIsi K [v, .ref C] H Q := ⟨v, .ref C, t, .ref C, b, rfl, .own C, h, hk, q⟩
/-! ### properties -/
def tPropR (C : Addr) (sp : Sp) (E : XK) (ta : TE) : TE := fun σ H Q => ta σ H fun x H1 => ∃ a dx fs, x = .ref a ∧ H1 a = some (.ins C dx fs) ∧ sp [.ref a] H1 Q E
abbrev rPropA (C : Addr) (sp : Sp) (E : XK) (Q : VK) (x : V) (H1 : Hp) : Prop := ∃ a dx fs, x = .ref a ∧ H1 a = some (.ins C dx fs) ∧ sp [.ref a] H1 Q E
theorem rd_propR {C : Addr} {sp : Sp} {E : XK} {ta : TE} {σ : L2.St} {H : Hp} {Q : VK} (q : ta σ H fun x H1 => rPropA C sp E Q x H1) : tPropR C sp E ta σ H Q := q
section
variable {X : Cx} {CX : CXT} {k : Nat} {C p g f0 f : Addr} {n : Str} {sp : Sp} {E : XK} {e : Expr} {pos : Pos} {ta : TE}
theorem pe_propR (he : PE X e ta) (c : Cls X.K C) (hp : PropOf X.K C n p g) (F : FnR X.prog X.w X.K X.mg X.base CX k g sp) (hr : Room (k + 1) X.A) (hx : Passes CX X.nox E) (hab : attributeBase e n X.env (eval e X.env) = eval e X.env := by rfl) : PE X (.Attribute e n pos) (tPropR C sp E ta) := by
  refine ⟨fun pins s σ H Q I h => attr_of hab (thn (he.run pins s σ H _ I h) fun u s1 ⟨x, H1, I1, rx, a, dx, fs, ex, ea, q⟩ => ?_)⟩
  subst ex
  obtain rfl : u = Value.ref a := rx
  obtain ⟨mA, O, _, _, _, _⟩ := ins_get I1.hok ea
  obtain ⟨od, J, _⟩ := O.look
  obtain ⟨rest, hrec⟩ := hp.rec_
  have I2 := I1.tok (s1.toks + 1)
  have hc : (PySem.W.clsIn X.K C).isSome = true := by
    obtain ⟨cd, hc, _⟩ := PySem.W.any_some c.hd
    rw [hc] <;> rfl
  refine PySem.W.get_bind I1.kIn J (PySem.W.plainGet_of (c.get n)).1 (PySem.W.findObj_data hc hp.at_ hp.get hp.tak) (PySem.W.plainGet_of (c.get n)).2 (wpAny_call (PySem.W.prop_get (s := { s1 with toks := s1.toks + 1 }) I1.kIn hrec ?_))
  refine codeAny_mono (F X.A.in1 X.stack { s1 with toks := s1.toks + 1 } H1 [.ref a] [.ref a] Q E hr.in1 I2.env0.in1 (.cons rfl .nil) q) fun r s' hq => ?_
  match r, hq with
  | .error er, hq => exact False.elim (hx pins σ H1 { s1 with toks := s1.toks + 1 } er s' (I2.wish _) hq)
  | .ok (.ret u), hq =>
    obtain ⟨v, H', I3, rv, q3⟩ := I2.after hq
    show wpAny _ _ (handedOut u) _ _ _
    rw [PySem.W.handedOut_of (handed_of rv)]
    exact wpAny_pure ⟨v, H', I3, rv, q3⟩
  | .ok .next, hq => exact False.elim hq
  | .ok .brk, hq => exact False.elim hq
  | .ok .cont, hq => exact False.elim hq
/-! ### own operators -/
theorem ins_look {pins : List (Addr × Obj)} {σ : L2.St} {H : Hp} {s : Shared} {a dx : Addr} {fs : List (Str × V)} (I : Inv X pins σ H s) (h : H a = some (.ins C dx fs)) : ∃ ox od, PySem.W.InstAt s.heap a ox C od ∧ ox.data = .plain := StX.insC_at I (.inr ⟨dx, fs, h⟩)
/-- what comes back is an object -/
theorem run_back {pins : List (Addr × Obj)} {σ : L2.St} {H : Hp} {s : Shared} {Q : VK} {us : List Value} {vs : List V} (F : FnR X.prog X.w X.K X.mg X.base CX k f sp) (hr : Room k X.A) (hx : Passes CX X E) (I : Inv X pins σ H s) (r : Vals vs us)
    (h : sp vs H (fun v H' => (∃ p, v = .ref p) ∧ Q v H') E) : wpAny (model X.prog X.w) X.A (call (.ref f) us) (PySem.W.CmpBack (EP X pins σ Q)) X.xe s := by
  refine wpAny_call (codeAny_mono (run_fnR F hr hx I r h) fun r s' hq => ?_)
  match r, hq with
  | .error e, hq => exact hq
  | .ok (.ret u), hq =>
    obtain ⟨v, H', I', rv, ⟨p, rfl⟩, q⟩ := hq
    cases rv
    exact ⟨.ref p, H', I', rfl, q⟩
  | .ok .next, hq => exact hq
  | .ok .brk, hq => exact hq
  | .ok .cont, hq => exact hq
/-- the class C fills the slot nm by its def f -/
structure OwnL (K : PySem.W.Frag) (C : Addr) (nm : String) (f : Addr) : Prop where
  sf : PySem.W.selfFirst K C = true
  l : PySem.W.findIn K (.ref C) (PySem.dunder nm) = some (some (.ref f))
  lf : PySem.W.isFn K (.ref f) = true
  r : ∃ rc, PySem.W.findIn K (.ref C) (dunderR nm) = some rc ∧ (rc = none ∨ ∃ g : Addr, rc = some (.ref g))
  i1 : ∃ o, PySem.W.findIn K (.type "int") (PySem.dunder nm) = some o
  i2 : ∃ o, PySem.W.findIn K (.type "int") (dunderR nm) = some o
  s1 : PySem.W.subIn K (.type "int") (.ref C) = some false
/-- .. and by fr from the right -/
structure OwnOp (K : PySem.W.Frag) (C : Addr) (nm : String) (f fr : Addr) : Prop where
  sf : PySem.W.selfFirst K C = true
  l : PySem.W.findIn K (.ref C) (PySem.dunder nm) = some (some (.ref f))
  r : PySem.W.findIn K (.ref C) (dunderR nm) = some (some (.ref fr))
  rf : PySem.W.isFn K (.ref fr) = true
  s2 : PySem.W.subIn K (.ref C) (.type "int") = some false
def rOwn (C : Addr) (sp : Sp) (E : XK) : R2 := fun x y H Q => (∃ a dx fs, x = .ref a ∧ H a = some (.ins C dx fs)) ∧ ((∃ b dy gs, y = .ref b ∧ H b = some (.ins C dy gs)) ∨ ∃ i, y = .int i) ∧ sp [x, y] H (fun v H' => (∃ p, v = .ref p) ∧ Q v H') E
theorem op_own {op : Operator} (O : OwnL X.K C op.info.2 f) (F : FnR X.prog X.w X.K X.mg X.base CX k f sp) (hr : Room k X.A) (hx : Passes CX X E) : OpR X (binaryOp op) (rOwn C sp E) := by
  intro pins s σ H x y v u Q I rx ry h
  obtain ⟨⟨a, dx, fs, rfl, ha⟩, hy, h⟩ := h
  cases rx
  obtain ⟨m, hF⟩ := I.fr
  obtain ⟨ox, od, J, _⟩ := ins_look I ha
  rcases hy with ⟨b, dy, gs, rfl, hb⟩ | ⟨i, rfl⟩
  · cases ry
    obtain ⟨oy, od', J', _⟩ := ins_look I hb
    exact PySem.W.binop_K hF I.ok.mod.kin J J'.type O.sf O.l O.lf (run_back (vs := [.ref a, .ref b]) F hr hx I (.cons rfl (.cons rfl .nil)) h)
  · obtain ⟨t, rfl⟩ := ry
    obtain ⟨o1, h1⟩ := O.i1
    obtain ⟨o2, h2⟩ := O.i2
    obtain ⟨rc, h3, h4⟩ := O.r
    exact PySem.W.ksp_binT (T := "int") hF I.ok.mod.kin J rfl O.sf O.l O.lf h3 h4 h1 h2 O.s1 (run_back (vs := [.ref a, .int i]) F hr hx I (.cons rfl (.cons ⟨t, rfl⟩ .nil)) h)
end
section
variable {prog : Program} {w : World} {A : Around} {E : Value → Shared → Prop} {s : Shared} {K : PySem.W.Frag} {x C f fr L : Addr} {h₀ : Heap} {m : Str → Option Value} {ox : Obj} {od : Option Obj} {i : Int} {t : Tok}
theorem int_add_dec (hx : s.heap.get? x = some ox) (hd : ox.data = .plain) : wpAny (model prog w) A (call (.builtin "int.__add__") [.int i t, .ref x]) (fun v s' => v = .notImplemented ∧ s' = s) E s := by
  refine wpAny_call_entry PySem.F.slot_int_add (typeIs_int s i t) PySem.F.entry_int_add ?_ (PySem.F.args_int_add_2 _ _)
  unfold Builtin.«int.__add__» Builtin.Int.intBinary
  refine wpAny_bind (m := slotArgs "__add__" 1 _) (wpAny_pure ?_)
  dsimp only
  refine wpAny_bind (m := Builtin.Int.intOfSelf _) (wpAny_bind (wpAny_pure (wpAny_pure ?_)))
  refine wpAny_bind ?_
  show wpAny _ _ (load x >>= fun o => match o.data with | .prim (.int i _) => pure (some i) | _ => pure none) _ _ s
  refine wpAny_bind (wpAny_load hx ?_)
  rw [hd]
  exact wpAny_pure (wpAny_bind (wpAny_rule (wpAny_pure ⟨_, rfl, rfl, rfl⟩)))
theorem int_mul_dec (hx : s.heap.get? x = some ox) (hd : ox.data = .plain) : wpAny (model prog w) A (call (.builtin "int.__mul__") [.int i t, .ref x]) (fun v s' => v = .notImplemented ∧ s' = s) E s := by
  refine wpAny_call_entry PySem.F.slot_int_mul (typeIs_int s i t) PySem.F.entry_int_mul ?_ (PySem.F.args_int_mul_2 _ _)
  unfold Builtin.«int.__mul__» Builtin.Int.intBinary
  refine wpAny_bind (m := slotArgs "__mul__" 1 _) (wpAny_pure ?_)
  dsimp only
  refine wpAny_bind (m := Builtin.Int.intOfSelf _) (wpAny_bind (wpAny_pure (wpAny_pure ?_)))
  refine wpAny_bind ?_
  show wpAny _ _ (load x >>= fun o => match o.data with | .prim (.int i _) => pure (some i) | _ => pure none) _ _ s
  refine wpAny_bind (wpAny_load hx ?_)
  rw [hd]
  exact wpAny_pure (wpAny_bind (wpAny_rule (wpAny_pure ⟨_, rfl, rfl, rfl⟩)))
theorem rbin_K {op : Operator} {id : String} {Q : Value → Shared → Prop} (XK : K.In s.heap) (J : PySem.W.InstAt s.heap x ox C od) (O : OwnOp K C op.info.2 f fr) (fi : fillsNumberSlot (.type "int") op.info.2 = pure true) (slot : Slot "int" (PySem.dunder op.info.2) id)
    (dec : wpAny (model prog w) A (call (.builtin id) [.int i t, .ref x]) (fun v s' => v = .notImplemented ∧ s' = s) E s)
    (h : wpAny (model prog w) A (call (.ref fr) [.ref x, .int i t]) (PySem.W.CmpBack Q) E s) : wpAny (model prog w) A (binaryOp op (.int i t) (.ref x)) Q E s := by
  obtain ⟨cd, rest, hcd, hm⟩ := PySem.W.ksp_first O.sf
  have Ol := O.l
  have Or := O.r
  rcases hi : op.info with ⟨sym, nm'⟩
  rw [hi] at fi slot Ol Or
  dsimp only at fi slot Ol Or
  have two := PySem.W.ksp_try XK J Or O.rf h
  have one : wpAny (model prog w) A (tryMethod (.int i t) (PySem.dunder nm') (.ref x)) (fun r s' => r = none ∧ s' = s) E s :=
    wpAny_tryMethod_declines (typeIs_int s i t) slot (wpAny_mono dec (fun v s' q => ⟨q.1, rfl, q.2⟩) fun _ _ e => e)
  obtain ⟨hh, g, d, tt, os⟩ := s
  have L1 : PySem.W.Looks (model prog w) hh (typeOf (.int i t)) (.type "int") := PySem.W.Looks.of_pure rfl
  have L2 : PySem.W.Looks (model prog w) hh (typeOf (.ref x)) (.ref C) := J.type
  have L3 : PySem.W.Looks (model prog w) hh (fillsNumberSlot (.type "int") nm') true := PySem.W.Looks.of_pure fi
  have L4 : PySem.W.Looks (model prog w) hh (fillsNumberSlot (.ref C) nm') true := PySem.W.fills_K XK hcd hm Ol
  have L5 : PySem.W.Looks (model prog w) hh (isSubtype (.ref C) (.type "int")) false := PySem.W.looks_subIn XK O.s2
  have L6 : PySem.W.Looks (model prog w) hh (numberSlotInPython (.type "int") nm') false := PySem.W.Looks.of_pure rfl
  have hne : (Value.type "int" == Value.ref C) = false := Bool.eq_false_iff.mpr fun q => by cases beq_iff_eq.mp q
  simp only [binaryOp, hi]
  refine wpAny_holding (wpAny_bind ?_)
  unfold binaryOp1
  refine wpAny_bind (L1.at (wpAny_bind (L2.at (wpAny_bind (L3.at ?_)))))
  simp only [hne, Bool.false_eq_true, if_false]
  refine wpAny_bind (L4.at ?_)
  simp only [Bool.and_self, if_true]
  refine wpAny_bind (L5.at ?_)
  simp only [Bool.false_eq_true, if_false, pure_bind, Bool.not_false, Bool.and_self, if_true]
  refine wpAny_bind (L6.at ?_)
  simp only [Bool.false_eq_true, if_false, pure_bind]
  refine wpAny_bind (wpAny_mono one (fun r s' hr' => ?_) fun _ _ e => e)
  obtain ⟨rfl, rfl⟩ := hr'
  refine wpAny_bind (wpAny_mono two (fun r s' hr' => ?_) fun _ _ e => e)
  obtain ⟨v, rfl, hq⟩ := hr'
  exact wpAny_bind (wpAny_rule (wpAny_pure (wpAny_pure hq)))
end
section
variable {X : Cx} {CX : CXT} {k : Nat} {C f fr : Addr} {sp : Sp} {E : XK}
def rOwnR (C : Addr) (sp : Sp) (E : XK) : R2 := fun x y H Q => (∃ i, x = .int i) ∧ (∃ a dx fs, y = .ref a ∧ H a = some (.ins C dx fs)) ∧ sp [y, x] H (fun v H' => (∃ p, v = .ref p) ∧ Q v H') E
theorem op_ownR {op : Operator} {id : String} (O : OwnOp X.K C op.info.2 f fr) (fi : fillsNumberSlot (.type "int") op.info.2 = pure true) (slot : Slot "int" (PySem.dunder op.info.2) id)
    (dec : ∀ {A : Around} {E : Value → Shared → Prop} {s : Shared} {i : Int} {t : Tok} {x : Addr} {ox : Obj}, s.heap.get? x = some ox → ox.data = .plain → wpAny (model X.prog X.w) A (call (.builtin id) [.int i t, .ref x]) (fun v s' => v = .notImplemented ∧ s' = s) E s)
    (F : FnR X.prog X.w X.K X.mg X.base CX k fr sp) (hr : Room k X.A) (hx : Passes CX X E) : OpR X (binaryOp op) (rOwnR C sp E) := by
  intro pins s σ H x y v u Q I rx ry h
  obtain ⟨⟨i, rfl⟩, ⟨a, dx, fs, rfl, ha⟩, h⟩ := h
  obtain ⟨t, rfl⟩ := rx
  cases ry
  obtain ⟨ox, od, J, hd⟩ := ins_look I ha
  exact rbin_K I.kIn J O fi slot (dec J.at_ hd) (run_back (vs := [.ref a, .int i]) F hr hx I (.cons rfl (.cons ⟨t, rfl⟩ .nil)) h)
/-! ### == and != -/
/-- what comes back fits R; A' is where the def runs -/
theorem run_at {pins : List (Addr × Obj)} {σ : L2.St} {H : Hp} {s : Shared} {Q : VK} {us : List Value} {vs : List V} {A' : Around} {R : Value → Shared → Prop} (F : FnR X.prog X.w X.K X.mg X.base CX k f sp) (hr : Room k A') (e0 : Env0 X.prog X.w X.K X.mg X.base A' X.stack s H) (hx : Passes CX X E) (I : Inv X pins σ H s) (r : Vals vs us)
    (h : sp vs H Q E) (hR : ∀ u s', EP X pins σ Q u s' → R u s') : wpAny (model X.prog X.w) A' (call (.ref f) us) R X.xe s := by
  refine wpAny_call (codeAny_mono (F A' X.stack s H us vs Q E hr e0 r h) fun r s' hq => ?_)
  match r, hq with
  | .error e, hq => exact hx pins σ H s e s' I hq
  | .ok (.ret u), hq => exact hR u s' (I.after hq)
  | .ok .next, hq => exact False.elim hq
  | .ok .brk, hq => exact False.elim hq
  | .ok .cont, hq => exact False.elim hq
structure OwnEq (K : PySem.W.Frag) (C f : Addr) : Prop where
  e : PySem.W.findIn K (.ref C) "__eq__" = some (some (.ref f))
  ef : PySem.W.isFn K (.ref f) = true
  n : PySem.W.findIn K (.ref C) "__ne__" = some (some (.builtin "object.__ne__"))
  m : PySem.W.mroIn K C (.type "object") = some true
def rEqO (C : Addr) (sp : Sp) (E : XK) (neg : Bool) : R2 := fun x y H Q => (∃ a dx fs, x = .ref a ∧ H a = some (.ins C dx fs)) ∧ (∃ b dy gs, y = .ref b ∧ H b = some (.ins C dy gs)) ∧ sp [x, y] H (fun v H' => ∃ b, v = .bl b ∧ Q (.bl (b != neg)) H') E
theorem op_eqO (O : OwnEq X.K C f) (F : FnR X.prog X.w X.K X.mg X.base CX k f sp) (hr : Room k X.A) (hx : Passes CX X E) : OpR X (compareOp .Eq) (rEqO C sp E false) := by
  intro pins s σ H x y v u Q I rx ry h
  obtain ⟨⟨a, dx, fs, rfl, ha⟩, ⟨b, dy, gs, rfl, hb⟩, h⟩ := h
  cases rx
  cases ry
  obtain ⟨m, hF⟩ := I.fr
  obtain ⟨ox, od, J, _⟩ := ins_look I ha
  obtain ⟨oy, od', J', _⟩ := ins_look I hb
  refine PySem.W.cmp_K (op := .Eq) (tb := .ref C) (Nat.lt_of_le_of_lt (Nat.le_add_right _ _) hr.units) hF I.ok.mod.kin J J'.type (by simp [PySem.W.notFirst]) O.e O.ef (run_at (vs := [.ref a, .ref b]) F hr I.env0 hx I (.cons rfl (.cons rfl .nil)) h fun u s' hq => ?_)
  obtain ⟨v, H', I', rv, c, rfl, q⟩ := hq
  cases rv
  exact ⟨.bl c, H', I', rfl, by simpa using q⟩
theorem ifBound_B {M : Model} {A : Around} {E : Value → Shared → Prop} {s : Shared} {K : PySem.W.Frag} {x : Addr} {ox : Obj} {od : Option Obj} {name : Str} {id : String} {args : List Value} {Q : Option Value → Shared → Prop} (X : K.In s.heap) (J : PySem.W.InstAt s.heap x ox C od)
    (hs : PySem.W.findIn K (.ref C) name = some (some (.builtin id))) (hb : ∀ self, bindSpecial (.builtin id) self = pure (.builtin id, [self])) (h : wpAny M A (call (.builtin id) (.ref x :: args)) (fun v => Q (some v)) E s) : wpAny M A (callSpecialIfBound? (.ref x) name args) Q E s := by
  simp only [callSpecialIfBound?, bindSpecialIfBound?]
  refine wpAny_holding (wpAny_bind (wpAny_bind (wpAny_bind (J.type.here ((PySem.W.looks_findIn X hs).here ?_)))))
  refine wpAny_bind (wpAny_askSetting (wpAny_ite ?_))
  have last : wpAny M A (call (.builtin id) ([.ref x] ++ args) >>= fun v => pure (some v)) Q E s := wpAny_bind (wpAny_mono h (fun v s' z => wpAny_pure z) fun _ _ z => z)
  split
  · exact wpAny_bind ((PySem.W.Looks.of_pure (hb _)).here (wpAny_pure (by exact last)))
  · exact wpAny_tryCatch (wpAny_bind ((PySem.W.Looks.of_pure (hb _)).here (wpAny_pure (by exact last))))
theorem op_neO (O : OwnEq X.K C f) (F : FnR X.prog X.w X.K X.mg X.base CX k f sp) (hr : Room (k + 1) X.A) (hx : Passes CX X E) : OpR X (compareOp .NotEq) (rEqO C sp E true) := by
  intro pins s σ H x y v u Q I rx ry h
  obtain ⟨⟨a, dx, fs, rfl, ha⟩, ⟨b, dy, gs, rfl, hb⟩, h⟩ := h
  cases rx
  cases ry
  obtain ⟨ox, od, J, _⟩ := ins_look I ha
  obtain ⟨oy, od', J', _⟩ := ins_look I hb
  have un : X.A.units < cLine := Nat.lt_of_le_of_lt (Nat.le_add_right _ _) hr.units
  have un1 : X.A.in1.units < cLine := Nat.lt_of_le_of_lt (Nat.le_add_right _ _) hr.in1.units
  have core : wpAny (model X.prog X.w) X.A (call (.builtin "object.__ne__") [.ref a, .ref b]) (fun v s' => ∃ c, v = .bool c ∧ EP X pins σ Q v s') X.xe s := by
    refine wpAny_call (codeAny_call_builtin PySem.F.slot_object_ne.plain PySem.F.entry_object_ne (PySem.W.check_slot (i := "object.__ne__") (owner := "object") (n := "__ne__") (by decide +kernel) (by decide +kernel) (J.type.andThen (PySem.W.looks_mroIn I.kIn O.m)) (PySem.F.args_object_ne_2 _ _) ?_))
    unfold Builtin.«object.__ne__»
    refine wpAny_bind (m := slotArgs "__ne__" 1 _) (wpAny_pure ?_)
    refine wpAny_bind (m := cRoomFor _ _) (wpAny_cRoomFor un1 ?_)
    refine wpAny_bind (m := callSpecialIfBound? (.ref a) (Str.ofString "__eq__") _) (PySem.W.ifBound_K I.kIn J O.e O.ef (run_at (vs := [.ref a, .ref b]) F hr.in1 I.env0.in1 hx I (.cons rfl (.cons rfl .nil)) h fun u s' hq => ?_))
    obtain ⟨v, H', I', rv, c, rfl, q⟩ := hq
    cases rv
    refine wpAny_bind (m := truthy (.bool c)) (wpAny_pure (wpAny_pure ⟨!c, rfl, .bl (!c), H', I', rfl, ?_⟩))
    cases c <;> exact q
  have one : wpAny (model X.prog X.w) X.A (tryCompare (.ref a) (cmpInfo .NotEq).2.1 (.ref b)) (fun r s' => ∃ v, r = some v ∧ EP X pins σ Q v s') X.xe s := by
    unfold tryCompare
    refine wpAny_bind (ifBound_B I.kIn J O.n PySem.F.slot_object_ne.bind (wpAny_mono core (fun v s' hv => ?_) fun _ _ e => e))
    obtain ⟨c, rfl, q⟩ := hv
    exact wpAny_pure ⟨_, rfl, q⟩
  show wpAny _ _ (richCompare .NotEq (.ref a) (.ref b)) _ _ _
  unfold richCompare
  simp only [oneThing_ref]
  refine wpAny_holding (wpAny_bind (wpAny_cRoomFor un ?_))
  refine wpAny_bind (J.type.here (wpAny_bind (J'.type.here ?_)))
  split
  · rename_i q
    simp at q
  · refine wpAny_bind (wpAny_pure ?_)
    simp only [Bool.false_eq_true, if_false]
    refine wpAny_bind (wpAny_mono one (fun r s' z => ?_) fun _ _ e => e)
    obtain ⟨v, rfl, hq⟩ := z
    exact wpAny_pure hq
/-! ### str -/
def rStrO (C : Addr) (sp : Sp) (E : XK) : List V → Hp → VK → Prop := fun vs H Q => ∃ a dx fs, vs = [.ref a] ∧ H a = some (.ins C dx fs) ∧ sp [.ref a] H (fun v H' => ∃ z, v = .str z ∧ Q (.str z) H') E
theorem rd_strO {σ : L2.St} {H : Hp} {Q : VK} {a dx : Addr} {fs : List (Str × V)} (h : H a = some (.ins C dx fs)) (q : sp [.ref a] H (fun v H' => ∃ z, v = .str z ∧ Q (.str z) H') E) : rStrO C sp E [.ref a] H Q := ⟨a, dx, fs, rfl, h, q⟩
theorem c_strO (hs : PySem.W.findIn X.K (.ref C) "__str__" = some (some (.ref f))) (hf : PySem.W.isFn X.K (.ref f) = true) (F : FnR X.prog X.w X.K X.mg X.base CX k f sp) (hr : Room (k + 2) X.A) (hx : Passes CX X E) : CallR X (.type "str") (rStrO C sp E) := by
  intro pins s σ H xs us Q I r h
  obtain ⟨a, dx, fs, rfl, ha, h⟩ := h
  cases r with
  | cons r1 r2 =>
    cases r2
    cases r1
    obtain ⟨ox, od, J, _⟩ := ins_look I ha
    have un : X.A.in1.in1.units < cLine := Nat.lt_of_le_of_lt (Nat.le_add_right _ _) hr.in1.in1.units
    refine callType_codes (T := "str") (Bi := Builtin.«object.__init__») (Q₁ := fun r s₁ => ∃ y u, r = .str y u ∧ EP X pins σ Q r s₁) PySem.F.called_str (PySem.F.typeCall_str_1 _) PySem.F.entry_object_init ?_ ?_
    · refine codeAny_of_tree ?_
      show wpAny _ X.A.in1.in1 (do checkBuiltinCall "str.__new__" ⟨[.type "str", .ref a], []⟩; again (.builtin "str.__new__" ⟨[.type "str", .ref a], []⟩)) _ _ s
      refine wpAny_bind (wpAny_of_eq (PySem.F.newCall_str_1 _) (wpAny_pure ⟨plainId_quiet (by decide +kernel) _, codeAny_builtin PySem.F.entry_str_new ?_⟩))
      rw [Around.under_plainId (by decide +kernel) _, str_new_tree]
      refine wpAny_bind (wpAny_pure (wpAny_bind (wpAny_of_eq isSubtype_str_str ?_)))
      have key : wpAny (model X.prog X.w) X.A.in1.in1 (PySem.Builtin.Str.strOf (.ref a)) (fun r s₁ => ∃ y u, r = .str y u ∧ EP X pins σ Q r s₁) X.xe s := by
        unfold PySem.Builtin.Str.strOf
        rw [show PySem.Builtin.Str.isExactStr (.ref a) = false from rfl]
        refine wpAny_bind (m := cRoomFor _ _) (wpAny_cRoomFor un ?_)
        refine wpAny_bind (m := callSpecial? (.ref a) (Str.ofString "__str__")) (PySem.W.special_fn I.kIn J hs (beq_iff_eq.mp hf) (run_at (vs := [.ref a]) F hr.in1.in1 I.env0.in1.in1 hx I (.cons rfl .nil) h fun u s' hq => ?_))
        obtain ⟨v, H', I', rv, z, rfl, q⟩ := hq
        obtain ⟨t, rfl⟩ := rv
        exact wpAny_pure ⟨_, _, rfl, .str z, H', I', ⟨t, rfl⟩, q⟩
      exact wpAny_bind (wpAny_mono key (fun r s₁ hr => wpAny_pure hr) fun _ _ y => y)
    · rintro obj s₁ ⟨y, u, rfl, hq⟩
      exact ⟨typeIs_str _ _ _, PySem.F.args_object_init_2 _ _, object_init_meets PySem.F.called_str.init.lookup PySem.F.called_str.made (by decide) X.prog X.w X.A.in1 _ s₁ ⟨typeIs_str _ _ _, rfl, hq⟩⟩
end
end Rd
set_option Elab.async false
set_option linter.all false
set_option maxRecDepth 100000
set_option maxHeartbeats 4000000
/-! Ru: further rules over the hand layer: t[::-1] of a tuple, t * k of a tuple for small k, x *= k. -/
namespace HT
open PySem PySem.Spec PyProof.Rows
section
variable {prog : Program} {w : World} {A : Around} {E : Value → Shared → Prop} {s : Shared}
theorem sliceApplied_back {sl : Addr} {vl vu vs : Value} {n : Nat} {Q : Int × Int × Nat → Shared → Prop} (hs : s.heap.IsSliceOf sl vl vu vs) (pl : IsPart vl none) (pu : IsPart vu none) (ps : IsPart vs (some (-1)))
    (h : Q ((n : Int) - 1, -1, n) s) : wpAny (model prog w) A (Builtin.Slice.sliceApplied (.ref sl) (pure (n : Int))) Q E s := by
  obtain ⟨os, hos, hcs, hds⟩ := id hs
  unfold Builtin.Slice.sliceApplied Builtin.Slice.sliceFields
  refine wpAny_bind (wpAny_bind (wpAny_field hos hds (x := vl) rfl (wpAny_bind (wpAny_field hos hds (x := vu) rfl (wpAny_bind (wpAny_field hos hds (x := vs) rfl (wpAny_pure ?_)))))))
  refine wpAny_bind (slicePart_ ps ?_)
  show wpAny _ _ (if ((-1 : Int) == 0) = true then _ else _) _ _ s
  rw [if_neg (by decide)]
  refine wpAny_bind (slicePart_ pl (wpAny_bind (slicePart_ pu (wpAny_bind (wpAny_pure ?_)))))
  show wpAny _ _ (pure ((n : Int) - 1, (-1 : Int), Builtin.Slice.slicePlaces ((n : Int) - 1) (-1) (-1))) _ _ s
  have e : Builtin.Slice.slicePlaces ((n : Int) - 1) (-1) (-1) = n := by
    unfold Builtin.Slice.slicePlaces
    rw [if_neg (by decide)]
    split
    · rw [show (- -1 : Int) = 1 by decide, Int.ediv_one]; omega
    · omega
  rw [e]
  exact wpAny_pure h
theorem pick_back (xs : Array Value) : ((List.range xs.size).filterMap fun (m : Nat) => xs[(((xs.size : Int) - 1) + (m : Int) * (-1)).toNat]?).toArray = xs.toList.reverse.toArray := by
  have e : (List.range xs.size).filterMap (fun (m : Nat) => xs[(((xs.size : Int) - 1) + (m : Int) * (-1)).toNat]?) = ((List.range xs.size).map fun k => xs.size - 1 - k).filterMap (xs[·]?) := by
    have e2 : ((List.range xs.size).map fun k => xs.size - 1 - k) = (List.range xs.size).map fun (m : Nat) => (((xs.size : Int) - 1) + (m : Int) * (-1)).toNat := by
      refine List.map_congr_left fun m hm => ?_
      have hm' := List.mem_range.mp hm
      omega
    rw [e2, List.filterMap_map] <;> rfl
  rw [e, PySem.W.krv_range, List.filterMap_reverse, PySem.W.krv_all]
theorem getItem_tuple_back {t sl : Addr} {items : Array Value} {vl vu vs : Value} {Q : Value → Shared → Prop} (ht : IsTup s.heap t items) (hs : s.heap.IsSliceOf sl vl vu vs) (pl : IsPart vl none) (pu : IsPart vu none) (ps : IsPart vs (some (-1)))
    (h : Q (.ref s.heap.objs.size) { s with heap := s.heap.push { cls := .type "tuple", data := .seq items.toList.reverse.toArray } })
    (hsz : items.size ≤ sizeLine) : wpAny (model prog w) A (getItem (.ref t) (.ref sl)) Q E s := by
  have htake : sizeOk (.seq items.toList.reverse.toArray) := by
    show items.toList.reverse.toArray.size ≤ sizeLine
    rw [List.size_toArray, List.length_reverse, Array.length_toList]
    exact hsz
  obtain ⟨os, hos, hcs, hds⟩ := id hs
  have hTs : s.TypeIs (.ref sl) "slice" := ⟨os, hos, hcs⟩
  unfold getItem
  try with_reducible refine wpAny_holding ?_
  first | refine wpAny_bind (wpAny_pure ?_) | skip
  refine wpAny_bind (wpAny_sequenceKey ht.typeIs (by decide) ?_)
  refine wpAny_bind (wpAny_callSpecial?_slot (name := Str.ofString "__getitem__") ht.typeIs PyProof.Rows.slot_tuple_getitem
    (wpAny_call_entry PyProof.Rows.slot_tuple_getitem ht.typeIs entry_tuple_getitem ?_ (args_tuple_getitem _ _)))
  show wpAny _ _ (Builtin.Tuple.tupleItemsOf (.ref t) >>= _) _ _ s
  refine wpAny_bind (tupleItemsOf_ ht ?_)
  refine wpAny_bind (wpAny_typeOf hTs ?_)
  rw [if_pos (by decide)]
  refine wpAny_bind (sliceApplied_back hs pl pu ps ?_)
  have hno : ¬ ((((items.size : Int) - 1) == 0 && (-1 : Int) == 1 && items.size == items.size) = true) := by
    intro q
    rw [Bool.and_eq_true, Bool.and_eq_true] at q
    exact absurd (eq_of_beq q.1.2) (by decide)
  show wpAny _ _ (if (((items.size : Int) - 1) == 0 && (-1 : Int) == 1 && items.size == items.size) = true then _ else _) _ _ s
  rw [if_neg hno, pick_back]
  first
    | exact wpAny_bind (m := Builtin.Tuple.tupleExact _) (wpAny_newObj_type (wpAny_pure ⟨_, rfl, wpAny_pure h⟩) htake)
    | exact wpAny_bind (m := Builtin.Tuple.tupleExact _) (wpAny_newObj_type (wpAny_bind (wpAny_pure (wpAny_pure ⟨_, rfl, wpAny_pure h⟩))) htake)
    | exact wpAny_bind (wpAny_bind (m := Builtin.Tuple.tupleExact _) (wpAny_newObj_type (wpAny_pure (wpAny_pure ⟨_, rfl, wpAny_pure h⟩)) htake))
    | exact wpAny_bind (wpAny_bind (m := Builtin.Tuple.tupleExact _) (wpAny_newObj_type (wpAny_pure ⟨_, rfl, wpAny_pure h⟩) htake))
end
end HT
namespace Rd
open PySem PySem.Spec PyProof.Rows L2
section
variable {X : Cx}
def rRevT (K : PySem.W.Frag) : V → Hp → VK → Prop := fun x H Q => ∃ a xs, x = .ref a ∧ SqT K H a xs ∧ ∀ p, H p = none → Q (.ref p) (upd H p (.tup xs.reverse))
theorem pe_rev {e : Expr} {te : TE} {k : Nat} {p1 p2 p3 pos : Pos} (he : PE X e te) : PE X (.Subscript e (.Slice none none (some (.UnaryOp .USub (.Constant (.int 1) k p1) p2)) p3) pos) (tUn (rRevT X.K) te) := by
  refine ⟨fun pins s σ H Q I h => ?_⟩
  refine Subscript_ (thn (he.run pins s σ H _ I h) fun v s1 ⟨x, H1, I1, r1, q1⟩ => ?_)
  obtain ⟨a, xs, ex, hx, q⟩ := q1
  subst ex
  cases r1
  have hst : PO X (some (.UnaryOp .USub (.Constant (.int 1) k p1) p2)) (tPart (tUn (rU fun i => .int (-i)) (tC (.int 1)))) := po_some (pe_un un_neg pe_int)
  refine wpAny_Slice (thn (po_none.run pins s1 σ H1 (fun o H2 => o = none ∧ H2 = H1) I1 ⟨rfl, rfl⟩) fun vl s2 ⟨l, H2, I2, pl, el, e2⟩ => ?_)
  subst el e2
  refine thn (po_none.run pins s2 σ H2 (fun o H3 => o = none ∧ H3 = H2) I2 ⟨rfl, rfl⟩) fun vu s3 ⟨u, H3, I3, pu, eu, e3⟩ => ?_
  subst eu e3
  refine thn (hst.run pins s3 σ H3 (fun o H4 => o = some (-1) ∧ H4 = H3) I3 ⟨1, rfl, -1, rfl, rfl, rfl⟩) fun vs s4 ⟨o, H4, I4, ps, eo, e4⟩ => ?_
  subst eo e4
  have I5 : Inv X pins σ H4 { s4 with heap := s4.heap.push { cls := .type "slice", data := .fields #[vl, vu, vs] } } := I4.kept (t' := s4.toks) fun b ob q => Heap.get?_push_of_some _ q
  obtain ⟨its, r, ht, hz⟩ := I5.tuple hx
  have hlen := r.length
  show wpAny (model X.prog X.w) X.A (subscriptTail e (.Slice none none (some (.UnaryOp .USub (.Constant (.int 1) k p1) p2)) p3) (.ref a) (.ref s4.heap.objs.size)) (EP X pins σ Q) X.xe { s4 with heap := s4.heap.push { cls := .type "slice", data := .fields #[vl, vu, vs] } }
  refine tail_any (ops := [.ref a, .ref s4.heap.objs.size]) ht.typeIs (PyProof.Rows.slot_tuple_getitem.lookup) ?_ (by with_unfolding_all rfl)
  refine HT.getItem_tuple_back ht (Heap.IsSliceOf.new _ vl vu vs) pl pu ps ?_ (by rw [List.size_toArray]; omega)
  refine ⟨.ref _, _, I5.laid (t' := s4.toks) (o := .tup xs.reverse) (fun b ob q => Heap.get?_push_of_some _ q) (Nat.le_refl _) ?_, rfl, q _ (I5.hok.fresh (Nat.le_refl _))⟩
  exact ⟨by rw [List.length_reverse]; exact hz, _, r.reverse, IsTup.new _ _⟩
theorem rd_revT {K : PySem.W.Frag} {H : Hp} {Q : VK} {a : Addr} {xs : List V} (h : SqT K H a xs) (q : ∀ p H', H p = none → Same H H' → H' p = some (.tup xs.reverse) → Q (.ref p) H') : rRevT K (.ref a) H Q :=
  ⟨a, xs, rfl, h, fun p hp => q p _ hp (same_new hp) upd_same⟩
/-! t * k of a tuple -/
theorem tuple_mul1 (l : Addr) (items : Array Value) (n : Nat) (dd : Option Addr) (sl : Array (Option Value)) (u : Tok) :
    Meets (Builtin.«tuple.__mul__» ⟨[.ref l, .int 1 u], []⟩) (fun _ R s => s.heap.get? l = some { cls := .type "tuple", dict := dd, data := .seq items n, slots := sl } ∧ R (.ok (.ret (Value.ref l))) s) :=
  .of_wp fun prog w A R s h => by
    obtain ⟨hp, g, d, tk, os⟩ := s
    obtain ⟨hl, h⟩ := h
    have f1 := AutoSeq1.idx_int
    have c1 : (items.isEmpty || (1 : Int) == 1) = true := by simp
    wp_walk using wpAny_loadPart' hl
    repeat (first
      | (refine wpAny_ite_false (decide_eq_false (by decide)) ?_; wp_walk using wpAny_loadPart' hl)
      | (refine wpAny_ite_true (decide_eq_true (by rw [c1])) ?_; wp_walk using wpAny_loadPart' hl))
    exact ⟨_, rfl, h⟩
theorem tuple_mul0 (l : Addr) (items : Array Value) (hne : items.isEmpty = false) (n : Nat) (dd : Option Addr) (sl : Array (Option Value)) (u : Tok) :
    Meets (Builtin.«tuple.__mul__» ⟨[.ref l, .int 0 u], []⟩) (fun _ R s => s.heap.get? l = some { cls := .type "tuple", dict := dd, data := .seq items n, slots := sl } ∧
      R (.ok (.ret (Value.ref s.heap.objs.size))) { s with heap := s.heap.push { cls := Value.type "tuple", data := Data.seq #[] }, toks := s.toks }) :=
  .of_wp fun prog w A R s h => by
    obtain ⟨hp, g, d, tk, os⟩ := s
    obtain ⟨hl, h⟩ := h
    have f1 := AutoSeq1.idx_int
    have c1 : (items.isEmpty || (0 : Int) == 1) = false := by rw [hne]; rfl
    have c2 : (decide ((0 : Int) ≤ 0) || items.isEmpty) = true := by rfl
    wp_walk using wpAny_loadPart' hl
    repeat (first
      | (refine wpAny_ite_false (decide_eq_false (by decide)) ?_; wp_walk using wpAny_loadPart' hl)
      | (refine wpAny_ite_false (decide_eq_false (by rw [c1]; exact Bool.false_ne_true)) ?_; wp_walk using wpAny_loadPart' hl)
      | (refine wpAny_ite_true (decide_eq_true (by rw [c2])) ?_; wp_walk using wpAny_loadPart' hl)
      | (refine wpAny_ite_false (decide_eq_false (Nat.not_lt.mpr (Nat.zero_le _))) ?_; wp_walk using wpAny_loadPart' hl))
    exact ⟨_, rfl, h⟩
/-- a tuple (not empty) times 0, 1, .. 1000 -/
def rMulT (K : PySem.W.Frag) : R2 := fun x y H Q => ∃ l k xs, x = .ref l ∧ y = .int k ∧ SqT K H l xs ∧ xs ≠ [] ∧ 0 ≤ k ∧ k ≤ 1000 ∧ xs.length ≤ 1000 ∧ (k = 1 → Q (.ref l) H) ∧ (k ≠ 1 → ∀ p, H p = none → Q (.ref p) (upd H p (.tup (List.replicate k.toNat xs).flatten)))
theorem op_mulT : OpR X (binaryOp .Mult) (rMulT X.K) := by
  intro pins s σ H x y v u Q I rx ry h
  obtain ⟨l, k, xs, ex, ey, hT, hne, h1, h2, hz, q1, q2⟩ := h
  by_cases hk : 2 ≤ k
  · exact op_repT pins s σ H x y v u Q I rx ry ⟨l, k, xs, ex, ey, hT, hne, hk, h2, hz, q2 (by omega)⟩
  · subst ex ey
    cases rx
    obtain ⟨t, rfl⟩ := ry
    obtain ⟨its, r, ⟨⟨cls, dd, data, sl⟩, ho, hc, n, hd⟩, hs⟩ := I.tuple hT
    simp only at hc hd
    subst hc hd
    have hle : its.length = xs.length := r.length.symm
    have hn : its ≠ [] := fun e => hne (by
      rw [e] at hle
      exact List.eq_nil_of_length_eq_zero hle.symm)
    have hi : its.toArray.isEmpty = false := by
      cases its with
      | nil => exact absurd rfl hn
      | cons a b => rfl
    rcases (show k = 0 ∨ k = 1 by omega) with e | e
    · subst e
      refine wpAny_binaryOp_repeat_ref (T := "tuple") (U := "int") (by decide) ⟨_, ho, rfl⟩ (fun s' => typeIs_int s' 0 t) noFill_tuple_mul F.fills_int_mul F.slot_int_rmul repeat_tuple F.slot_int_index.lookup
        (call_meets F.slot_int_rmul (typeIs_int s 0 t) F.entry_int_rmul (F.args_int_rmul_2 _ _) (int_rmul_tuple 0 t l its.toArray n dd sl)
          ⟨ho, rfl, ⟨_, ho, rfl⟩, call_meets F.slot_tuple_mul ⟨_, ho, rfl⟩ F.entry_tuple_mul (F.args_tuple_mul_2 _ _) (tuple_mul0 l its.toArray hi n dd sl t) ⟨ho, ?_⟩⟩)
      refine ⟨.ref s.heap.objs.size, _, I.laid (t' := s.toks) (o := .tup []) (fun b ob q => Heap.get?_push_of_some _ q) (Nat.le_refl _) ?_, rfl, q2 (by decide) _ (I.hok.fresh (Nat.le_refl _))⟩
      exact ⟨by show 0 ≤ sizeLine; decide, [], .nil, IsTup.new _ _⟩
    · subst e
      refine wpAny_binaryOp_repeat_ref (T := "tuple") (U := "int") (by decide) ⟨_, ho, rfl⟩ (fun s' => typeIs_int s' 1 t) noFill_tuple_mul F.fills_int_mul F.slot_int_rmul repeat_tuple F.slot_int_index.lookup
        (call_meets F.slot_int_rmul (typeIs_int s 1 t) F.entry_int_rmul (F.args_int_rmul_2 _ _) (int_rmul_tuple 1 t l its.toArray n dd sl)
          ⟨ho, rfl, ⟨_, ho, rfl⟩, call_meets F.slot_tuple_mul ⟨_, ho, rfl⟩ F.entry_tuple_mul (F.args_tuple_mul_2 _ _) (tuple_mul1 l its.toArray n dd sl t) ⟨ho, ?_⟩⟩)
      exact ⟨.ref l, H, I, rfl, q1 rfl⟩
theorem rd_mulT {K : PySem.W.Frag} {H : Hp} {Q : VK} {a : Addr} {k : Int} {xs : List V} (h : SqT K H a xs) (hne : xs ≠ []) (h0 : 0 ≤ k) (h1 : k ≤ 1000) (hz : xs.length ≤ 1000)
    (q : ∀ p H', Same H H' → SqT K H' p (List.replicate k.toNat xs).flatten → Q (.ref p) H') : rMulT K (.ref a) (.int k) H Q := by
  refine ⟨a, k, xs, rfl, rfl, h, hne, h0, h1, hz, fun e => q a H (Same.refl H) ?_, fun _ p hp => q p _ (same_new hp) (SqT.of upd_same)⟩
  subst e
  show SqT K H a (List.replicate 1 xs).flatten
  have e2 : (List.replicate 1 xs).flatten = xs := by simp
  rw [e2]
  exact h
theorem rd_catA {K : PySem.W.Frag} {H : Hp} {Q : VK} {a b : Addr} {xs ys : List V} (h1 : SqT K H a xs) (h2 : SqT K H b ys) (hz : xs.length + ys.length ≤ sizeLine) (q : ∀ p H', Same H H' → SqT K H' p (xs ++ ys) → Q (.ref p) H') : rCatA K (.ref a) (.ref b) H Q := by
  refine ⟨a, b, xs, ys, rfl, rfl, h1, h2, hz, fun e => q b H (Same.refl H) ?_, fun _ e => q a H (Same.refl H) ?_, fun _ _ p hp => q p _ (same_new hp) (SqT.of upd_same)⟩
  · subst e; exact h2
  · subst e; rw [List.append_nil]; exact h1
theorem ip_mul : PIp X .Mult (rI CMul fun i j => .int (i * j)) := fun pins s σ H x y v u Q I r1 r2 h => iop_mul pins s σ H x y v u Q I r1 r2 h
end
end Rd
set_option Elab.async false
set_option linter.all false
set_option maxRecDepth 100000
set_option maxHeartbeats 4000000
/-! Rr: further readings: chained comparisons, filtered ranges, zip of tuples. -/
namespace Rd
open PySem PySem.Spec PyProof.Rows L2
theorem c_lenK {X : Cx} {K : PySem.W.Frag} (hK : X.K = K) : CallR X (.builtin "len") (rLen K) := by subst hK; exact c_len
theorem ix_tupK {X : Cx} {K : PySem.W.Frag} (hK : X.K = K) : IxR X (rIxT K) := by subst hK; exact ix_tup
theorem ix_listK {X : Cx} {K : PySem.W.Frag} (hK : X.K = K) : IxR X (rIxL K) := by subst hK; exact ix_list
def tJoined (ts : List TE) : TE := fun σ H Q => tJs ts Str.empty σ H fun out H1 => Q (.str out) H1
theorem pe_js {X : Cx} {v1 v2 : Expr} {rest : List Expr} {ts : List TE} {pos : Pos} (h : PJ X (v1 :: v2 :: rest) ts) : PE X (.JoinedStr (v1 :: v2 :: rest) pos) (tJoined ts) := pe_joined h
def rStrI : List V → Hp → VK → Prop := fun xs H Q => ∃ i, xs = [.int i] ∧ i.natAbs.log2 < 1920 ∧ Q (.str (toString i)) H
theorem c_strI {X : Cx} : CallR X (.type "str") rStrI := call_str_int
theorem rd_strI {H : Hp} {Q : VK} {i : Int} (h : i.natAbs.log2 < 1920) (q : Q (.str (toString i)) H) : rStrI [.int i] H Q := ⟨i, rfl, h, q⟩
def rJs (ts : List TE) (acc : Str) (σ : L2.St) (Q : Str → Hp → Prop) (x : V) (H : Hp) : Prop := ∃ y : Str, x = .str y ∧ (acc ++ y).length ≤ sizeLine ∧ tJs ts (acc ++ y) σ H Q
theorem rd_joined {ts : List TE} {σ : L2.St} {H : Hp} {Q : VK} (q : tJs ts Str.empty σ H fun out H1 => Q (.str out) H1) : tJoined ts σ H Q := q
theorem rd_js1 {t : TE} {ts : List TE} {acc : Str} {σ : L2.St} {H : Hp} {Q : Str → Hp → Prop} (q : t σ H fun x H1 => rJs ts acc σ Q x H1) : tJs (t :: ts) acc σ H Q := q
theorem rd_js {ts : List TE} {acc y : Str} {σ : L2.St} {H : Hp} {Q : Str → Hp → Prop} (h : (acc ++ y).length ≤ sizeLine) (q : tJs ts (acc ++ y) σ H Q) : rJs ts acc σ Q (.str y) H := ⟨y, rfl, h, q⟩
theorem rd_js0 {acc : Str} {σ : L2.St} {H : Hp} {Q : Str → Hp → Prop} (q : Q acc H) : tJs [] acc σ H Q := q
def rFmt (Q : VK) (x : V) (H : Hp) : Prop := (∃ y : Str, x = .str y ∧ y.length ≤ sizeLine ∧ Q (.str y) H) ∨ ∃ i : Int, x = .int i ∧ i.natAbs.log2 < 1920 ∧ Q (.str (toString i)) H
theorem rd_fmt {te : TE} {σ : L2.St} {H : Hp} {Q : VK} (q : te σ H fun x H1 => rFmt Q x H1) : tFmt te σ H Q := q
theorem rd_fmtS {y : Str} {H : Hp} {Q : VK} (h : y.length ≤ sizeLine) (q : Q (.str y) H) : rFmt Q (.str y) H := .inl ⟨y, rfl, h, q⟩
theorem rd_fmtI {i : Int} {H : Hp} {Q : VK} (h : i.natAbs.log2 < 1920) (q : Q (.str (toString i)) H) : rFmt Q (.int i) H := .inr ⟨i, rfl, h, q⟩
def rRevL (K : PySem.W.Frag) (Q : VK) (x : V) (H : Hp) : Prop := ∃ a xs, x = .ref a ∧ SqL K H a xs ∧ ∀ p, H p = none → Q (.ref p) (upd H p (.lst xs.reverse))
theorem rd_tRevL {K : PySem.W.Frag} {te : TE} {σ : L2.St} {H : Hp} {Q : VK} (q : te σ H fun x H1 => rRevL K Q x H1) : tRevL K te σ H Q := q
theorem rd_revL {K : PySem.W.Frag} {H : Hp} {Q : VK} {a : Addr} {xs : List V} (h : SqL K H a xs) (q : ∀ p H', H p = none → Same H H' → H' p = some (.lst xs.reverse) → Q (.ref p) H') : rRevL K Q (.ref a) H := ⟨a, xs, rfl, h, fun p hp => q p _ hp (same_new hp) upd_same⟩
def rStarA (K : PySem.W.Frag) (t : TA) (σ : L2.St) (QA : List V → Hp → Prop) (x : V) (H : Hp) : Prop := ∃ p xs, x = V.ref p ∧ (SqT K H p xs ∨ SqL K H p xs) ∧ t σ H fun ys H2 => QA (xs ++ ys) H2
theorem rd_tStar {K : PySem.W.Frag} {te : TE} {t : TA} {σ : L2.St} {H : Hp} {QA : List V → Hp → Prop} (q : te σ H fun x H1 => rStarA K t σ QA x H1) : StX.tStar K te t σ H QA := q
theorem rd_starL {K : PySem.W.Frag} {t : TA} {σ : L2.St} {H : Hp} {QA : List V → Hp → Prop} {p : Addr} {xs : List V} (h : SqL K H p xs) (q : t σ H fun ys H2 => QA (xs ++ ys) H2) : rStarA K t σ QA (.ref p) H := ⟨p, xs, rfl, .inr h, q⟩
section
variable {K : PySem.W.Frag} {σ : L2.St} {H : Hp} {Q : VK} {g : TG} {te : TE} {tt : TT} {vs : List Nat} {a b : Addr} {xs ys : List V}
theorem rd_chain {r r' : R2} {ta tb tc : TE} (q : ta σ H fun x H1 => tb σ H1 fun y H2 => r x y H2 fun z H3 => ∃ k, z = .bl k ∧ if k = true then tc σ H3 fun w H4 => r' y w H4 Q else Q (.bl false) H3) : tChain r r' ta tb tc σ H Q := q
theorem lc_rngP {lo : Int} {n : Nat} (pr : Nat → Bool) (f : Nat → V) (hz : n ≤ 100000)
    (step : ∀ (i : Nat) H1 (N : Hp → Prop) (M : V → Hp → Prop), i < n → Same H H1 → (pr i = false → ∀ H2, Same H1 H2 → N H2) → (pr i = true → ∀ H2, Same H1 H2 → M (f i) H2) → g (.int (lo + i)) (wipe σ vs) H1 fun σ2 H2 => wipe σ2 vs = wipe σ vs ∧ tt σ2 H2 fun b H3 => if b = true then te σ2 H3 M else N H3)
    (done : ∀ D H', H D = none → Same H H' → H' D = some (.lst (((List.range n).filter pr).map f)) → Q (.ref D) H') : rLc g tt te vs σ Q (Itr lo n) H := by
  refine lc_gen (List.range n) (fun z v _ => z < n ∧ v = .int (lo + z)) pr f (by rw [List.length_range]; exact hz) (fun i H1 hi s1 => ?_) (fun H1 s1 => ?_) (fun i H1 x H2 z ez s1 y => ?_) (fun z x H1 N M hz' s1 hx hN hM => ?_) done
  · rw [List.length_range] at hi
    exact hi
  · rw [List.length_range]
    exact Nat.le_refl n
  · obtain ⟨rfl, rfl⟩ := y
    obtain ⟨hi, e⟩ := List.getElem?_eq_some_iff.mp ez
    rw [List.getElem_range] at e
    subst e
    rw [List.length_range] at hi
    exact ⟨Same.refl _, hi, rfl⟩
  · obtain ⟨hi, rfl⟩ := hx
    exact step z H1 N M hi s1 hN hM
def rIZT (K : PySem.W.Frag) (vs : List V) (H : Hp) (R : It → Hp → Prop) : Prop := ∃ a b xs ys, vs = [.ref a, .ref b] ∧ ((SqL K H a xs ∧ SqL K H b ys ∧ R (Itz K a b) H) ∨ (SqT K H a xs ∧ SqT K H b ys ∧ R (RZ.ItzT K a b) H))
theorem rd_iZipA {ta : TA} {R : It → Hp → Prop} (q : ta σ H fun vs H1 => rIZT K vs H1 R) : RZ.iZipA K ta σ H R := q
theorem rd_IZT {R : It → Hp → Prop} (h1 : SqT K H a xs) (h2 : SqT K H b ys) (q : R (RZ.ItzT K a b) H) : rIZT K [.ref a, .ref b] H R := ⟨a, b, xs, ys, rfl, .inr ⟨h1, h2, q⟩⟩
theorem lc_zipT (hl : xs.length = ys.length) (f : V × V → V) (hz : xs.length ≤ 100000) (h1 : SqT K H a xs) (h2 : SqT K H b ys)
    (step : ∀ (z : V × V) T H1 (M : V → Hp → Prop), z ∈ xs.zip ys → Same H H1 → H1 T = some (.tup [z.1, z.2]) → (∀ H2, Same H1 H2 → M (f z) H2) → g (.ref T) (wipe σ vs) H1 fun σ2 H2 => wipe σ2 vs = wipe σ vs ∧ te σ2 H2 M)
    (done : ∀ D H', H D = none → Same H H' → H' D = some (.lst ((xs.zip ys).map f)) → Q (.ref D) H') : rLc g tYes te vs σ Q (RZ.ItzT K a b) H := by
  have lz : (xs.zip ys).length = xs.length := by rw [List.length_zip]; omega
  refine lc_gen (xs.zip ys) (fun z v H2 => ∃ T, v = .ref T ∧ H2 T = some (.tup [z.1, z.2])) (fun _ => true) f (by omega) (fun i H1 hi s1 => ?_) (fun H1 s1 => ?_) (fun i H1 x H2 z ez s1 y => ?_) (fun z x H1 N M hz' s1 hx hN hM => ?_) (fun D H' h1 h2 h3 => ?_)
  · exact ⟨xs, ys, xs[i]'(by omega), ys[i]'(by omega), Same.sqT s1 h1, Same.sqT s1 h2, List.getElem?_eq_getElem _, List.getElem?_eq_getElem _⟩
  · exact ⟨xs, ys, Same.sqT s1 h1, Same.sqT s1 h2, .inl (by omega)⟩
  · obtain ⟨T, u, v, rfl, hT, rfl, hu, hv⟩ := y
    have e1 := hu xs (Same.sqT s1 h1)
    have e2 := hv ys (Same.sqT s1 h2)
    have : (xs.zip ys)[i]? = some (u, v) := by rw [List.getElem?_zip_eq_some]; exact ⟨e1, e2⟩
    rw [this] at ez
    injection ez with ez
    subst ez
    exact ⟨same_new hT, T, rfl, upd_same⟩
  · obtain ⟨T, rfl, hT⟩ := hx
    exact step z T H1 M hz' s1 hT (hM rfl)
  · refine done D H' h1 h2 ?_
    rw [h3, List.filter_eq_self.mpr fun _ _ => rfl]
end
end Rd
set_option Elab.async false
set_option linter.all false
set_option maxRecDepth 100000
set_option maxHeartbeats 4000000
/-! Rt: sum of a list of own objects. -/
namespace Rd
open PySem PySem.Spec PyProof.Rows L2
section
variable {X : Cx} {pins : List (Addr × Obj)} {σ : L2.St} {H : Hp} {s : Shared}
/-- b may be pinned beside pins -/
def Fp0 (X : Cx) (pins : List (Addr × Obj)) (b : Addr) : Prop := b ≠ X.env.locals ∧ b ∉ X.fs ∧ (b ∈ X.ex ∨ X.s_0.heap.objs.size ≤ b) ∧ (∀ x c, X.env.cells.lookup x = some c → c ≠ b) ∧ ∀ p ∈ X.pn ++ pins, p.1 ≠ b
theorem fp0_new {b : Addr} (I : Inv X pins σ H s) (hb : s.heap.objs.size ≤ b) : Fp0 X pins b := (I.fpOk (H' := H) hb (I.hok.fresh hb)).2
theorem Fp0.weak {b : Addr} {q : Addr × Obj} (h : Fp0 X (q :: pins) b) : Fp0 X pins b := ⟨h.1, h.2.1, h.2.2.1, h.2.2.2.1, fun p hp => h.2.2.2.2 p (by
  rcases List.mem_append.mp hp with e | e
  · exact List.mem_append_left _ e
  · exact List.mem_append_right _ (List.mem_cons_of_mem _ e))⟩
theorem Fp0.more {b : Addr} {q : Addr × Obj} (h : Fp0 X pins b) (n : q.1 ≠ b) : Fp0 X (q :: pins) b := ⟨h.1, h.2.1, h.2.2.1, h.2.2.2.1, fun p hp => by
  rcases List.mem_append.mp hp with e | e
  · exact h.2.2.2.2 p (List.mem_append_left _ e)
  · rcases List.mem_cons.mp e with e | e
    · rw [e]; exact n
    · exact h.2.2.2.2 p (List.mem_append_right _ e)⟩
theorem repin {b : Addr} {o o' : Obj} {h' : Heap} {t' : Nat} (I : Inv X ((b, o) :: pins) σ H s) (fp : Fp0 X pins b) (k : ∀ c u, c ≠ b → s.heap.get? c = some u → h'.get? c = some u) (ho : h'.get? b = some o') (hc : ∀ v, o'.data ≠ .cell v) :
    Inv X ((b, o') :: pins) σ H { s with heap := h', toks := t' } := by
  have hn := ClX.pin_un I
  have I2 : Inv X pins σ H { s with heap := h', toks := t' } := (ClX.unpin I).turnedL (ch := [b]) (fun c u hb e => k c u (by simpa using hb) e) fun c hb => by
    rw [List.mem_singleton.mp hb]
    exact ⟨hn, fp⟩
  refine I2.pins_of fun p hp => ?_
  rcases List.mem_cons.mp hp with e | e
  · subst e
    exact ⟨ho, hn, fp.1, fp.2.1, hc⟩
  · exact I2.pin p (List.mem_append_right _ e)
theorem swap_pins {p q : Addr × Obj} (I : Inv X (p :: q :: pins) σ H s) : Inv X (q :: p :: pins) σ H s := I.pins_of fun r hr => I.pin r (List.mem_append_right _ (by
  rcases List.mem_cons.mp hr with e | e
  · exact List.mem_cons_of_mem _ (by rw [e]; exact List.mem_cons_self)
  · rcases List.mem_cons.mp e with e | e
    · rw [e]; exact List.mem_cons_self
    · exact List.mem_cons_of_mem _ (List.mem_cons_of_mem _ e)))
/-- the def runs at A', and lets nothing out -/
theorem run_at0 {k : Nat} {f : Addr} {sp : Sp} {Q : VK} {us : List Value} {vs : List V} {A' : Around} {E' : Value → Shared → Prop} {R : Value → Shared → Prop} (F : FnR X.prog X.w X.K X.mg X.base CX0 k f sp) (hr : Room k A') (e0 : Env0 X.prog X.w X.K X.mg X.base A' X.stack s H) (I : Inv X pins σ H s) (r : Vals vs us)
    (h : sp vs H Q E0) (hR : ∀ u s', EP X pins σ Q u s' → R u s') : wpAny (model X.prog X.w) A' (call (.ref f) us) R E' s := by
  refine wpAny_call (codeAny_mono (F A' X.stack s H us vs Q E0 hr e0 r h) fun r s' hq => ?_)
  match r, hq with
  | .error e, hq => exact False.elim hq
  | .ok (.ret u), hq => exact hR u s' (I.after hq)
  | .ok .next, hq => exact False.elim hq
  | .ok .brk, hq => exact False.elim hq
  | .ok .cont, hq => exact False.elim hq
end
/-- total after total, over the items; the list at l stays -/
def AccL (K : PySem.W.Frag) (C : Addr) (spA spR : Sp) (l : Addr) (all : List V) : List V → V → Hp → VK → Prop
  | [], t, H, Q => Q t H
  | x :: r, t, H, Q => (∃ b dy gs, x = .ref b ∧ H b = some (.ins C dy gs)) ∧
    ((t = .int 0 ∧ spR [x, t] H (fun v H' => (∃ p, v = .ref p) ∧ SqL K H' l all ∧ AccL K C spA spR l all r v H' Q) E0) ∨
    ((∃ a dx fs, t = .ref a ∧ H a = some (.ins C dx fs)) ∧ spA [t, x] H (fun v H' => (∃ p, v = .ref p) ∧ SqL K H' l all ∧ AccL K C spA spR l all r v H' Q) E0))
def sObj (u : Value) (c : Nat) : Obj := { cls := .type "list", dict := none, data := .seq #[u] c, slots := #[] }
def iObj (l : Addr) (i : Nat) (o : Obj) : Prop := o.cls = .type "list_iterator" ∧ o.data = .fields #[.ref l, .int i 0]
section
variable {X : Cx} {pins : List (Addr × Obj)} {σ : L2.St} {C f fr l it S : Addr} {spA spR : Sp} {k : Nat} {all : List V} {Q : VK}
theorem sum_loopO (O : OwnL X.K C "add" f) (OR : OwnOp X.K C "add" f fr) (FA : FnR X.prog X.w X.K X.mg X.base CX0 k f spA) (FR : FnR X.prog X.w X.K X.mg X.base CX0 k fr spR) (hr : Room (k + 1) X.A) (hh : X.A.handled = none) (fS : ∀ o, Fp0 X ((it, o) :: pins) S) (fI : ∀ o, Fp0 X ((S, o) :: pins) it) (hne : l ≠ it) :
    ∀ (n i : Nat) (s : Shared) (H : Hp) (t : V) (u : Value) (c : Nat) (st : Int) (oi : Obj), all.length - i = n → i ≤ all.length → Inv X ((S, sObj u c) :: (it, oi) :: pins) σ H s → iObj l i oi → RelV t u → ((t = .int 0 ∧ st = 0) ∨ ∃ p, t = .ref p) → SqL X.K H l all → AccL X.K C spA spR l all (all.drop i) t H Q →
      codeAny (model X.prog X.w) X.A (.builtin "sum.loop" ⟨[.ref it, .ref S, rawInt st, rawInt 0], []⟩) (fun r s' => match r with | .ok (.ret v) => EP X pins σ Q v s' | .ok _ => False | .error e => X.xe e s') s := by
  intro n
  induction n with
  | zero =>
    intro i s H t u c st oi hn hi I ho rt hst hl ha
    obtain rfl : i = all.length := by omega
    rw [List.drop_length] at ha
    obtain ⟨its, rv, hL, _⟩ := I.list hl
    have hsz : its.toArray.size = all.length := by rw [List.size_toArray, rv.length]
    have W := Walks.list (prog := X.prog) (w := X.w) (A := X.A.in1) hh it l hne its.toArray
    have eS := ClX.pin_at I
    have eI := ClX.pin_at (ClX.unpin I)
    refine codeAny_builtin PySem.F.entry_sum_loop ?_
    rw [Around.under_plainId PySem.F.plain_sum_loop _]
    show wpAny _ X.A.in1 (seqItems? (.ref S) >>= _) _ _ s
    refine wpAny_bind (wpAny_seqItems eS rfl ?_)
    show wpAny _ X.A.in1 (tryCatch (pyNext (.ref it)) _ >>= _) _ _ s
    refine wpAny_bind (wpAny_tryCatch (W.done s _ _ ⟨⟨oi, eI, ho.1, by rw [hsz]; exact ho.2⟩, hL.isList⟩ fun h' tk hk => ?_))
    have Ia := ClX.unpin I
    have Ib : Inv X pins σ H { s with heap := h', toks := tk } := (ClX.unpin Ia).turnedL (ch := [it]) (fun c u hb e => hk c u hb e) fun c hb => by
      rw [List.mem_singleton.mp hb]
      exact ⟨ClX.pin_un Ia, (fI (sObj u c)).weak⟩
    rcases hst with ⟨rfl, _⟩ | ⟨p, rfl⟩
    · obtain ⟨tok, rfl⟩ := rt
      exact wpAny_pure ⟨.int 0, H, Ib, ⟨tok, rfl⟩, ha⟩
    · cases rt
      exact wpAny_pure ⟨.ref p, H, Ib, rfl, ha⟩
  | succ n ih =>
    intro i s H t u c st oi hn hi I ho rt hst hl ha
    have hlt : i < all.length := by omega
    obtain ⟨its, rv, hL, _⟩ := I.list hl
    have hsz : its.toArray.size = all.length := by rw [List.size_toArray, rv.length]
    have W := Walks.list (prog := X.prog) (w := X.w) (A := X.A.in1) hh it l hne its.toArray
    have eS := ClX.pin_at I
    have eI := ClX.pin_at (ClX.unpin I)
    rw [List.drop_eq_getElem_cons hlt] at ha
    obtain ⟨⟨b, dy, gs, ex, hb⟩, hcase⟩ := ha
    refine codeAny_builtin PySem.F.entry_sum_loop ?_
    rw [Around.under_plainId PySem.F.plain_sum_loop _]
    show wpAny _ X.A.in1 (seqItems? (.ref S) >>= _) _ _ s
    refine wpAny_bind (wpAny_seqItems eS rfl ?_)
    show wpAny _ X.A.in1 (tryCatch (pyNext (.ref it)) _ >>= _) _ _ s
    refine wpAny_bind (wpAny_tryCatch (W.item i s _ _ (by rw [hsz]; exact hlt) ⟨⟨oi, eI, ho.1, ho.2⟩, hL.isList⟩ fun v h' tk hP hSt hk => ?_))
    have rvx : RelV all[i] v := vals_at rv (List.getElem?_eq_getElem hlt) (by simpa using hP)
    rw [ex] at rvx hcase
    obtain rfl : v = .ref b := rvx
    obtain ⟨⟨oi', eI', c1, c2⟩, _⟩ := hSt
    have I2 : Inv X ((S, sObj u c) :: (it, oi') :: pins) σ H { s with heap := h', toks := tk } :=
      swap_pins (repin (swap_pins I) (fI _) (fun c u hb e => hk c u (by simpa using hb) e) eI' (fun v z => by rw [c2] at z; cases z))
    -- behind the sum
    have rest : ∀ (r : Addr) (H3 : Hp) (s3 : Shared) (nx : Int), Inv X ((S, sObj u c) :: (it, oi') :: pins) σ H3 s3 → SqL X.K H3 l all → AccL X.K C spA spR l all (all.drop (i + 1)) (.ref r) H3 Q →
        wpAny (model X.prog X.w) X.A.in1 (updateSeq S (fun _ => #[.ref r]) >>= fun _ => letGo [u, .ref b] >>= fun _ => updateSeq S (fun _ => #[.ref r]) >>= fun _ => again (.builtin "sum.loop" ⟨[.ref it, .ref S, rawInt nx, rawInt 0], []⟩))
          (fun fin s' => match fin with | .done f => (match (Except.ok f : Result) with | .ok (.ret v) => EP X pins σ Q v s' | .ok _ => False | .error e => X.xe e s') | .again c' => c'.quiet = true ∧ codeAny (model X.prog X.w) X.A c' (fun r s' => match r with | .ok (.ret v) => EP X pins σ Q v s' | .ok _ => False | .error e => X.xe e s') s') X.xe s3 := by
      intro r H3 s3 nx I3 hl3 ha3
      have e3 := ClX.pin_at I3
      refine wpAny_bind (wpAny_updateSeq e3 rfl ?_)
      have I4 := repin (t' := s3.toks) I3 (fS _) (fun c u hb e => (Heap.get?_update_other _ _ (Ne.symm hb)).trans e) (Heap.get?_update_self (Obj.mapSeq fun _ => #[Value.ref r]) e3 rfl) (fun v z => nomatch z)
      refine wpAny_bind (wpAny_letGo ?_)
      have e4 := ClX.pin_at I4
      refine wpAny_bind (wpAny_updateSeq e4 rfl ?_)
      have I5 := repin (t' := s3.toks) I4 (fS _) (fun c u hb e => (Heap.get?_update_other _ _ (Ne.symm hb)).trans e) (Heap.get?_update_self (Obj.mapSeq fun _ => #[Value.ref r]) e4 rfl) (fun v z => nomatch z)
      exact wpAny_pure ⟨plainId_quiet PySem.F.plain_sum_loop _, ih (i + 1) _ H3 (.ref r) (.ref r) _ nx oi' (by omega) (by omega) I5 ⟨c1, c2⟩ rfl (.inr ⟨r, rfl⟩) hl3 ha3⟩
    obtain ⟨ob, od, J, hd⟩ := ins_look I2 hb
    rcases hcase with ⟨rfl, hsp⟩ | ⟨⟨a, dx, fs, rfl, ha'⟩, hsp⟩
    · obtain ⟨tok, rfl⟩ := rt
      obtain rfl : st = 0 := by
        rcases hst with ⟨_, e⟩ | ⟨p, e⟩
        · exact e
        · cases e
      show wpAny _ X.A.in1 (rule "sum.leaves-ints" >>= fun _ => (holding [Value.ref b] (binaryOp .Add (.int 0 tok) (.ref b))).attempt >>= _) _ _ _
      refine wpAny_bind (wpAny_rule (wpAny_bind (wpAny_attempt (wpAny_holding ?_))))
      refine rbin_K (op := .Add) (id := "int.__add__") I2.kIn J OR PySem.F.fills_int_add PySem.F.slot_int_add (int_add_dec J.at_ hd) (run_at0 (vs := [.ref b, .int 0]) FR hr.in1 I2.env0.in1 I2 (.cons rfl (.cons ⟨tok, rfl⟩ .nil)) hsp fun u s' hq => ?_)
      obtain ⟨v, H', I3, rv3, ⟨p, rfl⟩, hl3, ha3⟩ := hq
      cases rv3
      exact rest p H' s' 2 I3 hl3 ha3
    · cases rt
      obtain ⟨oa, od', J', hd'⟩ := ins_look I2 ha'
      obtain ⟨m, hF⟩ := I2.fr
      show wpAny _ X.A.in1 ((holding [Value.ref b] (binaryOp .Add (.ref a) (.ref b))).attempt >>= _) _ _ _
      refine wpAny_bind (wpAny_attempt (wpAny_holding ?_))
      refine PySem.W.binop_K (op := .Add) hF I2.ok.mod.kin J' J.type O.sf O.l O.lf (run_at0 (vs := [.ref a, .ref b]) FA hr.in1 I2.env0.in1 I2 (.cons rfl (.cons rfl .nil)) hsp fun u s' hq => ?_)
      obtain ⟨v, H', I3, rv3, ⟨p, rfl⟩, hl3, ha3⟩ := hq
      cases rv3
      exact rest p H' s' 2 I3 hl3 ha3
/-- sum(l) -/
def rSumO (K : PySem.W.Frag) (C : Addr) (spA spR : Sp) : List V → Hp → VK → Prop := fun vs H Q => ∃ l xs, vs = [.ref l] ∧ SqL K H l xs ∧ AccL K C spA spR l xs xs (.int 0) H Q
theorem c_sumO (O : OwnL X.K C "add" f) (OR : OwnOp X.K C "add" f fr) (FA : FnR X.prog X.w X.K X.mg X.base CX0 k f spA) (FR : FnR X.prog X.w X.K X.mg X.base CX0 k fr spR) (hr : Room (k + 1) X.A) (hc : X.calm = true) : CallR X (.builtin "sum") (rSumO X.K C spA spR) := by
  intro pins s σ H vs us Q I r h
  obtain ⟨l, xs, rfl, hl, ha⟩ := h
  rw [Vals.ref1 r]
  obtain ⟨its, rv, hL, _⟩ := I.list hl
  have hh := I.ok.hd hc
  obtain ⟨ol, hol, _⟩ := id hL.isList
  refine call_function_tree PySem.F.kind_sum PySem.F.plain_sum PySem.F.entry_sum (PySem.F.args_sum1 _) ?_
  unfold Builtin.«sum»
  simp only [List.length_cons, List.length_nil]
  rw [if_neg (by decide)]
  refine wpAny_bind (wpAny_of_eq (show Builtin.Builtins.bindParams "sum" ["start"] 0 { } = pure [none] from rfl) ?_)
  refine wpAny_bind (wpAny_pyIter_list hL.isList ?_)
  refine wpAny_bind (wpAny_mkInt (wpAny_bind (wpAny_pure ?_)))
  simp only [List.forIn_cons, List.forIn_nil]
  refine wpAny_bind (wpAny_bind (wpAny_bind (wpAny_isInstance (T := "int") (b := false) (typeIs_int _ _ _) PySem.sub_int_str ?_)))
  simp only [Bool.false_eq_true, if_false]
  refine wpAny_pure (wpAny_bind (wpAny_bind (wpAny_isInstance (T := "int") (b := false) (typeIs_int _ _ _) PySem.sub_int_bytes ?_)))
  simp only [Bool.false_eq_true, if_false]
  refine wpAny_pure (wpAny_bind (wpAny_bind (wpAny_isInstance (T := "int") (b := false) (typeIs_int _ _ _) PySem.sub_int_bytearray ?_)))
  simp only [Bool.false_eq_true, if_false]
  refine wpAny_pure (wpAny_pure (wpAny_bind (wpAny_newObj_type ?_)))
  have I1 := ClX.pin_new (t' := s.toks + 1) I (fun b u e => Heap.get?_push_of_some (h := s.heap) { cls := .type "list_iterator", data := .fields #[.ref l, .int 0 0] } e) (Nat.le_refl _) (Heap.get?_push_size _ rfl) (fun v z => nomatch z)
  have I2 := ClX.pin_new (t' := s.toks + 1) I1 (fun b u e => Heap.get?_push_of_some (sObj (.int 0 s.toks) 0) e) (Nat.le_refl _) (Heap.get?_push_size _ rfl) (fun v z => nomatch z)
  have fp1 := fp0_new I (Nat.le_refl _)
  have fp2 := fp0_new I1 (Nat.le_refl _)
  have hne : l ≠ s.heap.objs.size := Nat.ne_of_lt (Heap.lt_size hol)
  have hSI : (s.heap.push ({ cls := .type "list_iterator", data := .fields #[.ref l, .int 0 0] } : Obj)).objs.size ≠ s.heap.objs.size := by
    rw [Heap.size_push]; exact Nat.succ_ne_self _
  refine wpAny_pure ⟨plainId_quiet PySem.F.plain_sum_loop _, sum_loopO O OR FA FR hr hh (fun o => ?_) (fun o => ?_) hne xs.length 0 _ H (.int 0) _ 0 0 _ rfl (Nat.zero_le _) I2 ⟨rfl, rfl⟩ ⟨_, rfl⟩ (.inl ⟨rfl, rfl⟩) hl ha⟩
  · exact fp2.weak.more (Ne.symm hSI)
  · exact fp1.more hSI
end
/-! ### an instance called -/
abbrev rCO (C : Addr) (sp : Sp) (E : XK) (t : TA) (σ : L2.St) (Q : VK) (y : V) (H1 : Hp) : Prop := ∃ a, y = .ref a ∧ t σ H1 fun vs H2 => (∃ dx fs, H2 a = some (.ins C dx fs)) ∧ sp (.ref a :: vs) H2 Q E
def tCO (C : Addr) (sp : Sp) (E : XK) (tf : TE) (t : TA) : TE := fun σ H Q => tf σ H fun y H1 => rCO C sp E t σ Q y H1
theorem rd_tCO {C : Addr} {sp : Sp} {E : XK} {tf : TE} {t : TA} {σ : L2.St} {H : Hp} {Q : VK} (q : tf σ H fun y H1 => rCO C sp E t σ Q y H1) : tCO C sp E tf t σ H Q := q
theorem pe_co {X : Cx} {CX : CXT} {k : Nat} {C g : Addr} {sp : Sp} {E : XK} {e fe : Expr} {es : List Expr} {tf : TE} {t : TA} {pos : Pos} (hf : PE X fe tf) (c : StX.CallO X.K C g) (F : FnR X.prog X.w X.K X.mg X.base CX k g sp) (hr : Room k X.A) (hx : Passes CX X E) (ha : PA X (e :: es) t)
    (ht : eval (.Call fe (e :: es) [] pos) X.env = (do callWith pos (← eval fe X.env) [] (backTo pos (starEach (e :: es) X.env)) (backToKw pos (keywordEach [] X.env))) := by rfl)
    (he : starEach (e :: es) X.env = (false, eval e X.env) :: starEach es X.env := by rfl) (hpl : (backTo pos (starEach es X.env)).any (·.1) = false := by rfl) : PE X (.Call fe (e :: es) [] pos) (tCO C sp E tf t) := by
  refine ⟨fun pins s σ H Q I h => Call_ (thn (hf.run pins s σ H _ I h) fun u s1 ⟨y, H1, I1, ry, a, ey, q⟩ => ?_) ht⟩
  subst ey
  obtain rfl : u = Value.ref a := ry
  refine StX.callO_with (thn (ha.run pos pins s1 σ H1 _ I1 q) fun us s2 ⟨vs, H2, I2, r, ⟨dx, fs, hi⟩, q2⟩ => ?_) he hpl
  obtain ⟨ox, od, J, hd⟩ := ins_look I2 hi
  exact ⟨⟨C, ox, od, J, hd⟩, StX.run_callO c F hr hx I2 (.inr ⟨dx, fs, hi⟩) r q2⟩
theorem pe_coN {X : Cx} {CX : CXT} {k : Nat} {C g : Addr} {sp : Sp} {E : XK} {e : Expr} {es : List Expr} {tf : TE} {t : TA} {pos np : Pos} {n : Str} (hf : PE X (.Name n np) tf) (c : StX.CallO X.K C g) (F : FnR X.prog X.w X.K X.mg X.base CX k g sp) (hr : Room k X.A) (hx : Passes CX X E) (ha : PA X (e :: es) t)
    (he : starEach (e :: es) X.env = (false, eval e X.env) :: starEach es X.env := by rfl) (hpl : (backTo pos (starEach es X.env)).any (·.1) = false := by rfl) : PE X (.Call (.Name n np) (e :: es) [] pos) (tCO C sp E tf t) := by
  refine ⟨fun pins s σ H Q I h => wpAny_Call_Name_kw (thn (hf.run pins s σ H _ I h) fun u s1 ⟨y, H1, I1, ry, a, ey, q⟩ => ?_)⟩
  subst ey
  obtain rfl : u = Value.ref a := ry
  refine StX.callO_with (thn (ha.run pos pins s1 σ H1 _ I1 q) fun us s2 ⟨vs, H2, I2, r, ⟨dx, fs, hi⟩, q2⟩ => ?_) he hpl
  obtain ⟨ox, od, J, hd⟩ := ins_look I2 hi
  exact ⟨⟨C, ox, od, J, hd⟩, StX.run_callO c F hr hx I2 (.inr ⟨dx, fs, hi⟩) r q2⟩
end Rd
set_option Elab.async false
set_option linter.all false
set_option maxRecDepth 100000
set_option maxHeartbeats 4000000
namespace M
open PySem L2
/-! ### polynomials by their coefficients -/
def ev : List Int → Int → Int
  | [], _ => 0
  | c :: r, n => ev r n * n + c
theorem ev_foldl (n : Int) : ∀ ns : List Int, ns.reverse.foldl (fun a c => a * n + c) 0 = ev ns n
  | [] => rfl
  | c :: r => by
    rw [List.reverse_cons, List.foldl_append, ev_foldl n r]
    rfl
theorem take_succ_foldl {α β : Type} (f : α → β → α) (a : α) (l : List β) (i : Nat) (x : β) (h : l[i]? = some x) : (l.take (i + 1)).foldl f a = f ((l.take i).foldl f a) x := by
  rw [List.take_add_one, h, List.foldl_append]
  rfl
theorem pow2_pos (n : Nat) : (0 : Int) < 2 ^ n := Int.pow_pos (by decide)
theorem pow2_mono {m n : Nat} (h : m ≤ n) : (2 : Int) ^ m ≤ 2 ^ n := by
  have : ((2 ^ m : Nat) : Int) ≤ ((2 ^ n : Nat) : Int) := by exact_mod_cast Nat.pow_le_pow_right (by decide) h
  simpa using this
/-- the size of what is reckoned on the way -/
theorem fold_small {b m : Nat} {n : Int} (hn0 : 0 ≤ n) (hn : n < 2 ^ m) : ∀ (l : List Int) (a : Int) (k : Nat), (∀ c ∈ l, 0 ≤ c ∧ c < 2 ^ b) → b ≤ k → 0 ≤ a → a < 2 ^ k →
    0 ≤ l.foldl (fun a c => a * n + c) a ∧ l.foldl (fun a c => a * n + c) a < 2 ^ (k + l.length * (m + 1))
  | [], a, k, _, _, h0, h1 => ⟨h0, by simpa using h1⟩
  | c :: l, a, k, hc, hb, h0, h1 => by
    have hc0 := hc c List.mem_cons_self
    have e1 : a * n < 2 ^ (k + m) ∨ a * n = 0 ∧ True := by
      left
      rw [Int.pow_add]
      calc a * n ≤ 2 ^ k * n := Int.mul_le_mul_of_nonneg_right (by omega) hn0
        _ < 2 ^ k * 2 ^ m := Int.mul_lt_mul_of_pos_left hn (pow2_pos k)
    have e2 : a * n < 2 ^ (k + m) := by
      rcases e1 with e | e
      · exact e
      · rw [e.1]; exact pow2_pos _
    have e3 : (2 : Int) ^ b ≤ 2 ^ (k + m) := pow2_mono (by omega)
    have e4 : (2 : Int) ^ (k + m + 1) = 2 ^ (k + m) * 2 := Int.pow_succ 2 (k + m)
    have h2 : 0 ≤ a * n + c := by
      have := Int.mul_nonneg h0 hn0
      omega
    have h3 : a * n + c < 2 ^ (k + (m + 1)) := by
      show a * n + c < 2 ^ (k + m + 1)
      omega
    have ih := fold_small hn0 hn l (a * n + c) (k + (m + 1)) (fun d hd => hc d (List.mem_cons_of_mem _ hd)) (by omega) h2 h3
    refine ⟨ih.1, ?_⟩
    have : k + (m + 1) + l.length * (m + 1) = k + (c :: l).length * (m + 1) := by
      rw [List.length_cons, Nat.add_mul, Nat.one_mul]; omega
    rw [← this]
    exact ih.2
theorem natAbs_lt {x : Int} {k : Nat} (h0 : 0 ≤ x) (h : x < 2 ^ k) : x.natAbs < 2 ^ k := by
  have : ((x.natAbs : Nat) : Int) < ((2 ^ k : Nat) : Int) := by
    have e : ((2 ^ k : Nat) : Int) = (2 : Int) ^ k := by simp
    omega
  exact_mod_cast this
/-- without zeros at the end -/
def trim (ns : List Int) : List Int := (ns.reverse.dropWhile (· == 0)).reverse
theorem trim_zero (l : List Int) : trim (l ++ [0]) = trim l := by
  unfold trim
  rw [List.reverse_append]
  rfl
theorem trim_last (l : List Int) {c : Int} (h : c ≠ 0) : trim (l ++ [c]) = l ++ [c] := by
  unfold trim
  rw [List.reverse_append]
  have e : ([c].reverse ++ l.reverse).dropWhile (· == 0) = [c].reverse ++ l.reverse := by
    show List.dropWhile (· == 0) (c :: l.reverse) = c :: l.reverse
    rw [List.dropWhile_cons, if_neg (by simpa using h)]
  rw [e, List.reverse_append, List.reverse_reverse]
  rfl
theorem trim_nil : trim [] = [] := rfl
theorem take_succ_last (ns : List Int) (k : Nat) (c : Int) (h : ns[k]? = some c) : ns.take (k + 1) = ns.take k ++ [c] := by
  rw [List.take_add_one, h]
  rfl
theorem trim_le (l : List Int) : (trim l).length ≤ l.length := by
  unfold trim
  rw [List.length_reverse]
  have := (List.dropWhile_suffix (l := l.reverse) (· == 0)).length_le
  rwa [List.length_reverse] at this
theorem trim_tail {c : Int} {r : List Int} (hr : r ≠ []) (ht : trim (c :: r) = c :: r) : trim r = r := by
  obtain ⟨l, z, e⟩ : ∃ l z, r = l ++ [z] := ⟨_, _, (List.dropLast_concat_getLast hr).symm⟩
  subst e
  by_cases hz : z = 0
  · subst hz
    have e2 : c :: (l ++ [0]) = (c :: l) ++ [0] := rfl
    rw [e2, trim_zero] at ht
    have h1 := congrArg List.length ht
    have h2 := trim_le (c :: l)
    rw [List.length_append] at h1
    simp at h1 h2
    omega
  · exact trim_last l hz
/-- the last one is no zero -/
theorem ev_pos : ∀ (ns : List Int), ns ≠ [] → trim ns = ns → (∀ c ∈ ns, 0 ≤ c) → ∀ {n : Int}, 1 ≤ n → 1 ≤ ev ns n := by
  intro ns
  induction ns with
  | nil => intro h; exact absurd rfl h
  | cons c r ih =>
    intro _ ht h0 n hn
    cases r with
    | nil =>
      have hc : c ≠ 0 := by
        intro e
        rw [e] at ht
        have : trim ([] ++ [0]) = trim [] := trim_zero []
        rw [List.nil_append] at this
        rw [this, trim_nil] at ht
        exact absurd ht (by simp)
      have := h0 c List.mem_cons_self
      show 1 ≤ (0 : Int) * n + c
      omega
    | cons d r =>
      have ht2 : trim (d :: r) = d :: r := trim_tail (List.cons_ne_nil d r) ht
      have h1 := ih (List.cons_ne_nil d r) ht2 (fun x hx => h0 x (List.mem_cons_of_mem _ hx)) hn
      have hc := h0 c List.mem_cons_self
      show 1 ≤ ev (d :: r) n * n + c
      have : 1 * 1 ≤ ev (d :: r) n * n := Int.mul_le_mul h1 hn (by decide) (by omega)
      omega
theorem ev_ge (ns : List Int) (ht : trim ns = ns) (hl : 2 ≤ ns.length) (h0 : ∀ c ∈ ns, 0 ≤ c) {n : Int} (hn : 1 ≤ n) : n ≤ ev ns n := by
  match ns, hl with
  | c :: d :: r, _ =>
    have ht2 : trim (d :: r) = d :: r := trim_tail (List.cons_ne_nil d r) ht
    have h1 := ev_pos (d :: r) (List.cons_ne_nil d r) ht2 (fun x hx => h0 x (List.mem_cons_of_mem _ hx)) hn
    have hc := h0 c List.mem_cons_self
    show n ≤ ev (d :: r) n * n + c
    have : 1 * n ≤ ev (d :: r) n * n := Int.mul_le_mul_of_nonneg_right h1 (by omega)
    omega
theorem ev_zero (l : List Int) (n : Int) : ev (l ++ [0]) n = ev l n := by
  induction l with
  | nil => show (0 : Int) * n + 0 = 0; omega
  | cons c r ih => show ev (r ++ [0]) n * n + c = ev r n * n + c; rw [ih]
/-- a list is its trimmed one and zeros -/
theorem trim_app (l : List Int) : ∃ k, l = trim l ++ List.replicate k 0 := by
  unfold trim
  refine ⟨(l.reverse.takeWhile (· == 0)).length, ?_⟩
  have h := List.takeWhile_append_dropWhile (p := (· == (0 : Int))) (l := l.reverse)
  have e : l.reverse.takeWhile (· == 0) = List.replicate (l.reverse.takeWhile (· == 0)).length 0 := by
    refine List.eq_replicate_iff.mpr ⟨rfl, fun b hb => ?_⟩
    have h2 := List.all_takeWhile (p := (· == (0 : Int))) (l := l.reverse)
    rw [List.all_eq_true] at h2
    exact eq_of_beq (h2 b hb)
  have h3 := congrArg List.reverse h
  rw [List.reverse_append, List.reverse_reverse, e, List.reverse_replicate] at h3
  exact h3.symm
theorem ev_zeros (l : List Int) (n : Int) : ∀ k : Nat, ev (l ++ List.replicate k 0) n = ev l n
  | 0 => by rw [List.replicate_zero, List.append_nil]
  | k + 1 => by rw [List.replicate_succ', ← List.append_assoc, ev_zero, ev_zeros l n k]
theorem ev_trim (l : List Int) (n : Int) : ev (trim l) n = ev l n := by
  obtain ⟨k, e⟩ := trim_app l
  conv => rhs; rw [e]
  rw [ev_zeros]
theorem trim_mem {l : List Int} {c : Int} (h : c ∈ trim l) : c ∈ l := by
  obtain ⟨k, e⟩ := trim_app l
  rw [e]
  exact List.mem_append_left _ h
theorem trim_trim (l : List Int) : trim (trim l) = trim l := by
  unfold trim
  rw [List.reverse_reverse]
  congr 1
  generalize l.reverse = m
  induction m with
  | nil => rfl
  | cons a r ih =>
    rw [List.dropWhile_cons]
    by_cases h : (a == 0) = true
    · rw [if_pos h]; exact ih
    · rw [if_neg h, List.dropWhile_cons, if_neg h]
theorem ev_mono : ∀ (ns : List Int), (∀ c ∈ ns, 0 ≤ c) → ∀ {m n : Int}, 0 ≤ m → m ≤ n → 0 ≤ ev ns m ∧ ev ns m ≤ ev ns n
  | [], _, _, _, _, _ => ⟨Int.le_refl _, Int.le_refl _⟩
  | c :: r, h, m, n, h0, h1 => by
    have ih := ev_mono r (fun x hx => h x (List.mem_cons_of_mem _ hx)) h0 h1
    have hc := h c List.mem_cons_self
    have e1 : 0 ≤ ev r m * m := Int.mul_nonneg ih.1 h0
    have e2 : ev r m * m ≤ ev r n * n := Int.mul_le_mul ih.2 h1 h0 (by omega)
    exact ⟨by show 0 ≤ ev r m * m + c; omega, by show ev r m * m + c ≤ ev r n * n + c; omega⟩
/-! ### sums, products, inner polynomials -/
theorem ev_cons (c : Int) (r : List Int) (n : Int) : ev (c :: r) n = ev r n * n + c := rfl
theorem ev_zip (n : Int) : ∀ (l m : List Int), l.length = m.length → ev (List.zipWith (· + ·) l m) n = ev l n + ev m n
  | [], [], _ => rfl
  | c :: l, d :: m, h => by
    have ih := ev_zip n l m (by simpa using h)
    show ev (List.zipWith (· + ·) l m) n * n + (c + d) = (ev l n * n + c) + (ev m n * n + d)
    rw [ih, Int.add_mul]
    omega
def pad (l m : List Int) : List Int := List.zipWith (· + ·) l (m ++ List.replicate (l.length - m.length) 0)
def sumL (a b : List Int) : List Int := if b.length ≤ a.length then pad a b else pad b a
theorem ev_pad {l m : List Int} (h : m.length ≤ l.length) (n : Int) : ev (pad l m) n = ev l n + ev m n := by
  unfold pad
  rw [ev_zip n _ _ (by rw [List.length_append, List.length_replicate]; omega), ev_zeros]
theorem ev_sumL (a b : List Int) (n : Int) : ev (sumL a b) n = ev a n + ev b n := by
  unfold sumL
  split
  · exact ev_pad (by assumption) n
  · rw [ev_pad (by omega), Int.add_comm]
theorem pad_len {l m : List Int} (h : m.length ≤ l.length) : (pad l m).length = l.length := by
  unfold pad
  rw [List.length_zipWith, List.length_append, List.length_replicate]
  omega
theorem sumL_len (a b : List Int) : (sumL a b).length = max a.length b.length := by
  unfold sumL
  split
  · rw [pad_len (by assumption)]; omega
  · rw [pad_len (by omega)]; omega
def NN (l : List Int) : Prop := ∀ c ∈ l, 0 ≤ c
theorem zip_nn : ∀ {l m : List Int}, NN l → NN m → NN (List.zipWith (· + ·) l m)
  | [], _, _, _ => fun c hc => by simp at hc
  | _ :: _, [], _, _ => fun c hc => by simp at hc
  | x :: l, y :: m, h1, h2 => fun c hc => by
    rw [List.zipWith_cons_cons] at hc
    rcases List.mem_cons.mp hc with rfl | hc
    · have := h1 x List.mem_cons_self
      have := h2 y List.mem_cons_self
      omega
    · exact zip_nn (fun z hz => h1 z (List.mem_cons_of_mem _ hz)) (fun z hz => h2 z (List.mem_cons_of_mem _ hz)) c hc
theorem pad_nn {l m : List Int} (h1 : NN l) (h2 : NN m) : NN (pad l m) := by
  refine zip_nn h1 fun c hc => ?_
  rcases List.mem_append.mp hc with h | h
  · exact h2 c h
  · rw [(List.mem_replicate.mp h).2]; exact Int.le_refl 0
theorem sumL_nn {a b : List Int} (h1 : NN a) (h2 : NN b) : NN (sumL a b) := by
  unfold sumL
  split
  · exact pad_nn h1 h2
  · exact pad_nn h2 h1
/-! products -/
def evF (f : Nat → Int) (m : Nat) (n : Int) : Int := ev ((List.range m).map f) n
theorem evF_succ (f : Nat → Int) (m : Nat) (n : Int) : evF f (m + 1) n = evF (fun p => f (p + 1)) m n * n + f 0 := by
  unfold evF
  rw [List.range_succ_eq_map, List.map_cons, List.map_map]
  rfl
theorem evF_add (n : Int) : ∀ (m : Nat) (f g : Nat → Int), evF (fun p => f p + g p) m n = evF f m n + evF g m n
  | 0, _, _ => rfl
  | m + 1, f, g => by
    rw [evF_succ, evF_succ, evF_succ, evF_add n m, Int.add_mul]
    omega
theorem evF_mul (n c : Int) : ∀ (m : Nat) (f : Nat → Int), evF (fun p => c * f p) m n = c * evF f m n
  | 0, _ => by show (0 : Int) = c * 0; rw [Int.mul_zero]
  | m + 1, f => by
    rw [evF_succ, evF_succ, evF_mul n c m, Int.mul_add, Int.mul_assoc]
theorem evF_zero (n : Int) : ∀ (m : Nat), evF (fun _ => 0) m n = 0
  | 0 => rfl
  | m + 1 => by rw [evF_succ, evF_zero n m, Int.zero_mul, Int.zero_add]
theorem evF_get (n : Int) : ∀ (b : List Int) (m : Nat), b.length ≤ m → evF (fun p => b.getD p 0) m n = ev b n
  | [], m, _ => by
    have e : (fun p => ([] : List Int).getD p 0) = fun _ => 0 := by funext p; simp
    rw [e, evF_zero]; rfl
  | c :: b, 0, h => by simp at h
  | c :: b, m + 1, h => by
    rw [evF_succ]
    show evF (fun p => b.getD p 0) m n * n + c = ev b n * n + c
    rw [evF_get n b m (by simpa using h)]
def conv : List Int → List Int → Nat → Int
  | [], _, _ => 0
  | c :: a, b, 0 => c * b.getD 0 0
  | c :: a, b, p + 1 => c * b.getD (p + 1) 0 + conv a b p
def shift (h : Nat → Int) : Nat → Int
  | 0 => 0
  | p + 1 => h p
theorem conv_cons (c : Int) (a b : List Int) (p : Nat) : conv (c :: a) b p = c * b.getD p 0 + shift (conv a b) p := by
  cases p with
  | zero => show c * b.getD 0 0 = c * b.getD 0 0 + 0; omega
  | succ p => rfl
theorem ev_conv (b : List Int) (n : Int) : ∀ (a : List Int) (m : Nat), a.length + b.length ≤ m + 1 → evF (conv a b) m n = ev a n * ev b n
  | [], m, _ => by
    have e : conv [] b = fun _ => 0 := by funext p; rfl
    rw [e, evF_zero]
    show (0 : Int) = 0 * ev b n
    rw [Int.zero_mul]
  | c :: a, m, h => by
    have e : conv (c :: a) b = fun p => c * b.getD p 0 + shift (conv a b) p := by funext p; exact conv_cons c a b p
    have h' : a.length + b.length ≤ m := by simp only [List.length_cons] at h; omega
    rw [e, evF_add, evF_mul, evF_get n b m (by omega), ev_cons, Int.add_mul]
    have e2 : evF (shift (conv a b)) m n = ev a n * n * ev b n := by
      cases m with
      | zero =>
        have ha : a = [] := List.eq_nil_of_length_eq_zero (by omega)
        have hb : b = [] := List.eq_nil_of_length_eq_zero (by omega)
        subst ha hb
        show (0 : Int) = 0 * n * 0
        rw [Int.mul_zero]
      | succ m =>
        rw [evF_succ]
        show evF (conv a b) m n * n + 0 = _
        rw [ev_conv b n a m h', Int.add_zero, Int.mul_assoc, Int.mul_assoc, Int.mul_comm (ev b n) n]
    rw [e2]
    omega
def prodAt (a b : List Int) (p : Nat) : Int := (((List.range a.length).filter fun k => decide (k ≤ p) && decide (p - k < b.length)).map fun k => a.getD k 0 * b.getD (p - k) 0).sum
theorem getD_ge {b : List Int} {p : Nat} (h : ¬ p < b.length) : b.getD p 0 = 0 := by
  rw [List.getD_eq_getElem?_getD, List.getElem?_eq_none (by omega)]; rfl
theorem prodAt_conv (b : List Int) : ∀ (a : List Int) (p : Nat), prodAt a b p = conv a b p
  | [], _ => rfl
  | c :: a, p => by
    unfold prodAt
    rw [List.length_cons, List.range_succ_eq_map, List.filter_cons, conv_cons]
    have tail : (((List.map Nat.succ (List.range a.length)).filter fun k => decide (k ≤ p) && decide (p - k < b.length)).map fun k => (c :: a).getD k 0 * b.getD (p - k) 0).sum = shift (conv a b) p := by
      rw [List.filter_map, List.map_map]
      cases p with
      | zero =>
        have e : (List.range a.length).filter ((fun k => decide (k ≤ 0) && decide (0 - k < b.length)) ∘ Nat.succ) = [] := by
          rw [List.filter_eq_nil_iff]
          intro k _
          simp
        rw [e]; rfl
      | succ p =>
        show _ = conv a b p
        rw [← prodAt_conv b a p]
        unfold prodAt
        have e : ((fun k => decide (k ≤ p + 1) && decide (p + 1 - k < b.length)) ∘ Nat.succ) = fun k => decide (k ≤ p) && decide (p - k < b.length) := by
          funext k
          show (decide (k + 1 ≤ p + 1) && decide (p + 1 - (k + 1) < b.length)) = _
          rw [Nat.add_sub_add_right]
          congr 1
          simp
        rw [e]
        congr 1
        refine List.map_congr_left fun k _ => ?_
        show (c :: a).getD (k + 1) 0 * b.getD (p + 1 - (k + 1)) 0 = _
        rw [Nat.add_sub_add_right]
        rfl
    by_cases h : p < b.length
    · rw [if_pos (by simp [h]), List.map_cons, List.sum_cons, tail]
      show (c :: a).getD 0 0 * b.getD (p - 0) 0 + _ = _
      rfl
    · rw [if_neg (by simp [h]), tail, getD_ge h, Int.mul_zero, Int.zero_add]
def prodL (a b : List Int) : List Int := if a = [] ∨ b = [] then [] else (List.range (a.length + b.length - 1)).map (prodAt a b)
theorem ev_prodL (a b : List Int) (n : Int) : ev (prodL a b) n = ev a n * ev b n := by
  unfold prodL
  split
  · rename_i h
    rcases h with rfl | rfl
    · show (0 : Int) = 0 * _; rw [Int.zero_mul]
    · show (0 : Int) = _ * 0; rw [Int.mul_zero]
  · have e : prodAt a b = conv a b := by funext p; exact prodAt_conv b a p
    rw [e]
    exact ev_conv b n a _ (by omega)
theorem getD_nn {a : List Int} (h : NN a) (k : Nat) : 0 ≤ a.getD k 0 := by
  by_cases hk : k < a.length
  · rw [List.getD_eq_getElem?_getD, List.getElem?_eq_getElem hk]
    exact h _ (List.getElem_mem hk)
  · rw [getD_ge hk]; exact Int.le_refl 0
theorem sum_nn : ∀ {l : List Int}, NN l → 0 ≤ l.sum
  | [], _ => Int.le_refl 0
  | c :: l, h => by
    rw [List.sum_cons]
    have := h c List.mem_cons_self
    have := sum_nn (l := l) fun z hz => h z (List.mem_cons_of_mem _ hz)
    omega
theorem prodAt_nn {a b : List Int} (h1 : NN a) (h2 : NN b) (p : Nat) : 0 ≤ prodAt a b p := by
  refine sum_nn fun c hc => ?_
  obtain ⟨k, _, rfl⟩ := List.mem_map.mp hc
  exact Int.mul_nonneg (getD_nn h1 _) (getD_nn h2 _)
theorem prodL_nn {a b : List Int} (h1 : NN a) (h2 : NN b) : NN (prodL a b) := by
  unfold prodL
  split
  · exact fun c hc => by simp at hc
  · intro c hc
    obtain ⟨p, _, rfl⟩ := List.mem_map.mp hc
    exact prodAt_nn h1 h2 p
theorem prodL_len (a b : List Int) : (prodL a b).length ≤ a.length + b.length := by
  unfold prodL
  split
  · exact Nat.zero_le _
  · rw [List.length_map, List.length_range]; omega
/-- each coefficient is at most the value at 1 -/
theorem coef_le : ∀ {l : List Int}, NN l → (∀ c ∈ l, c ≤ ev l 1) ∧ 0 ≤ ev l 1
  | [], _ => ⟨fun c hc => by simp at hc, Int.le_refl 0⟩
  | d :: l, h => by
    obtain ⟨h1, h2⟩ := coef_le (l := l) fun z hz => h z (List.mem_cons_of_mem _ hz)
    have hd := h d List.mem_cons_self
    have e : ev (d :: l) 1 = ev l 1 + d := by rw [ev_cons, Int.mul_one]
    refine ⟨fun c hc => ?_, by omega⟩
    rcases List.mem_cons.mp hc with rfl | hc
    · omega
    · have := h1 c hc; omega
theorem trim_nn {l : List Int} (h : NN l) : NN (trim l) := fun c hc => h c (trim_mem hc)
/-- polynomials are equal whose values are -/
theorem ev_inj : ∀ (a b : List Int), trim a = a → trim b = b → NN a → NN b → (∀ n : Int, 1 ≤ n → ev a n = ev b n) → a = b
  | [], [], _, _, _, _, _ => rfl
  | [], d :: b, _, hb, _, nb, h => by
    have h1 := ev_pos (d :: b) (List.cons_ne_nil d b) hb nb (n := 1) (Int.le_refl 1)
    have h2 := h 1 (Int.le_refl 1)
    have h3 : ev [] 1 = 0 := rfl
    omega
  | c :: a, [], ha, _, na, _, h => by
    have h1 := ev_pos (c :: a) (List.cons_ne_nil c a) ha na (n := 1) (Int.le_refl 1)
    have h2 := h 1 (Int.le_refl 1)
    have h3 : ev [] 1 = 0 := rfl
    omega
  | c :: a, d :: b, ha, hb, na, nb, h => by
    have hc := na c List.mem_cons_self
    have hd := nb d List.mem_cons_self
    have ecd : c = d := by
      have hn := h (c + d + 1) (by omega)
      rw [ev_cons, ev_cons] at hn
      have e : (ev a (c + d + 1) - ev b (c + d + 1)) * (c + d + 1) = d - c := by rw [Int.sub_mul]; omega
      generalize ev a (c + d + 1) - ev b (c + d + 1) = z at e
      have hz : z = 0 := by
        rcases Int.lt_trichotomy z 0 with q | q | q
        · have : z * (c + d + 1) ≤ (-1) * (c + d + 1) := Int.mul_le_mul_of_nonneg_right (by omega) (by omega)
          omega
        · exact q
        · have : 1 * (c + d + 1) ≤ z * (c + d + 1) := Int.mul_le_mul_of_nonneg_right (by omega) (by omega)
          omega
      rw [hz, Int.zero_mul] at e
      omega
    subst ecd
    have hab : ∀ n : Int, 1 ≤ n → ev a n = ev b n := fun n hn => by
      have q := h n hn
      rw [ev_cons, ev_cons] at q
      have q2 : ev a n * n = ev b n * n := by omega
      exact Int.eq_of_mul_eq_mul_right (by omega) q2
    have e : a = b := by
      by_cases za : a = []
      · by_cases zb : b = []
        · rw [za, zb]
        · subst za
          have h1 := ev_pos b zb (trim_tail zb hb) (fun z hz => nb z (List.mem_cons_of_mem _ hz)) (n := 1) (Int.le_refl 1)
          have h2 := hab 1 (Int.le_refl 1)
          have h3 : ev [] 1 = 0 := rfl
          omega
      · by_cases zb : b = []
        · subst zb
          have h1 := ev_pos a za (trim_tail za ha) (fun z hz => na z (List.mem_cons_of_mem _ hz)) (n := 1) (Int.le_refl 1)
          have h2 := hab 1 (Int.le_refl 1)
          have h3 : ev [] 1 = 0 := rfl
          omega
        · exact ev_inj a b (trim_tail za ha) (trim_tail zb hb) (fun z hz => na z (List.mem_cons_of_mem _ hz)) (fun z hz => nb z (List.mem_cons_of_mem _ hz)) hab
    rw [e]
def powL (a : List Int) : Nat → List Int
  | 0 => [1]
  | k + 1 => prodL (powL a k) a
theorem ev_powL (a : List Int) (n : Int) : ∀ k, ev (powL a k) n = ev a n ^ k
  | 0 => by rw [Int.pow_zero]; show (0 : Int) * n + 1 = 1; omega
  | k + 1 => by
    show ev (prodL (powL a k) a) n = _
    rw [ev_prodL, ev_powL a n k, Int.pow_succ]
theorem powL_nn {a : List Int} (h : NN a) : ∀ k, NN (powL a k)
  | 0 => fun c hc => by
    have e : c = 1 := by simpa [powL] using hc
    omega
  | k + 1 => prodL_nn (powL_nn h k) h
theorem powL_len (a : List Int) : ∀ k, (powL a k).length ≤ 1 + k * a.length
  | 0 => by show 1 ≤ _; omega
  | k + 1 => by
    have := prodL_len (powL a k) a
    have := powL_len a k
    show (prodL (powL a k) a).length ≤ 1 + (k + 1) * a.length
    rw [Nat.add_mul]
    omega
def innL (inner : List Int) : List Int → List Int
  | [] => []
  | c :: r => sumL (prodL (innL inner r) inner) [c]
theorem ev_innL (inner : List Int) (n : Int) : ∀ outer, ev (innL inner outer) n = ev outer (ev inner n)
  | [] => rfl
  | c :: r => by
    show ev (sumL (prodL (innL inner r) inner) [c]) n = _
    rw [ev_sumL, ev_prodL, ev_innL inner n r]
    show ev r (ev inner n) * ev inner n + ((0 : Int) * n + c) = ev r (ev inner n) * ev inner n + c
    omega
theorem innL_nn {inner : List Int} (h : NN inner) : ∀ {outer}, NN outer → NN (innL inner outer)
  | [], _ => fun c hc => by simp [innL] at hc
  | c :: r, ho => sumL_nn (prodL_nn (innL_nn h fun z hz => ho z (List.mem_cons_of_mem _ hz)) h) fun z hz => by
    rw [List.mem_singleton.mp hz]; exact ho c List.mem_cons_self
theorem innL_len (inner : List Int) : ∀ outer : List Int, (innL inner outer).length ≤ outer.length * (inner.length + 1)
  | [] => Nat.zero_le _
  | c :: r => by
    show (sumL (prodL (innL inner r) inner) [c]).length ≤ (r.length + 1) * (inner.length + 1)
    rw [sumL_len, Nat.add_mul]
    have := prodL_len (innL inner r) inner
    have := innL_len inner r
    show max _ 1 ≤ _
    omega
end M
set_option Elab.async false
set_option linter.all false
set_option maxRecDepth 100000
set_option maxHeartbeats 4000000
namespace M
open PySem L2
local macro_rules | `(tactic| walk_at "rdc") => `(tactic| first | exact Or.inl ⟨by decide, by decide⟩ | exact Or.inr ⟨by decide, by decide⟩ | exact ⟨by decide, by decide, by decide⟩ | exact ⟨by decide, by decide⟩ | decide | omega | assumption | (refine Or.inl ⟨?_, ?_⟩ <;> omega) | (refine Or.inr ⟨?_, ?_⟩ <;> omega) | (refine ⟨?_, ?_⟩ <;> omega))
local macro_rules | `(tactic| walk_at "rd1") => `(tactic| with_reducible first
  | refine Rd.rd_seq ?_ | refine Rd.rd_asg ?_ | refine Rd.rd_op ?_ | (refine' Rd.rd_var ?vh ?_; (case vh => with_unfolding_all rfl)) | refine Rd.rd_c ?_ | refine Rd.rd_I0 ?_ | refine Rd.rd_name0 ?_ | refine Rd.rd_nameS ?_ | refine Rd.rd_fn ?_
  | refine Rd.rd_cb ?_ | refine Rd.rd_cons ?_ | refine Rd.rd_nil ?_ | refine Rd.rd_int ?_ | refine Rd.rd_intB ?_ | refine Rd.rd_abs ?_ | refine Rd.rd_max2 ?_ | refine Rd.rd_min2 ?_
  | refine Rd.rd_call ?_ | refine Rd.rd_ifE ?_ | refine Rd.rd_test ?_ | refine Rd.rd_tB ?_ | refine Rd.rd_blV ?_ | refine Rd.rd_and ?_ | refine Rd.rd_or ?_ | refine Rd.rd_not ?_
  | refine Rd.rd_andV ?_ | refine Rd.rd_orV ?_ | refine Rd.rd_notV ?_ | refine Rd.rd_next ?_ | refine Rd.rd_ret ?_ | refine Rd.rd_drop ?_ | refine Rd.rd_ifS ?_ | refine Rd.rd_nx ?_ | refine Rd.rd_rt ?_ | refine Rd.rd_tMatch ?_ | refine Rd.rd_tCO ?_ | refine Rd.rd_tRevL ?_ | refine Rd.rd_tStar ?_ | refine Rd.rd_joined ?_ | refine Rd.rd_js1 ?_ | refine Rd.rd_js0 ?_ | refine Rd.rd_fmt ?_ | refine Rd.rd_propR ?_ | refine Rd.rd_iZipA ?_ | refine Rd.rd_iEnumT ?_ | refine Rd.rd_iOwn ?_ | (refine' Rd.rd_IET ?ln ?_; (case ln => with_unfolding_all walk_at "at")) | refine Rd.rd_chain ?_ | refine Rd.rd_tPar ?_ | refine Rd.rd_par ?_ | refine Rd.rd_sl ?_ | refine Rd.rd_noPart ?_ | refine Rd.rd_part ?_ | refine Rd.rd_intV ?_ | refine Rd.rd_lc ?_ | (refine' Rd.rd_aug ?vh ?_; (case vh => with_unfolding_all rfl)) | refine Rd.rd_ipI ?_ | refine Rd.rd_for ?_ | (refine' Rd.rd_IT ?ln ?_; (case ln => with_unfolding_all walk_at "at")) | (refine' Rd.rd_IL ?ln ?_; (case ln => with_unfolding_all walk_at "at")) | refine Rd.rd_iTup ?_ | refine Rd.rd_iList ?_ | refine Rd.rd_iRng1 ?_ | refine Rd.rd_iRng2 ?_ | refine Rd.rd_isi (Rd.isi_int Rd.kk_int_int) ?_ | refine Rd.rd_isi (Rd.isi_int Rd.kk_int_bool) ?_ | refine Rd.rd_dget ?_ | refine Rd.rd_din ?_ | refine Rd.rd_dnotin ?_ | refine Rd.rd_dput ?_ | refine Rd.rd_dc ?_ | refine Rd.rd_lc2 ?_ | refine Rd.rd_ltS ?_ | refine Rd.rd_inSg ?_ | refine Rd.rd_iStr ?_ | refine Rd.rd_IS ?_ | refine Rd.rd_prC ?_ | refine Rd.rd_prN ?_ | refine Rd.rd_methR ?_ | refine Rd.rd_cmeth ?_ | refine Rd.rd_fldS ?_ | refine Rd.rd_fld ?_ | (refine' Rd.rd_mkVS ?vh ?_; (case vh => with_unfolding_all rfl)) | (refine' Rd.rd_starT ?ln ?_; (case ln => with_unfolding_all walk_at "at")) | refine Rd.rd_iEnum ?_ | refine Rd.rd_iZip ?_ | (refine' Rd.rd_IE ?ln ?_; (case ln => with_unfolding_all walk_at "at")) | (refine' Rd.rd_IZ ?ln ?lm ?_; (case ln => with_unfolding_all walk_at "at"); (case lm => with_unfolding_all walk_at "at")) | (refine' Rd.rd_gTup ?ln ?lk ?_; (case ln => with_unfolding_all walk_at "at"); (case lk => with_unfolding_all rfl)) | refine Rd.rd_gCons ?_ | refine Rd.rd_gNil ?_ | refine Rd.rd_m1 ?_ | refine Rd.rd_strV ?_ | refine Rd.rd_tXiM ?_ | refine Rd.rd_tXiB ?_ | refine Rd.rd_tXiS ?_ | refine Rd.rd_bm ?_ | refine Rd.rd_bm0 ?_ | refine Rd.rd_isN ?_ | refine Rd.rd_notN ?_ | refine Rd.rd_sub ?_ | refine Rd.rd_un ?_ | refine Rd.rd_U ?_
  | (refine' Rd.rd_eq ?sc ?_; (case sc => with_unfolding_all rfl)) | (refine' Rd.rd_ne ?sc ?_; (case sc => with_unfolding_all rfl))
  | (refine' Rd.rd_I ?cc ?_; (case cc => with_unfolding_all walk_at "rdc"))
  | (refine' Rd.rd_lenL ?ln ?_; (case ln => with_unfolding_all walk_at "at")) | (refine' Rd.rd_lenT ?ln ?_; (case ln => with_unfolding_all walk_at "at"))
  | (refine' Rd.rd_ixL ?ln ?ia ?_; (case ln => with_unfolding_all walk_at "at"); (case ia => with_unfolding_all first | exact Rd.at0 | exact Rd.at1 | exact Rd.at2 | exact Rd.at3 | exact Rd.at4 | rfl)) | (refine' Rd.rd_ixT ?ln ?ia ?_; (case ln => with_unfolding_all walk_at "at"); (case ia => with_unfolding_all first | exact Rd.at0 | exact Rd.at1 | exact Rd.at2 | exact Rd.at3 | exact Rd.at4 | rfl)))
local macro_rules | `(tactic| walk_at "at") => `(tactic| first | assumption | (apply SqL.of; assumption) | (apply SqT.of; assumption) | (apply SqL.of; exact upd_same) | (apply SqT.of; exact upd_same))
local macro_rules | `(tactic| walk_at "rd") => `(tactic| repeat walk_at "rd1")
def top (i : Nat) : Stmt := PySem.Challenge.pw_loopgrowth_k58_errors_of_polynomials.main.body.getD i (.Pass ⟨0, 0, 0, 0⟩)
structure Glob (mg : Str → Option Value) : Prop where
  len : mg "len" = none
  int : mg "int" = none
  abs : mg "abs" = none
  max : mg "max" = none
  min : mg "min" = none
  range : mg "range" = none
  isinstance : mg "isinstance" = none
  all : mg "all" = none
  tuple : mg "tuple" = none
  list : mg "list" = none
  sum : mg "sum" = none
  str : mg "str" = none
  zip : mg "zip" = none
  bool : mg "bool" = none
  repr : mg "repr" = none
  iter : mg "iter" = none
  enumerate : mg "enumerate" = none
/-! ### the law's dice -/
abbrev s__law_dice : Stmt := top 28
theorem sc__law_dice : FnScope ["_law_script", "_law_at", "_law_cell", "_law_great", "_law_mixed"] ["_law_script", "_law_at"] (defScope s__law_dice) := ⟨rfl, rfl, rfl, by decide +kernel, rfl, by decide +kernel, by decide +kernel⟩
abbrev s__law_roll : Stmt := top 29
theorem sc__law_roll : FnScope ["_law_dice_here", "_law_total", "_law_found", "_law_one", "_law_two"] ["_law_dice_here", "_law_total"] (defScope s__law_roll) := ⟨rfl, rfl, rfl, by decide +kernel, rfl, by decide +kernel, by decide +kernel⟩
abbrev s__law_one_of : Stmt := top 30
theorem sc__law_one_of : FnScope ["_law_dice_here", "_law_items"] ["_law_dice_here", "_law_items"] (defScope s__law_one_of) := ⟨rfl, rfl, rfl, by decide +kernel, rfl, by decide +kernel, by decide +kernel⟩
/-- dice at p -/
def Dice (H : Hp) (p : Addr) : Prop := ∃ x y z : Int, H p = some (.lst [.int x, .int y, .int z])
/-- but for the dice at p all is as it was -/
structure Rolled (p : Addr) (H H' : Hp) : Prop where
  keep : ∀ b o, b ≠ p → H b = some o → H' b = some o
  dice : Dice H' p
theorem rolled_upd {p : Addr} {H : Hp} {x y z : Int} : Rolled p H (upd H p (.lst [.int x, .int y, .int z])) := ⟨fun b o hb e => by rw [upd_ne hb]; exact e, x, y, z, upd_same⟩
theorem Rolled.sqL {K : PySem.W.Frag} {p a : Addr} {H H' : Hp} {xs : List V} (r : Rolled p H H') (hne : a ≠ p) (h : SqL K H a xs) : SqL K H' a xs := by
  rcases h with (h | ⟨o', h⟩) | h
  · exact .inl (.inl (r.keep _ _ hne h))
  · exact .inl (.inr ⟨o', r.keep _ _ hne h⟩)
  · exact .inr h
theorem Dice.same {H H' : Hp} {p : Addr} (h : Dice H p) (s : Same H H') : Dice H' p := by
  obtain ⟨x, y, z, e⟩ := h
  exact ⟨x, y, z, s _ _ e⟩
theorem Dice.ne {H : Hp} {p l : Addr} (h : Dice H p) (hl : H l = none) : l ≠ p := by
  obtain ⟨x, y, z, e⟩ := h
  exact (ne_of_none e hl).symm
theorem Rolled.refl {p : Addr} {H : Hp} (h : Dice H p) : Rolled p H H := ⟨fun _ _ _ e => e, h⟩
theorem Rolled.trans {p : Addr} {H H1 H2 : Hp} (a : Rolled p H H1) (b : Rolled p H1 H2) : Rolled p H H2 := ⟨fun c o hc e => b.keep c o hc (a.keep c o hc e), b.dice⟩
theorem Rolled.same {p : Addr} {H H1 H2 : Hp} (a : Rolled p H H1) (b : Same H1 H2) : Rolled p H H2 := ⟨fun c o hc e => b c o (a.keep c o hc e), a.dice.same b⟩
theorem Rolled.pre {p : Addr} {H H1 H2 : Hp} (a : Same H H1) (b : Rolled p H1 H2) : Rolled p H H2 := ⟨fun c o hc e => b.keep c o hc (a c o e), b.dice⟩
/-- a thing of one's own changes -/
theorem Rolled.mut {p l : Addr} {H H1 : Hp} {o : HO} (a : Rolled p H H1) (hl : H l = none) (hp : l ≠ p) : Rolled p H (upd H1 l o) := by
  obtain ⟨x, y, z, e⟩ := a.dice
  exact ⟨fun c u hc q => by rw [upd_ne (ne_of_none q hl)]; exact a.keep c u hc q, x, y, z, by rw [upd_ne hp.symm]; exact e⟩
theorem Rolled.sqT {K : PySem.W.Frag} {p a : Addr} {H H' : Hp} {xs : List V} (r : Rolled p H H') (hD : Dice H p) (h : SqT K H a xs) : SqT K H' a xs := by
  obtain ⟨x, y, z, e⟩ := hD
  rcases h with (h | ⟨o', h⟩) | h
  · exact .inl (.inl (r.keep _ _ (ne_of h e (by intro q; cases q)) h))
  · exact .inl (.inr ⟨o', r.keep _ _ (ne_of h e (by intro q; cases q)) h⟩)
  · exact .inr h
def spDice (K : PySem.W.Frag) : Sp := Rd.mkSp (fun (a : Addr × List Int × Nat) => [.ref a.1, .int a.2.2]) fun a H Q _ => SqL K H a.1 (a.2.1.map V.int) ∧ ∀ p H', H p = none → Same H H' → Dice H' p → Q (.ref p) H'
def spRoll : Sp := Rd.mkSp (fun (a : Addr × Int) => [.ref a.1, .int a.2]) fun a H Q _ => Dice H a.1 ∧ 0 < a.2 ∧ a.2 < 1073741824 ∧ ∀ r H', 0 ≤ r → r < a.2 → Rolled a.1 H H' → Q (.int r) H'
def spOneOf (K : PySem.W.Frag) : Sp := Rd.mkSp (fun (a : Addr × Addr × List V) => [.ref a.1, .ref a.2.1]) fun a H Q _ => Dice H a.1 ∧ a.2.1 ≠ a.1 ∧ SqL K H a.2.1 a.2.2 ∧ 0 < a.2.2.length ∧ a.2.2.length < 1000 ∧
  ∀ v H', v ∈ a.2.2 → Rolled a.1 H H' → Q v H'
theorem rd_roll {H : Hp} {Q : VK} {E : XK} {d : Addr} {n : Int} (hD : Dice H d) (h0 : 0 < n) (h1 : n < 1073741824) (q : ∀ r H', 0 ≤ r → r < n → Rolled d H H' → Q (.int r) H') : spRoll [.ref d, .int n] H Q E := Rd.rd_sp (d, n) rfl ⟨hD, h0, h1, q⟩
/-- one of the items of a list that is none of the dice -/
theorem rd_one {K : PySem.W.Frag} {H : Hp} {Q : VK} {E : XK} {d m : Addr} {xs : List V} (hD : Dice H d) (hm : m ≠ d) (h : SqL K H m xs) (h0 : 0 < xs.length) (h1 : xs.length < 1000) (q : ∀ v H', v ∈ xs → Rolled d H H' → Q v H') : spOneOf K [.ref d, .ref m] H Q E :=
  Rd.rd_sp (d, m, xs) rfl ⟨hD, hm, h, h0, h1, q⟩
section
variable {gd : Bool} {P : Program} {w : World} {K : PySem.W.Frag} {mg : Str → Option Value} {base : Heap}
theorem ok_dice (F : Rd.Has K mg "_law_dice" s__law_dice) (g : Glob mg) : Rd.Fn gd P w K mg base CX0 1 "_law_dice" (spDice K) := by
  refine F.fn sc__law_dice (fun _ => rfl) (fun _ _ _ _ _ _ us hl => match us, hl with | [_, _], _ => rfl) fun f cdv A outer s H Q E a hr h => ?_
  obtain ⟨a, ns, i⟩ := a
  obtain ⟨hS, k⟩ := h
  refine ⟨_, (pss_cons (ps_set (i := 2) sc__law_dice.nd rfl (Or.inl rfl) (pe_op op_add (pe_op op_mul pe_int (pv 1)) pe_int))
      (C8.pss_cut (ps_if (pt_cmpR op_lt (pv 1) (pe_callB Rd.c_len (by rfl) g.len (by decide +kernel) (pa_cons (pv 0) pa_nil)) (nomark _)) (pss_one (ps_set (i := 2) sc__law_dice.nd rfl (Or.inl rfl) (pe_ix ix_list (pv 0) (pv 1) (fun _ _ => rfl)))) pss_nil)
      (pss_cons (ps_set (i := 3) sc__law_dice.nd rfl (Or.inl rfl) (pe_op op_mod (pe_callTy Rd.c_int (by rfl) g.int (by decide +kernel) (pa_cons (pe_callB Rd.c_abs (by rfl) g.abs (by decide +kernel) (pa_cons (pv 2) pa_nil)) pa_nil)) (pe_op Rd.op_powW (pe_op op_pow pe_int pe_int) pe_int)))
      (pss_cons (ps_set (i := 4) sc__law_dice.nd rfl (Or.inl rfl) (pe_op op_add (pe_op op_add (pe_op op_add (pe_op op_mul (pe_op op_mod (pe_callTy Rd.c_int (by rfl) g.int (by decide +kernel) (pa_cons (pv 3) pa_nil)) pe_int) pe_int) (pe_op op_mul pe_int (pv 1))) (pe_op op_mul pe_int (pe_callTy Rd.c_int (by rfl) g.int (by decide +kernel) (pa_cons (pe_cmpR op_lt (pv 2) pe_int (nomark _)) pa_nil)))) pe_int))
      (pss_one (ps_ret (Rd.pe_lst (pa_cons (pe_callB (Rd.c_max2 rfl) (by rfl) g.max (by decide +kernel) (pa_cons pe_int (pa_cons (pe_op op_sub (pv 3) (pe_op op_pow pe_int pe_int)) pa_nil))) (pa_cons (pe_op op_mod (pe_callTy Rd.c_int (by rfl) g.int (by decide +kernel) (pa_cons (pv 4) pa_nil)) pe_int) (pa_cons pe_int pa_nil)))))))))), ?_⟩
  try simp only [Rd.noxK, Rd.cxK]
  refine Rd.rd_start [some (V.ref a), some (V.int i), none, none, none] rfl ?_
  walk_at "rd"
  refine ⟨fun σ' H' => H' = H ∧ ∃ c : Int, σ' = [some (.ref a), some (.int i), some (.int c), none, none], ?_, ?_⟩
  · walk_at "rd"
    refine ite2 (fun hc => ?_) (fun _ => ?_)
    · have hl : i < ns.length := by simpa using hc
      walk_at "rd"
      refine Rd.rd_ixL hS (atI_nat (v := V.int (ns[i]'hl)) (by rw [List.getElem?_map, List.getElem?_eq_getElem hl]; rfl)) ?_
      walk_at "rd"
      exact ⟨rfl, _, rfl⟩
    · walk_at "rd"
      exact ⟨rfl, _, rfl⟩
  · rintro σ' H' ⟨rfl, c, rfl⟩
    walk_at "rd"
    exact Rd.rd_mkLst (by show 3 ≤ sizeLine; decide) fun p H' hp s' h' => k p H' hp s' ⟨_, _, _, h'⟩
theorem ok_roll (F : Rd.Has K mg "_law_roll" s__law_roll) (g : Glob mg) : Rd.Fn gd P w K mg base CX0 1 "_law_roll" spRoll := by
  refine F.fn sc__law_roll (fun _ => rfl) (fun _ _ _ _ _ _ us hl => match us, hl with | [_, _], _ => rfl) fun f cdv A outer s H Q E a hr h => ?_
  obtain ⟨a, n⟩ := a
  obtain ⟨⟨x, y, z, hD⟩, h0, h1, k⟩ := h
  dsimp only at hD h0 h1 k
  refine ⟨_, (pss_cons (ps_if (pt_cmpR op_gt (pe_ix ix_list (pv 0) pe_int (fun _ _ => rfl)) pe_int (nomark _)) (pss_cons (ps_set (i := 2) sc__law_roll.nd rfl (Or.inl rfl) (pe_op op_mod (pe_callTy Rd.c_int (by rfl) g.int (by decide +kernel) (pa_cons (pe_ix ix_list (pv 0) pe_int (fun _ _ => rfl)) pa_nil)) (pv 1)))
      (pss_cons (ps_asg (pe_op op_fdiv (pe_ix ix_list (pv 0) pe_int (fun _ _ => rfl)) (pv 1)) (pg_sub (pv 0) pe_int set_list))
      (pss_one (ps_ret (pv 2))))) pss_nil)
      (pss_cons (ps_asg (pe_op op_add (pe_ix ix_list (pv 0) pe_int (fun _ _ => rfl)) pe_int) (pg_sub (pv 0) pe_int set_list))
      (pss_cons (ps_set (i := 3) sc__law_roll.nd rfl (Or.inl rfl) (pe_op op_mod (pe_callTy Rd.c_int (by rfl) g.int (by decide +kernel) (pa_cons (pe_op op_add (pe_ix ix_list (pv 0) pe_int (fun _ _ => rfl)) (pe_op op_mul pe_int (pe_ix ix_list (pv 0) pe_int (fun _ _ => rfl)))) pa_nil)) pe_int))
      (pss_cons (ps_set (i := 4) sc__law_roll.nd rfl (Or.inl rfl) (pe_op op_add (pe_op op_mul (pe_op op_mod (pe_callTy Rd.c_int (by rfl) g.int (by decide +kernel) (pa_cons (pe_op op_mul (pv 3) (pv 3)) pa_nil)) pe_int) (pv 3)) (pe_op op_mul pe_int (pe_ix ix_list (pv 0) pe_int (fun _ _ => rfl)))))
      (pss_cons (ps_set (i := 4) sc__law_roll.nd rfl (Or.inl rfl) (pe_op op_mod (pe_callTy Rd.c_int (by rfl) g.int (by decide +kernel) (pa_cons (pv 4) pa_nil)) pe_int))
      (pss_one (ps_ret (pe_op op_mod (pe_callTy Rd.c_int (by rfl) g.int (by decide +kernel) (pa_cons (pe_op op_fdiv (pv 4) pe_int) pa_nil)) (pv 1))))))))), ?_⟩
  try simp only [Rd.noxK, Rd.cxK]
  refine Rd.rd_start [some (V.ref a), some (V.int n), none, none, none] rfl ?_
  walk_at "rd"
  refine ite2 (fun hc => ?_) (fun _ => ?_)
  · walk_at "rd"
    refine Rd.rd_setL (k := 0) hD (by simp) ?_
    walk_at "rd"
    exact k _ _ (Int.emod_nonneg _ (by omega)) (Int.emod_lt_of_pos _ h0) rolled_upd
  · walk_at "rd"
    refine Rd.rd_setL (k := 2) hD (by simp) ?_
    walk_at "rd"
    exact k _ _ (Int.emod_nonneg _ (by omega)) (Int.emod_lt_of_pos _ h0) rolled_upd
theorem ok_one_of (F : Rd.Has K mg "_law_one_of" s__law_one_of) (g : Glob mg) (c__law_roll : Rd.Fn gd P w K mg base CX0 1 "_law_roll" spRoll) : Rd.Fn gd P w K mg base CX0 2 "_law_one_of" (spOneOf K) := by
  refine F.fn sc__law_one_of (fun _ => rfl) (fun _ _ _ _ _ _ us hl => match us, hl with | [_, _], _ => rfl) fun f cdv A outer s H Q E a hr h => ?_
  obtain ⟨a, b, xs⟩ := a
  obtain ⟨hD, hne, hS, h0, h1, k⟩ := h
  dsimp only at hD hne hS h0 h1 k
  refine ⟨_, (pss_one (ps_ret (pe_ix ix_list (pv 1) (Rd.pe_fn c__law_roll (hr.mono (by decide)) (by rfl) (pa_cons (pv 0) (pa_cons (pe_callB Rd.c_len (by rfl) g.len (by decide +kernel) (pa_cons (pv 1) pa_nil)) pa_nil))) (fun _ _ => rfl)))), ?_⟩
  try simp only [Rd.noxK, Rd.cxK]
  refine Rd.rd_start [some (V.ref a), some (V.ref b)] rfl ?_
  walk_at "rd"
  refine Rd.rd_sp (a, (xs.length : Int)) rfl ⟨hD, by show (0 : Int) < xs.length; omega, by show (xs.length : Int) < _; omega, fun r H' hr0 hr1 hR => ?_⟩
  dsimp only at hr1 hR ⊢
  obtain ⟨j, rfl⟩ : ∃ j : Nat, r = (j : Int) := ⟨r.toNat, by omega⟩
  have hj : j < xs.length := by omega
  refine Rd.rd_ixL (hR.sqL hne hS) (atI_nat (v := xs[j]) (List.getElem?_eq_getElem hj)) ?_
  exact k _ _ (List.getElem_mem hj) hR
end
/-! ### the program: polynomials -/
abbrev s_is_integer : Stmt := top 8
theorem sc_is_integer : FnScope ["value"] ["value"] (defScope s_is_integer) := ⟨rfl, rfl, rfl, by decide +kernel, rfl, by decide +kernel, by decide +kernel⟩
abbrev s_is_count : Stmt := top 12
theorem sc_is_count : FnScope ["value"] ["value"] (defScope s_is_count) := ⟨rfl, rfl, rfl, by decide +kernel, rfl, by decide +kernel, by decide +kernel⟩
abbrev s_require_number : Stmt := top 13
theorem sc_require_number : FnScope ["value"] ["value"] (defScope s_require_number) := ⟨rfl, rfl, rfl, by decide +kernel, rfl, by decide +kernel, by decide +kernel⟩
abbrev s_require_coefficients : Stmt := top 14
theorem sc_require_coefficients : FnScope ["coefficients", "one"] ["coefficients"] (defScope s_require_coefficients) := ⟨rfl, rfl, rfl, by decide +kernel, rfl, by decide +kernel, by decide +kernel⟩
abbrev s_trimmed : Stmt := top 15
theorem sc_trimmed : FnScope ["coefficients", "size"] ["coefficients"] (defScope s_trimmed) := ⟨rfl, rfl, rfl, by decide +kernel, rfl, by decide +kernel, by decide +kernel⟩
abbrev s_at_in : Stmt := top 16
theorem sc_at_in : FnScope ["coefficients", "n", "found", "one"] ["coefficients", "n"] (defScope s_at_in) := ⟨rfl, rfl, rfl, by decide +kernel, rfl, by decide +kernel, by decide +kernel⟩
abbrev s_least_in : Stmt := top 22
theorem sc_least_in : FnScope ["coefficients", "goal", "high", "low", "middle"] ["coefficients", "goal"] (defScope s_least_in) := ⟨rfl, rfl, rfl, by decide +kernel, rfl, by decide +kernel, by decide +kernel⟩
/-- is_integer: v is an int (and no bool) -/
def IsI (K : PySem.W.Frag) (H : Hp) (v : V) (b : Bool) : Prop := ∃ b1 b2, Rd.Isi K H v "int" b1 ∧ (b1 = true → Rd.Isi K H v "bool" b2) ∧ b = (b1 && !b2)
theorem isI_int {K : PySem.W.Frag} {H : Hp} {i : Int} : IsI K H (.int i) true := ⟨true, false, Rd.isi_int Rd.kk_int_int, fun _ => Rd.isi_int Rd.kk_int_bool, rfl⟩
def spIsI (K : PySem.W.Frag) : Sp := Rd.mkSp (fun (v : V) => [v]) fun v H Q _ => ∃ b, IsI K H v b ∧ Q (.bl b) H
def spIsCount (K : PySem.W.Frag) : Sp := Rd.mkSp (fun (v : V) => [v]) fun v H Q _ => (∃ i, v = .int i ∧ Q (.bl (decide (0 ≤ i))) H) ∨ (IsI K H v false ∧ Q (.bl false) H)
def spReqNum : Sp := Rd.mkSp (fun (i : Int) => [.int i]) fun i H Q _ => 0 ≤ i ∧ Q .non H
/-- a tuple of ints -/
def TI (K : PySem.W.Frag) (H : Hp) (a : Addr) (ns : List Int) : Prop := SqT K H a (ns.map V.int)
def spReqCo (K : PySem.W.Frag) : Sp := Rd.mkSp (fun (a : Addr × List Int) => [.ref a.1]) fun a H Q _ => TI K H a.1 a.2 ∧ (∀ n ∈ a.2, 0 ≤ n) ∧ a.2.length ≤ 1000 ∧ ∀ H', Same H H' → Q .non H'
def spTrim (K : PySem.W.Frag) : Sp := Rd.mkSp (fun (a : Addr × List Int) => [.ref a.1]) fun a H Q _ => TI K H a.1 a.2 ∧ a.2.length ≤ 1000 ∧ ∀ p H', Same H H' → TI K H' p (trim a.2) → Q (.ref p) H'
/-- coefficients of at most b bits, at least 0 -/
def Co (b : Nat) (ns : List Int) : Prop := ∀ c ∈ ns, 0 ≤ c ∧ c < 2 ^ b
def spAtIn (K : PySem.W.Frag) : Sp := Rd.mkSp (fun (a : Addr × List Int × Int) => [.ref a.1, .int a.2.2]) fun a H Q _ => TI K H a.1 a.2.1 ∧ (∃ b m, Co b a.2.1 ∧ 0 ≤ a.2.2 ∧ a.2.2 < 2 ^ m ∧ 0 < b ∧ 0 < m ∧ b + a.2.1.length * (m + 1) + m ≤ 900000) ∧
  ∀ H', Same H H' → Q (.int (ev a.2.1 a.2.2)) H'
/-- the least place of a goal -/
def LeastIs (ns : List Int) (goal : Int) (v : V) : Prop := (goal ≤ ev ns 0 ∧ v = .int 0) ∨ (ev ns 0 < goal ∧ ns.length < 2 ∧ v = .non) ∨ (ev ns 0 < goal ∧ 2 ≤ ns.length ∧ ∃ h : Int, 1 ≤ h ∧ v = .int h ∧ goal ≤ ev ns h ∧ ev ns (h - 1) < goal)
def spLeast (K : PySem.W.Frag) : Sp := Rd.mkSp (fun (a : Addr × List Int × Int) => [.ref a.1, .int a.2.2]) fun a H Q _ => TI K H a.1 a.2.1 ∧ trim a.2.1 = a.2.1 ∧ (∃ b m, Co b a.2.1 ∧ 0 ≤ a.2.2 ∧ a.2.2 < 2 ^ m ∧ 0 < b ∧ 0 < m ∧ b + a.2.1.length * (m + 2) + (m + 1) ≤ 900000) ∧
  ∀ v H', Same H H' → LeastIs a.2.1 a.2.2 v → Q v H'
section
variable {gd : Bool} {P : Program} {w : World} {K : PySem.W.Frag} {mg : Str → Option Value} {base : Heap}
theorem ok_is_integer (F : Rd.Has K mg "is_integer" s_is_integer) (g : Glob mg) : Rd.Fn gd P w K mg base CX0 1 "is_integer" (spIsI K) := by
  refine F.fn sc_is_integer (fun _ => rfl) (fun _ _ _ _ _ _ us hl => match us, hl with | [_], _ => rfl) fun f cdv A outer s H Q E v hr h => ?_
  obtain ⟨b, ⟨b1, b2, h1, h2, rfl⟩, k⟩ := h
  refine ⟨_, (pss_one (ps_ret (pe_and (pe_callB Rd.c_isi (by rfl) g.isinstance (by decide +kernel) (pa_cons (pv 0) (pa_cons (pe_bltn (v := .ty "int") (by rfl) g.int (by decide +kernel) rfl) pa_nil))) (pe_one (pe_not (pe_callB Rd.c_isi (by rfl) g.isinstance (by decide +kernel) (pa_cons (pv 0) (pa_cons (pe_bltn (v := .ty "bool") (by rfl) g.bool (by decide +kernel) rfl) pa_nil)))))))), ?_⟩
  try simp only [Rd.noxK, Rd.cxK]
  refine Rd.rd_start [some v] rfl ?_
  walk_at "rd"
  refine Rd.rd_isi h1 ?_
  walk_at "rd"
  cases b1 with
  | false => exact iteF k
  | true =>
    refine iteT ?_
    walk_at "rd"
    refine Rd.rd_isi (h2 rfl) ?_
    walk_at "rd"
    exact k
theorem ok_is_count (F : Rd.Has K mg "is_count" s_is_count) (g : Glob mg) (c_is_integer : Rd.Fn gd P w K mg base CX0 1 "is_integer" (spIsI K)) : Rd.Fn gd P w K mg base CX0 2 "is_count" (spIsCount K) := by
  refine F.fn sc_is_count (fun _ => rfl) (fun _ _ _ _ _ _ us hl => match us, hl with | [_], _ => rfl) fun f cdv A outer s H Q E v hr h => ?_
  refine ⟨_, (pss_one (ps_ret (pe_and (Rd.pe_fn c_is_integer (hr.mono (by decide)) (by rfl) (pa_cons (pv 0) pa_nil)) (pe_one (pe_cmpR op_ge (pv 0) pe_int (nomark _)))))), ?_⟩
  try simp only [Rd.noxK, Rd.cxK]
  refine Rd.rd_start [some v] rfl ?_
  walk_at "rd"
  rcases h with ⟨i, rfl, k⟩ | ⟨h, k⟩
  · refine Rd.rd_sp (V.int i) rfl ⟨true, isI_int, ?_⟩
    walk_at "rd"
    refine iteT ?_
    walk_at "rd"
    exact k
  · refine Rd.rd_sp v rfl ⟨false, h, ?_⟩
    walk_at "rd"
    exact iteF k
theorem ok_require_number (F : Rd.Has K mg "require_number" s_require_number) (g : Glob mg) (c_is_count : Rd.Fn gd P w K mg base CX0 2 "is_count" (spIsCount K)) : Rd.Fn gd P w K mg base CX0 3 "require_number" spReqNum := by
  refine F.fn sc_require_number (fun _ => rfl) (fun _ _ _ _ _ _ us hl => match us, hl with | [_], _ => rfl) fun f cdv A outer s H Q E i hr h => ?_
  obtain ⟨h0, k⟩ := h
  refine ⟨_, (pss_one (ps_if (pt_not (pt_val (Rd.pe_fn c_is_count (hr.mono (by decide)) (by rfl) (pa_cons (pv 0) pa_nil)))) (pss_one ps_never) pss_nil)), ?_⟩
  try simp only [Rd.noxK, Rd.cxK]
  refine Rd.rd_start [some (V.int i)] rfl ?_
  walk_at "rd"
  refine Rd.rd_sp (V.int i) rfl (.inl ⟨i, rfl, ?_⟩)
  walk_at "rd"
  rw [decide_eq_true h0]
  refine iteF ?_
  walk_at "rd"
  exact k
theorem ok_require_coefficients (F : Rd.Has K mg "require_coefficients" s_require_coefficients) (g : Glob mg) (c_is_count : Rd.Fn gd P w K mg base CX0 2 "is_count" (spIsCount K)) : Rd.Fn gd P w K mg base CX0 3 "require_coefficients" (spReqCo K) := by
  refine F.fn sc_require_coefficients (fun _ => rfl) (fun _ _ _ _ _ _ us hl => match us, hl with | [_], _ => rfl) fun f cdv A outer s H Q E a hr h => ?_
  obtain ⟨a, ns⟩ := a
  obtain ⟨hS, h0, hz, k⟩ := h
  dsimp only at hS h0 hz k
  refine ⟨_, (pss_one (ps_if (PW.pt (pw_or (pt_not (pt_val (pe_callB Rd.c_isi (by rfl) g.isinstance (by decide +kernel) (pa_cons (pv 0) (pa_cons (pe_bltn (v := .ty "tuple") (by rfl) g.tuple (by decide +kernel) rfl) pa_nil))))) (pw_or1 (pt_not (pt_val (pe_callB (Rd.c_all rfl) (by rfl) g.all (by decide +kernel) (pa_cons (pe_lc (own := [("one", 1)]) (by rfl) sc_require_coefficients.nd (pi_tup (pv 0)) (blkOk_by (own := [("one", 1)]) (N := ["coefficients", "one"]) (sc := defScope s_require_coefficients) (by decide +kernel)) (fun _ _ _ _ _ => (pg_name (i := 1) sc_require_coefficients.nd rfl (Or.inl rfl))) (fun _ _ _ _ _ => pts_nil) (fun _ _ _ _ _ => (Rd.pe_fn c_is_count (hr.mono (by decide)) (by rfl) (pa_cons (pv 1) pa_nil)))) pa_nil))))))) (pss_one ps_never) pss_nil)), ?_⟩
  try simp only [Rd.noxK, Rd.cxK]
  refine Rd.rd_start [some (V.ref a), none] rfl ?_
  walk_at "rd"
  refine Rd.rd_isi (Rd.isi_tup hS Rd.kk_tup_tup) ?_
  walk_at "rd"
  refine iteF ?_
  walk_at "rd"
  refine Rd.lc_tup (K := K) (f := fun _ => V.bl true) (by rw [List.length_map]; omega) hS (fun x H1 N hx s1 hN => ?_) (fun D H' hD s' hd => ?_)
  · obtain ⟨n, hn, rfl⟩ := List.mem_map.mp hx
    refine Rd.rd_start' [some (V.ref a), none] rfl ?_
    walk_at "rd"
    refine ⟨rfl, ?_⟩
    walk_at "rd"
    refine Rd.rd_sp (V.int n) rfl (.inl ⟨n, rfl, ?_⟩)
    rw [decide_eq_true (h0 n hn)]
    exact hN _ (Same.refl _)
  · walk_at "rd"
    refine Rd.rd_all (bs := ns.map fun _ => true) (SqL.of (by rw [hd, List.map_map, List.map_map]; rfl)) ?_
    have e : (ns.map fun _ => true).all id = true := by simp
    rw [e]
    walk_at "rd"
    refine iteF ?_
    walk_at "rd"
    exact k _ s'
theorem ok_trimmed (F : Rd.Has K mg "trimmed" s_trimmed) (g : Glob mg) : Rd.Fn gd P w K mg base CX0 1 "trimmed" (spTrim K) := by
  refine F.fn sc_trimmed (fun _ => rfl) (fun _ _ _ _ _ _ us hl => match us, hl with | [_], _ => rfl) fun f cdv A outer s H Q E a hr h => ?_
  obtain ⟨a, ns⟩ := a
  obtain ⟨hS, hz, k⟩ := h
  dsimp only at hS hz k
  have hS' : SqT K H a (ns.map V.int) := hS
  refine ⟨_, (pss_cons (ps_set (i := 1) sc_trimmed.nd rfl (Or.inl rfl) (pe_callB Rd.c_len (by rfl) g.len (by decide +kernel) (pa_cons (pv 0) pa_nil)))
      (pss_cons (ps_while PassesOwn.never (PW.pt (pw_and (pt_cmpR op_gt (pv 1) pe_int (nomark _)) (pw_and1 (pt_cmpR op_eq (pe_ix ix_tup (pv 0) (pe_op op_sub (pv 1) pe_int) (fun _ _ => rfl)) pe_int (nomark _))))) (pss_one (ps_aug (i := 1) sc_trimmed.nd rfl (Or.inl rfl) pe_int ip_sub)))
      (pss_one (ps_ret (pe_slice sl_tupA (pv 0) po_none (po_some (pv 1))))))), ?_⟩
  try simp only [Rd.noxK, Rd.cxK]
  refine Rd.rd_start [some (V.ref a), none] rfl ?_
  walk_at "rd"
  refine Rd.rd_while (fun m σ H' => H' = H ∧ m ≤ ns.length ∧ σ = [some (V.ref a), some (V.int m)] ∧ trim ns = trim (ns.take m)) ns.length ⟨rfl, Nat.le_refl _, by rw [List.length_map], by rw [List.take_length]⟩ ?_
  rintro m σ H' ⟨rfl, hm, rfl, ht⟩
  walk_at "rd"
  have fin : trim ns = ns.take m → rSlA K (V.ref a) none (some (m : Int)) H' Q := fun e => by
    refine Rd.rd_cut hS' fun p H2 s2 h2 => k p H2 s2 ?_
    rw [Rd.cut_to _ _ (by rw [List.length_map]; exact hm), ← List.map_take] at h2
    rw [e]
    exact h2
  refine ite2 (fun hc => ?_) (fun hc => ?_)
  · have h0 : 0 < m := by simpa using hc
    obtain ⟨j, rfl⟩ : ∃ j, m = j + 1 := ⟨m - 1, by omega⟩
    have hj : j < ns.length := by omega
    have ej : (((j + 1 : Nat) : Int) - 1) = (j : Int) := by omega
    walk_at "rd"
    rw [ej]
    refine Rd.rd_ixT hS' (atI_nat (v := V.int ns[j]) (by rw [List.getElem?_map, List.getElem?_eq_getElem hj]; rfl)) ?_
    walk_at "rd"
    have et := take_succ_last ns j ns[j] (List.getElem?_eq_getElem hj)
    refine ite2 (fun hz0 => ?_) (fun hz0 => ?_)
    · have hz1 : ns[j] = 0 := by simpa using hz0
      refine Rd.rd_turn ?_
      walk_at "rd"
      refine ⟨j, by omega, rfl, by omega, by rw [ej]; rfl, ?_⟩
      rw [ht, et, hz1, trim_zero]
    · have hz1 : ns[j] ≠ 0 := by simpa using hz0
      walk_at "rd"
      refine fin ?_
      rw [ht, et, trim_last _ hz1]
  · have h0 : m = 0 := by simpa using hc
    subst h0
    refine iteF ?_
    walk_at "rd"
    refine fin ?_
    rw [ht] <;> rfl
theorem ok_at_in (F : Rd.Has K mg "at_in" s_at_in) (g : Glob mg) : Rd.Fn gd P w K mg base CX0 1 "at_in" (spAtIn K) := by
  refine F.fn sc_at_in (fun _ => rfl) (fun _ _ _ _ _ _ us hl => match us, hl with | [_, _], _ => rfl) fun f cdv A outer s H Q E a hr h => ?_
  obtain ⟨a, ns, n⟩ := a
  obtain ⟨hS, ⟨b, m, hc, hn0, hn, hb0, hm0, hl⟩, k⟩ := h
  dsimp only at hS hc hn0 hn hl k
  have hS' : SqT K H a (ns.map V.int) := hS
  refine ⟨_, (pss_cons (ps_set (i := 2) sc_at_in.nd rfl (Or.inl rfl) pe_int)
      (pss_cons (ps_for PassesOwn.never rfl (pi_tup (Rd.pe_rev (pv 0))) (pg_name (i := 3) sc_at_in.nd rfl (Or.inl rfl)) (pss_one (ps_set (i := 2) sc_at_in.nd rfl (Or.inl rfl) (pe_op op_add (pe_op op_mulW (pv 2) (pv 1)) (pv 3)))))
      (pss_one (ps_ret (pv 2))))), ?_⟩
  try simp only [Rd.noxK, Rd.cxK]
  refine Rd.rd_start [some (V.ref a), some (V.int n), none, none] rfl ?_
  walk_at "rd"
  refine Rd.rd_revT hS' fun p H1 hp s1 h1 => ?_
  rw [← List.map_reverse] at h1
  walk_at "rd"
  refine Rd.for_tup (xs := ns.reverse.map V.int) (fun i σ H' => H' = H1 ∧ ∃ o, σ = [some (V.ref a), some (V.int n), some (V.int ((ns.reverse.take i).foldl (fun a c => a * n + c) 0)), o])
    ⟨rfl, none, rfl⟩ (fun i σ H' _ ⟨e, _⟩ => by rw [e]; exact SqT.of h1) ?_ ?_
  · rintro i x σ H' hi ⟨rfl, o, rfl⟩
    rw [List.getElem?_map] at hi
    obtain ⟨c, hc1, rfl⟩ := Option.map_eq_some_iff.mp hi
    have hil : i < ns.length := by
      have := (List.getElem?_eq_some_iff.mp hc1).1
      rwa [List.length_reverse] at this
    have hsm := fold_small hn0 hn (ns.reverse.take i) 0 b (fun d hd => hc d (List.mem_reverse.mp (List.mem_of_mem_take hd))) (Nat.le_refl _) (Int.le_refl 0) (pow2_pos b)
    have hlen : (ns.reverse.take i).length ≤ ns.length := by
      rw [List.length_take, List.length_reverse]; exact Nat.min_le_right _ _
    have hmul : (ns.reverse.take i).length * (m + 1) ≤ ns.length * (m + 1) := Nat.mul_le_mul_right _ hlen
    walk_at "rd"
    refine Rd.rd_I (wide_mul (natAbs_lt hsm.1 hsm.2) (natAbs_lt hn0 hn) (by omega) hm0 (by omega)) ?_
    walk_at "rd"
    exact ⟨rfl, some (V.int c), by rw [take_succ_foldl _ _ _ _ _ hc1]⟩
  · rintro σ H' ⟨rfl, o, rfl⟩
    walk_at "rd"
    have e : (ns.reverse.take (ns.reverse.map V.int).length) = ns.reverse := by rw [List.length_map, List.take_length]
    rw [e, ev_foldl]
    exact k _ s1
theorem ok_least_in (F : Rd.Has K mg "least_in" s_least_in) (g : Glob mg) (c_at_in : Rd.Fn gd P w K mg base CX0 1 "at_in" (spAtIn K)) : Rd.Fn gd P w K mg base CX0 2 "least_in" (spLeast K) := by
  refine F.fn sc_least_in (fun _ => rfl) (fun _ _ _ _ _ _ us hl => match us, hl with | [_, _], _ => rfl) fun f cdv A outer s H Q E a hr h => ?_
  obtain ⟨a, ns, goal⟩ := a
  obtain ⟨hS, ht, ⟨b, m, hc, hg0, hg, hb0, hm0, hl⟩, k⟩ := h
  dsimp only at hS ht hc hg0 hg hl k
  have hS' : SqT K H a (ns.map V.int) := hS
  refine ⟨_, (pss_cons (ps_if (pt_cmpR op_ge (Rd.pe_fn c_at_in (hr.mono (by decide)) (by rfl) (pa_cons (pv 0) (pa_cons pe_int pa_nil))) (pv 1) (nomark _)) (pss_one (ps_ret pe_int)) pss_nil)
      (pss_cons (ps_if (pt_cmpR op_lt (pe_callB Rd.c_len (by rfl) g.len (by decide +kernel) (pa_cons (pv 0) pa_nil)) pe_int (nomark _)) (pss_one (ps_ret pe_non)) pss_nil)
      (pss_cons (ps_set (i := 2) sc_least_in.nd rfl (Or.inl rfl) pe_int)
      (pss_cons (ps_while PassesOwn.never (pt_cmpR op_lt (Rd.pe_fn c_at_in (hr.mono (by decide)) (by rfl) (pa_cons (pv 0) (pa_cons (pv 2) pa_nil))) (pv 1) (nomark _)) (pss_one (ps_aug (i := 2) sc_least_in.nd rfl (Or.inl rfl) pe_int Rd.ip_mul)))
      (pss_cons (ps_set (i := 3) sc_least_in.nd rfl (Or.inl rfl) (pe_op op_fdiv (pv 2) pe_int))
      (pss_cons (ps_while PassesOwn.never (pt_cmpR op_lt (pe_op op_add (pv 3) pe_int) (pv 2) (nomark _)) (pss_cons (ps_set (i := 4) sc_least_in.nd rfl (Or.inl rfl) (pe_op op_fdiv (pe_op op_add (pv 3) (pv 2)) pe_int))
      (pss_one (ps_if (pt_cmpR op_lt (Rd.pe_fn c_at_in (hr.mono (by decide)) (by rfl) (pa_cons (pv 0) (pa_cons (pv 4) pa_nil))) (pv 1) (nomark _)) (pss_one (ps_set (i := 3) sc_least_in.nd rfl (Or.inl rfl) (pv 4))) (pss_one (ps_set (i := 2) sc_least_in.nd rfl (Or.inl rfl) (pv 4)))))))
      (pss_one (ps_ret (pv 2))))))))), ?_⟩
  try simp only [Rd.noxK, Rd.cxK]
  have at_ : ∀ (n : Int) (H1 : Hp) (QQ : VK), Same H H1 → 0 ≤ n → n < 2 ^ (m + 1) → (∀ H2, Same H H2 → QQ (.int (ev ns n)) H2) → spAtIn K [V.ref a, V.int n] H1 QQ E0 := fun n H1 QQ s1 h0 h1 q =>
    Rd.rd_sp (a, ns, n) rfl ⟨Rd.Same.sqT s1 hS', ⟨b, m + 1, hc, h0, h1, hb0, by omega, by show b + ns.length * (m + 1 + 1) + (m + 1) ≤ 900000; exact hl⟩, fun H2 s2 => q H2 (s1.trans s2)⟩
  refine Rd.rd_start [some (V.ref a), some (V.int goal), none, none, none] rfl ?_
  walk_at "rd"
  refine at_ 0 H _ (Same.refl H) (by omega) (pow2_pos _) fun H1 s1 => ?_
  walk_at "rd"
  refine ite2 (fun h1 => ?_) (fun h1 => ?_)
  · have h2 : goal ≤ ev ns 0 := of_decide_eq_true h1
    walk_at "rd"
    exact k _ _ s1 (.inl ⟨h2, rfl⟩)
  have h2 : ev ns 0 < goal := by simpa using h1
  have hS1 : SqT K H1 a (ns.map V.int) := Rd.Same.sqT s1 hS'
  walk_at "rd"
  refine ite2 (fun h3 => ?_) (fun h3 => ?_)
  · have h4 : ns.length < 2 := by
      have : ((ns.length : Nat) : Int) < 2 := by simpa using h3
      omega
    walk_at "rd"
    exact k _ _ s1 (.inr (.inl ⟨h2, h4, rfl⟩))
  have h4 : 2 ≤ ns.length := by
    have : (2 : Int) ≤ ((ns.length : Nat) : Int) := by simpa using h3
    omega
  have hge : ∀ n : Int, 1 ≤ n → n ≤ ev ns n := fun n hn => ev_ge ns ht h4 (fun c hc' => (hc c hc').1) hn
  walk_at "rd"
  refine Rd.rd_while (fun d σ H' => Same H H' ∧ ∃ high : Int, σ = [some (V.ref a), some (V.int goal), some (V.int high), none, none] ∧ 1 ≤ high ∧ high < 2 ^ (m + 1) ∧ ev ns (high / 2) < goal ∧ d = (2 ^ (m + 1) - high).toNat)
    (2 ^ (m + 1) - 1 : Int).toNat ⟨s1, 1, rfl, Int.le_refl 1, ?_, h2, rfl⟩ ?_
  · have := pow2_mono (m := 1) (n := m + 1) (by omega)
    omega
  rintro d σ H2 ⟨s2, high, rfl, hh1, hh2, hh3, rfl⟩
  walk_at "rd"
  refine at_ high H2 _ s2 (by omega) hh2 fun H3 s3 => ?_
  walk_at "rd"
  refine ite2 (fun h5 => ?_) (fun h5 => ?_)
  · have h6 : ev ns high < goal := of_decide_eq_true h5
    refine Rd.rd_turn ?_
    walk_at "rd"
    have h7 := hge high hh1
    have e2 : (2 : Int) ^ (m + 1) = 2 ^ m * 2 := Int.pow_succ 2 m
    refine ⟨_, ?_, s3, high * 2, rfl, by omega, by omega, by rw [Int.mul_ediv_cancel _ (by decide)]; exact h6, rfl⟩
    omega
  · have h6 : goal ≤ ev ns high := by simpa using h5
    walk_at "rd"
    refine Rd.rd_while (fun d σ H' => Same H H' ∧ ∃ (low high : Int) (o : Option V), σ = [some (V.ref a), some (V.int goal), some (V.int high), some (V.int low), o] ∧ 0 ≤ low ∧ low < high ∧ high < 2 ^ (m + 1) ∧ ev ns low < goal ∧ goal ≤ ev ns high ∧ d = (high - low).toNat)
      (high - high / 2).toNat ⟨s3, high / 2, high, none, rfl, by omega, by omega, hh2, hh3, h6, rfl⟩ ?_
    rintro d σ H4 ⟨s4, low, hi, o, rfl, l0, l1, l2, l3, l4, rfl⟩
    walk_at "rd"
    refine ite2 (fun h7 => ?_) (fun h7 => ?_)
    · have h8 : low + 1 < hi := of_decide_eq_true h7
      refine Rd.rd_turn ?_
      walk_at "rd"
      refine at_ ((low + hi) / 2) H4 _ s4 (by omega) (by omega) fun H5 s5 => ?_
      walk_at "rd"
      refine ite2 (fun h9 => ?_) (fun h9 => ?_)
      · have h10 : ev ns ((low + hi) / 2) < goal := of_decide_eq_true h9
        walk_at "rd"
        exact ⟨_, by omega, s5, _, _, _, rfl, by omega, by omega, l2, h10, l4, rfl⟩
      · have h10 : goal ≤ ev ns ((low + hi) / 2) := by simpa using h9
        walk_at "rd"
        exact ⟨_, by omega, s5, _, _, _, rfl, by omega, by omega, by omega, l3, h10, rfl⟩
    · have h8 : hi ≤ low + 1 := by simpa using h7
      walk_at "rd"
      have e : hi - 1 = low := by omega
      exact k _ _ s4 (.inr (.inr ⟨h2, h4, hi, by omega, rfl, l4, by rw [e]; exact l3⟩))
end
end M
set_option Elab.async false
set_option linter.all false
set_option maxRecDepth 100000
set_option maxHeartbeats 4000000
namespace M
open PySem L2
local macro_rules | `(tactic| walk_at "rdc") => `(tactic| first | exact Or.inl ⟨by decide, by decide⟩ | exact Or.inr ⟨by decide, by decide⟩ | exact ⟨by decide, by decide, by decide⟩ | exact ⟨by decide, by decide⟩ | decide | omega | assumption | (refine Or.inl ⟨?_, ?_⟩ <;> omega) | (refine Or.inr ⟨?_, ?_⟩ <;> omega) | (refine ⟨?_, ?_⟩ <;> omega))
local macro_rules | `(tactic| walk_at "rd1") => `(tactic| with_reducible first
  | refine Rd.rd_seq ?_ | refine Rd.rd_asg ?_ | refine Rd.rd_op ?_ | (refine' Rd.rd_var ?vh ?_; (case vh => with_unfolding_all rfl)) | refine Rd.rd_c ?_ | refine Rd.rd_I0 ?_ | refine Rd.rd_name0 ?_ | refine Rd.rd_nameS ?_ | refine Rd.rd_fn ?_
  | refine Rd.rd_cb ?_ | refine Rd.rd_cons ?_ | refine Rd.rd_nil ?_ | refine Rd.rd_int ?_ | refine Rd.rd_intB ?_ | refine Rd.rd_abs ?_ | refine Rd.rd_max2 ?_ | refine Rd.rd_min2 ?_
  | refine Rd.rd_call ?_ | refine Rd.rd_ifE ?_ | refine Rd.rd_test ?_ | refine Rd.rd_tB ?_ | refine Rd.rd_blV ?_ | refine Rd.rd_and ?_ | refine Rd.rd_or ?_ | refine Rd.rd_not ?_
  | refine Rd.rd_andV ?_ | refine Rd.rd_orV ?_ | refine Rd.rd_notV ?_ | refine Rd.rd_next ?_ | refine Rd.rd_ret ?_ | refine Rd.rd_drop ?_ | refine Rd.rd_ifS ?_ | refine Rd.rd_nx ?_ | refine Rd.rd_rt ?_ | refine Rd.rd_tMatch ?_ | refine Rd.rd_tCO ?_ | refine Rd.rd_tRevL ?_ | refine Rd.rd_tStar ?_ | refine Rd.rd_joined ?_ | refine Rd.rd_js1 ?_ | refine Rd.rd_js0 ?_ | refine Rd.rd_fmt ?_ | refine Rd.rd_propR ?_ | refine Rd.rd_iZipA ?_ | refine Rd.rd_iEnumT ?_ | refine Rd.rd_iOwn ?_ | (refine' Rd.rd_IET ?ln ?_; (case ln => with_unfolding_all walk_at "at")) | refine Rd.rd_chain ?_ | refine Rd.rd_tPar ?_ | refine Rd.rd_par ?_ | refine Rd.rd_sl ?_ | refine Rd.rd_noPart ?_ | refine Rd.rd_part ?_ | refine Rd.rd_intV ?_ | refine Rd.rd_lc ?_ | (refine' Rd.rd_aug ?vh ?_; (case vh => with_unfolding_all rfl)) | refine Rd.rd_ipI ?_ | refine Rd.rd_for ?_ | (refine' Rd.rd_IT ?ln ?_; (case ln => with_unfolding_all walk_at "at")) | (refine' Rd.rd_IL ?ln ?_; (case ln => with_unfolding_all walk_at "at")) | refine Rd.rd_iTup ?_ | refine Rd.rd_iList ?_ | refine Rd.rd_iRng1 ?_ | refine Rd.rd_iRng2 ?_ | refine Rd.rd_isi (Rd.isi_int Rd.kk_int_int) ?_ | refine Rd.rd_isi (Rd.isi_int Rd.kk_int_bool) ?_ | refine Rd.rd_dget ?_ | refine Rd.rd_din ?_ | refine Rd.rd_dnotin ?_ | refine Rd.rd_dput ?_ | refine Rd.rd_dc ?_ | refine Rd.rd_lc2 ?_ | refine Rd.rd_ltS ?_ | refine Rd.rd_inSg ?_ | refine Rd.rd_iStr ?_ | refine Rd.rd_IS ?_ | refine Rd.rd_prC ?_ | refine Rd.rd_prN ?_ | refine Rd.rd_methR ?_ | refine Rd.rd_cmeth ?_ | refine Rd.rd_fldS ?_ | refine Rd.rd_fld ?_ | (refine' Rd.rd_mkVS ?vh ?_; (case vh => with_unfolding_all rfl)) | (refine' Rd.rd_starT ?ln ?_; (case ln => with_unfolding_all walk_at "at")) | refine Rd.rd_iEnum ?_ | refine Rd.rd_iZip ?_ | (refine' Rd.rd_IE ?ln ?_; (case ln => with_unfolding_all walk_at "at")) | (refine' Rd.rd_IZ ?ln ?lm ?_; (case ln => with_unfolding_all walk_at "at"); (case lm => with_unfolding_all walk_at "at")) | (refine' Rd.rd_gTup ?ln ?lk ?_; (case ln => with_unfolding_all walk_at "at"); (case lk => with_unfolding_all rfl)) | refine Rd.rd_gCons ?_ | refine Rd.rd_gNil ?_ | refine Rd.rd_m1 ?_ | refine Rd.rd_strV ?_ | refine Rd.rd_tXiM ?_ | refine Rd.rd_tXiB ?_ | refine Rd.rd_tXiS ?_ | refine Rd.rd_bm ?_ | refine Rd.rd_bm0 ?_ | refine Rd.rd_isN ?_ | refine Rd.rd_notN ?_ | refine Rd.rd_sub ?_ | refine Rd.rd_un ?_ | refine Rd.rd_U ?_
  | (refine' Rd.rd_eq ?sc ?_; (case sc => with_unfolding_all rfl)) | (refine' Rd.rd_ne ?sc ?_; (case sc => with_unfolding_all rfl))
  | (refine' Rd.rd_I ?cc ?_; (case cc => with_unfolding_all walk_at "rdc"))
  | (refine' Rd.rd_lenL ?ln ?_; (case ln => with_unfolding_all walk_at "at")) | (refine' Rd.rd_lenT ?ln ?_; (case ln => with_unfolding_all walk_at "at"))
  | (refine' Rd.rd_ixL ?ln ?ia ?_; (case ln => with_unfolding_all walk_at "at"); (case ia => with_unfolding_all first | exact Rd.at0 | exact Rd.at1 | exact Rd.at2 | exact Rd.at3 | exact Rd.at4 | rfl)) | (refine' Rd.rd_ixT ?ln ?ia ?_; (case ln => with_unfolding_all walk_at "at"); (case ia => with_unfolding_all first | exact Rd.at0 | exact Rd.at1 | exact Rd.at2 | exact Rd.at3 | exact Rd.at4 | rfl)))
local macro_rules | `(tactic| walk_at "at") => `(tactic| first | assumption | (apply SqL.of; assumption) | (apply SqT.of; assumption) | (apply SqL.of; exact upd_same) | (apply SqT.of; exact upd_same))
local macro_rules | `(tactic| walk_at "rd") => `(tactic| repeat walk_at "rd1")
/-! ### the program: sums, products, powers, inner polynomials -/
abbrev s_sum_in : Stmt := top 17
theorem sc_sum_in : FnScope ["first", "second", "longer", "shorter", "more", "one", "other"] ["first", "second"] (defScope s_sum_in) := ⟨rfl, rfl, rfl, by decide +kernel, rfl, by decide +kernel, by decide +kernel⟩
abbrev s_product_at : Stmt := top 18
theorem sc_product_at : FnScope ["first", "second", "place", "spots", "at"] ["first", "second", "place"] (defScope s_product_at) := ⟨rfl, rfl, rfl, by decide +kernel, rfl, by decide +kernel, by decide +kernel⟩
abbrev s_product_in : Stmt := top 19
theorem sc_product_in : FnScope ["first", "second", "size", "place"] ["first", "second"] (defScope s_product_in) := ⟨rfl, rfl, rfl, by decide +kernel, rfl, by decide +kernel, by decide +kernel⟩
abbrev s_power_in : Stmt := top 20
theorem sc_power_in : FnScope ["coefficients", "many", "found", "turn"] ["coefficients", "many"] (defScope s_power_in) := ⟨rfl, rfl, rfl, by decide +kernel, rfl, by decide +kernel, by decide +kernel⟩
abbrev s_inner_in : Stmt := top 21
theorem sc_inner_in : FnScope ["outer", "inner", "found", "one"] ["outer", "inner"] (defScope s_inner_in) := ⟨rfl, rfl, rfl, by decide +kernel, rfl, by decide +kernel, by decide +kernel⟩
def spSumIn (K : PySem.W.Frag) : Sp := Rd.mkSp (fun (a : Addr × Addr × List Int × List Int) => [.ref a.1, .ref a.2.1]) fun a H Q _ => TI K H a.1 a.2.2.1 ∧ TI K H a.2.1 a.2.2.2 ∧ a.2.2.1.length ≤ 400 ∧ a.2.2.2.length ≤ 400 ∧ ∀ r H', Same H H' → TI K H' r (sumL a.2.2.1 a.2.2.2) → Q (.ref r) H'
/-- no coefficient is great -/
def Cb (l : List Int) : Prop := ∀ c ∈ l, 0 ≤ c ∧ c < 2 ^ 100000
def spProdAt (K : PySem.W.Frag) : Sp := Rd.mkSp (fun (a : Addr × Addr × List Int × List Int × Nat) => [.ref a.1, .ref a.2.1, .int a.2.2.2.2]) fun a H Q _ => TI K H a.1 a.2.2.1 ∧ TI K H a.2.1 a.2.2.2.1 ∧ Cb a.2.2.1 ∧ Cb a.2.2.2.1 ∧ a.2.2.1.length ≤ 400 ∧ a.2.2.2.1.length ≤ 400 ∧ a.2.2.2.2 ≤ 1000 ∧
  ∀ H', Same H H' → Q (.int (prodAt a.2.2.1 a.2.2.2.1 a.2.2.2.2)) H'
def spProdIn (K : PySem.W.Frag) : Sp := Rd.mkSp (fun (a : Addr × Addr × List Int × List Int) => [.ref a.1, .ref a.2.1]) fun a H Q _ => TI K H a.1 a.2.2.1 ∧ TI K H a.2.1 a.2.2.2 ∧ Cb a.2.2.1 ∧ Cb a.2.2.2 ∧ a.2.2.1.length ≤ 400 ∧ a.2.2.2.length ≤ 400 ∧ ∀ r H', Same H H' → TI K H' r (prodL a.2.2.1 a.2.2.2) → Q (.ref r) H'
def spPowIn (K : PySem.W.Frag) : Sp := Rd.mkSp (fun (a : Addr × List Int × Nat) => [.ref a.1, .int a.2.2]) fun a H Q _ => TI K H a.1 a.2.1 ∧ NN a.2.1 ∧ (∀ j, j ≤ a.2.2 → ev a.2.1 1 ^ j < 2 ^ 100000) ∧ ev a.2.1 1 < 2 ^ 100000 ∧ a.2.2 ≤ 20 ∧ a.2.1.length ≤ 15 ∧ ∀ r H', Same H H' → TI K H' r (powL a.2.1 a.2.2) → Q (.ref r) H'
def spInnIn (K : PySem.W.Frag) : Sp := Rd.mkSp (fun (a : Addr × Addr × List Int × List Int) => [.ref a.1, .ref a.2.1]) fun a H Q _ => TI K H a.1 a.2.2.1 ∧ TI K H a.2.1 a.2.2.2 ∧ NN a.2.2.1 ∧ NN a.2.2.2 ∧ ev a.2.2.1 (ev a.2.2.2 1 + 1) < 2 ^ 100000 ∧ ev a.2.2.2 1 < 2 ^ 100000 ∧ a.2.2.1.length * (a.2.2.2.length + 1) ≤ 300 ∧ a.2.2.2.length ≤ 300 ∧
  ∀ r H', Same H H' → TI K H' r (innL a.2.2.2 a.2.2.1) → Q (.ref r) H'
section
variable {gd : Bool} {P : Program} {w : World} {K : PySem.W.Frag} {mg : Str → Option Value} {base : Heap}
theorem zip_ints : ∀ (l m : List Int), ((l.map V.int).zip (m.map V.int)).map (fun z => match z.1, z.2 with | .int a, .int b => V.int (a + b) | _, _ => .non) = (List.zipWith (· + ·) l m).map V.int
  | [], _ => rfl
  | _ :: _, [] => rfl
  | a :: l, b :: m => by
    show V.int (a + b) :: _ = V.int (a + b) :: _
    congr 1
    exact zip_ints l m
theorem ok_sum_in (F : Rd.Has K mg "sum_in" s_sum_in) (g : Glob mg) : Rd.Fn gd P w K mg base CX0 1 "sum_in" (spSumIn K) := by
  refine F.fn sc_sum_in (fun _ => rfl) (fun _ _ _ _ _ _ us hl => match us, hl with | [_, _], _ => rfl) fun f cdv A outer s H Q E a hr h => ?_
  obtain ⟨p, q, a, b⟩ := a
  obtain ⟨hp, hq, la, lb, k⟩ := h
  dsimp only at hp hq la lb k
  have hp' : SqT K H p (a.map V.int) := hp
  have hq' : SqT K H q (b.map V.int) := hq
  refine ⟨_, (C8.pss_cut (ps_asg (pe_ifExp (pt_cmpR op_ge (pe_callB Rd.c_len (by rfl) g.len (by decide +kernel) (pa_cons (pv 0) pa_nil)) (pe_callB Rd.c_len (by rfl) g.len (by decide +kernel) (pa_cons (pv 1) pa_nil)) (nomark _)) (Rd.pe_tup (pa_cons (pv 0) (pa_cons (pv 1) pa_nil))) (Rd.pe_tup (pa_cons (pv 1) (pa_cons (pv 0) pa_nil)))) (pg_tup rfl (pgs_cons (pg_name (i := 2) sc_sum_in.nd rfl (Or.inl rfl)) (pgs_cons (pg_name (i := 3) sc_sum_in.nd rfl (Or.inl rfl)) pgs_nil))))
      (pss_cons (ps_set (i := 4) sc_sum_in.nd rfl (Or.inl rfl) (pe_op op_catA (pv 3) (pe_op Rd.op_mulT (Rd.pe_tup (pa_cons pe_int pa_nil)) (pe_op op_sub (pe_callB Rd.c_len (by rfl) g.len (by decide +kernel) (pa_cons (pv 2) pa_nil)) (pe_callB Rd.c_len (by rfl) g.len (by decide +kernel) (pa_cons (pv 3) pa_nil))))))
      (pss_one (ps_ret (pe_callTy Rd.c_tuple (by rfl) g.tuple (by decide +kernel) (pa_cons (pe_lc (own := [("one", 5), ("other", 6)]) (by rfl) sc_sum_in.nd (RZ.pi_zipA (by rfl) g.zip (pa_cons (pv 2) (pa_cons (pv 4) pa_nil))) (blkOk_by (own := [("one", 5), ("other", 6)]) (N := ["first", "second", "longer", "shorter", "more", "one", "other"]) (sc := defScope s_sum_in) (by decide +kernel)) (fun _ _ _ _ _ => (Rd.pg_tupK (K := K) (n := 2) (by rfl) rfl (pgs_cons (pg_name (i := 5) sc_sum_in.nd rfl (Or.inl rfl)) (pgs_cons (pg_name (i := 6) sc_sum_in.nd rfl (Or.inl rfl)) pgs_nil)))) (fun _ _ _ _ _ => pts_nil) (fun _ _ _ _ _ => (pe_op op_add (pv 5) (pv 6)))) pa_nil)))))), ?_⟩
  try simp only [Rd.noxK, Rd.cxK]
  refine Rd.rd_start [some (V.ref p), some (V.ref q), none, none, none, none, none] rfl ?_
  walk_at "rd"
  refine ⟨fun σ' H' => Same H H' ∧ ∃ (u v : Addr) (l m : List Int), σ' = [some (.ref p), some (.ref q), some (.ref u), some (.ref v), none, none, none] ∧ TI K H' u l ∧ TI K H' v m ∧ m.length ≤ l.length ∧ l.length ≤ 400 ∧ pad l m = sumL a b, ?_, ?_⟩
  · walk_at "rd"
    refine ite2 (fun hc => ?_) (fun hc => ?_)
    · have hl : b.length ≤ a.length := by simpa using hc
      walk_at "rd"
      refine Rd.rd_mkTup (by show 2 ≤ sizeLine; decide) fun p1 H1 n1 s1 h1 => ?_
      walk_at "rd"
      exact ⟨s1, p, q, a, b, rfl, Rd.Same.sqT s1 hp, Rd.Same.sqT s1 hq, hl, la, by unfold sumL; rw [if_pos hl]⟩
    · have hl : ¬ b.length ≤ a.length := by simpa using hc
      walk_at "rd"
      refine Rd.rd_mkTup (by show 2 ≤ sizeLine; decide) fun p1 H1 n1 s1 h1 => ?_
      walk_at "rd"
      exact ⟨s1, q, p, b, a, rfl, Rd.Same.sqT s1 hq, Rd.Same.sqT s1 hp, by omega, lb, by unfold sumL; rw [if_neg hl]⟩
  · rintro σ' H1 ⟨s1, u, v, l, m, rfl, hu, hv, hml, hl4, e⟩
    have hu' : SqT K H1 u (l.map V.int) := hu
    have hv' : SqT K H1 v (m.map V.int) := hv
    rw [← e] at k
    walk_at "rd"
    refine Rd.rd_mkTup (by show 1 ≤ sizeLine; decide) fun p2 H2 n2 s2 h2 => ?_
    have hu2 := Rd.Same.sqT s2 hu'
    have hv2 := Rd.Same.sqT s2 hv'
    walk_at "rd"
    have ek : ((l.map V.int).length : Int) - ((m.map V.int).length : Int) = ((l.length - m.length : Nat) : Int) := by rw [List.length_map, List.length_map]; omega
    rw [ek]
    refine Rd.rd_mulT (SqT.of h2) (by simp) (by omega) (by omega) (by show 1 ≤ 1000; decide) fun p3 H3 s3 h3 => ?_
    have e3 : (List.replicate (((l.length - m.length : Nat) : Int)).toNat [V.int 0]).flatten = (List.replicate (l.length - m.length) (0 : Int)).map V.int := by
      rw [Int.toNat_natCast, List.map_replicate]
      generalize l.length - m.length = z
      induction z with
      | zero => rfl
      | succ z ih => rw [List.replicate_succ, List.flatten_cons, ih, List.replicate_succ]; rfl
    rw [e3] at h3
    refine Rd.rd_catA (Rd.Same.sqT s3 hv2) h3 (by rw [List.length_map, List.length_map, List.length_replicate]; exact Rd.small64 (by omega)) fun p4 H4 s4 h4 => ?_
    rw [← List.map_append] at h4
    have hu4 := Rd.Same.sqT s4 (Rd.Same.sqT s3 hu2)
    walk_at "rd"
    refine Rd.rd_IZT hu4 h4 ?_
    have el : (l.map V.int).length = ((m ++ List.replicate (l.length - m.length) 0).map V.int).length := by rw [List.length_map, List.length_map, List.length_append, List.length_replicate]; omega
    refine Rd.lc_zipT el (fun z => match z.1, z.2 with | .int a, .int b => V.int (a + b) | _, _ => .non) (by rw [List.length_map]; omega) hu4 h4 (fun z T H5 M hz s5 hT hM => ?_) (fun D H5 hD s5 h5 => ?_)
    · obtain ⟨z1, z2⟩ := z
      obtain ⟨m1, m2⟩ := List.of_mem_zip hz
      obtain ⟨c, _, rfl⟩ := List.mem_map.mp m1
      obtain ⟨d, _, rfl⟩ := List.mem_map.mp m2
      refine Rd.rd_start' [some (V.ref p), some (V.ref q), some (V.ref u), some (V.ref v), some (V.ref p4), none, none] rfl ?_
      dsimp only at hT hM
      walk_at "rd"
      refine ⟨rfl, ?_⟩
      walk_at "rd"
      exact hM H5 (Same.refl H5)
    · rw [zip_ints] at h5
      walk_at "rd"
      refine Rd.rd_tupleL (SqL.of h5) fun p6 H6 n6 s6 h6 => ?_
      exact k p6 H6 (((((s1.trans s2).trans s3).trans s4).trans s5).trans s6) (SqT.of h6)
theorem at_int {H : Hp} {p : Addr} {l : List Int} {Q : VK} {i : Nat} (h : SqT K H p (l.map V.int)) (hi : i < l.length) (q : Q (.int (l.getD i 0)) H) : rIxT K (.ref p) (.int (i : Nat)) H Q := by
  refine Rd.rd_ixT h (atI_nat (v := V.int l[i]) (by rw [List.getElem?_map, List.getElem?_eq_getElem hi]; rfl)) ?_
  have e : l.getD i 0 = l[i] := by rw [List.getD_eq_getElem?_getD, List.getElem?_eq_getElem hi]; rfl
  rw [← e]
  exact q
theorem cb_get {l : List Int} (h : Cb l) (i : Nat) : 0 ≤ l.getD i 0 ∧ l.getD i 0 < 2 ^ 100000 := by
  by_cases hi : i < l.length
  · have e : l.getD i 0 = l[i] := by rw [List.getD_eq_getElem?_getD, List.getElem?_eq_getElem hi]; rfl
    rw [e]
    exact h _ (List.getElem_mem hi)
  · rw [getD_ge hi]; exact ⟨Int.le_refl 0, pow2_pos _⟩
theorem cb_mul {x y : Int} (hx : 0 ≤ x ∧ x < 2 ^ 100000) (hy : 0 ≤ y ∧ y < 2 ^ 100000) : CMulW x y := wide_mul (natAbs_lt hx.1 hx.2) (natAbs_lt hy.1 hy.2) (by decide) (by decide) (by decide)
theorem ok_product_at (F : Rd.Has K mg "product_at" s_product_at) (g : Glob mg) : Rd.Fn gd P w K mg base CX0 1 "product_at" (spProdAt K) := by
  refine F.fn sc_product_at (fun _ => rfl) (fun _ _ _ _ _ _ us hl => match us, hl with | [_, _, _], _ => rfl) fun f cdv A outer s H Q E a hr h => ?_
  obtain ⟨p, q, a, b, n⟩ := a
  obtain ⟨hp, hq, ca, cb, la, lb, ln, k⟩ := h
  dsimp only at hp hq ca cb la lb ln k
  have hp' : SqT K H p (a.map V.int) := hp
  have hq' : SqT K H q (b.map V.int) := hq
  refine ⟨_, (pss_cons (ps_setLc (i := 3) (own := [("at", 4)]) (by rfl) sc_product_at.nd rfl rfl (sw_true rfl rfl rfl (by decide +kernel)) (pi_range1 (by rfl) g.range (pa_cons (pe_callB Rd.c_len (by rfl) g.len (by decide +kernel) (pa_cons (pv 0) pa_nil)) pa_nil)) (blkOk_by (own := [("at", 4)]) (N := ["first", "second", "place", "spots", "at"]) (sc := defScope s_product_at) (by decide +kernel)) (fun _ _ _ _ _ => (pg_name (i := 4) sc_product_at.nd rfl (Or.inl rfl))) (fun _ _ _ _ _ => (pts_one (pt_chain op_le op_lt pe_int (pe_op op_sub (pv 2) (pv 4)) (pe_callB (Rd.c_lenK (K := K) (by rfl)) (by rfl) g.len (by decide +kernel) (pa_cons (pv 1) pa_nil))))) (fun _ _ _ _ _ => (pv 4)))
      (pss_one (ps_ret (pe_callB (cr_sum rfl) (by rfl) g.sum (by decide +kernel) (pa_cons (pe_lc (own := [("at", 4)]) (by rfl) sc_product_at.nd (pi_list (pv 3)) (blkOk_by (own := [("at", 4)]) (N := ["first", "second", "place", "spots", "at"]) (sc := defScope s_product_at) (by decide +kernel)) (fun _ _ _ _ _ => (pg_name (i := 4) sc_product_at.nd rfl (Or.inl rfl))) (fun _ _ _ _ _ => pts_nil) (fun _ _ _ _ _ => (pe_op op_mulW (pe_ix (Rd.ix_tupK (K := K) (by rfl)) (pv 0) (pv 4) (fun _ _ => rfl)) (pe_ix (Rd.ix_tupK (K := K) (by rfl)) (pv 1) (pe_op op_sub (pv 2) (pv 4)) (fun _ _ => rfl))))) pa_nil))))), ?_⟩
  try simp only [Rd.noxK, Rd.cxK]
  refine Rd.rd_start [some (V.ref p), some (V.ref q), some (V.int n), none, none] rfl ?_
  walk_at "rd"
  refine Rd.rd_IR1 (by rw [List.length_map]; omega) (by rw [List.length_map]; omega) ?_
  rw [Int.toNat_natCast, List.length_map]
  refine Rd.lc_rngP (fun i => decide (i ≤ n) && decide (n - i < b.length)) (fun i => V.int (i : Nat)) (by omega) (fun i H1 N M hi s1 hN hM => ?_) (fun D H1 hD s1 h1 => ?_)
  · have hq1 := Rd.Same.sqT s1 hq'
    rw [Int.zero_add]
    refine Rd.rd_start' [some (V.ref p), some (V.ref q), some (V.int n), none, none] rfl ?_
    walk_at "rd"
    refine ⟨rfl, ?_⟩
    walk_at "rd"
    refine ite2 (fun hc => ?_) (fun hc => ?_)
    · have hc1 : i ≤ n := by
        have := of_decide_eq_true hc
        omega
      walk_at "rd"
      refine ite2 (fun hd => ?_) (fun hd => ?_)
      · have hd1 : n - i < b.length := by
          have := of_decide_eq_true hd
          rw [List.length_map] at this
          omega
        walk_at "rd"
        exact hM (by simp [hc1, hd1]) H1 (Same.refl H1)
      · have hd1 : ¬ n - i < b.length := fun z => hd (decide_eq_true (by rw [List.length_map]; omega))
        exact hN (by simp [hd1]) H1 (Same.refl H1)
    · have hc1 : ¬ i ≤ n := fun z => hc (decide_eq_true (by omega))
      exact Rd.rd_blV (Rd.if_f rfl (hN (by simp [hc1]) H1 (Same.refl H1)))
  · have hp1 := Rd.Same.sqT s1 hp'
    have hq1 := Rd.Same.sqT s1 hq'
    walk_at "rd"
    refine Rd.lc_lstA (a := D) ((List.range a.length).filter fun i => decide (i ≤ n) && decide (n - i < b.length)) (fun i => V.int (i : Nat)) (fun i => V.int (a.getD i 0 * b.getD (n - i) 0)) ?_ (SqL.of h1) (fun i H2 N hi s2 hN => ?_) (fun D2 H2 hD2 s2 h2 => ?_)
    · exact Nat.le_trans (List.length_filter_le _ _) (by rw [List.length_range]; omega)
    · obtain ⟨m1, m2⟩ := List.mem_filter.mp hi
      have hia := List.mem_range.mp m1
      have m3 : i ≤ n ∧ n - i < b.length := by simpa using m2
      refine Rd.rd_start' [some (V.ref p), some (V.ref q), some (V.int n), some (V.ref D), none] rfl ?_
      walk_at "rd"
      refine ⟨rfl, ?_⟩
      walk_at "rd"
      refine at_int (Rd.Same.sqT s2 hp1) hia ?_
      walk_at "rd"
      rw [show ((n : Int) - (i : Int)) = ((n - i : Nat) : Int) by omega]
      refine at_int (Rd.Same.sqT s2 hq1) m3.2 ?_
      refine Rd.rd_I (cb_mul (cb_get ca _) (cb_get cb _)) ?_
      exact hN H2 (Same.refl H2)
    · walk_at "rd"
      refine Rd.rd_sum (ns := ((List.range a.length).filter fun i => decide (i ≤ n) && decide (n - i < b.length)).map fun i => a.getD i 0 * b.getD (n - i) 0) (SqL.of (by rw [h2, List.map_map]; rfl)) ?_
      walk_at "rd"
      exact k H2 (s1.trans s2)
theorem eqv_nilI (a : List Int) : PyData.eqv (.tuple (a.map PyData.int)) (.tuple []) = decide (a = []) := by
  cases a with
  | nil => rfl
  | cons x l =>
    rw [decide_eq_false (List.cons_ne_nil x l)]
    rfl
theorem ok_product_in (F : Rd.Has K mg "product_in" s_product_in) (g : Glob mg) (c_product_at : Rd.Fn gd P w K mg base CX0 1 "product_at" (spProdAt K)) : Rd.Fn gd P w K mg base CX0 2 "product_in" (spProdIn K) := by
  refine F.fn sc_product_in (fun _ => rfl) (fun _ _ _ _ _ _ us hl => match us, hl with | [_, _], _ => rfl) fun f cdv A outer s H Q E a hr h => ?_
  obtain ⟨p, q, a, b⟩ := a
  obtain ⟨hp, hq, ca, cb, la, lb, k⟩ := h
  dsimp only at hp hq ca cb la lb k
  have hp' : SqT K H p (a.map V.int) := hp
  have hq' : SqT K H q (b.map V.int) := hq
  refine ⟨_, (pss_cons (ps_if (PW.pt (pw_or (pt_cmpR (op_eqD hr.units) (pv 0) (Rd.pe_tup pa_nil) (nomark _)) (pw_or1 (pt_cmpR (op_eqD hr.units) (pv 1) (Rd.pe_tup pa_nil) (nomark _))))) (pss_one (ps_ret (Rd.pe_tup pa_nil))) pss_nil)
      (pss_cons (ps_set (i := 2) sc_product_in.nd rfl (Or.inl rfl) (pe_op op_sub (pe_op op_add (pe_callB Rd.c_len (by rfl) g.len (by decide +kernel) (pa_cons (pv 0) pa_nil)) (pe_callB Rd.c_len (by rfl) g.len (by decide +kernel) (pa_cons (pv 1) pa_nil))) pe_int))
      (pss_one (ps_ret (pe_callTy Rd.c_tuple (by rfl) g.tuple (by decide +kernel) (pa_cons (pe_lc (own := [("place", 3)]) (by rfl) sc_product_in.nd (pi_range1 (by rfl) g.range (pa_cons (pv 2) pa_nil)) (blkOk_by (own := [("place", 3)]) (N := ["first", "second", "size", "place"]) (sc := defScope s_product_in) (by decide +kernel)) (fun _ _ _ _ _ => (pg_name (i := 3) sc_product_in.nd rfl (Or.inl rfl))) (fun _ _ _ _ _ => pts_nil) (fun _ _ _ _ _ => (Rd.pe_fn c_product_at (hr.mono (by decide)) (by rfl) (pa_cons (pv 0) (pa_cons (pv 1) (pa_cons (pv 3) pa_nil)))))) pa_nil)))))), ?_⟩
  try simp only [Rd.noxK, Rd.cxK]
  refine Rd.rd_start [some (V.ref p), some (V.ref q), none, none] rfl ?_
  walk_at "rd"
  refine Rd.rd_mkTup (by decide) fun p1 H1 n1 s1 h1 => ?_
  have hp1 := Rd.Same.sqT s1 hp'
  refine Rd.rd_eqD (.tup hp1 (Rd.dpI a)) (.tup (SqT.of h1) .nil) (Rd.shTI a) rfl ?_
  rw [eqv_nilI]
  walk_at "rd"
  refine ite2 (fun hc => ?_) (fun hc => ?_)
  · refine Rd.if_t rfl ?_
    walk_at "rd"
    refine Rd.rd_mkTup (by decide) fun p2 H2 n2 s2 h2 => ?_
    refine k p2 H2 (s1.trans s2) (SqT.of ?_)
    rw [h2]
    unfold prodL
    rw [if_pos (.inl (of_decide_eq_true hc))]
    rfl
  · have na : a ≠ [] := fun z => hc (decide_eq_true z)
    walk_at "rd"
    refine Rd.rd_mkTup (by decide) fun p2 H2 n2 s2 h2 => ?_
    have hq2 := Rd.Same.sqT (s1.trans s2) hq'
    refine Rd.rd_eqD (.tup hq2 (Rd.dpI b)) (.tup (SqT.of h2) .nil) (Rd.shTI b) rfl ?_
    rw [eqv_nilI]
    walk_at "rd"
    have s12 := s1.trans s2
    refine ite2 (fun hd => ?_) (fun hd => ?_)
    · walk_at "rd"
      refine Rd.rd_mkTup (by decide) fun p3 H3 n3 s3 h3 => ?_
      refine k p3 H3 (s12.trans s3) (SqT.of ?_)
      rw [h3]
      unfold prodL
      rw [if_pos (.inr (of_decide_eq_true hd))]
      rfl
    · have nb : b ≠ [] := fun z => hd (decide_eq_true z)
      have hp2 := Rd.Same.sqT s12 hp'
      have pa : 0 < a.length := List.length_pos_iff.mpr na
      have pb : 0 < b.length := List.length_pos_iff.mpr nb
      walk_at "rd"
      rw [show ((a.map V.int).length : Int) + ((b.map V.int).length : Int) - 1 = ((a.length + b.length - 1 : Nat) : Int) by rw [List.length_map, List.length_map]; omega]
      refine Rd.rd_IR1 (by omega) (by omega) ?_
      rw [Int.toNat_natCast]
      refine Rd.lc_rng (fun i => V.int (prodAt a b i)) (by omega) (fun i H3 N hi s3 hN => ?_) (fun D H3 hD s3 h3 => ?_)
      · rw [Int.zero_add]
        refine Rd.rd_start' [some (V.ref p), some (V.ref q), some (V.int ((a.length + b.length - 1 : Nat) : Int)), none] rfl ?_
        walk_at "rd"
        refine ⟨rfl, ?_⟩
        walk_at "rd"
        exact Rd.rd_sp (p, q, a, b, i) rfl ⟨Rd.Same.sqT s3 hp2, Rd.Same.sqT s3 hq2, ca, cb, la, lb, by show i ≤ 1000; omega, fun H4 s4 => hN H4 s4⟩
      · walk_at "rd"
        refine Rd.rd_tupleL (SqL.of h3) fun p4 H4 n4 s4 h4 => ?_
        refine k p4 H4 ((s12.trans s3).trans s4) (SqT.of ?_)
        rw [h4]
        unfold prodL
        rw [if_neg (by rintro (z | z); exact na z; exact nb z), List.map_map]
        rfl
theorem cb_of {l : List Int} (h : NN l) (hb : ev l 1 < 2 ^ 100000) : Cb l := fun c hc => ⟨h c hc, Int.lt_of_le_of_lt ((coef_le h).1 c hc) hb⟩
theorem ok_power_in (F : Rd.Has K mg "power_in" s_power_in) (g : Glob mg) (c_product_in : Rd.Fn gd P w K mg base CX0 2 "product_in" (spProdIn K)) : Rd.Fn gd P w K mg base CX0 3 "power_in" (spPowIn K) := by
  refine F.fn sc_power_in (fun _ => rfl) (fun _ _ _ _ _ _ us hl => match us, hl with | [_, _], _ => rfl) fun f cdv A outer s H Q E a hr h => ?_
  obtain ⟨p, a, n⟩ := a
  obtain ⟨hp, na, hb, hb1, hn, la, k⟩ := h
  dsimp only at hp na hb hb1 hn la k
  refine ⟨_, (pss_cons (ps_set (i := 2) sc_power_in.nd rfl (Or.inl rfl) (Rd.pe_tup (pa_cons pe_int pa_nil)))
      (pss_cons (ps_for PassesOwn.never rfl (pi_range1 (by rfl) g.range (pa_cons (pv 1) pa_nil)) (pg_name (i := 3) sc_power_in.nd rfl (Or.inl rfl)) (pss_one (ps_set (i := 2) sc_power_in.nd rfl (Or.inl rfl) (Rd.pe_fn c_product_in (hr.mono (by decide)) (by rfl) (pa_cons (pv 2) (pa_cons (pv 0) pa_nil))))))
      (pss_one (ps_ret (pv 2))))), ?_⟩
  try simp only [Rd.noxK, Rd.cxK]
  refine Rd.rd_start [some (V.ref p), some (V.int n), none, none] rfl ?_
  walk_at "rd"
  refine Rd.rd_mkTup (by decide) fun p1 H1 n1 s1 h1 => ?_
  walk_at "rd"
  refine Rd.rd_IR1 (by omega) (by omega) ?_
  rw [Int.toNat_natCast]
  refine Rd.for_range (fun i σ H' => Same H H' ∧ ∃ r o, σ = [some (V.ref p), some (V.int n), some (V.ref r), o] ∧ TI K H' r (powL a i)) ⟨s1, p1, _, rfl, SqT.of h1⟩ ?_ ?_
  · rintro i σ H2 hi ⟨s2, r, o, rfl, h2⟩
    walk_at "rd"
    refine Rd.rd_sp (r, p, powL a i, a) rfl ⟨h2, Rd.Same.sqT s2 hp, cb_of (powL_nn na i) (by rw [ev_powL]; exact hb i (by omega)), cb_of na hb1, ?_, by show a.length ≤ 400; omega, fun r' H3 s3 h3 => ?_⟩
    · have := powL_len a i
      have h5 : i * a.length ≤ 20 * 15 := Nat.mul_le_mul (by omega) la
      show (powL a i).length ≤ 400
      omega
    · walk_at "rd"
      exact ⟨s2.trans s3, r', _, rfl, h3⟩
  · rintro σ H2 ⟨s2, r, o, rfl, h2⟩
    walk_at "rd"
    exact k r H2 s2 h2
theorem ev_tail_le {y : Int} (hy : 0 ≤ y) : ∀ (l : List Int) (i : Nat), NN l → ev (l.drop i) y ≤ ev l (y + 1) := by
  intro l i h
  have h1 : ∀ (l : List Int) (i : Nat), NN l → ev (l.drop i) (y + 1) ≤ ev l (y + 1) := by
    intro l
    induction l with
    | nil => intro i _; rw [List.drop_nil]; exact Int.le_refl _
    | cons c r ih =>
      intro i h
      cases i with
      | zero => exact Int.le_refl _
      | succ i =>
        have hr : NN r := fun z hz => h z (List.mem_cons_of_mem _ hz)
        have h2 := ih i hr
        have h3 := (ev_mono r hr (m := 0) (n := y + 1) (Int.le_refl 0) (by omega))
        have h4 : ev r (y + 1) * 1 ≤ ev r (y + 1) * (y + 1) := Int.mul_le_mul_of_nonneg_left (by omega) (by omega)
        have hc := h c List.mem_cons_self
        show ev (r.drop i) (y + 1) ≤ ev r (y + 1) * (y + 1) + c
        omega
  have h2 := (ev_mono (l.drop i) (fun z hz => h z (List.mem_of_mem_drop hz)) hy (show y ≤ y + 1 by omega)).2
  exact Int.le_trans h2 (h1 l i h)
theorem ok_inner_in (F : Rd.Has K mg "inner_in" s_inner_in) (g : Glob mg) (c_product_in : Rd.Fn gd P w K mg base CX0 2 "product_in" (spProdIn K)) (c_sum_in : Rd.Fn gd P w K mg base CX0 1 "sum_in" (spSumIn K)) : Rd.Fn gd P w K mg base CX0 3 "inner_in" (spInnIn K) := by
  refine F.fn sc_inner_in (fun _ => rfl) (fun _ _ _ _ _ _ us hl => match us, hl with | [_, _], _ => rfl) fun f cdv A outer s H Q E a hr h => ?_
  obtain ⟨p, q, a, b⟩ := a
  obtain ⟨hp, hq, na, nb, hb, hb1, ll, lb, k⟩ := h
  dsimp only at hp hq na nb hb hb1 ll lb k
  have hp' : SqT K H p (a.map V.int) := hp
  refine ⟨_, (pss_cons (ps_set (i := 2) sc_inner_in.nd rfl (Or.inl rfl) (Rd.pe_tup pa_nil))
      (pss_cons (ps_for PassesOwn.never rfl (pi_tup (Rd.pe_rev (pv 0))) (pg_name (i := 3) sc_inner_in.nd rfl (Or.inl rfl)) (pss_one (ps_set (i := 2) sc_inner_in.nd rfl (Or.inl rfl) (Rd.pe_fn c_sum_in (hr.mono (by decide)) (by rfl) (pa_cons (Rd.pe_fn c_product_in (hr.mono (by decide)) (by rfl) (pa_cons (pv 2) (pa_cons (pv 1) pa_nil))) (pa_cons (Rd.pe_tup (pa_cons (pv 3) pa_nil)) pa_nil))))))
      (pss_one (ps_ret (pv 2))))), ?_⟩
  try simp only [Rd.noxK, Rd.cxK]
  refine Rd.rd_start [some (V.ref p), some (V.ref q), none, none] rfl ?_
  walk_at "rd"
  refine Rd.rd_mkTup (by decide) fun p1 H1 n1 s1 h1 => ?_
  have hp1 := Rd.Same.sqT s1 hp'
  walk_at "rd"
  refine Rd.rd_revT hp1 fun p2 H2 n2 s2 h2 => ?_
  rw [← List.map_reverse] at h2
  walk_at "rd"
  have y0 : 0 ≤ ev b 1 := (coef_le nb).2
  refine Rd.for_tup (xs := a.reverse.map V.int) (fun i σ H' => Same H2 H' ∧ ∃ r o, σ = [some (V.ref p), some (V.ref q), some (V.ref r), o] ∧ TI K H' r (innL b (a.drop (a.length - i)))) ⟨Same.refl _, p1, _, rfl, ?_⟩ (fun i σ H' _ z => Rd.Same.sqT z.1 (SqT.of h2)) ?_ ?_
  · rw [Nat.sub_zero, List.drop_length]
    exact SqT.of (s2 _ _ h1)
  · rintro i x σ H3 hx ⟨s3, r, o, rfl, h3⟩
    rw [List.getElem?_map] at hx
    obtain ⟨c, hc1, rfl⟩ := Option.map_eq_some_iff.mp hx
    have hil : i < a.length := by
      have := (List.getElem?_eq_some_iff.mp hc1).1
      rwa [List.length_reverse] at this
    have ed : a.drop (a.length - (i + 1)) = c :: a.drop (a.length - i) := by
      have e1 : a.length - i = (a.length - (i + 1)) + 1 := by omega
      have e2 : a[a.length - (i + 1)]? = some c := by
        rw [List.getElem?_reverse (by omega)] at hc1
        rw [show a.length - (i + 1) = a.length - 1 - i by omega]
        exact hc1
      rw [e1, List.drop_eq_getElem_cons (show a.length - (i + 1) < a.length by omega)]
      congr 1
      exact (List.getElem?_eq_some_iff.mp e2).2
    have hs : NN (a.drop (a.length - i)) := fun z hz => na z (List.mem_of_mem_drop hz)
    have hnn := innL_nn nb hs
    have hlen := innL_len b (a.drop (a.length - i))
    have hlen2 : (a.drop (a.length - i)).length * (b.length + 1) ≤ a.length * (b.length + 1) := Nat.mul_le_mul_right _ (by rw [List.length_drop]; omega)
    have hev : ev (innL b (a.drop (a.length - i))) 1 < 2 ^ 100000 := by
      rw [ev_innL]
      exact Int.lt_of_le_of_lt (ev_tail_le y0 a _ na) hb
    have sH3 := (s1.trans s2).trans s3
    walk_at "rd"
    refine Rd.rd_sp (r, q, innL b (a.drop (a.length - i)), b) rfl ⟨h3, Rd.Same.sqT sH3 hq, cb_of hnn hev, cb_of nb hb1, by show (innL b (a.drop (a.length - i))).length ≤ 400; omega, by show b.length ≤ 400; omega, fun r1 H4 s4 h4 => ?_⟩
    walk_at "rd"
    refine Rd.rd_mkTup (by show 1 ≤ sizeLine; decide) fun p5 H5 n5 s5 h5 => ?_
    have hpl := prodL_len (innL b (a.drop (a.length - i))) b
    walk_at "rd"
    refine Rd.rd_sp (r1, p5, prodL (innL b (a.drop (a.length - i))) b, [c]) rfl ⟨Rd.Same.sqT s5 h4, SqT.of h5, ?_, by show 1 ≤ 400; decide, fun r2 H6 s6 h6 => ?_⟩
    · show (prodL (innL b (a.drop (a.length - i))) b).length ≤ 400
      have h7 : (a.drop (a.length - i)).length * (b.length + 1) + (b.length + 1) ≤ a.length * (b.length + 1) := by
        rw [List.length_drop]
        have : (a.length - (a.length - i)) * (b.length + 1) + (b.length + 1) = ((a.length - (a.length - i)) + 1) * (b.length + 1) := by rw [Nat.add_mul, Nat.one_mul]
        rw [this]
        exact Nat.mul_le_mul_right _ (by omega)
      omega
    · walk_at "rd"
      refine ⟨((s3.trans s4).trans s5).trans s6, r2, _, rfl, ?_⟩
      rw [ed]
      exact h6
  · rintro σ H3 ⟨s3, r, o, rfl, h3⟩
    walk_at "rd"
    rw [List.length_map, List.length_reverse, Nat.sub_self, List.drop_zero] at h3
    exact k r H3 ((s1.trans s2).trans s3) h3
end
end M
set_option Elab.async false
set_option linter.all false
set_option maxRecDepth 100000
set_option maxHeartbeats 4000000
namespace M
open PySem L2
local macro_rules | `(tactic| walk_at "rdc") => `(tactic| first | exact Or.inl ⟨by decide, by decide⟩ | exact Or.inr ⟨by decide, by decide⟩ | exact ⟨by decide, by decide, by decide⟩ | exact ⟨by decide, by decide⟩ | decide | omega | assumption | (refine Or.inl ⟨?_, ?_⟩ <;> omega) | (refine Or.inr ⟨?_, ?_⟩ <;> omega) | (refine ⟨?_, ?_⟩ <;> omega))
local macro_rules | `(tactic| walk_at "rd1") => `(tactic| with_reducible first
  | refine Rd.rd_seq ?_ | refine Rd.rd_asg ?_ | refine Rd.rd_op ?_ | (refine' Rd.rd_var ?vh ?_; (case vh => with_unfolding_all rfl)) | refine Rd.rd_c ?_ | refine Rd.rd_I0 ?_ | refine Rd.rd_name0 ?_ | refine Rd.rd_nameS ?_ | refine Rd.rd_fn ?_
  | refine Rd.rd_cb ?_ | refine Rd.rd_cons ?_ | refine Rd.rd_nil ?_ | refine Rd.rd_int ?_ | refine Rd.rd_intB ?_ | refine Rd.rd_abs ?_ | refine Rd.rd_max2 ?_ | refine Rd.rd_min2 ?_
  | refine Rd.rd_call ?_ | refine Rd.rd_ifE ?_ | refine Rd.rd_test ?_ | refine Rd.rd_tB ?_ | refine Rd.rd_blV ?_ | refine Rd.rd_and ?_ | refine Rd.rd_or ?_ | refine Rd.rd_not ?_
  | refine Rd.rd_andV ?_ | refine Rd.rd_orV ?_ | refine Rd.rd_notV ?_ | refine Rd.rd_next ?_ | refine Rd.rd_ret ?_ | refine Rd.rd_drop ?_ | refine Rd.rd_ifS ?_ | refine Rd.rd_nx ?_ | refine Rd.rd_rt ?_ | refine Rd.rd_tMatch ?_ | refine Rd.rd_tCO ?_ | refine Rd.rd_tRevL ?_ | refine Rd.rd_tStar ?_ | refine Rd.rd_joined ?_ | refine Rd.rd_js1 ?_ | refine Rd.rd_js0 ?_ | refine Rd.rd_fmt ?_ | refine Rd.rd_propR ?_ | refine Rd.rd_iZipA ?_ | refine Rd.rd_iEnumT ?_ | refine Rd.rd_iOwn ?_ | (refine' Rd.rd_IET ?ln ?_; (case ln => with_unfolding_all walk_at "at")) | refine Rd.rd_chain ?_ | refine Rd.rd_tPar ?_ | refine Rd.rd_par ?_ | refine Rd.rd_sl ?_ | refine Rd.rd_noPart ?_ | refine Rd.rd_part ?_ | refine Rd.rd_intV ?_ | refine Rd.rd_lc ?_ | (refine' Rd.rd_aug ?vh ?_; (case vh => with_unfolding_all rfl)) | refine Rd.rd_ipI ?_ | refine Rd.rd_for ?_ | (refine' Rd.rd_IT ?ln ?_; (case ln => with_unfolding_all walk_at "at")) | (refine' Rd.rd_IL ?ln ?_; (case ln => with_unfolding_all walk_at "at")) | refine Rd.rd_iTup ?_ | refine Rd.rd_iList ?_ | refine Rd.rd_iRng1 ?_ | refine Rd.rd_iRng2 ?_ | refine Rd.rd_isi (Rd.isi_int Rd.kk_int_int) ?_ | refine Rd.rd_isi (Rd.isi_int Rd.kk_int_bool) ?_ | refine Rd.rd_dget ?_ | refine Rd.rd_din ?_ | refine Rd.rd_dnotin ?_ | refine Rd.rd_dput ?_ | refine Rd.rd_dc ?_ | refine Rd.rd_lc2 ?_ | refine Rd.rd_ltS ?_ | refine Rd.rd_inSg ?_ | refine Rd.rd_iStr ?_ | refine Rd.rd_IS ?_ | refine Rd.rd_prC ?_ | refine Rd.rd_prN ?_ | refine Rd.rd_methR ?_ | refine Rd.rd_cmeth ?_ | refine Rd.rd_fldS ?_ | refine Rd.rd_fld ?_ | (refine' Rd.rd_mkVS ?vh ?_; (case vh => with_unfolding_all rfl)) | (refine' Rd.rd_starT ?ln ?_; (case ln => with_unfolding_all walk_at "at")) | refine Rd.rd_iEnum ?_ | refine Rd.rd_iZip ?_ | (refine' Rd.rd_IE ?ln ?_; (case ln => with_unfolding_all walk_at "at")) | (refine' Rd.rd_IZ ?ln ?lm ?_; (case ln => with_unfolding_all walk_at "at"); (case lm => with_unfolding_all walk_at "at")) | (refine' Rd.rd_gTup ?ln ?lk ?_; (case ln => with_unfolding_all walk_at "at"); (case lk => with_unfolding_all rfl)) | refine Rd.rd_gCons ?_ | refine Rd.rd_gNil ?_ | refine Rd.rd_m1 ?_ | refine Rd.rd_strV ?_ | refine Rd.rd_tXiM ?_ | refine Rd.rd_tXiB ?_ | refine Rd.rd_tXiS ?_ | refine Rd.rd_bm ?_ | refine Rd.rd_bm0 ?_ | refine Rd.rd_isN ?_ | refine Rd.rd_notN ?_ | refine Rd.rd_sub ?_ | refine Rd.rd_un ?_ | refine Rd.rd_U ?_
  | (refine' Rd.rd_eq ?sc ?_; (case sc => with_unfolding_all rfl)) | (refine' Rd.rd_ne ?sc ?_; (case sc => with_unfolding_all rfl))
  | (refine' Rd.rd_I ?cc ?_; (case cc => with_unfolding_all walk_at "rdc"))
  | (refine' Rd.rd_lenL ?ln ?_; (case ln => with_unfolding_all walk_at "at")) | (refine' Rd.rd_lenT ?ln ?_; (case ln => with_unfolding_all walk_at "at"))
  | (refine' Rd.rd_ixL ?ln ?ia ?_; (case ln => with_unfolding_all walk_at "at"); (case ia => with_unfolding_all first | exact Rd.at0 | exact Rd.at1 | exact Rd.at2 | exact Rd.at3 | exact Rd.at4 | rfl)) | (refine' Rd.rd_ixT ?ln ?ia ?_; (case ln => with_unfolding_all walk_at "at"); (case ia => with_unfolding_all first | exact Rd.at0 | exact Rd.at1 | exact Rd.at2 | exact Rd.at3 | exact Rd.at4 | rfl)))
local macro_rules | `(tactic| walk_at "at") => `(tactic| first | assumption | (apply SqL.of; assumption) | (apply SqT.of; assumption) | (apply SqL.of; exact upd_same) | (apply SqT.of; exact upd_same))
local macro_rules | `(tactic| walk_at "rd") => `(tactic| repeat walk_at "rd1")
/-! ### the class Polynomial -/
abbrev s_Polynomial___init__ : Stmt := inClass (top 24) 0
theorem sc_Polynomial___init__ : FnScope ["self", "coefficients"] ["self", "coefficients"] (defScope s_Polynomial___init__) := ⟨rfl, rfl, rfl, by decide +kernel, rfl, by decide +kernel, by decide +kernel⟩
abbrev s_Polynomial_of : Stmt := inClass (top 24) 1
theorem sc_Polynomial_of : FnScope ["cls", "coefficients"] ["cls", "coefficients"] (defScope s_Polynomial_of) := ⟨rfl, rfl, rfl, by decide +kernel, rfl, by decide +kernel, by decide +kernel⟩
abbrev s_Polynomial_reach : Stmt := inClass (top 24) 4
theorem sc_Polynomial_reach : FnScope ["self", "goal"] ["self", "goal"] (defScope s_Polynomial_reach) := ⟨rfl, rfl, rfl, by decide +kernel, rfl, by decide +kernel, by decide +kernel⟩
abbrev s_Polynomial_coefficients : Stmt := inClass (top 24) 2
theorem sc_Polynomial_coefficients : FnScope ["self"] ["self"] (defScope s_Polynomial_coefficients) := ⟨rfl, rfl, rfl, by decide +kernel, rfl, by decide +kernel, by decide +kernel⟩
abbrev s_Polynomial_degree : Stmt := inClass (top 24) 3
theorem sc_Polynomial_degree : FnScope ["self"] ["self"] (defScope s_Polynomial_degree) := ⟨rfl, rfl, rfl, by decide +kernel, rfl, by decide +kernel, by decide +kernel⟩
abbrev s_Polynomial_at : Stmt := inClass (top 24) 5
theorem sc_Polynomial_at : FnScope ["self", "other"] ["self", "other"] (defScope s_Polynomial_at) := ⟨rfl, rfl, rfl, by decide +kernel, rfl, by decide +kernel, by decide +kernel⟩
abbrev s_Polynomial___call__ : Stmt := inClass (top 24) 6
theorem sc_Polynomial___call__ : FnScope ["self", "n"] ["self", "n"] (defScope s_Polynomial___call__) := ⟨rfl, rfl, rfl, by decide +kernel, rfl, by decide +kernel, by decide +kernel⟩
abbrev s_Polynomial___add__ : Stmt := inClass (top 24) 10
theorem sc_Polynomial___add__ : FnScope ["self", "other"] ["self", "other"] (defScope s_Polynomial___add__) := ⟨rfl, rfl, rfl, by decide +kernel, rfl, by decide +kernel, by decide +kernel⟩
abbrev s_Polynomial___radd__ : Stmt := inClass (top 24) 11
theorem sc_Polynomial___radd__ : FnScope ["self", "other"] ["self", "other"] (defScope s_Polynomial___radd__) := ⟨rfl, rfl, rfl, by decide +kernel, rfl, by decide +kernel, by decide +kernel⟩
abbrev s_Polynomial___mul__ : Stmt := inClass (top 24) 12
theorem sc_Polynomial___mul__ : FnScope ["self", "other"] ["self", "other"] (defScope s_Polynomial___mul__) := ⟨rfl, rfl, rfl, by decide +kernel, rfl, by decide +kernel, by decide +kernel⟩
abbrev s_Polynomial___rmul__ : Stmt := inClass (top 24) 13
theorem sc_Polynomial___rmul__ : FnScope ["self", "other"] ["self", "other"] (defScope s_Polynomial___rmul__) := ⟨rfl, rfl, rfl, by decide +kernel, rfl, by decide +kernel, by decide +kernel⟩
abbrev s_Polynomial___pow__ : Stmt := inClass (top 24) 14
theorem sc_Polynomial___pow__ : FnScope ["self", "many"] ["self", "many"] (defScope s_Polynomial___pow__) := ⟨rfl, rfl, rfl, by decide +kernel, rfl, by decide +kernel, by decide +kernel⟩
abbrev s_Polynomial___eq__ : Stmt := inClass (top 24) 15
theorem sc_Polynomial___eq__ : FnScope ["self", "other"] ["self", "other"] (defScope s_Polynomial___eq__) := ⟨rfl, rfl, rfl, by decide +kernel, rfl, by decide +kernel, by decide +kernel⟩
abbrev s_made : Stmt := top 25
theorem sc_made : FnScope ["coefficients"] ["coefficients"] (defScope s_made) := ⟨rfl, rfl, rfl, by decide +kernel, rfl, by decide +kernel, by decide +kernel⟩
abbrev s_coefficients_of : Stmt := top 26
theorem sc_coefficients_of : FnScope ["value"] ["value"] (defScope s_coefficients_of) := ⟨rfl, rfl, rfl, by decide +kernel, rfl, by decide +kernel, by decide +kernel⟩
structure Ads where
  (C fi fo po rc at_ cl ad ra mu rm pw eq st pc gc pd gg : Addr)
structure PolyC (K : PySem.W.Frag) (mg : Str → Option Value) (a : Ads) : Prop where
  mgC : mg "Polynomial" = some (.ref a.C)
  cl : Cls K a.C
  nA : NoAttr K a.C "own_coefficients"
  mk_ : Mk K a.C a.fi
  cr : ClX.CRead K a.C (.type "type")
  cm_of : ClX.CMet K a.C (.type "type") "of" a.po a.fo
  m_reach : Meth K a.C "reach" a.rc
  m_at : Meth K a.C "at" a.at_
  pr_c : PropOf K a.C "coefficients" a.pc a.gc
  pr_d : PropOf K a.C "degree" a.pd a.gg
  call : StX.CallO K a.C a.cl
  la : Rd.OwnL K a.C "add" a.ad
  ra : Rd.OwnOp K a.C "add" a.ad a.ra
  lm : Rd.OwnL K a.C "mul" a.mu
  rm : Rd.OwnOp K a.C "mul" a.mu a.rm
  lp : Rd.OwnL K a.C "pow" a.pw
  eq : Rd.OwnEq K a.C a.eq
  s1 : PySem.W.findIn K (.ref a.C) "__str__" = some (some (.ref a.st))
  s2 : PySem.W.isFn K (.ref a.st) = true
  c1 : PySem.W.findIn K (.ref a.C) "__class__" = some (some (.builtin "object.__class__"))
  c2 : PySem.W.specialIn K (.builtin "object.__class__") "__get__" = some (some (.builtin "getset_descriptor.__get__"))
  c3 : PySem.W.takesIn K (.builtin "object.__class__") = some true
  c4 : PySem.W.mroIn K a.C (.type "object") = some true
  i1 : PySem.W.kitOne K (.ref a.C) (.ref a.C) = some true
  i2 : PySem.W.kitOne K (.type "int") (.ref a.C) = some false
/-- a polynomial at x, its coefficients -/
def PolyAt (K : PySem.W.Frag) (C : Addr) (H : Hp) (x : Addr) (ns : List Int) : Prop := ∃ dx p, H x = some (.ins C dx [("own_coefficients", .ref p)]) ∧ TI K H p ns
theorem PolyAt.same {K : PySem.W.Frag} {C : Addr} {H H' : Hp} {x : Addr} {ns : List Int} (h : PolyAt K C H x ns) (s : Same H H') : PolyAt K C H' x ns := by
  obtain ⟨dx, p, h1, h2⟩ := h
  exact ⟨dx, p, s _ _ h1, Rd.Same.sqT s h2⟩
theorem PolyC.ty {K : PySem.W.Frag} {mg : Str → Option Value} {a : Ads} {H : Hp} {x : Addr} {ns : List Int} (T : PolyC K mg a) (h : PolyAt K a.C H x ns) : TyX K H (.ref x) (.ref a.C) := by
  obtain ⟨dx, p, h1, h2⟩ := h
  exact .base (.ins h1 T.cl T.c1 T.c2 T.c3 T.c4)
def spPInit (K : PySem.W.Frag) (C : Addr) : Sp := Rd.mkSp (fun (a : Addr × Addr × Addr × List Int) => [.ref a.1, .ref a.2.2.1]) fun a H Q _ => H a.1 = some (.ins C a.2.1 []) ∧ TI K H a.2.2.1 a.2.2.2 ∧ NN a.2.2.2 ∧ a.2.2.2.length ≤ 1000 ∧
  ∀ q H', (∀ b o, b ≠ a.1 → H b = some o → H' b = some o) → H' a.1 = some (.ins C a.2.1 [("own_coefficients", .ref q)]) → TI K H' q (trim a.2.2.2) → Q .non H'
def spPOf (K : PySem.W.Frag) (C : Addr) : Sp := Rd.mkSp (fun (a : Addr × List Int) => [.ref C, .ref a.1]) fun a H Q _ => TI K H a.1 a.2 ∧ NN a.2 ∧ a.2.length ≤ 1000 ∧ ∀ x H', Same H H' → PolyAt K C H' x (trim a.2) → Q (.ref x) H'
def spMade (K : PySem.W.Frag) (C : Addr) : Sp := Rd.mkSp (fun (a : Addr × List Int) => [.ref a.1]) fun a H Q _ => TI K H a.1 a.2 ∧ NN a.2 ∧ a.2.length ≤ 1000 ∧ ∀ x H', Same H H' → PolyAt K C H' x (trim a.2) → Q (.ref x) H'
/-- a polynomial, or a number from 0 on -/
def OpV (K : PySem.W.Frag) (C : Addr) (H : Hp) (v : V) (ms : List Int) : Prop := (∃ y, v = .ref y ∧ PolyAt K C H y ms) ∨ ∃ i : Int, v = .int i ∧ 0 ≤ i ∧ ms = [i]
def spCoOf (K : PySem.W.Frag) (C : Addr) : Sp := Rd.mkSp (fun (a : V × List Int) => [a.1]) fun a H Q _ => OpV K C H a.1 a.2 ∧ ∀ p H', Same H H' → TI K H' p a.2 → Q (.ref p) H'
def spPReach (K : PySem.W.Frag) (C : Addr) : Sp := Rd.mkSp (fun (a : Addr × List Int × Int) => [.ref a.1, .int a.2.2]) fun a H Q _ => PolyAt K C H a.1 a.2.1 ∧ trim a.2.1 = a.2.1 ∧
  (∃ b m, Co b a.2.1 ∧ 0 ≤ a.2.2 ∧ a.2.2 < 2 ^ m ∧ 0 < b ∧ 0 < m ∧ b + a.2.1.length * (m + 2) + (m + 1) ≤ 900000) ∧ ∀ v H', Same H H' → LeastIs a.2.1 a.2.2 v → Q v H'
def spCoef (K : PySem.W.Frag) (C : Addr) : Sp := Rd.mkSp (fun (a : Addr × List Int) => [.ref a.1]) fun a H Q _ => PolyAt K C H a.1 a.2 ∧ ∀ p, TI K H p a.2 → Q (.ref p) H
def spDeg (K : PySem.W.Frag) (C : Addr) : Sp := Rd.mkSp (fun (a : Addr × List Int) => [.ref a.1]) fun a H Q _ => PolyAt K C H a.1 a.2 ∧ Q (.int ((a.2.length : Int) - 1)) H
def spPCall (K : PySem.W.Frag) (C : Addr) : Sp := Rd.mkSp (fun (a : Addr × List Int × Int) => [.ref a.1, .int a.2.2]) fun a H Q _ => PolyAt K C H a.1 a.2.1 ∧ (∃ b m, Co b a.2.1 ∧ 0 ≤ a.2.2 ∧ a.2.2 < 2 ^ m ∧ 0 < b ∧ 0 < m ∧ b + a.2.1.length * (m + 1) + m ≤ 900000) ∧ ∀ H', Same H H' → Q (.int (ev a.2.1 a.2.2)) H'
def spPAdd (K : PySem.W.Frag) (C : Addr) : Sp := Rd.mkSp (fun (a : Addr × V × List Int × List Int) => [.ref a.1, a.2.1]) fun a H Q _ => PolyAt K C H a.1 a.2.2.1 ∧ OpV K C H a.2.1 a.2.2.2 ∧ NN a.2.2.1 ∧ NN a.2.2.2 ∧ a.2.2.1.length ≤ 400 ∧ a.2.2.2.length ≤ 400 ∧ ∀ x H', Same H H' → PolyAt K C H' x (trim (sumL a.2.2.1 a.2.2.2)) → Q (.ref x) H'
def spPMul (K : PySem.W.Frag) (C : Addr) : Sp := Rd.mkSp (fun (a : Addr × V × List Int × List Int) => [.ref a.1, a.2.1]) fun a H Q _ => PolyAt K C H a.1 a.2.2.1 ∧ OpV K C H a.2.1 a.2.2.2 ∧ Cb a.2.2.1 ∧ Cb a.2.2.2 ∧ a.2.2.1.length ≤ 400 ∧ a.2.2.2.length ≤ 400 ∧ ∀ x H', Same H H' → PolyAt K C H' x (trim (prodL a.2.2.1 a.2.2.2)) → Q (.ref x) H'
def spPPow (K : PySem.W.Frag) (C : Addr) : Sp := Rd.mkSp (fun (a : Addr × List Int × Nat) => [.ref a.1, .int a.2.2]) fun a H Q _ => PolyAt K C H a.1 a.2.1 ∧ NN a.2.1 ∧ (∀ j, j ≤ a.2.2 → ev a.2.1 1 ^ j < 2 ^ 100000) ∧ ev a.2.1 1 < 2 ^ 100000 ∧ a.2.2 ≤ 20 ∧ a.2.1.length ≤ 15 ∧ ∀ x H', Same H H' → PolyAt K C H' x (trim (powL a.2.1 a.2.2)) → Q (.ref x) H'
def spPAt (K : PySem.W.Frag) (C : Addr) : Sp := Rd.mkSp (fun (a : Addr × Addr × List Int × List Int) => [.ref a.1, .ref a.2.1]) fun a H Q _ => PolyAt K C H a.1 a.2.2.1 ∧ PolyAt K C H a.2.1 a.2.2.2 ∧ NN a.2.2.1 ∧ NN a.2.2.2 ∧ ev a.2.2.1 (ev a.2.2.2 1 + 1) < 2 ^ 100000 ∧ ev a.2.2.2 1 < 2 ^ 100000 ∧ a.2.2.1.length * (a.2.2.2.length + 1) ≤ 300 ∧ a.2.2.2.length ≤ 300 ∧
  ∀ x H', Same H H' → PolyAt K C H' x (trim (innL a.2.2.2 a.2.2.1)) → Q (.ref x) H'
def spPEq (K : PySem.W.Frag) (C : Addr) : Sp := Rd.mkSp (fun (a : Addr × Addr × List Int × List Int) => [.ref a.1, .ref a.2.1]) fun a H Q _ => PolyAt K C H a.1 a.2.2.1 ∧ PolyAt K C H a.2.1 a.2.2.2 ∧ Q (.bl (decide (a.2.2.1 = a.2.2.2))) H
section
variable {gd : Bool} {P : Program} {w : World} {K : PySem.W.Frag} {mg : Str → Option Value} {base : Heap} {a : Ads}
theorem ok_pinit (T : PolyC K mg a) (hi : Rd.HasAt K a.fi "__init__" "Polynomial.__init__" s_Polynomial___init__) (g : Glob mg) (c_require_coefficients : Rd.Fn false P w K mg base CX0 3 "require_coefficients" (spReqCo K)) (c_trimmed : Rd.Fn false P w K mg base CX0 1 "trimmed" (spTrim K)) :
    FnR P w K mg base CX0 4 a.fi (Rd.spStar 1 (spPInit K a.C)) := by
  refine Rd.FnG.toR (hi.starX (ps := ["self"]) sc_Polynomial___init__ StX.cxUp_none (fun _ _ _ _ _ _ us rest hl => match us, hl, rest with | [_], _, [] => rfl | [_], _, _ :: _ => rfl) fun cdv A outer s H Q E b hr h => ?_)
  obtain ⟨x, dx, p, ns⟩ := b
  obtain ⟨hx, hS, h0, hz, k⟩ := h
  dsimp only at hx hS h0 hz k
  refine ⟨_, ((pss_cons (ps_expr (Rd.pe_fn c_require_coefficients (hr.mono (by decide)) (by rfl) (pa_cons (pv 1) pa_nil)))
      (pss_one (ps_fld (pv 0) (Rd.pe_fn c_trimmed (hr.mono (by decide)) (by rfl) (pa_cons (pv 1) pa_nil)) rfl)))).nox, ?_⟩
  try simp only [Rd.noxK, Rd.cxK]
  refine Rd.rd_start [some (V.ref x), some (V.ref p)] rfl ?_
  walk_at "rd"
  refine Rd.rd_sp (p, ns) rfl ⟨hS, h0, hz, fun H1 s1 => ?_⟩
  walk_at "rd"
  refine Rd.rd_sp (p, ns) rfl ⟨Rd.Same.sqT s1 hS, hz, fun q H2 s2 h2 => ?_⟩
  walk_at "rd"
  have hx2 := s2 _ _ (s1 _ _ hx)
  refine ⟨x, a.C, dx, [], rfl, hx2, T.cl, T.nA, by decide, ?_⟩
  walk_at "rd"
  have hq : ∀ b o, b ≠ x → H2 b = some o → upd H2 x (.ins a.C dx (putF "own_coefficients" (.ref q) [])) b = some o := fun b o hb e => by rw [upd_ne hb]; exact e
  refine k q _ (fun b o hb e => hq b o hb (s2 _ _ (s1 _ _ e))) upd_same ?_
  rcases h2 with (h2 | ⟨o, h2⟩) | h2
  · exact .inl (.inl (hq _ _ (ne_of h2 hx2 (by intro z; cases z)) h2))
  · exact .inl (.inr ⟨o, hq _ _ (ne_of h2 hx2 (by intro z; cases z)) h2⟩)
  · exact .inr h2
/-- Polynomial(..) of ints -/
theorem make_poly {C : Addr} {H : Hp} {Q : VK} (ns : List Int) (h0 : NN ns) (hz : ns.length ≤ 1000) (q : ∀ x H', Same H H' → PolyAt K C H' x (trim ns) → Q (.ref x) H') : Rd.rMake C (Rd.spStar 1 (spPInit K C)) E0 (ns.map V.int) H Q := by
  intro x dx hx hdx hne
  refine ⟨[.ref x], ns.map V.int, rfl, rfl, by rw [List.length_map]; exact Rd.small64 (by omega), fun p H1 hp s1 h1 => ?_⟩
  have e0 : upd (upd H dx (.own x)) x (.ins C dx []) x = some (.ins C dx []) := upd_same
  refine Rd.rd_sp (x, dx, p, ns) rfl ⟨s1 _ _ e0, SqT.of h1, h0, hz, fun q' H2 k2 h2 h3 => ⟨rfl, ?_⟩⟩
  refine q x H2 (fun b o e => k2 b o (ne_of_none e hx) (s1 _ _ ?_)) ⟨dx, q', h2, h3⟩
  rw [upd_ne (ne_of_none e hx), upd_ne (ne_of_none e hdx)]
  exact e
theorem ok_pof (T : PolyC K mg a) (ho : Rd.HasAt K a.fo "of" "Polynomial.of" s_Polynomial_of) (g : Glob mg) (c_require_coefficients : Rd.Fn false P w K mg base CX0 3 "require_coefficients" (spReqCo K)) (c_Polynomial : FnR P w K mg base CX0 4 a.fi (Rd.spStar 1 (spPInit K a.C))) : FnR P w K mg base CX0 6 a.fo (spPOf K a.C) := by
  refine Rd.FnG.toR (ho.fn sc_Polynomial_of (fun _ => rfl) (fun _ _ _ _ _ _ us hl => match us, hl with | [_, _], _ => rfl) fun cdv A outer s H Q E b hr h => ?_)
  obtain ⟨p, ns⟩ := b
  obtain ⟨hS, h0, hz, k⟩ := h
  dsimp only at hS h0 hz k
  refine ⟨_, (pss_cons (ps_expr (Rd.pe_fn c_require_coefficients (hr.mono (by decide)) (by rfl) (pa_cons (pv 1) pa_nil)))
      (pss_one (ps_ret (Rd.pe_mkVS (i := 0) T.mk_ c_Polynomial (hr.mono (by decide)).toRoom pass0 (by rfl) (Or.inl rfl) (pv 1))))), ?_⟩
  try simp only [Rd.noxK, Rd.cxK]
  refine Rd.rd_start [some (V.ref a.C), some (V.ref p)] rfl ?_
  walk_at "rd"
  refine Rd.rd_sp (p, ns) rfl ⟨hS, h0, hz, fun H1 s1 => ?_⟩
  have hS1 : SqT K H1 p (ns.map V.int) := Rd.Same.sqT s1 hS
  walk_at "rd"
  exact make_poly ns h0 hz fun x H2 s2 h2 => k x H2 (s1.trans s2) h2
theorem ok_made (T : PolyC K mg a) (F : Rd.Has K mg "made" s_made) (c_Polynomial : FnR P w K mg base CX0 4 a.fi (Rd.spStar 1 (spPInit K a.C))) : Rd.Fn gd P w K mg base CX0 6 "made" (spMade K a.C) := by
  refine F.fn sc_made (fun _ => rfl) (fun _ _ _ _ _ _ us hl => match us, hl with | [_], _ => rfl) fun f cdv A outer s H Q E b hr h => ?_
  obtain ⟨p, ns⟩ := b
  obtain ⟨hS, h0, hz, k⟩ := h
  dsimp only at hS h0 hz k
  have hS1 : SqT K H p (ns.map V.int) := hS
  refine ⟨_, (pss_one (ps_ret (Rd.pe_mkS T.mk_ c_Polynomial (hr.mono (by decide)).toRoom (by rfl) T.mgC pass0 (pv 0)))), ?_⟩
  try simp only [Rd.noxK, Rd.cxK]
  refine Rd.rd_start [some (V.ref p)] rfl ?_
  refine Rd.rd_ret ?_
  refine Rd.rd_un (Rd.rd_var rfl (Rd.rd_starT hS1 ?_))
  exact make_poly ns h0 hz k
theorem ok_coefficients_of (T : PolyC K mg a) (F : Rd.Has K mg "coefficients_of" s_coefficients_of) (g : Glob mg) (c_is_count : Rd.Fn gd P w K mg base CX0 2 "is_count" (spIsCount K)) : Rd.Fn gd P w K mg base CX0 3 "coefficients_of" (spCoOf K a.C) := by
  refine F.fn sc_coefficients_of (fun _ => rfl) (fun _ _ _ _ _ _ us hl => match us, hl with | [_], _ => rfl) fun f cdv A outer s H Q E b hr h => ?_
  obtain ⟨v, ms⟩ := b
  obtain ⟨hv, k⟩ := h
  dsimp only at hv k
  refine ⟨_, (pss_cons (ps_if (pt_val (pe_callB Rd.c_isi (by rfl) g.isinstance (by decide +kernel) (pa_cons (pv 0) (pa_cons (Rd.pe_glr (by rfl) T.mgC) pa_nil)))) (pss_one (ps_ret (pe_fld (pv 0) rfl))) pss_nil)
      (pss_cons (ps_if (pt_not (pt_val (Rd.pe_fn c_is_count (hr.mono (by decide)) (by rfl) (pa_cons (pv 0) pa_nil)))) (pss_one ps_never) pss_nil)
      (pss_one (ps_ret (Rd.pe_tup (pa_cons (pv 0) pa_nil)))))), ?_⟩
  try simp only [Rd.noxK, Rd.cxK]
  refine Rd.rd_start [some v] rfl ?_
  rcases hv with ⟨y, rfl, hy⟩ | ⟨i, rfl, hi, rfl⟩
  · walk_at "rd"
    refine Rd.rd_isiC (T.ty hy) T.i1 ?_
    obtain ⟨dx, p, h1, h2⟩ := hy
    walk_at "rd"
    refine Rd.if_t rfl ?_
    walk_at "rd"
    exact ⟨y, a.C, dx, _, V.ref p, rfl, h1, T.cl, T.nA, rfl, k p H (Same.refl H) h2⟩
  · walk_at "rd"
    refine Rd.rd_isiC (.base (.int i)) T.i2 ?_
    walk_at "rd"
    refine Rd.if_f rfl ?_
    walk_at "rd"
    refine Rd.rd_sp (V.int i) rfl (.inl ⟨i, rfl, ?_⟩)
    rw [decide_eq_true hi]
    walk_at "rd"
    refine Rd.if_f rfl ?_
    walk_at "rd"
    exact Rd.rd_mkTup (by show 1 ≤ sizeLine; decide) fun p H1 n1 s1 h1 => k p H1 s1 (SqT.of h1)
end
end M
set_option Elab.async false
set_option linter.all false
set_option maxRecDepth 100000
set_option maxHeartbeats 4000000
namespace M
open PySem L2
local macro_rules | `(tactic| walk_at "rdc") => `(tactic| first | exact Or.inl ⟨by decide, by decide⟩ | exact Or.inr ⟨by decide, by decide⟩ | exact ⟨by decide, by decide, by decide⟩ | exact ⟨by decide, by decide⟩ | decide | omega | assumption | (refine Or.inl ⟨?_, ?_⟩ <;> omega) | (refine Or.inr ⟨?_, ?_⟩ <;> omega) | (refine ⟨?_, ?_⟩ <;> omega))
local macro_rules | `(tactic| walk_at "rd1") => `(tactic| with_reducible first
  | refine Rd.rd_seq ?_ | refine Rd.rd_asg ?_ | refine Rd.rd_op ?_ | (refine' Rd.rd_var ?vh ?_; (case vh => with_unfolding_all rfl)) | refine Rd.rd_c ?_ | refine Rd.rd_I0 ?_ | refine Rd.rd_name0 ?_ | refine Rd.rd_nameS ?_ | refine Rd.rd_fn ?_
  | refine Rd.rd_cb ?_ | refine Rd.rd_cons ?_ | refine Rd.rd_nil ?_ | refine Rd.rd_int ?_ | refine Rd.rd_intB ?_ | refine Rd.rd_abs ?_ | refine Rd.rd_max2 ?_ | refine Rd.rd_min2 ?_
  | refine Rd.rd_call ?_ | refine Rd.rd_ifE ?_ | refine Rd.rd_test ?_ | refine Rd.rd_tB ?_ | refine Rd.rd_blV ?_ | refine Rd.rd_and ?_ | refine Rd.rd_or ?_ | refine Rd.rd_not ?_
  | refine Rd.rd_andV ?_ | refine Rd.rd_orV ?_ | refine Rd.rd_notV ?_ | refine Rd.rd_next ?_ | refine Rd.rd_ret ?_ | refine Rd.rd_drop ?_ | refine Rd.rd_ifS ?_ | refine Rd.rd_nx ?_ | refine Rd.rd_rt ?_ | refine Rd.rd_tMatch ?_ | refine Rd.rd_tCO ?_ | refine Rd.rd_tRevL ?_ | refine Rd.rd_tStar ?_ | refine Rd.rd_joined ?_ | refine Rd.rd_js1 ?_ | refine Rd.rd_js0 ?_ | refine Rd.rd_fmt ?_ | refine Rd.rd_propR ?_ | refine Rd.rd_iZipA ?_ | refine Rd.rd_iEnumT ?_ | refine Rd.rd_iOwn ?_ | (refine' Rd.rd_IET ?ln ?_; (case ln => with_unfolding_all walk_at "at")) | refine Rd.rd_chain ?_ | refine Rd.rd_tPar ?_ | refine Rd.rd_par ?_ | refine Rd.rd_sl ?_ | refine Rd.rd_noPart ?_ | refine Rd.rd_part ?_ | refine Rd.rd_intV ?_ | refine Rd.rd_lc ?_ | (refine' Rd.rd_aug ?vh ?_; (case vh => with_unfolding_all rfl)) | refine Rd.rd_ipI ?_ | refine Rd.rd_for ?_ | (refine' Rd.rd_IT ?ln ?_; (case ln => with_unfolding_all walk_at "at")) | (refine' Rd.rd_IL ?ln ?_; (case ln => with_unfolding_all walk_at "at")) | refine Rd.rd_iTup ?_ | refine Rd.rd_iList ?_ | refine Rd.rd_iRng1 ?_ | refine Rd.rd_iRng2 ?_ | refine Rd.rd_isi (Rd.isi_int Rd.kk_int_int) ?_ | refine Rd.rd_isi (Rd.isi_int Rd.kk_int_bool) ?_ | refine Rd.rd_dget ?_ | refine Rd.rd_din ?_ | refine Rd.rd_dnotin ?_ | refine Rd.rd_dput ?_ | refine Rd.rd_dc ?_ | refine Rd.rd_lc2 ?_ | refine Rd.rd_ltS ?_ | refine Rd.rd_inSg ?_ | refine Rd.rd_iStr ?_ | refine Rd.rd_IS ?_ | refine Rd.rd_prC ?_ | refine Rd.rd_prN ?_ | refine Rd.rd_methR ?_ | refine Rd.rd_cmeth ?_ | refine Rd.rd_fldS ?_ | refine Rd.rd_fld ?_ | (refine' Rd.rd_mkVS ?vh ?_; (case vh => with_unfolding_all rfl)) | (refine' Rd.rd_starT ?ln ?_; (case ln => with_unfolding_all walk_at "at")) | refine Rd.rd_iEnum ?_ | refine Rd.rd_iZip ?_ | (refine' Rd.rd_IE ?ln ?_; (case ln => with_unfolding_all walk_at "at")) | (refine' Rd.rd_IZ ?ln ?lm ?_; (case ln => with_unfolding_all walk_at "at"); (case lm => with_unfolding_all walk_at "at")) | (refine' Rd.rd_gTup ?ln ?lk ?_; (case ln => with_unfolding_all walk_at "at"); (case lk => with_unfolding_all rfl)) | refine Rd.rd_gCons ?_ | refine Rd.rd_gNil ?_ | refine Rd.rd_m1 ?_ | refine Rd.rd_strV ?_ | refine Rd.rd_tXiM ?_ | refine Rd.rd_tXiB ?_ | refine Rd.rd_tXiS ?_ | refine Rd.rd_bm ?_ | refine Rd.rd_bm0 ?_ | refine Rd.rd_isN ?_ | refine Rd.rd_notN ?_ | refine Rd.rd_sub ?_ | refine Rd.rd_un ?_ | refine Rd.rd_U ?_
  | (refine' Rd.rd_eq ?sc ?_; (case sc => with_unfolding_all rfl)) | (refine' Rd.rd_ne ?sc ?_; (case sc => with_unfolding_all rfl))
  | (refine' Rd.rd_I ?cc ?_; (case cc => with_unfolding_all walk_at "rdc"))
  | (refine' Rd.rd_lenL ?ln ?_; (case ln => with_unfolding_all walk_at "at")) | (refine' Rd.rd_lenT ?ln ?_; (case ln => with_unfolding_all walk_at "at"))
  | (refine' Rd.rd_ixL ?ln ?ia ?_; (case ln => with_unfolding_all walk_at "at"); (case ia => with_unfolding_all first | exact Rd.at0 | exact Rd.at1 | exact Rd.at2 | exact Rd.at3 | exact Rd.at4 | rfl)) | (refine' Rd.rd_ixT ?ln ?ia ?_; (case ln => with_unfolding_all walk_at "at"); (case ia => with_unfolding_all first | exact Rd.at0 | exact Rd.at1 | exact Rd.at2 | exact Rd.at3 | exact Rd.at4 | rfl)))
local macro_rules | `(tactic| walk_at "at") => `(tactic| first | assumption | (apply SqL.of; assumption) | (apply SqT.of; assumption) | (apply SqL.of; exact upd_same) | (apply SqT.of; exact upd_same))
local macro_rules | `(tactic| walk_at "rd") => `(tactic| repeat walk_at "rd1")
structure Ints (mg : Str → Option Value) : Prop where
  MAX_POWER : ∃ t, mg "MAX_POWER" = some (.int 20 t)
  LONG : ∃ t, mg "LONG" = some (.int (10 ^ 60) t)
section
variable {P : Program} {w : World} {K : PySem.W.Frag} {mg : Str → Option Value} {base : Heap} {a : Ads}
theorem fld_at {T : PolyC K mg a} {H : Hp} {Q : VK} {x p dx : Addr} (h1 : H x = some (.ins a.C dx [("own_coefficients", .ref p)])) (q : Q (.ref p) H) : Rd.rFld K "own_coefficients" (.ref x) H Q := ⟨x, a.C, dx, _, V.ref p, rfl, h1, T.cl, T.nA, rfl, q⟩
theorem ok_preach (T : PolyC K mg a) (F : Rd.HasAt K a.rc "reach" "Polynomial.reach" s_Polynomial_reach) (g : Glob mg) (c_require_number : Rd.Fn false P w K mg base CX0 3 "require_number" spReqNum) (c_least_in : Rd.Fn false P w K mg base CX0 2 "least_in" (spLeast K)) : FnR P w K mg base CX0 4 a.rc (spPReach K a.C) := by
  refine Rd.FnG.toR (F.fn sc_Polynomial_reach (fun _ => rfl) (fun _ _ _ _ _ _ us hl => match us, hl with | [_, _], _ => rfl) fun cdv A outer s H Q E b hr h => ?_)
  obtain ⟨x, ns, goal⟩ := b
  obtain ⟨⟨dx, p, hx, hS⟩, ht, ⟨b, m, hc, hg0, hg⟩, k⟩ := h
  dsimp only at hx hS ht hc hg0 hg k
  refine ⟨_, (pss_cons (ps_expr (Rd.pe_fn c_require_number (hr.mono (by decide)) (by rfl) (pa_cons (pv 1) pa_nil)))
      (pss_one (ps_ret (Rd.pe_fn c_least_in (hr.mono (by decide)) (by rfl) (pa_cons (pe_fld (pv 0) rfl) (pa_cons (pv 1) pa_nil)))))), ?_⟩
  try simp only [Rd.noxK, Rd.cxK]
  refine Rd.rd_start [some (V.ref x), some (V.int goal)] rfl ?_
  walk_at "rd"
  refine Rd.rd_sp goal rfl ⟨hg0, ?_⟩
  walk_at "rd"
  refine fld_at (T := T) hx ?_
  walk_at "rd"
  exact Rd.rd_sp (p, ns, goal) rfl ⟨hS, ht, ⟨b, m, hc, hg0, hg⟩, k⟩
theorem ok_pcoef (T : PolyC K mg a) (F : Rd.HasAt K a.gc "coefficients" "Polynomial.coefficients" s_Polynomial_coefficients) : FnR P w K mg base CX0 1 a.gc (spCoef K a.C) := by
  refine Rd.FnG.toR (F.fn sc_Polynomial_coefficients (fun _ => rfl) (fun _ _ _ _ _ _ us hl => match us, hl with | [_], _ => rfl) fun cdv A outer s H Q E b hr h => ?_)
  obtain ⟨x, ns⟩ := b
  obtain ⟨⟨dx, p, hx, hS⟩, k⟩ := h
  dsimp only at hx hS k
  refine ⟨_, (pss_one (ps_ret (pe_fld (pv 0) rfl))), ?_⟩
  try simp only [Rd.noxK, Rd.cxK]
  refine Rd.rd_start [some (V.ref x)] rfl ?_
  walk_at "rd"
  exact fld_at (T := T) hx (k p hS)
theorem ok_pcall (T : PolyC K mg a) (F : Rd.HasAt K a.cl "__call__" "Polynomial.__call__" s_Polynomial___call__) (c_require_number : Rd.Fn false P w K mg base CX0 3 "require_number" spReqNum) (c_at_in : Rd.Fn false P w K mg base CX0 1 "at_in" (spAtIn K)) : FnR P w K mg base CX0 4 a.cl (spPCall K a.C) := by
  refine Rd.FnG.toR (F.fn sc_Polynomial___call__ (fun _ => rfl) (fun _ _ _ _ _ _ us hl => match us, hl with | [_, _], _ => rfl) fun cdv A outer s H Q E b hr h => ?_)
  obtain ⟨x, ns, n⟩ := b
  obtain ⟨⟨dx, p, hx, hS⟩, ⟨b, m, hc, h0, hm⟩, k⟩ := h
  dsimp only at hx hS hc h0 hm k
  refine ⟨_, (pss_cons (ps_expr (Rd.pe_fn c_require_number (hr.mono (by decide)) (by rfl) (pa_cons (pv 1) pa_nil)))
      (pss_one (ps_ret (Rd.pe_fn c_at_in (hr.mono (by decide)) (by rfl) (pa_cons (pe_fld (pv 0) rfl) (pa_cons (pv 1) pa_nil)))))), ?_⟩
  try simp only [Rd.noxK, Rd.cxK]
  refine Rd.rd_start [some (V.ref x), some (V.int n)] rfl ?_
  walk_at "rd"
  refine Rd.rd_sp n rfl ⟨h0, ?_⟩
  walk_at "rd"
  refine fld_at (T := T) hx ?_
  walk_at "rd"
  exact Rd.rd_sp (p, ns, n) rfl ⟨hS, ⟨b, m, hc, h0, hm⟩, k⟩
theorem ok_padd (T : PolyC K mg a) (F : Rd.HasAt K a.ad "__add__" "Polynomial.__add__" s_Polynomial___add__) (c_sum_in : Rd.Fn false P w K mg base CX0 1 "sum_in" (spSumIn K)) (c_coefficients_of : Rd.Fn false P w K mg base CX0 3 "coefficients_of" (spCoOf K a.C)) (c_made : Rd.Fn false P w K mg base CX0 6 "made" (spMade K a.C)) : FnR P w K mg base CX0 7 a.ad (spPAdd K a.C) := by
  refine Rd.FnG.toR (F.fn sc_Polynomial___add__ (fun _ => rfl) (fun _ _ _ _ _ _ us hl => match us, hl with | [_, _], _ => rfl) fun cdv A outer s H Q E b hr h => ?_)
  obtain ⟨x, v, l, m⟩ := b
  obtain ⟨⟨dx, p, hx, hS⟩, hv, na, nb, la, lb, k⟩ := h
  dsimp only at hx hS hv na nb la lb k
  refine ⟨_, (pss_one (ps_ret (Rd.pe_fn c_made (hr.mono (by decide)) (by rfl) (pa_cons (Rd.pe_fn c_sum_in (hr.mono (by decide)) (by rfl) (pa_cons (pe_fld (pv 0) rfl) (pa_cons (Rd.pe_fn c_coefficients_of (hr.mono (by decide)) (by rfl) (pa_cons (pv 1) pa_nil)) pa_nil))) pa_nil)))), ?_⟩
  try simp only [Rd.noxK, Rd.cxK]
  refine Rd.rd_start [some (V.ref x), some v] rfl ?_
  walk_at "rd"
  refine fld_at (T := T) hx ?_
  walk_at "rd"
  refine Rd.rd_sp (v, m) rfl ⟨hv, fun q H1 s1 h1 => ?_⟩
  walk_at "rd"
  refine Rd.rd_sp (p, q, l, m) rfl ⟨Rd.Same.sqT s1 hS, h1, la, lb, fun r H2 s2 h2 => ?_⟩
  walk_at "rd"
  exact Rd.rd_sp (r, sumL l m) rfl ⟨h2, sumL_nn na nb, by show (sumL l m).length ≤ 1000; rw [sumL_len]; omega, fun y H3 s3 h3 => k y H3 ((s1.trans s2).trans s3) h3⟩
theorem ok_pradd (T : PolyC K mg a) (F : Rd.HasAt K a.ra "__radd__" "Polynomial.__radd__" s_Polynomial___radd__) (c_sum_in : Rd.Fn false P w K mg base CX0 1 "sum_in" (spSumIn K)) (c_coefficients_of : Rd.Fn false P w K mg base CX0 3 "coefficients_of" (spCoOf K a.C)) (c_made : Rd.Fn false P w K mg base CX0 6 "made" (spMade K a.C)) : FnR P w K mg base CX0 7 a.ra (spPAdd K a.C) := by
  refine Rd.FnG.toR (F.fn sc_Polynomial___radd__ (fun _ => rfl) (fun _ _ _ _ _ _ us hl => match us, hl with | [_, _], _ => rfl) fun cdv A outer s H Q E b hr h => ?_)
  obtain ⟨x, v, l, m⟩ := b
  obtain ⟨⟨dx, p, hx, hS⟩, hv, na, nb, la, lb, k⟩ := h
  dsimp only at hx hS hv na nb la lb k
  refine ⟨_, (pss_one (ps_ret (Rd.pe_fn c_made (hr.mono (by decide)) (by rfl) (pa_cons (Rd.pe_fn c_sum_in (hr.mono (by decide)) (by rfl) (pa_cons (pe_fld (pv 0) rfl) (pa_cons (Rd.pe_fn c_coefficients_of (hr.mono (by decide)) (by rfl) (pa_cons (pv 1) pa_nil)) pa_nil))) pa_nil)))), ?_⟩
  try simp only [Rd.noxK, Rd.cxK]
  refine Rd.rd_start [some (V.ref x), some v] rfl ?_
  walk_at "rd"
  refine fld_at (T := T) hx ?_
  walk_at "rd"
  refine Rd.rd_sp (v, m) rfl ⟨hv, fun q H1 s1 h1 => ?_⟩
  walk_at "rd"
  refine Rd.rd_sp (p, q, l, m) rfl ⟨Rd.Same.sqT s1 hS, h1, la, lb, fun r H2 s2 h2 => ?_⟩
  walk_at "rd"
  exact Rd.rd_sp (r, sumL l m) rfl ⟨h2, sumL_nn na nb, by show (sumL l m).length ≤ 1000; rw [sumL_len]; omega, fun y H3 s3 h3 => k y H3 ((s1.trans s2).trans s3) h3⟩
theorem ok_pmul (T : PolyC K mg a) (F : Rd.HasAt K a.mu "__mul__" "Polynomial.__mul__" s_Polynomial___mul__) (c_product_in : Rd.Fn false P w K mg base CX0 2 "product_in" (spProdIn K)) (c_coefficients_of : Rd.Fn false P w K mg base CX0 3 "coefficients_of" (spCoOf K a.C)) (c_made : Rd.Fn false P w K mg base CX0 6 "made" (spMade K a.C)) : FnR P w K mg base CX0 7 a.mu (spPMul K a.C) := by
  refine Rd.FnG.toR (F.fn sc_Polynomial___mul__ (fun _ => rfl) (fun _ _ _ _ _ _ us hl => match us, hl with | [_, _], _ => rfl) fun cdv A outer s H Q E b hr h => ?_)
  obtain ⟨x, v, l, m⟩ := b
  obtain ⟨⟨dx, p, hx, hS⟩, hv, na, nb, la, lb, k⟩ := h
  dsimp only at hx hS hv na nb la lb k
  refine ⟨_, (pss_one (ps_ret (Rd.pe_fn c_made (hr.mono (by decide)) (by rfl) (pa_cons (Rd.pe_fn c_product_in (hr.mono (by decide)) (by rfl) (pa_cons (pe_fld (pv 0) rfl) (pa_cons (Rd.pe_fn c_coefficients_of (hr.mono (by decide)) (by rfl) (pa_cons (pv 1) pa_nil)) pa_nil))) pa_nil)))), ?_⟩
  try simp only [Rd.noxK, Rd.cxK]
  refine Rd.rd_start [some (V.ref x), some v] rfl ?_
  walk_at "rd"
  refine fld_at (T := T) hx ?_
  walk_at "rd"
  refine Rd.rd_sp (v, m) rfl ⟨hv, fun q H1 s1 h1 => ?_⟩
  walk_at "rd"
  refine Rd.rd_sp (p, q, l, m) rfl ⟨Rd.Same.sqT s1 hS, h1, na, nb, la, lb, fun r H2 s2 h2 => ?_⟩
  walk_at "rd"
  exact Rd.rd_sp (r, prodL l m) rfl ⟨h2, prodL_nn (fun c hc => (na c hc).1) (fun c hc => (nb c hc).1), by show (prodL l m).length ≤ 1000; have := prodL_len l m; omega, fun y H3 s3 h3 => k y H3 ((s1.trans s2).trans s3) h3⟩
theorem ok_prmul (T : PolyC K mg a) (F : Rd.HasAt K a.rm "__rmul__" "Polynomial.__rmul__" s_Polynomial___rmul__) (c_product_in : Rd.Fn false P w K mg base CX0 2 "product_in" (spProdIn K)) (c_coefficients_of : Rd.Fn false P w K mg base CX0 3 "coefficients_of" (spCoOf K a.C)) (c_made : Rd.Fn false P w K mg base CX0 6 "made" (spMade K a.C)) : FnR P w K mg base CX0 7 a.rm (spPMul K a.C) := by
  refine Rd.FnG.toR (F.fn sc_Polynomial___rmul__ (fun _ => rfl) (fun _ _ _ _ _ _ us hl => match us, hl with | [_, _], _ => rfl) fun cdv A outer s H Q E b hr h => ?_)
  obtain ⟨x, v, l, m⟩ := b
  obtain ⟨⟨dx, p, hx, hS⟩, hv, na, nb, la, lb, k⟩ := h
  dsimp only at hx hS hv na nb la lb k
  refine ⟨_, (pss_one (ps_ret (Rd.pe_fn c_made (hr.mono (by decide)) (by rfl) (pa_cons (Rd.pe_fn c_product_in (hr.mono (by decide)) (by rfl) (pa_cons (pe_fld (pv 0) rfl) (pa_cons (Rd.pe_fn c_coefficients_of (hr.mono (by decide)) (by rfl) (pa_cons (pv 1) pa_nil)) pa_nil))) pa_nil)))), ?_⟩
  try simp only [Rd.noxK, Rd.cxK]
  refine Rd.rd_start [some (V.ref x), some v] rfl ?_
  walk_at "rd"
  refine fld_at (T := T) hx ?_
  walk_at "rd"
  refine Rd.rd_sp (v, m) rfl ⟨hv, fun q H1 s1 h1 => ?_⟩
  walk_at "rd"
  refine Rd.rd_sp (p, q, l, m) rfl ⟨Rd.Same.sqT s1 hS, h1, na, nb, la, lb, fun r H2 s2 h2 => ?_⟩
  walk_at "rd"
  exact Rd.rd_sp (r, prodL l m) rfl ⟨h2, prodL_nn (fun c hc => (na c hc).1) (fun c hc => (nb c hc).1), by show (prodL l m).length ≤ 1000; have := prodL_len l m; omega, fun y H3 s3 h3 => k y H3 ((s1.trans s2).trans s3) h3⟩
theorem ok_ppow (T : PolyC K mg a) (ws : Ints mg) (F : Rd.HasAt K a.pw "__pow__" "Polynomial.__pow__" s_Polynomial___pow__) (c_is_count : Rd.Fn false P w K mg base CX0 2 "is_count" (spIsCount K)) (c_power_in : Rd.Fn false P w K mg base CX0 3 "power_in" (spPowIn K)) (c_made : Rd.Fn false P w K mg base CX0 6 "made" (spMade K a.C)) : FnR P w K mg base CX0 7 a.pw (spPPow K a.C) := by
  refine Rd.FnG.toR (F.fn sc_Polynomial___pow__ (fun _ => rfl) (fun _ _ _ _ _ _ us hl => match us, hl with | [_, _], _ => rfl) fun cdv A outer s H Q E b hr h => ?_)
  obtain ⟨x, l, n⟩ := b
  obtain ⟨⟨dx, p, hx, hS⟩, na, hb, hb1, hn, la, k⟩ := h
  dsimp only at hx hS na hb hb1 hn la k
  refine ⟨_, (pss_cons (ps_if (PW.pt (pw_or (pt_not (pt_val (Rd.pe_fn c_is_count (hr.mono (by decide)) (by rfl) (pa_cons (pv 1) pa_nil)))) (pw_or1 (pt_cmpR op_gt (pv 1) (Rd.pe_gli (by rfl) ws.MAX_POWER) (nomark _))))) (pss_one ps_never) pss_nil)
      (pss_one (ps_ret (Rd.pe_fn c_made (hr.mono (by decide)) (by rfl) (pa_cons (Rd.pe_fn c_power_in (hr.mono (by decide)) (by rfl) (pa_cons (pe_fld (pv 0) rfl) (pa_cons (pv 1) pa_nil))) pa_nil))))), ?_⟩
  try simp only [Rd.noxK, Rd.cxK]
  refine Rd.rd_start [some (V.ref x), some (V.int n)] rfl ?_
  walk_at "rd"
  refine Rd.rd_sp (V.int n) rfl (.inl ⟨n, rfl, ?_⟩)
  rw [decide_eq_true (show (0 : Int) ≤ n by omega)]
  walk_at "rd"
  refine Rd.if_f rfl ?_
  walk_at "rd"
  refine Rd.if_f (decide_eq_false (by omega)) ?_
  walk_at "rd"
  refine fld_at (T := T) hx ?_
  walk_at "rd"
  refine Rd.rd_sp (p, l, n) rfl ⟨hS, na, hb, hb1, hn, la, fun r H2 s2 h2 => ?_⟩
  walk_at "rd"
  refine Rd.rd_sp (r, powL l n) rfl ⟨h2, powL_nn na n, ?_, fun y H3 s3 h3 => k y H3 (s2.trans s3) h3⟩
  have := powL_len l n
  have h5 : n * l.length ≤ 20 * 15 := Nat.mul_le_mul hn la
  show (powL l n).length ≤ 1000
  omega
theorem ok_pat (T : PolyC K mg a) (g : Glob mg) (F : Rd.HasAt K a.at_ "at" "Polynomial.at" s_Polynomial_at) (c_inner_in : Rd.Fn false P w K mg base CX0 3 "inner_in" (spInnIn K)) (c_made : Rd.Fn false P w K mg base CX0 6 "made" (spMade K a.C)) : FnR P w K mg base CX0 7 a.at_ (spPAt K a.C) := by
  refine Rd.FnG.toR (F.fn sc_Polynomial_at (fun _ => rfl) (fun _ _ _ _ _ _ us hl => match us, hl with | [_, _], _ => rfl) fun cdv A outer s H Q E b hr h => ?_)
  obtain ⟨x, y, l, m⟩ := b
  obtain ⟨hx, hy, na, nb, hb, hb1, ll, lb, k⟩ := h
  dsimp only at hx hy na nb hb hb1 ll lb k
  refine ⟨_, (pss_cons (ps_if (pt_not (pt_val (pe_callB Rd.c_isi (by rfl) g.isinstance (by decide +kernel) (pa_cons (pv 1) (pa_cons (Rd.pe_glr (by rfl) T.mgC) pa_nil))))) (pss_one ps_never) pss_nil)
      (pss_one (ps_ret (Rd.pe_fn c_made (hr.mono (by decide)) (by rfl) (pa_cons (Rd.pe_fn c_inner_in (hr.mono (by decide)) (by rfl) (pa_cons (pe_fld (pv 0) rfl) (pa_cons (pe_fld (pv 1) rfl) pa_nil))) pa_nil))))), ?_⟩
  try simp only [Rd.noxK, Rd.cxK]
  refine Rd.rd_start [some (V.ref x), some (V.ref y)] rfl ?_
  walk_at "rd"
  refine Rd.rd_isiC (T.ty hy) T.i1 ?_
  obtain ⟨dx, p, hx, hS⟩ := hx
  obtain ⟨dy, q, hy, hS2⟩ := hy
  walk_at "rd"
  refine Rd.if_f rfl ?_
  walk_at "rd"
  refine fld_at (T := T) hx ?_
  walk_at "rd"
  refine fld_at (T := T) hy ?_
  walk_at "rd"
  refine Rd.rd_sp (p, q, l, m) rfl ⟨hS, hS2, na, nb, hb, hb1, ll, lb, fun r H2 s2 h2 => ?_⟩
  walk_at "rd"
  refine Rd.rd_sp (r, innL m l) rfl ⟨h2, innL_nn nb na, ?_, fun z H3 s3 h3 => k z H3 (s2.trans s3) h3⟩
  have := innL_len m l
  show (innL m l).length ≤ 1000
  omega
theorem eqv_ints : ∀ (l m : List Int), PyData.eqv (.tuple (l.map PyData.int)) (.tuple (m.map PyData.int)) = decide (l = m)
  | [], [] => rfl
  | [], _ :: _ => rfl
  | _ :: _, [] => rfl
  | x :: l, y :: m => by
    have ih := eqv_ints l m
    have e : PyData.eqv (.tuple ((x :: l).map PyData.int)) (.tuple ((y :: m).map PyData.int)) = ((x == y) && PyData.eqv (.tuple (l.map PyData.int)) (.tuple (m.map PyData.int))) := rfl
    rw [e, ih]
    by_cases h1 : x = y <;> by_cases h2 : l = m <;> simp [h1, h2]
theorem ok_peq (T : PolyC K mg a) (g : Glob mg) (F : Rd.HasAt K a.eq "__eq__" "Polynomial.__eq__" s_Polynomial___eq__) : FnR P w K mg base CX0 1 a.eq (spPEq K a.C) := by
  refine Rd.FnG.toR (F.fn sc_Polynomial___eq__ (fun _ => rfl) (fun _ _ _ _ _ _ us hl => match us, hl with | [_, _], _ => rfl) fun cdv A outer s H Q E b hr h => ?_)
  obtain ⟨x, y, l, m⟩ := b
  obtain ⟨hx, hy, k⟩ := h
  dsimp only at hx hy k
  refine ⟨_, (pss_one (ps_ret (pe_and (pe_callB Rd.c_isi (by rfl) g.isinstance (by decide +kernel) (pa_cons (pv 1) (pa_cons (Rd.pe_glr (by rfl) T.mgC) pa_nil))) (pe_one (pe_cmpR (op_eqD hr.units) (pe_fld (pv 0) rfl) (pe_fld (pv 1) rfl) (nomark _)))))), ?_⟩
  try simp only [Rd.noxK, Rd.cxK]
  refine Rd.rd_start [some (V.ref x), some (V.ref y)] rfl ?_
  walk_at "rd"
  refine Rd.rd_isiC (T.ty hy) T.i1 ?_
  obtain ⟨dx, p, hx, hS⟩ := hx
  obtain ⟨dy, q, hy, hS2⟩ := hy
  walk_at "rd"
  refine Rd.if_t rfl ?_
  walk_at "rd"
  refine fld_at (T := T) hx ?_
  walk_at "rd"
  refine fld_at (T := T) hy ?_
  refine Rd.rd_eqD (.tup hS (Rd.dpI l)) (.tup hS2 (Rd.dpI m)) (Rd.shTI l) (Rd.shTI m) ?_
  rw [eqv_ints]
  exact k
end
end M
set_option Elab.async false
set_option linter.all false
set_option maxRecDepth 100000
set_option maxHeartbeats 4000000
namespace M
open PySem L2
local macro_rules | `(tactic| walk_at "rdc") => `(tactic| first | exact Or.inl ⟨by decide, by decide⟩ | exact Or.inr ⟨by decide, by decide⟩ | exact ⟨by decide, by decide, by decide⟩ | exact ⟨by decide, by decide⟩ | decide | omega | assumption | (refine Or.inl ⟨?_, ?_⟩ <;> omega) | (refine Or.inr ⟨?_, ?_⟩ <;> omega) | (refine ⟨?_, ?_⟩ <;> omega))
local macro_rules | `(tactic| walk_at "rd1") => `(tactic| with_reducible first
  | refine Rd.rd_seq ?_ | refine Rd.rd_asg ?_ | refine Rd.rd_op ?_ | (refine' Rd.rd_var ?vh ?_; (case vh => with_unfolding_all rfl)) | refine Rd.rd_c ?_ | refine Rd.rd_I0 ?_ | refine Rd.rd_name0 ?_ | refine Rd.rd_nameS ?_ | refine Rd.rd_fn ?_
  | refine Rd.rd_cb ?_ | refine Rd.rd_cons ?_ | refine Rd.rd_nil ?_ | refine Rd.rd_int ?_ | refine Rd.rd_intB ?_ | refine Rd.rd_abs ?_ | refine Rd.rd_max2 ?_ | refine Rd.rd_min2 ?_
  | refine Rd.rd_call ?_ | refine Rd.rd_ifE ?_ | refine Rd.rd_test ?_ | refine Rd.rd_tB ?_ | refine Rd.rd_blV ?_ | refine Rd.rd_and ?_ | refine Rd.rd_or ?_ | refine Rd.rd_not ?_
  | refine Rd.rd_andV ?_ | refine Rd.rd_orV ?_ | refine Rd.rd_notV ?_ | refine Rd.rd_next ?_ | refine Rd.rd_ret ?_ | refine Rd.rd_drop ?_ | refine Rd.rd_ifS ?_ | refine Rd.rd_nx ?_ | refine Rd.rd_rt ?_ | refine Rd.rd_tMatch ?_ | refine Rd.rd_tCO ?_ | refine Rd.rd_tRevL ?_ | refine Rd.rd_tStar ?_ | refine Rd.rd_joined ?_ | refine Rd.rd_js1 ?_ | refine Rd.rd_js0 ?_ | refine Rd.rd_fmt ?_ | refine Rd.rd_propR ?_ | refine Rd.rd_iZipA ?_ | refine Rd.rd_iEnumT ?_ | refine Rd.rd_iOwn ?_ | (refine' Rd.rd_IET ?ln ?_; (case ln => with_unfolding_all walk_at "at")) | refine Rd.rd_chain ?_ | refine Rd.rd_tPar ?_ | refine Rd.rd_par ?_ | refine Rd.rd_sl ?_ | refine Rd.rd_noPart ?_ | refine Rd.rd_part ?_ | refine Rd.rd_intV ?_ | refine Rd.rd_lc ?_ | (refine' Rd.rd_aug ?vh ?_; (case vh => with_unfolding_all rfl)) | refine Rd.rd_ipI ?_ | refine Rd.rd_for ?_ | (refine' Rd.rd_IT ?ln ?_; (case ln => with_unfolding_all walk_at "at")) | (refine' Rd.rd_IL ?ln ?_; (case ln => with_unfolding_all walk_at "at")) | refine Rd.rd_iTup ?_ | refine Rd.rd_iList ?_ | refine Rd.rd_iRng1 ?_ | refine Rd.rd_iRng2 ?_ | refine Rd.rd_isi (Rd.isi_int Rd.kk_int_int) ?_ | refine Rd.rd_isi (Rd.isi_int Rd.kk_int_bool) ?_ | refine Rd.rd_dget ?_ | refine Rd.rd_din ?_ | refine Rd.rd_dnotin ?_ | refine Rd.rd_dput ?_ | refine Rd.rd_dc ?_ | refine Rd.rd_lc2 ?_ | refine Rd.rd_ltS ?_ | refine Rd.rd_inSg ?_ | refine Rd.rd_iStr ?_ | refine Rd.rd_IS ?_ | refine Rd.rd_prC ?_ | refine Rd.rd_prN ?_ | refine Rd.rd_methR ?_ | refine Rd.rd_cmeth ?_ | refine Rd.rd_fldS ?_ | refine Rd.rd_fld ?_ | (refine' Rd.rd_mkVS ?vh ?_; (case vh => with_unfolding_all rfl)) | (refine' Rd.rd_starT ?ln ?_; (case ln => with_unfolding_all walk_at "at")) | refine Rd.rd_iEnum ?_ | refine Rd.rd_iZip ?_ | (refine' Rd.rd_IE ?ln ?_; (case ln => with_unfolding_all walk_at "at")) | (refine' Rd.rd_IZ ?ln ?lm ?_; (case ln => with_unfolding_all walk_at "at"); (case lm => with_unfolding_all walk_at "at")) | (refine' Rd.rd_gTup ?ln ?lk ?_; (case ln => with_unfolding_all walk_at "at"); (case lk => with_unfolding_all rfl)) | refine Rd.rd_gCons ?_ | refine Rd.rd_gNil ?_ | refine Rd.rd_m1 ?_ | refine Rd.rd_strV ?_ | refine Rd.rd_tXiM ?_ | refine Rd.rd_tXiB ?_ | refine Rd.rd_tXiS ?_ | refine Rd.rd_bm ?_ | refine Rd.rd_bm0 ?_ | refine Rd.rd_isN ?_ | refine Rd.rd_notN ?_ | refine Rd.rd_sub ?_ | refine Rd.rd_un ?_ | refine Rd.rd_U ?_
  | (refine' Rd.rd_eq ?sc ?_; (case sc => with_unfolding_all rfl)) | (refine' Rd.rd_ne ?sc ?_; (case sc => with_unfolding_all rfl))
  | (refine' Rd.rd_I ?cc ?_; (case cc => with_unfolding_all walk_at "rdc"))
  | (refine' Rd.rd_lenL ?ln ?_; (case ln => with_unfolding_all walk_at "at")) | (refine' Rd.rd_lenT ?ln ?_; (case ln => with_unfolding_all walk_at "at"))
  | (refine' Rd.rd_ixL ?ln ?ia ?_; (case ln => with_unfolding_all walk_at "at"); (case ia => with_unfolding_all first | exact Rd.at0 | exact Rd.at1 | exact Rd.at2 | exact Rd.at3 | exact Rd.at4 | rfl)) | (refine' Rd.rd_ixT ?ln ?ia ?_; (case ln => with_unfolding_all walk_at "at"); (case ia => with_unfolding_all first | exact Rd.at0 | exact Rd.at1 | exact Rd.at2 | exact Rd.at3 | exact Rd.at4 | rfl)))
local macro_rules | `(tactic| walk_at "at") => `(tactic| first | assumption | (apply SqL.of; assumption) | (apply SqT.of; assumption) | (apply SqL.of; exact upd_same) | (apply SqT.of; exact upd_same))
local macro_rules | `(tactic| walk_at "rd") => `(tactic| repeat walk_at "rd1")
/-! ### texts -/
abbrev s_figures_of : Stmt := top 9
theorem sc_figures_of : FnScope ["number", "pieces"] ["number"] (defScope s_figures_of) := ⟨rfl, rfl, rfl, by decide +kernel, rfl, by decide +kernel, by decide +kernel⟩
abbrev s_term_text : Stmt := top 23
theorem sc_term_text : FnScope ["one", "power", "name"] ["one", "power"] (defScope s_term_text) := ⟨rfl, rfl, rfl, by decide +kernel, rfl, by decide +kernel, by decide +kernel⟩
abbrev s_Polynomial___str__ : Stmt := inClass (top 24) 16
theorem sc_Polynomial___str__ : FnScope ["self", "some", "terms", "power"] ["self"] (defScope s_Polynomial___str__) := ⟨rfl, rfl, rfl, by decide +kernel, rfl, by decide +kernel, by decide +kernel⟩
def figT (c : Int) : Str := Txt.join "" [Str.ofString (toString c)]
def nameT (k : Nat) : Str := if k = 1 then "n" else (Str.empty ++ ("n^" : Str)) ++ Str.ofString (toString (k : Int))
def termT (c : Int) (k : Nat) : Str := if k = 0 then figT c else if c = 1 then nameT k else ((Str.empty ++ figT c) ++ (" " : Str)) ++ nameT k
def spFig : Sp := Rd.mkSp (fun (c : Int) => [.int c]) fun c H Q _ => 0 ≤ c ∧ c < 10 ^ 60 ∧ ∀ H', Same H H' → Q (.str (figT c)) H'
def spTerm : Sp := Rd.mkSp (fun (a : Int × Nat) => [.int a.1, .int a.2]) fun a H Q _ => 0 ≤ a.1 ∧ a.1 < 10 ^ 60 ∧ a.2 ≤ 1000 ∧ ∀ H', Same H H' → Q (.str (termT a.1 a.2)) H'
def termsT (ns : List Int) : List Str := ((List.range ns.length).filter fun i => decide (0 < ns.getD i 0)).map fun i => termT (ns.getD i 0) i
def polyT (ns : List Int) : Str := if termsT ns = [] then "0" else Txt.join " + " (termsT ns).reverse
def spPStr (K : PySem.W.Frag) (C : Addr) : Sp := Rd.mkSp (fun (a : Addr × List Int) => [.ref a.1]) fun a H Q _ => PolyAt K C H a.1 a.2 ∧ (∀ c ∈ a.2, 0 ≤ c ∧ c < 10 ^ 60) ∧ a.2.length ≤ 100 ∧ ((termsT a.2).reverse.map (·.length)).sum + (termsT a.2).reverse.length * 3 ≤ 16777216 ∧ SeqAt.shaped (.list ((termsT a.2).map PyData.str)) = true ∧ ∀ H', Same H H' → Q (.str (polyT a.2)) H'
section
variable {gd : Bool} {P : Program} {w : World} {K : PySem.W.Frag} {mg : Str → Option Value} {base : Heap} {a : Ads}
theorem log_small {c : Int} (h0 : 0 ≤ c) (h : c < 10 ^ 60) : c.natAbs.log2 < 250 := by
  by_cases hz : c.natAbs = 0
  · rw [hz]; decide
  · refine (Nat.log2_lt hz).mpr ?_
    have : c.natAbs < 10 ^ 60 := by
      have e : ((10 ^ 60 : Nat) : Int) = (10 : Int) ^ 60 := by decide
      omega
    exact Nat.lt_trans this (by decide)
theorem len_small {c : Int} (h0 : 0 ≤ c) (h : c < 10 ^ 60) : (Str.ofString (toString c)).length ≤ 300 := by
  have e := int_text_length_le (k := 250) (by decide) (log_small h0 h)
  rw [PySem.ofString_length]
  omega
theorem str_app (x y : Str) : (x ++ y).length = x.length + y.length := by
  show (x.cps ++ y.cps).size = x.cps.size + y.cps.size
  exact Array.size_append
theorem ok_figures_of (F : Rd.Has K mg "figures_of" s_figures_of) (g : Glob mg) (ws : Ints mg) : Rd.Fn gd P w K mg base CX0 1 "figures_of" spFig := by
  refine F.fn sc_figures_of (fun _ => rfl) (fun _ _ _ _ _ _ us hl => match us, hl with | [_], _ => rfl) fun f cdv A outer s H Q E c hr h => ?_
  obtain ⟨h0, h1, k⟩ := h
  refine ⟨_, (pss_cons (ps_set (i := 1) sc_figures_of.nd rfl (Or.inl rfl) (Rd.pe_lst pa_nil))
      (pss_cons (ps_while PassesOwn.never (pt_cmpR op_ge (pv 0) (Rd.pe_gli (by rfl) ws.LONG) (nomark _)) (pss_cons ps_never
      (pss_one (ps_set (i := 0) sc_figures_of.nd rfl (Or.inl rfl) (pe_op op_fdiv (pv 0) (Rd.pe_gli (by rfl) ws.LONG))))))
      (pss_one (ps_ret (Rd.pe_join pe_str (Rd.pe_lst (pa_cons (pe_callTy Rd.c_strI (by rfl) g.str (by decide +kernel) (pa_cons (pv 0) pa_nil)) (StX.pa_star (pe_revL (pv 1)) pa_nil)))))))), ?_⟩
  try simp only [Rd.noxK, Rd.cxK]
  refine Rd.rd_start [some (V.int c), none] rfl ?_
  walk_at "rd"
  refine Rd.rd_mkLst (by decide) fun p1 H1 n1 s1 e1 => ?_
  walk_at "rd"
  refine Rd.rd_while (fun m σ H' => H' = H1 ∧ σ = [some (V.int c), some (V.ref p1)]) 0 ⟨rfl, rfl⟩ ?_
  rintro m σ H' ⟨rfl, rfl⟩
  walk_at "rd"
  refine Rd.if_f (decide_eq_false (by omega)) ?_
  walk_at "rd"
  refine Rd.rd_strI (Nat.lt_trans (log_small h0 h1) (by decide)) ?_
  walk_at "rd"
  refine Rd.rd_revL (SqL.of e1) fun p2 H2 n2 s2 e2 => ?_
  refine Rd.rd_starL (SqL.of e2) ?_
  walk_at "rd"
  refine Rd.rd_mkLst (by show 1 ≤ sizeLine; decide) fun p3 H3 n3 s3 e3 => ?_
  refine Rd.rd_joinL (ys := [Str.ofString (toString c)]) (SqL.of e3) ?_ ?_
  · have := len_small h0 h1
    simp only [List.map_cons, List.map_nil, List.sum_cons, List.sum_nil, List.length_cons, List.length_nil]
    rw [show (Str.ofString "").length = 0 from rfl]
    omega
  · walk_at "rd"
    exact k H3 ((s1.trans s2).trans s3)
theorem fig_len {c : Int} (h0 : 0 ≤ c) (h : c < 10 ^ 60) : (figT c).length ≤ 300 := by
  have e : figT c = Str.ofString (toString c) := by
    unfold figT
    rfl
  rw [e]
  exact len_small h0 h
theorem name_len {k : Nat} (h : k ≤ 1000) : (nameT k).length ≤ 400 := by
  unfold nameT
  split
  · decide +kernel
  · have big : (1000 : Int) < 10 ^ 60 := by decide
    have := len_small (c := (k : Int)) (by omega) (by omega)
    rw [str_app, str_app]
    have e1 : Str.empty.length = 0 := rfl
    have e2 : ("n^" : Str).length = 2 := by decide +kernel
    omega
theorem ok_term_text (F : Rd.Has K mg "term_text" s_term_text) (g : Glob mg) (c_figures_of : Rd.Fn gd P w K mg base CX0 1 "figures_of" spFig) : Rd.Fn gd P w K mg base CX0 2 "term_text" spTerm := by
  refine F.fn sc_term_text (fun _ => rfl) (fun _ _ _ _ _ _ us hl => match us, hl with | [_, _], _ => rfl) fun f cdv A outer s H Q E b hr h => ?_
  obtain ⟨c, n⟩ := b
  obtain ⟨h0, h1, hn, k⟩ := h
  dsimp only at h0 h1 hn k
  refine ⟨_, (pss_cons (ps_if (pt_cmpR op_eq (pv 1) pe_int (nomark _)) (pss_one (ps_ret (Rd.pe_fn c_figures_of (hr.mono (by decide)) (by rfl) (pa_cons (pv 0) pa_nil)))) pss_nil)
      (C8.pss_cut (ps_set (i := 2) sc_term_text.nd rfl (Or.inl rfl) (pe_ifExp (pt_cmpR op_eq (pv 1) pe_int (nomark _)) pe_str (Rd.pe_js (PJ.cons pe_str (PJ.cons (pe_fmt (pv 1)) PJ.nil)))))
      (pss_one (ps_ret (pe_ifExp (pt_cmpR op_eq (pv 0) pe_int (nomark _)) (pv 2) (Rd.pe_js (PJ.cons (pe_fmt (Rd.pe_fn c_figures_of (hr.mono (by decide)) (by rfl) (pa_cons (pv 0) pa_nil))) (PJ.cons pe_str (PJ.cons (pe_fmt (pv 2)) PJ.nil))))))))), ?_⟩
  try simp only [Rd.noxK, Rd.cxK]
  refine Rd.rd_start [some (V.int c), some (V.int n), none] rfl ?_
  unfold termT at k
  walk_at "rd"
  refine ite2 (fun hc => ?_) (fun hc => ?_)
  · have hc1 : n = 0 := by
      have := of_decide_eq_true hc
      injection this with this
      omega
    rw [if_pos hc1] at k
    walk_at "rd"
    refine Rd.rd_sp c rfl ⟨h0, h1, fun H1 s1 => ?_⟩
    walk_at "rd"
    exact k H1 s1
  · have hc1 : ¬ n = 0 := fun z => hc (decide_eq_true (by rw [z]; rfl))
    rw [if_neg hc1] at k
    walk_at "rd"
    have hnl := name_len hn
    refine ⟨fun σ' H' => H' = H ∧ σ' = [some (V.int c), some (V.int n), some (V.str (nameT n))], ?_, ?_⟩
    · walk_at "rd"
      refine ite2 (fun hd => ?_) (fun hd => ?_)
      · have hd1 : n = 1 := by
          have := of_decide_eq_true hd
          injection this with this
          omega
        walk_at "rd"
        exact ⟨rfl, by unfold nameT; rw [if_pos hd1]⟩
      · have hd1 : ¬ n = 1 := fun z => hd (decide_eq_true (by rw [z]; rfl))
        have big : (1000 : Int) < 10 ^ 60 := by decide
        walk_at "rd"
        refine Rd.rd_js ?_ ?_
        · decide +kernel
        walk_at "rd"
        refine Rd.rd_fmtI (Nat.lt_trans (log_small (c := (n : Int)) (by omega) (by omega)) (by decide)) ?_
        have en : (Str.empty ++ ("n^" : Str)) ++ Str.ofString (toString (n : Int)) = nameT n := by unfold nameT; rw [if_neg hd1]
        refine Rd.rd_js ?_ ?_
        · rw [en]
          exact Nat.le_trans hnl (by decide)
        · rw [en]
          walk_at "rd"
          exact ⟨rfl, rfl⟩
    · rintro σ' H' ⟨rfl, rfl⟩
      walk_at "rd"
      refine ite2 (fun hd => ?_) (fun hd => ?_)
      · have hd1 : c = 1 := by
          have := of_decide_eq_true hd
          injection this
        rw [if_pos hd1] at k
        walk_at "rd"
        exact k H' (Same.refl H')
      · have hd1 : ¬ c = 1 := fun z => hd (decide_eq_true (by rw [z]))
        rw [if_neg hd1] at k
        walk_at "rd"
        have hf := fig_len h0 h1
        refine Rd.rd_sp c rfl ⟨h0, h1, fun H1 s1 => ?_⟩
        refine Rd.rd_fmtS (Nat.le_trans hf (by decide)) ?_
        have l1 : (Str.empty ++ figT c).length ≤ 300 := by rw [str_app]; have e1 : Str.empty.length = 0 := rfl; omega
        have l2 : (Str.empty ++ figT c ++ (" " : Str)).length ≤ 301 := by rw [str_app]; have e1 : (" " : Str).length = 1 := by decide +kernel
                                                                          omega
        refine Rd.rd_js (Nat.le_trans l1 (by decide)) ?_
        walk_at "rd"
        refine Rd.rd_js (Nat.le_trans l2 (by decide)) ?_
        walk_at "rd"
        refine Rd.rd_fmtS (Nat.le_trans hnl (by decide)) ?_
        refine Rd.rd_js (by rw [str_app]; exact Nat.le_trans (Nat.add_le_add l2 hnl) (by decide)) ?_
        walk_at "rd"
        exact k H1 s1
theorem dp_strs (H : Hp) : ∀ l : List Str, DpAll K H (l.map V.str) (l.map PyData.str)
  | [] => .nil
  | x :: l => .cons (.str x) (dp_strs H l)
theorem eqv_nilS (l : List Str) : PyData.eqv (.list (l.map PyData.str)) (.list []) = decide (l = []) := by
  cases l with
  | nil => rfl
  | cons x l =>
    rw [decide_eq_false (List.cons_ne_nil x l)]
    rfl
theorem ok_pstr (T : PolyC K mg a) (g : Glob mg) (F : Rd.HasAt K a.st "__str__" "Polynomial.__str__" s_Polynomial___str__) (c_term_text : Rd.Fn false P w K mg base CX0 2 "term_text" spTerm) : FnR P w K mg base CX0 3 a.st (spPStr K a.C) := by
  refine Rd.FnG.toR (F.fn sc_Polynomial___str__ (fun _ => rfl) (fun _ _ _ _ _ _ us hl => match us, hl with | [_], _ => rfl) fun cdv A outer s H Q E b hr h => ?_)
  obtain ⟨x, ns⟩ := b
  obtain ⟨⟨dx, p, hx, hS⟩, hc, hl, hsz, hsh, k⟩ := h
  dsimp only at hx hS hc hl hsz hsh k
  have hS' : SqT K H p (ns.map V.int) := hS
  refine ⟨_, (pss_cons (ps_set (i := 1) sc_Polynomial___str__.nd rfl (Or.inr rfl) (pe_fld (pv 0) rfl))
      (pss_cons (ps_setLc (i := 2) (own := [("power", 3)]) (by rfl) sc_Polynomial___str__.nd rfl rfl (sw_true rfl rfl rfl (by decide +kernel)) (pi_range1 (by rfl) g.range (pa_cons (pe_callB Rd.c_len (by rfl) g.len (by decide +kernel) (pa_cons (pv 1) pa_nil)) pa_nil)) (blkOk_by (own := [("power", 3)]) (N := ["self", "some", "terms", "power"]) (sc := defScope s_Polynomial___str__) (by decide +kernel)) (fun _ _ _ _ _ => (pg_name (i := 3) sc_Polynomial___str__.nd rfl (Or.inl rfl))) (fun _ _ _ _ _ => (pts_one (pt_cmpR op_gt (pe_ix (Rd.ix_tupK (K := K) (by rfl)) (pv 1) (pv 3) (fun _ _ => rfl)) pe_int (nomark _)))) (fun _ _ _ _ _ => (Rd.pe_fn c_term_text (hr.mono (by decide)) (by rfl) (pa_cons (pe_ix (Rd.ix_tupK (K := K) (by rfl)) (pv 1) (pv 3) (fun _ _ => rfl)) (pa_cons (pv 3) pa_nil)))))
      (pss_cons (ps_if (pt_cmpR (op_eqD hr.units) (pv 2) (Rd.pe_lst pa_nil) (nomark _)) (pss_one (ps_ret pe_str)) pss_nil)
      (pss_one (ps_ret (Rd.pe_join pe_str (pe_revL (pv 2)))))))), ?_⟩
  try simp only [Rd.noxK, Rd.cxK]
  refine Rd.rd_start [some (V.ref x), none, none, none] rfl ?_
  walk_at "rd"
  refine fld_at (T := T) hx ?_
  walk_at "rd"
  refine Rd.rd_IR1 (by rw [List.length_map]; omega) (by rw [List.length_map]; omega) ?_
  rw [Int.toNat_natCast, List.length_map]
  refine Rd.lc_rngP (fun i => decide (0 < ns.getD i 0)) (fun i => V.str (termT (ns.getD i 0) i)) (by omega) (fun i H1 N M hi s1 hN hM => ?_) (fun D H1 hD s1 h1 => ?_)
  · have hS1 := Rd.Same.sqT s1 hS'
    have hci := hc (ns.getD i 0) (by
      have e : ns.getD i 0 = ns[i] := by rw [List.getD_eq_getElem?_getD, List.getElem?_eq_getElem hi]; rfl
      rw [e]
      exact List.getElem_mem hi)
    rw [Int.zero_add]
    refine Rd.rd_start' [some (V.ref x), some (V.ref p), none, none] rfl ?_
    walk_at "rd"
    refine ⟨rfl, ?_⟩
    walk_at "rd"
    refine at_int hS1 hi ?_
    walk_at "rd"
    refine ite2 (fun hd => ?_) (fun hd => ?_)
    · walk_at "rd"
      refine at_int hS1 hi ?_
      walk_at "rd"
      exact Rd.rd_sp (ns.getD i 0, i) rfl ⟨hci.1, hci.2, by show i ≤ 1000; omega, fun H2 s2 => hM hd H2 s2⟩
    · exact hN (by simpa using hd) H1 (Same.refl H1)
  · have e1 : H1 D = some (.lst ((termsT ns).map V.str)) := by
      rw [h1]
      unfold termsT
      rw [List.map_map]
      rfl
    walk_at "rd"
    refine Rd.rd_mkLst (by decide) fun p2 H2 n2 s2 h2 => ?_
    refine Rd.rd_eqD (.lst (SqL.of (s2 _ _ e1)) (dp_strs H2 _)) (.lst (SqL.of h2) .nil) hsh rfl ?_
    rw [eqv_nilS]
    walk_at "rd"
    unfold polyT at k
    refine ite2 (fun hd => ?_) (fun hd => ?_)
    · rw [if_pos (of_decide_eq_true hd)] at k
      walk_at "rd"
      exact k H2 (s1.trans s2)
    · rw [if_neg (fun z => hd (decide_eq_true z))] at k
      walk_at "rd"
      refine Rd.rd_revL (SqL.of (s2 _ _ e1)) fun p3 H3 n3 s3 h3 => ?_
      rw [← List.map_reverse] at h3
      refine Rd.rd_joinL (SqL.of h3) (by rw [show (Str.ofString " + ").length = 3 by decide +kernel]; exact hsz) ?_
      walk_at "rd"
      exact k H3 ((s1.trans s2).trans s3)
end
end M
set_option Elab.async false
set_option linter.all false
set_option maxRecDepth 100000
set_option maxHeartbeats 4000000
namespace M
open PySem L2
local macro_rules | `(tactic| walk_at "rdc") => `(tactic| first | exact Or.inl ⟨by decide, by decide⟩ | exact Or.inr ⟨by decide, by decide⟩ | exact ⟨by decide, by decide, by decide⟩ | exact ⟨by decide, by decide⟩ | decide | omega | assumption | (refine Or.inl ⟨?_, ?_⟩ <;> omega) | (refine Or.inr ⟨?_, ?_⟩ <;> omega) | (refine ⟨?_, ?_⟩ <;> omega))
local macro_rules | `(tactic| walk_at "rd1") => `(tactic| with_reducible first
  | refine Rd.rd_seq ?_ | refine Rd.rd_asg ?_ | refine Rd.rd_op ?_ | (refine' Rd.rd_var ?vh ?_; (case vh => with_unfolding_all rfl)) | refine Rd.rd_c ?_ | refine Rd.rd_I0 ?_ | refine Rd.rd_name0 ?_ | refine Rd.rd_nameS ?_ | refine Rd.rd_fn ?_
  | refine Rd.rd_cb ?_ | refine Rd.rd_cons ?_ | refine Rd.rd_nil ?_ | refine Rd.rd_int ?_ | refine Rd.rd_intB ?_ | refine Rd.rd_abs ?_ | refine Rd.rd_max2 ?_ | refine Rd.rd_min2 ?_
  | refine Rd.rd_call ?_ | refine Rd.rd_ifE ?_ | refine Rd.rd_test ?_ | refine Rd.rd_tB ?_ | refine Rd.rd_blV ?_ | refine Rd.rd_and ?_ | refine Rd.rd_or ?_ | refine Rd.rd_not ?_
  | refine Rd.rd_andV ?_ | refine Rd.rd_orV ?_ | refine Rd.rd_notV ?_ | refine Rd.rd_next ?_ | refine Rd.rd_ret ?_ | refine Rd.rd_drop ?_ | refine Rd.rd_ifS ?_ | refine Rd.rd_nx ?_ | refine Rd.rd_rt ?_ | refine Rd.rd_tMatch ?_ | refine Rd.rd_tCO ?_ | refine Rd.rd_tRevL ?_ | refine Rd.rd_tStar ?_ | refine Rd.rd_joined ?_ | refine Rd.rd_js1 ?_ | refine Rd.rd_js0 ?_ | refine Rd.rd_fmt ?_ | refine Rd.rd_propR ?_ | refine Rd.rd_iZipA ?_ | refine Rd.rd_iEnumT ?_ | refine Rd.rd_iOwn ?_ | (refine' Rd.rd_IET ?ln ?_; (case ln => with_unfolding_all walk_at "at")) | refine Rd.rd_chain ?_ | refine Rd.rd_tPar ?_ | refine Rd.rd_par ?_ | refine Rd.rd_sl ?_ | refine Rd.rd_noPart ?_ | refine Rd.rd_part ?_ | refine Rd.rd_intV ?_ | refine Rd.rd_lc ?_ | (refine' Rd.rd_aug ?vh ?_; (case vh => with_unfolding_all rfl)) | refine Rd.rd_ipI ?_ | refine Rd.rd_for ?_ | (refine' Rd.rd_IT ?ln ?_; (case ln => with_unfolding_all walk_at "at")) | (refine' Rd.rd_IL ?ln ?_; (case ln => with_unfolding_all walk_at "at")) | refine Rd.rd_iTup ?_ | refine Rd.rd_iList ?_ | refine Rd.rd_iRng1 ?_ | refine Rd.rd_iRng2 ?_ | refine Rd.rd_isi (Rd.isi_int Rd.kk_int_int) ?_ | refine Rd.rd_isi (Rd.isi_int Rd.kk_int_bool) ?_ | refine Rd.rd_dget ?_ | refine Rd.rd_din ?_ | refine Rd.rd_dnotin ?_ | refine Rd.rd_dput ?_ | refine Rd.rd_dc ?_ | refine Rd.rd_lc2 ?_ | refine Rd.rd_ltS ?_ | refine Rd.rd_inSg ?_ | refine Rd.rd_iStr ?_ | refine Rd.rd_IS ?_ | refine Rd.rd_prC ?_ | refine Rd.rd_prN ?_ | refine Rd.rd_methR ?_ | refine Rd.rd_cmeth ?_ | refine Rd.rd_fldS ?_ | refine Rd.rd_fld ?_ | (refine' Rd.rd_mkVS ?vh ?_; (case vh => with_unfolding_all rfl)) | (refine' Rd.rd_starT ?ln ?_; (case ln => with_unfolding_all walk_at "at")) | refine Rd.rd_iEnum ?_ | refine Rd.rd_iZip ?_ | (refine' Rd.rd_IE ?ln ?_; (case ln => with_unfolding_all walk_at "at")) | (refine' Rd.rd_IZ ?ln ?lm ?_; (case ln => with_unfolding_all walk_at "at"); (case lm => with_unfolding_all walk_at "at")) | (refine' Rd.rd_gTup ?ln ?lk ?_; (case ln => with_unfolding_all walk_at "at"); (case lk => with_unfolding_all rfl)) | refine Rd.rd_gCons ?_ | refine Rd.rd_gNil ?_ | refine Rd.rd_m1 ?_ | refine Rd.rd_strV ?_ | refine Rd.rd_tXiM ?_ | refine Rd.rd_tXiB ?_ | refine Rd.rd_tXiS ?_ | refine Rd.rd_bm ?_ | refine Rd.rd_bm0 ?_ | refine Rd.rd_isN ?_ | refine Rd.rd_notN ?_ | refine Rd.rd_sub ?_ | refine Rd.rd_un ?_ | refine Rd.rd_U ?_
  | (refine' Rd.rd_eq ?sc ?_; (case sc => with_unfolding_all rfl)) | (refine' Rd.rd_ne ?sc ?_; (case sc => with_unfolding_all rfl))
  | (refine' Rd.rd_I ?cc ?_; (case cc => with_unfolding_all walk_at "rdc"))
  | (refine' Rd.rd_lenL ?ln ?_; (case ln => with_unfolding_all walk_at "at")) | (refine' Rd.rd_lenT ?ln ?_; (case ln => with_unfolding_all walk_at "at"))
  | (refine' Rd.rd_ixL ?ln ?ia ?_; (case ln => with_unfolding_all walk_at "at"); (case ia => with_unfolding_all first | exact Rd.at0 | exact Rd.at1 | exact Rd.at2 | exact Rd.at3 | exact Rd.at4 | rfl)) | (refine' Rd.rd_ixT ?ln ?ia ?_; (case ln => with_unfolding_all walk_at "at"); (case ia => with_unfolding_all first | exact Rd.at0 | exact Rd.at1 | exact Rd.at2 | exact Rd.at3 | exact Rd.at4 | rfl)))
local macro_rules | `(tactic| walk_at "at") => `(tactic| first | assumption | (apply SqL.of; assumption) | (apply SqT.of; assumption) | (apply SqL.of; exact upd_same) | (apply SqT.of; exact upd_same))
local macro_rules | `(tactic| walk_at "rd") => `(tactic| repeat walk_at "rd1")
/-! ### bounds -/
/-- not great: coefficients from 0 on, at most l of them, their sum below 2 ^ s -/
structure NB (s l : Nat) (r : List Int) : Prop where
  nn : NN r
  len : r.length ≤ l
  bd : ev r 1 < 2 ^ s
theorem NB.mono {s l s' l' : Nat} {r : List Int} (h : NB s l r) (hs : s ≤ s') (hl : l ≤ l') : NB s' l' r := ⟨h.nn, Nat.le_trans h.len hl, Int.lt_of_lt_of_le h.bd (pow2_mono hs)⟩
theorem NB.pos {s l : Nat} {r : List Int} (h : NB s l r) : 0 ≤ ev r 1 := (coef_le h.nn).2
theorem NB.trim {s l : Nat} {r : List Int} (h : NB s l r) : NB s l (trim r) := ⟨trim_nn h.nn, Nat.le_trans (trim_le r) h.len, by rw [ev_trim]; exact h.bd⟩
theorem NB.cb {s l : Nat} {r : List Int} (h : NB s l r) (hs : s ≤ 100000) : Cb r := cb_of h.nn (Int.lt_of_lt_of_le h.bd (pow2_mono hs))
theorem NB.co {s l : Nat} {r : List Int} (h : NB s l r) : Co s r := fun c hc => ⟨h.nn c hc, Int.lt_of_le_of_lt ((coef_le h.nn).1 c hc) h.bd⟩
theorem nb_sum {s l : Nat} {a b : List Int} (ha : NB s l a) (hb : NB s l b) : NB (s + 1) l (sumL a b) := by
  refine ⟨sumL_nn ha.nn hb.nn, by rw [sumL_len]; exact Nat.max_le.mpr ⟨ha.len, hb.len⟩, ?_⟩
  rw [ev_sumL, Int.pow_succ]
  have := ha.bd
  have := hb.bd
  omega
theorem nb_mul {s l s' l' : Nat} {a b : List Int} (ha : NB s l a) (hb : NB s' l' b) : NB (s + s') (l + l') (prodL a b) := by
  refine ⟨prodL_nn ha.nn hb.nn, Nat.le_trans (prodL_len a b) (Nat.add_le_add ha.len hb.len), ?_⟩
  rw [ev_prodL, Int.pow_add]
  calc ev a 1 * ev b 1 ≤ ev a 1 * 2 ^ s' := Int.mul_le_mul_of_nonneg_left (Int.le_of_lt hb.bd) ha.pos
    _ < 2 ^ s * 2 ^ s' := Int.mul_lt_mul_of_pos_right ha.bd (pow2_pos s')
theorem ev_bd {X x : Int} (hX : 1 ≤ X) (h0 : 0 ≤ x) (hx : x ≤ X) : ∀ {a : List Int}, NN a → 0 ≤ ev a x ∧ ev a x ≤ ev a 1 * X ^ a.length
  | [], _ => ⟨Int.le_refl 0, by show (0 : Int) ≤ 0 * _; rw [Int.zero_mul]; exact Int.le_refl 0⟩
  | c :: r, h => by
    have hr : NN r := fun z hz => h z (List.mem_cons_of_mem _ hz)
    obtain ⟨i0, i1⟩ := ev_bd hX h0 hx hr
    have hc := h c List.mem_cons_self
    have hp : (1 : Int) ≤ X ^ (r.length + 1) := by
      have : (0 : Int) < X ^ (r.length + 1) := Int.pow_pos (by omega)
      omega
    have e1 := Int.mul_nonneg i0 h0
    have e2 : ev r x * x ≤ (ev r 1 * X ^ r.length) * X := Int.mul_le_mul i1 hx h0 (by omega)
    have e3 : c * 1 ≤ c * X ^ (r.length + 1) := Int.mul_le_mul_of_nonneg_left hp hc
    have e4 : ev (c :: r) 1 * X ^ (r.length + 1) = ev r 1 * X ^ r.length * X + c * X ^ (r.length + 1) := by
      rw [ev_cons, Int.mul_one, Int.add_mul, Int.pow_succ, Int.mul_assoc]
    refine ⟨by rw [ev_cons]; omega, ?_⟩
    show ev r x * x + c ≤ ev (c :: r) 1 * X ^ (r.length + 1)
    rw [e4]
    omega
theorem ev_lt {s l m : Nat} {a : List Int} {x : Int} (ha : NB s l a) (h0 : 0 ≤ x) (hx : x ≤ 2 ^ m) : 0 ≤ ev a x ∧ ev a x < 2 ^ (s + l * m) := by
  have h1 : (1 : Int) ≤ 2 ^ m := by have := pow2_pos m; omega
  obtain ⟨i0, i1⟩ := ev_bd h1 h0 hx ha.nn
  refine ⟨i0, Int.lt_of_le_of_lt i1 ?_⟩
  have e1 : ((2 : Int) ^ m) ^ a.length = 2 ^ (m * a.length) := Int.pow_mul.symm
  rw [e1, Int.pow_add]
  have e2 : (2 : Int) ^ (m * a.length) ≤ 2 ^ (l * m) := pow2_mono (by rw [Nat.mul_comm]; exact Nat.mul_le_mul_right _ ha.len)
  calc ev a 1 * 2 ^ (m * a.length) ≤ ev a 1 * 2 ^ (l * m) := Int.mul_le_mul_of_nonneg_left e2 ha.pos
    _ < 2 ^ s * 2 ^ (l * m) := Int.mul_lt_mul_of_pos_right ha.bd (pow2_pos _)
theorem nb_inn {s l s' l' : Nat} {a b : List Int} (ha : NB s l a) (hb : NB s' l' b) : NB (s + l * s') (l * (l' + 1)) (innL b a) := by
  refine ⟨innL_nn hb.nn ha.nn, Nat.le_trans (innL_len b a) (Nat.mul_le_mul ha.len (Nat.add_le_add_right hb.len 1)), ?_⟩
  rw [ev_innL]
  exact (ev_lt ha hb.pos (Int.le_of_lt hb.bd)).2
theorem nb_pow {s l : Nat} {a : List Int} (ha : NB s l a) (hs : 0 < s) : ∀ k, NB (1 + k * s) (1 + k * l) (powL a k)
  | 0 => ⟨powL_nn ha.nn 0, by show 1 ≤ _; omega, by show (0 : Int) * 1 + 1 < 2 ^ (1 + 0 * s); rw [Nat.zero_mul]; decide⟩
  | k + 1 => by
    have := nb_mul (nb_pow ha hs k) ha
    exact this.mono (by rw [Nat.add_mul]; omega) (by rw [Nat.add_mul]; omega)
theorem pow_lt {s : Nat} {x : Int} (h0 : 0 ≤ x) (h : x < 2 ^ s) : ∀ j, x ^ j ≤ 2 ^ (s * j)
  | 0 => by rw [Int.pow_zero, Nat.mul_zero]; decide
  | j + 1 => by
    rw [Int.pow_succ, Nat.mul_add, Nat.mul_one, Int.pow_add]
    have h1 := pow_lt h0 h j
    have h2 : 0 ≤ x ^ j := Int.pow_nonneg h0
    exact Int.mul_le_mul h1 (Int.le_of_lt h) h0 (Int.le_of_lt (pow2_pos _))
theorem pow2_lt {m n : Nat} (h : m < n) : (2 : Int) ^ m < 2 ^ n := by
  refine Int.lt_of_lt_of_le ?_ (pow2_mono (show m + 1 ≤ n from h))
  rw [Int.pow_succ]
  have := pow2_pos m
  omega
/-! ### readings of what the law does with polynomials -/
section
variable {K : PySem.W.Frag} {C : Addr} {H : Hp} {Q : VK} {x y : Addr} {a b : List Int} {s l : Nat} {v : V}
theorem PolyAt.ins (h : PolyAt K C H x a) : ∃ dx fs, H x = some (.ins C dx fs) := let ⟨dx, p, h1, _⟩ := h; ⟨dx, _, h1⟩
theorem opv_kind (h : OpV K C H v b) : (∃ y dy gs, v = .ref y ∧ H y = some (.ins C dy gs)) ∨ ∃ i, v = .int i := by
  rcases h with ⟨y, rfl, hy⟩ | ⟨i, rfl, _⟩
  · obtain ⟨dx, fs, e⟩ := hy.ins
    exact .inl ⟨y, dx, fs, rfl, e⟩
  · exact .inr ⟨i, rfl⟩
theorem rd_add (hx : PolyAt K C H x a) (hv : OpV K C H v b) (na : NB s l a) (nb : NB s l b) (hl : l ≤ 400) (q : ∀ z H', Same H H' → PolyAt K C H' z (trim (sumL a b)) → Q (.ref z) H') : Rd.rOwn C (spPAdd K C) E0 (.ref x) v H Q := by
  obtain ⟨dx, fs, e⟩ := hx.ins
  exact ⟨⟨x, dx, fs, rfl, e⟩, opv_kind hv, Rd.rd_sp (x, v, a, b) rfl ⟨hx, hv, na.nn, nb.nn, Nat.le_trans na.len hl, Nat.le_trans nb.len hl, fun z H' s' hz => ⟨⟨z, rfl⟩, q z H' s' hz⟩⟩⟩
theorem rd_radd {i : Int} (hx : PolyAt K C H x a) (hi : 0 ≤ i) (na : NB s l a) (hl : l ≤ 400) (q : ∀ z H', Same H H' → PolyAt K C H' z (trim (sumL a [i])) → Q (.ref z) H') : Rd.rOwnR C (spPAdd K C) E0 (.int i) (.ref x) H Q := by
  obtain ⟨dx, fs, e⟩ := hx.ins
  exact ⟨⟨i, rfl⟩, ⟨x, dx, fs, rfl, e⟩, Rd.rd_sp (x, .int i, a, [i]) rfl ⟨hx, .inr ⟨i, rfl, hi, rfl⟩, na.nn, fun c hc => by rw [List.mem_singleton.mp hc]; exact hi, Nat.le_trans na.len hl, by show 1 ≤ 400; decide, fun z H' s' hz => ⟨⟨z, rfl⟩, q z H' s' hz⟩⟩⟩
theorem rd_mul {s' l' : Nat} (hx : PolyAt K C H x a) (hv : OpV K C H v b) (na : NB s l a) (nb : NB s' l' b) (hl : l ≤ 400 ∧ l' ≤ 400 ∧ s ≤ 100000 ∧ s' ≤ 100000) (q : ∀ z H', Same H H' → PolyAt K C H' z (trim (prodL a b)) → Q (.ref z) H') : Rd.rOwn C (spPMul K C) E0 (.ref x) v H Q := by
  obtain ⟨dx, fs, e⟩ := hx.ins
  exact ⟨⟨x, dx, fs, rfl, e⟩, opv_kind hv, Rd.rd_sp (x, v, a, b) rfl ⟨hx, hv, na.cb hl.2.2.1, nb.cb hl.2.2.2, Nat.le_trans na.len hl.1, Nat.le_trans nb.len hl.2.1, fun z H' s' hz => ⟨⟨z, rfl⟩, q z H' s' hz⟩⟩⟩
theorem nb_num {i : Int} (h0 : 0 ≤ i) (h1 : i < 2 ^ s) : NB s 1 [i] := ⟨fun c hc => by rw [List.mem_singleton.mp hc]; exact h0, by show 1 ≤ 1; decide, by show (0 : Int) * 1 + i < 2 ^ s; omega⟩
theorem rd_rmul {i : Int} (hx : PolyAt K C H x a) (hi : 0 ≤ i ∧ i < 2 ^ 100) (na : NB s l a) (hl : l ≤ 400 ∧ s ≤ 100000) (q : ∀ z H', Same H H' → PolyAt K C H' z (trim (prodL a [i])) → Q (.ref z) H') : Rd.rOwnR C (spPMul K C) E0 (.int i) (.ref x) H Q := by
  obtain ⟨dx, fs, e⟩ := hx.ins
  exact ⟨⟨i, rfl⟩, ⟨x, dx, fs, rfl, e⟩, Rd.rd_sp (x, .int i, a, [i]) rfl ⟨hx, .inr ⟨i, rfl, hi.1, rfl⟩, na.cb hl.2, (nb_num hi.1 hi.2).cb (by decide), Nat.le_trans na.len hl.1, by show 1 ≤ 400; decide, fun z H' s' hz => ⟨⟨z, rfl⟩, q z H' s' hz⟩⟩⟩
theorem rd_ppow {k : Nat} (hx : PolyAt K C H x a) (na : NB s l a) (hk : k ≤ 20) (hl : l ≤ 15 ∧ s * 20 < 100000) (q : ∀ z H', Same H H' → PolyAt K C H' z (trim (powL a k)) → Q (.ref z) H') : Rd.rOwn C (spPPow K C) E0 (.ref x) (.int (k : Nat)) H Q := by
  obtain ⟨dx, fs, e⟩ := hx.ins
  refine ⟨⟨x, dx, fs, rfl, e⟩, .inr ⟨_, rfl⟩, Rd.rd_sp (x, a, k) rfl ⟨hx, na.nn, fun j hj => ?_, Int.lt_of_lt_of_le na.bd (pow2_mono (by omega)), hk, Nat.le_trans na.len hl.1, fun z H' s' hz => ⟨⟨z, rfl⟩, q z H' s' hz⟩⟩⟩
  have h2 : s * j ≤ s * 20 := Nat.mul_le_mul_left _ (Nat.le_trans hj hk)
  exact Int.lt_of_le_of_lt (pow_lt na.pos na.bd j) (pow2_lt (Nat.lt_of_le_of_lt h2 hl.2))
theorem rd_pat {s' l' : Nat} (hx : PolyAt K C H x a) (hy : PolyAt K C H y b) (na : NB s l a) (nb : NB s' l' b) (hl : s + l * s' < 100000 ∧ s' < 100000 ∧ l * (l' + 1) ≤ 300 ∧ l' ≤ 300) (q : ∀ z H', Same H H' → PolyAt K C H' z (trim (innL b a)) → Q (.ref z) H') : spPAt K C [.ref x, .ref y] H Q E0 := by
  refine Rd.rd_sp (x, y, a, b) rfl ⟨hx, hy, na.nn, nb.nn, ?_, Int.lt_of_lt_of_le nb.bd (pow2_mono (by omega)), Nat.le_trans (Nat.mul_le_mul na.len (Nat.add_le_add_right nb.len 1)) hl.2.2.1, Nat.le_trans nb.len hl.2.2.2, q⟩
  have hb := nb.bd
  exact Int.lt_of_lt_of_le (ev_lt na (show 0 ≤ ev b 1 + 1 by have := nb.pos; omega) (show ev b 1 + 1 ≤ 2 ^ s' by omega)).2 (pow2_mono (by omega))
theorem rd_pcall {n : Int} {m : Nat} (hx : PolyAt K C H x a) (na : NB s l a) (h0 : 0 ≤ n) (hn : n < 2 ^ m) (hs : 0 < s) (hm : 0 < m) (hl : s + l * (m + 1) + m ≤ 900000) (q : ∀ H', Same H H' → Q (.int (ev a n)) H') : spPCall K C [.ref x, .int n] H Q E0 := by
  refine Rd.rd_sp (x, a, n) rfl ⟨hx, ⟨s, m, na.co, h0, hn, hs, hm, ?_⟩, q⟩
  have : a.length * (m + 1) ≤ l * (m + 1) := Nat.mul_le_mul_right _ na.len
  show s + a.length * (m + 1) + m ≤ 900000
  omega
theorem rd_peq (hx : PolyAt K C H x a) (hy : PolyAt K C H y b) (q : Q (.bl (decide (a = b))) H) : Rd.rEqO C (spPEq K C) E0 false (.ref x) (.ref y) H Q := by
  obtain ⟨dx, fs, e⟩ := hx.ins
  obtain ⟨dy, gs, e'⟩ := hy.ins
  exact ⟨⟨x, dx, fs, rfl, e⟩, ⟨y, dy, gs, rfl, e'⟩, Rd.rd_sp (x, y, a, b) rfl ⟨hx, hy, _, rfl, by simpa using q⟩⟩
theorem rd_pne (hx : PolyAt K C H x a) (hy : PolyAt K C H y b) (q : Q (.bl (!decide (a = b))) H) : Rd.rEqO C (spPEq K C) E0 true (.ref x) (.ref y) H Q := by
  obtain ⟨dx, fs, e⟩ := hx.ins
  obtain ⟨dy, gs, e'⟩ := hy.ins
  exact ⟨⟨x, dx, fs, rfl, e⟩, ⟨y, dy, gs, rfl, e'⟩, Rd.rd_sp (x, y, a, b) rfl ⟨hx, hy, _, rfl, by simpa using q⟩⟩
theorem rd_pstr (hx : PolyAt K C H x a) (hc : ∀ c ∈ a, 0 ≤ c ∧ c < 10 ^ 60) (hl : a.length ≤ 100) (h1 : ((termsT a).reverse.map (·.length)).sum + (termsT a).reverse.length * 3 ≤ 16777216) (h2 : SeqAt.shaped (.list ((termsT a).map PyData.str)) = true) (q : ∀ H', Same H H' → Q (.str (polyT a)) H') : Rd.rStrO C (spPStr K C) E0 [.ref x] H Q := by
  obtain ⟨dx, fs, e⟩ := hx.ins
  exact ⟨x, dx, fs, rfl, e, Rd.rd_sp (x, a) rfl ⟨hx, hc, hl, h1, h2, fun H' s' => ⟨_, rfl, q H' s'⟩⟩⟩
theorem pm_ {m : Str} {sp : Sp} {E : XK} {t : TA} {σ : L2.St} (hx : PolyAt K C H x a) (hm : ((m == ("own_coefficients" : Str)) = false)) (q : t σ H fun vs H2 => sp (.ref x :: vs) H2 Q E) : Rd.rMethA C m sp E t σ Q (.ref x) H := by
  obtain ⟨dx, p, h1, _⟩ := hx
  exact ⟨x, dx, _, rfl, h1, by simp [List.lookup, hm], q⟩
theorem pp_ {sp : Sp} {E : XK} (hx : PolyAt K C H x a) (q : sp [.ref x] H Q E) : Rd.rPropA C sp E Q (.ref x) H := by
  obtain ⟨dx, fs, h1⟩ := hx.ins
  exact ⟨x, dx, fs, rfl, h1, q⟩
theorem pc_ {sp : Sp} {E : XK} {t : TA} {σ : L2.St} (q : t σ H fun vs H2 => (∃ dx fs, H2 x = some (.ins C dx fs)) ∧ sp (.ref x :: vs) H2 Q E) : Rd.rCO C sp E t σ Q (.ref x) H := ⟨x, rfl, q⟩
end
end M
set_option Elab.async false
set_option linter.all false
set_option maxRecDepth 100000
set_option maxHeartbeats 4000000
/-! Rv: methods of lists inside comprehensions, pop at a place. -/
namespace Rd
open PySem PySem.Spec PyProof.Rows L2
theorem pe_bmK {X : Cx} {K : PySem.W.Frag} {T name id : String} {r : V → List V → Hp → VK → Prop} {o e : Expr} {es : List Expr} {to : TE} {t : TA} {apos cpos : Pos} (hK : X.K = K) (pa : PlainAttrs T) (slot : Slot T name id) (hty : typeOf (.builtin id) = pure (.type "method_descriptor")) (hm : MtM X id r) (ho : PE X o to) (ha : PA X (e :: es) t)
    (hbase : attributeBase o name X.env (eval o X.env) = eval o X.env := by rfl)
    (hfew : ((backTo cpos (starEach (e :: es) X.env)).all (fun x => !x.1) && (backToKw cpos (keywordEach [] X.env)).all (fun x => x.1.isSome)
      && decide ((e :: es).length + ([] : List Keyword).length + (if ([] : List Keyword).isEmpty then 0 else 1) < 30)) = true := by rfl)
    (hline : (apos.endLine == cpos.line) = true := by rfl) (hs : starEach (e :: es) X.env = (false, eval e X.env) :: starEach es X.env := by rfl) (hplain : (backTo cpos (starEach es X.env)).any (·.1) = false := by rfl) :
    PE X (.Call (.Attribute o name apos) (e :: es) [] cpos) (tBM K T r to t) := by
  subst hK
  exact pe_bm pa slot hty hm ho ha hbase hfew hline hs hplain
theorem rd_popAt {H : Hp} {Q : VK} {a : Addr} {xs : List V} {k : Nat} (h : H a = some (.lst xs)) (hk : k < xs.length) (hz : xs.length < 1000000) (q : Q xs[k] (upd H a (.lst (xs.eraseIdx k)))) : rPopAt (.ref a) [.int (k : Nat)] H Q := by
  refine ⟨a, xs, (k : Nat), k, xs[k], rfl, rfl, h, by omega, by omega, ?_, List.getElem?_eq_getElem hk, q⟩
  unfold seqIndex?
  have e : ¬ ((k : Nat) : Int) < 0 := by omega
  simp [e, hk]
end Rd
set_option Elab.async false
set_option linter.all false
set_option maxRecDepth 100000
set_option maxHeartbeats 4000000
/-! Rw: enumerate of a tuple; own __iter__, __len__, __getitem__; bool; == with a foreign value. -/
namespace Rd
open PySem PySem.Spec PyProof.Rows L2
open AutoSeq1 (wpAny_loadPart')
/-! ### enumerate of a tuple -/
section
theorem meets_enumT (t : Addr) (items : Array Value) :
    Meets (Builtin.«enumerate.__new__» ⟨[.type "enumerate", .ref t], []⟩) (fun _ R s => s.heap.IsTuple t items ∧
      R (.ok (.ret (.ref (s.heap.push { cls := .type "tuple_iterator", data := .fields #[.ref t, .int 0 0] }).objs.size)))
        { s with heap := (s.heap.push { cls := .type "tuple_iterator", data := .fields #[.ref t, .int 0 0] }).push { cls := .type "enumerate", data := .fields #[.none, .bool false, .ref s.heap.objs.size, rawInt 0, .none, .none] } }) :=
  .of_wp fun prog w A R s h => by
    obtain ⟨hp, g, d, tk, os⟩ := s
    obtain ⟨hT, h⟩ := h
    have hsub := sub_enumerate
    obtain ⟨⟨c, dct, dt, sl⟩, hl, hc, n, hd⟩ := id hT
    replace hc : c = .type "tuple" := hc
    subst hc
    wp_walk using wpAny_loadPart' hl
    refine wpAny_stack_any fun st => wpAny_pure ?_
    split
    · rename_i c _ _ _ _ _
      cases (c == Value.type "enumerate")
      · wp_walk using wpAny_loadPart' hl, wpAny_pyIter_tuple hT
        exact ⟨_, rfl, h⟩
      · wp_walk using wpAny_loadPart' hl, wpAny_pyIter_tuple hT
        exact ⟨_, rfl, h⟩
    · wp_walk using wpAny_loadPart' hl, wpAny_pyIter_tuple hT
      exact ⟨_, rfl, h⟩
variable {prog : Program} {w : World} {A : Around} {E : Value → Shared → Prop} {s : Shared}
theorem call_enumT {t : Addr} {items : Array Value} {Q : Value → Shared → Prop} (hT : s.heap.IsTuple t items)
    (h : ∀ h', IsEnum h' (s.heap.objs.size + 1) s.heap.objs.size 0 .none → h'.IsTupleIter s.heap.objs.size t 0 → h'.objs.size = s.heap.objs.size + 2 →
      (∀ b o, s.heap.get? b = some o → h'.get? b = some o) → Q (.ref (s.heap.objs.size + 1)) { s with heap := h' }) :
    wpAny (model prog w) A (call (.type "enumerate") [.ref t]) Q E s := by
  refine callType_new PySem.F.called_enumerate (by decide) (PySem.F.typeCall_enumerate_1 _) (PySem.F.newCall_enumerate_1 _) (fun obj => PySem.F.args_object_init_2 obj _) PySem.F.entry_enumerate_new (meets_enumT t items) ⟨hT, ?_⟩
  have hz : (s.heap.push { cls := .type "tuple_iterator", data := .fields #[.ref t, .int 0 0] }).objs.size = s.heap.objs.size + 1 := Heap.size_push ..
  have he := Heap.get?_push_size (s.heap.push { cls := .type "tuple_iterator", data := .fields #[.ref t, .int 0 0] }) (o := { cls := .type "enumerate", data := .fields #[.none, .bool false, .ref s.heap.objs.size, rawInt 0, .none, .none] }) rfl
  rw [hz] at he
  show _ ∧ _
  rw [hz]
  exact ⟨⟨_, he, rfl⟩, h _ he ⟨_, Heap.get?_push_of_some _ (Heap.get?_push_size _ rfl), rfl, rfl⟩ (by rw [Heap.size_push, hz]) fun b o x => Heap.get?_push_of_some _ (Heap.get?_push_of_some _ x)⟩
end
/-- the tuple at a, each item with its number in a new pair -/
def IteT (K : PySem.W.Frag) (a : Addr) : It :=
  ⟨fun i H => ∃ (xs : List V) (x : V), SqT K H a xs ∧ xs[i]? = some x, fun i H v H' => ∃ T x, v = .ref T ∧ H T = none ∧ H' = upd H T (.tup [.int (i : Nat), x]) ∧ ∀ xs, SqT K H a xs → xs[i]? = some x, fun i H => ∃ xs : List V, SqT K H a xs ∧ xs.length = i⟩
theorem turn_enumT {P : Program} {w : World} {K : PySem.W.Frag} {elts : List Expr} {kk : Nat} {tpos : Pos} (a e it : Addr) (hai : a ≠ it) (hea : e ≠ a) :
    Turn P w K (.Tuple elts kk tpos) (IteT K a) [e, it] e (fun i h => (∃ old, IsEnum h e it ((i : Nat) : Int) old) ∧ h.IsTupleIter it a i ∧ e ≠ it) where
  mem := by simp
  obj := fun i h st b hb => by
    obtain ⟨⟨old, he⟩, ⟨o, ho, hc, hd⟩, _⟩ := st
    have e' : b = e ∨ b = it := by simpa using hb
    rcases e' with z | z
    · rw [z]; exact ⟨_, he, fun v q => nomatch q⟩
    · rw [z]; exact ⟨o, ho, fun v q => by rw [hd] at q; cases q⟩
  keep := fun i h h' st k => let ⟨⟨old, he⟩, hi, hne⟩ := st; ⟨⟨old, k e (by simp) _ he⟩, hi.at fun o q => k it (by simp) o q, hne⟩
  item := by
    intro X hP hw hK hc i pins s σ H E I hf st hg
    subst hP hw hK
    obtain ⟨⟨old, he⟩, hit, hne⟩ := st
    obtain ⟨xs, x, hq, hx⟩ := hg
    obtain ⟨its, rv, p, hz⟩ := I.tuple hq
    obtain ⟨u, hu, ru⟩ := rv.get hx
    have hel : e < s.heap.objs.size := Heap.lt_size he
    have hil : it < s.heap.objs.size := by obtain ⟨_, q, _⟩ := hit; exact Heap.lt_size q
    have hi : i < its.toArray.size := by
      have := (List.getElem?_eq_some_iff.mp hu).1
      simpa using this
    have dr : Draws X.prog X.w X.A.in1 it [it, a] its.toArray.size (fun i v => its.toArray[i]? = some v) (fun i h => h.IsTupleIter it a i ∧ h.IsTuple a its.toArray) := Draws.tuple (show X.A.in1.handled = none from I.ok.hd hc) it a hai its.toArray
    refine wpAny_pyNext_enum_itemD dr he ⟨hit, p⟩ hi hne (by simp [hne, hea]) fun y h' tk hy ho hst hT hsz hk => ?_
    obtain rfl : y = u := by
      have hu' : its.toArray[i]? = some u := by simpa using hu
      exact Option.some.inj (hy.symm.trans hu')
    refine ⟨_, rfl, wpAny_letOwnedTupleGo_enum (s := { s with heap := h', toks := tk + 1 }) ho fun h'' he' sb => ?_⟩
    have hT2 : h''.get? s.heap.objs.size = some { cls := .type "tuple", data := .seq #[.int i tk, y] } := (sb.2 _ (Nat.ne_of_gt hel)).trans hT
    have new : ObjOk X.prog X.w (upd H s.heap.objs.size (.tup [.int (i : Nat), x])) h'' s.heap.objs.size (.tup [.int (i : Nat), x]) :=
      ⟨by show 2 ≤ sizeLine; decide, [.int i tk, y], .cons ⟨_, rfl⟩ (.cons ru .nil), ⟨_, hT2, rfl, _, rfl⟩⟩
    have I1 : Inv X pins σ (upd H s.heap.objs.size (.tup [.int (i : Nat), x])) { s with heap := h'', toks := tk + 1 } :=
      I.turnedNew (ch := [e, it]) (fun b ob hb q => (sb.2 b (fun z => hb (by simp [z]))).trans (hk b ob (fun z => hb (by simp [z])) (fun z => hb (by simp [z])) q)) hf (Nat.le_refl _) new
    refine ⟨.ref s.heap.objs.size, _, I1, rfl, ⟨_, x, rfl, I.hok.fresh (Nat.le_refl _), rfl, fun ys hy => by rw [I.tuple_inj hy hq]; exact hx⟩, ⟨⟨y, ?_⟩, hst.1.at fun o q => (sb.2 it (Ne.symm hne)).trans q, hne⟩, fun b hb => ?_⟩
    · have e1 : ((i + 1 : Nat) : Int) = (i : Int) + 1 := by omega
      rw [e1]; exact he'
    · have hb' : b < s.heap.objs.size := by
        have e' : b = e ∨ b = it := by simpa using hb
        rcases e' with z | z
        · rw [z]; exact hel
        · rw [z]; exact hil
      rw [upd_ne (Nat.ne_of_lt hb')]
      exact (hf b hb).1
  done := by
    intro X hP hw hK hc i pins s σ H E I hf st hg
    subst hP hw hK
    obtain ⟨⟨old, he⟩, hit, hne⟩ := st
    obtain ⟨xs, hq, hx⟩ := hg
    obtain ⟨its, rv, p, hz⟩ := I.tuple hq
    obtain ⟨f0, f1, f2, f3, f4, f5⟩ := hf it (by simp)
    have hl := rv.length
    have e1 : i = its.toArray.size := by simp; omega
    subst e1
    have dr : Draws X.prog X.w X.A.in1 it [it, a] its.toArray.size (fun i v => its.toArray[i]? = some v) (fun i h => h.IsTupleIter it a i ∧ h.IsTuple a its.toArray) := Draws.tuple (show X.A.in1.handled = none from I.ok.hd hc) it a hai its.toArray
    exact wpAny_pyNext_enum_endD dr he ⟨hit, p⟩ fun h' eb => ⟨rfl, I.turned (t' := s.toks) (fun b o hb q => eb b o hb q) f0 f1 f3 f4 f5⟩
  self := fun A i s Q E st h => let ⟨⟨_, he⟩, _⟩ := st; wpAny_pyIter_enum he h
def rIET (K : PySem.W.Frag) (vs : List V) (H : Hp) (R : It → Hp → Prop) : Prop := ∃ a xs, vs = [.ref a] ∧ SqT K H a xs ∧ R (IteT K a) H
def iEnumT (K : PySem.W.Frag) (ta : TA) : TI := fun σ H R => ta σ H fun vs H1 => rIET K vs H1 R
theorem pi_enumT {X : Cx} {e : Expr} {ta : TA} {p pos tpos : Pos} {elts : List Expr} {kk : Nat} (hg : Gl X "enumerate") (hm : X.mg "enumerate" = none) (ha : PA X [e] ta) (hs : starEach [e] X.env = [(false, eval e X.env)] := by rfl) :
    PI X (.Tuple elts kk tpos) (.Call (.Name "enumerate" p) [e] [] pos) (iEnumT X.K ta) := by
  refine ⟨fun pins s σ H R I h => ?_⟩
  refine Call_ (ld_blt I hg hm boot_enumerate (PyProof.Rows.callWith_type1 (thn (ha.run pos pins s σ H _ I h) fun us s1 ⟨vs, H1, I1, r1, q1⟩ => ?_) hs rfl))
  obtain ⟨a, xs, ex, hq, q⟩ := q1
  subst ex
  cases r1 with
  | cons r rr =>
    cases rr
    cases r
    obtain ⟨its, rv, p', hz⟩ := I1.tuple hq
    have hal : a < s1.heap.objs.size := by obtain ⟨_, q, _⟩ := id p'; exact Heap.lt_size q
    refine call_enumT (show s1.heap.IsTuple a its.toArray from p') fun h' he hit hsz hk => wpAny_pyIter_enum he ?_
    have I2 : Inv X pins σ H1 { s1 with heap := h' } := I1.kept (t' := s1.toks) hk
    refine ⟨s1.heap.objs.size + 1, [s1.heap.objs.size + 1, s1.heap.objs.size], _, _, H1, rfl, I2, turn_enumT a (s1.heap.objs.size + 1) s1.heap.objs.size (Nat.ne_of_lt hal) (Nat.ne_of_gt (Nat.lt_succ_of_lt hal)), ⟨⟨.none, he⟩, hit, Nat.succ_ne_self _⟩, fun b hb => ?_, q⟩
    have e' : b = s1.heap.objs.size + 1 ∨ b = s1.heap.objs.size := by simpa using hb
    have hle : s1.heap.objs.size ≤ b := by
      rcases e' with z | z
      · rw [z]; exact Nat.le_add_right _ _
      · rw [z]; exact Nat.le_refl _
    exact I1.fpOk hle (I1.hok.fresh hle)
section
variable {K : PySem.W.Frag} {σ : L2.St} {H : Hp} {g : TG} {tb : TS} {D : Ends} {a : Addr} {xs : List V} {ta : TA}
theorem rd_iEnumT {R : It → Hp → Prop} (q : ta σ H fun vs H1 => rIET K vs H1 R) : iEnumT K ta σ H R := q
theorem rd_IET {R : It → Hp → Prop} (h : SqT K H a xs) (q : R (IteT K a) H) : rIET K [.ref a] H R := ⟨a, xs, rfl, h, q⟩
theorem for_enumT (Pv : Nat → L2.St → Hp → Prop) (h0 : Pv 0 σ H) (hl : ∀ i σ H, i ≤ xs.length → Pv i σ H → SqT K H a xs)
    (hs : ∀ (i : Nat) (x : V) (T : Addr) (σ : L2.St) (H H' : Hp), xs[i]? = some x → Pv i σ H → H T = none → Same H H' → H' T = some (.tup [.int (i : Nat), x]) → (∀ b, b ≠ T → H' b = H b) → g (.ref T) σ H' fun σ2 H2 => tb { nx := Pv (i + 1), rt := D.rt, ct := Pv (i + 1), bk := D.nx } σ2 H2) (hd : ∀ σ H, Pv xs.length σ H → D.nx σ H) : rFor g tb D σ (IteT K a) H := by
  refine ⟨fun i m σ H => m = xs.length - i ∧ i ≤ xs.length ∧ Pv i σ H, ⟨xs.length, rfl, Nat.zero_le _, h0⟩, ?_⟩
  rintro i m σ H ⟨rfl, hi, p⟩
  have hq := hl i σ H hi p
  by_cases hlt : i < xs.length
  · refine .inr ⟨⟨xs, xs[i], hq, by simp [hlt]⟩, fun σ' H' => Pv (i + 1) σ' H', fun σ' H' p' => ⟨xs.length - (i + 1), by omega, rfl, hlt, p'⟩, fun v H' y => ?_⟩
    obtain ⟨T, x, rfl, hT, rfl, hx⟩ := y
    exact hs i x T σ H _ (hx xs hq) p hT (same_new hT) upd_same fun b hb => upd_ne hb
  · obtain rfl : i = xs.length := by omega
    exact .inl ⟨⟨xs, hq, rfl⟩, hd σ H p⟩
end
end Rd
set_option Elab.async false
set_option linter.all false
set_option maxRecDepth 100000
set_option maxHeartbeats 4000000
/-! Ry: own __iter__, __len__, __getitem__; bool; == and != with a foreign value. -/
namespace Rd
open PySem PySem.Spec PyProof.Rows L2
/-! ### the same base, with free room up to n -/
def padB (b : Heap) (n : Nat) : Heap := ⟨b.objs ++ Array.replicate (n - b.objs.size) { cls := .none, data := .freed }, b.life⟩
theorem padB_get (b : Heap) (n : Nat) (a : Addr) : (padB b n).get? a = b.get? a := by
  unfold padB Heap.get?
  dsimp only
  by_cases h : a < b.objs.size
  · rw [Array.getElem?_append_left h]
  · have h' := Nat.le_of_not_lt h
    rw [Array.getElem?_append_right h', Array.getElem?_replicate, Array.getElem?_eq_none h']
    by_cases c : a - b.objs.size < n - b.objs.size
    · rw [if_pos c]
    · rw [if_neg c]
theorem padB_size {b : Heap} {n : Nat} (h : b.objs.size ≤ n) : (padB b n).objs.size = n := by
  unfold padB
  simp only [Array.size_append, Array.size_replicate]
  omega
theorem env0_pad {P : Program} {w : World} {K : PySem.W.Frag} {mg : Str → Option Value} {base : Heap} {A : Around} {outer : List Env} {s : Shared} {H : Hp} (e : Env0 P w K mg base A outer s H) : Env0 P w K mg (padB base s.heap.objs.size) A outer s H := by
  have up : ∀ b o, base.get? b = some o → (padB base s.heap.objs.size).get? b = some o := fun b o h => by rw [padB_get]; exact h
  have fun_ : ∀ l : List Env, s.heap.FunFrames base l → s.heap.FunFrames (padB base s.heap.objs.size) l := by
    intro l
    induction l with
    | nil => exact fun _ => trivial
    | cons env rest ih =>
      rintro ⟨h1, ⟨L, o, h2, h3, h4⟩, h5⟩
      exact ⟨h1, ⟨L, o, h2, by rw [padB_get]; exact h3, h4⟩, ih h5⟩
  obtain ⟨mb, m1, m2⟩ := e.mod.blt
  obtain ⟨mc, n1, n2⟩ := e.mod.nolimit
  exact ⟨e.frames, ⟨e.mod.kin.keeps up, e.mod.glob.keeps up, ⟨mb, m1.keeps up, m2⟩, ⟨mc, n1.keeps up, n2⟩⟩, fun b o h => by rw [padB_get] at h; exact e.bs b o h, by rw [padB_size e.bsz]; exact Nat.le_refl _, fun_ _ e.funs, e.frf, e.hok, e.bare⟩
/-! ### iter of a tuple -/
def ItT (t it : Addr) : HO := .ext fun h => h.get? it = some { cls := .type "tuple_iterator", data := .fields #[.ref t, .int 0 0] }
section
variable {prog : Program} {w : World} {A : Around} {E : Value → Shared → Prop} {s : Shared}
theorem call_iterT {t : Addr} {items : Array Value} {Q : Value → Shared → Prop} (hl : s.heap.IsTuple t items) (h : Q (.ref s.heap.objs.size) { s with heap := s.heap.push { cls := .type "tuple_iterator", data := .fields #[.ref t, .int 0 0] } }) : wpAny (model prog w) A (call (.builtin "iter") [.ref t]) Q E s := by
  refine Calls.call_function_entry (by decide +kernel) (by decide +kernel) PySem.W.kdk_entry_iter (PySem.W.kdk_args_iter _) ?_
  unfold Builtin.«iter»
  refine wpAny_bind (m := someArgs "iter" 1 2 _) (wpAny_of_eq (a := [Value.ref t]) (by first | rfl | kernel_rfl!) ?_)
  show wpAny _ _ (pyIter (.ref t) >>= _) _ _ _
  exact wpAny_bind (wpAny_pyIter_tuple hl (wpAny_pure ⟨_, rfl, h⟩))
end
def rIterT (K : PySem.W.Frag) (n : Nat) : List V → Hp → VK → Prop := fun xs H Q => ∃ (t : Addr) (zs : List V), xs = [.ref t] ∧ SqT K H t zs ∧ ∀ it, H it = none → n ≤ it → Q (.ref it) (upd H it (ItT t it))
theorem c_iterT {X : Cx} : CallR X (.builtin "iter") (rIterT X.K X.base.objs.size) := by
  intro pins s σ H xs us Q I r h
  obtain ⟨t, zs, rfl, hq, q⟩ := h
  obtain ⟨u, rfl, ru⟩ := vals1 r
  cases ru
  obtain ⟨its, rv, pl, hz⟩ := I.tuple hq
  refine call_iterT (show s.heap.IsTuple t its.toArray from pl) ?_
  have e : (s.heap.push { cls := .type "tuple_iterator", data := .fields #[.ref t, .int 0 0] }).get? s.heap.objs.size = some { cls := .type "tuple_iterator", data := .fields #[.ref t, .int 0 0] } := Heap.get?_push_size _ rfl
  exact ⟨.ref s.heap.objs.size, _, I.laid (t' := s.toks) (fun b u e => Heap.get?_push_of_some _ e) (Nat.le_refl _) (o := ItT t s.heap.objs.size) ⟨e, ⟨_, e⟩, fun h1 h2 q k => k _ q⟩, rfl, q _ (I.hok.fresh (Nat.le_refl _)) (Nat.le_trans I.ok.bsz I.sz)⟩
theorem rd_iterT {K : PySem.W.Frag} {n : Nat} {H : Hp} {Q : VK} {t : Addr} {zs : List V} (h : SqT K H t zs) (q : ∀ it, H it = none → n ≤ it → Q (.ref it) (upd H it (ItT t it))) : rIterT K n [.ref t] H Q := ⟨t, zs, rfl, h, q⟩
/-! ### an instance that is walked: its __iter__ gives an iterator of a tuple -/
structure OwnIt (K : PySem.W.Frag) (C f : Addr) : Prop where
  it : PySem.W.findIn K (.ref C) "__iter__" = some (some (.ref f))
  fn : PySem.W.isFn K (.ref f) = true
def rIO (K : PySem.W.Frag) (C : Addr) (sp : Nat → Sp) (R : It → Hp → Prop) (v : V) (H : Hp) : Prop := ∃ x, v = .ref x ∧ (∃ dx fs, H x = some (.ins C dx fs)) ∧ ∀ n, sp n [.ref x] H (fun u H2 => ∃ it p, u = .ref it ∧ n ≤ it ∧ H2 it = some (ItT p it) ∧ R (Itt K p) (ItX.dropH H2 it)) E0
def iOwn (K : PySem.W.Frag) (C : Addr) (sp : Nat → Sp) (te : TE) : TI := fun σ H R => te σ H fun v H1 => rIO K C sp R v H1
theorem pi_own {X : Cx} {tg e : Expr} {te : TE} {C f : Addr} {k : Nat} {sp : Nat → Sp} (he : PE X e te) (O : OwnIt X.K C f) (F : ∀ base : Heap, FnR X.prog X.w X.K X.mg base CX0 k f (sp base.objs.size)) (hr : Room k X.A) : PI X tg e (iOwn X.K C sp te) := by
  refine ⟨fun pins s σ H R I h => ?_⟩
  refine thn (he.run pins s σ H _ I h) fun u s1 ⟨v, H1, I1, rv, x, ev, ⟨dx, fs, hx⟩, q⟩ => ?_
  subst ev
  cases rv
  obtain ⟨ox, od, J, _⟩ := ins_look I1 hx
  obtain ⟨m, hF⟩ := I1.fr
  refine PySem.W.owit_iter hF I1.ok.mod.kin J O.it O.fn ?_
  refine wpAny_call (codeAny_mono (F (padB X.base s1.heap.objs.size) X.A X.stack s1 H1 [.ref x] [.ref x] _ E0 hr (env0_pad I1.env0) (.cons rfl .nil) (q _)) fun r s' hq => ?_)
  match r, hq with
  | .error e, hq => exact False.elim hq
  | .ok (.ret u), hq =>
    obtain ⟨v, H2, I2, rv, it, p, rfl, hn, hi, q⟩ := I1.after hq
    cases rv
    have eo : s'.heap.get? it = some { cls := .type "tuple_iterator", data := .fields #[.ref p, .int 0 0] } := (I2.hok it _ hi).1
    have st : s'.heap.IsTupleIter it p 0 := ⟨_, eo, rfl, rfl⟩
    show PySem.W.OwitIt _ _ _ _ _ _
    unfold PySem.W.OwitIt
    refine wpAny_specialOf st.typeIs PySem.F.slot_tuple_iterator_next.lookup ?_
    have hi' := hi
    unfold ItT at hi'
    rw [padB_size (Nat.le_trans I1.ok.bsz I1.sz)] at hn
    refine ⟨it, [it], _, _, ItX.dropH H2 it, rfl, ItX.inv_drop I2 hi', turn_tuple p it, st, fun b hb => ?_, q⟩
    have e : b = it := by simpa using hb
    rw [e]
    exact ItX.inv_fp I2 hi (Nat.le_trans I1.sz hn)
  | .ok .next, hq => exact False.elim hq
  | .ok .brk, hq => exact False.elim hq
  | .ok .cont, hq => exact False.elim hq
theorem rd_iOwn {K : PySem.W.Frag} {C : Addr} {sp : Nat → Sp} {te : TE} {σ : L2.St} {H : Hp} {R : It → Hp → Prop} (q : te σ H fun v H1 => rIO K C sp R v H1) : iOwn K C sp te σ H R := q
/-! ### len, bool, [] -/
section
variable {X : Cx} {CX : CXT} {k : Nat} {C f : Addr} {sp : Sp} {E : XK}
def rLenO (C : Addr) (sp : Sp) (E : XK) : List V → Hp → VK → Prop := fun vs H Q => ∃ a dx fs, vs = [.ref a] ∧ H a = some (.ins C dx fs) ∧ sp [.ref a] H (fun v H' => ∃ n : Nat, v = .int n ∧ n < 2 ^ 62 ∧ Q (.int n) H') E
theorem c_lenO (hs : PySem.W.findIn X.K (.ref C) "__len__" = some (some (.ref f))) (hf : PySem.W.isFn X.K (.ref f) = true) (F : FnR X.prog X.w X.K X.mg X.base CX k f sp) (hr : Room (k + 1) X.A) (hx : Passes CX X E) : CallR X (.builtin "len") (rLenO C sp E) := by
  intro pins s σ H xs us Q I r h
  obtain ⟨a, dx, fs, rfl, ha, h⟩ := h
  obtain ⟨u, rfl, ru⟩ := vals1 r
  cases ru
  obtain ⟨m, hF⟩ := I.fr
  obtain ⟨ox, od, J, _⟩ := ins_look I ha
  refine PySem.W.len_K hF I.ok.mod.kin J hs hf (run_at (vs := [.ref a]) F hr.in1 I.env0.in1 hx I (.cons rfl .nil) h fun u s' hq => ?_)
  obtain ⟨v, H', I', rv, n, rfl, hn, q⟩ := hq
  obtain ⟨t, rfl⟩ := rv
  exact ⟨⟨by omega, by omega⟩, .int n, H', I'.kept (t' := s'.toks + 1) (fun b o e => e), ⟨_, rfl⟩, q⟩
def rIxO (C : Addr) (sp : Sp) (E : XK) : R2 := fun x y H Q => ∃ a dx fs, x = .ref a ∧ H a = some (.ins C dx fs) ∧ sp [x, y] H Q E
theorem pe_ixO {a b : Expr} {ta tb : TE} {pos : Pos} (hs : PySem.W.findIn X.K (.ref C) "__getitem__" = some (some (.ref f))) (hf : PySem.W.isFn X.K (.ref f) = true) (hi : PySem.W.fnIn X.K f = true) (F : FnR X.prog X.w X.K X.mg X.base CX k f sp) (hr : Room (k + 1) X.A) (hx : Passes CX X E) (ha : PE X a ta) (hb : PE X b tb)
    (hsl : ∀ v u, subscripted b true v u = runValue (.builtin "lifetime.subscript" ⟨[v, u], []⟩)) : PE X (.Subscript a b pos) (tOp (rIxO C sp E) ta tb) := by
  refine ⟨fun pins s σ H Q I h => ?_⟩
  refine Subscript_ (binT ha hb I h fun v u s2 x y H2 I2 rx ry q => ?_)
  obtain ⟨c, dx, fs, rfl, hc, q⟩ := q
  cases rx
  obtain ⟨m, hF⟩ := I2.fr
  obtain ⟨ox, od, J, _⟩ := ins_look I2 hc
  exact PySem.W.sub_K hF I2.ok.mod.kin J hs hi hf (run_at (vs := [.ref c, y]) F hr.in1 I2.env0.in1 hx I2 (.cons rfl (.cons ry .nil)) q fun u s' hq => hq) (hsl _ _)
def rBoolO (C : Addr) (sp : Sp) (E : XK) : List V → Hp → VK → Prop := fun vs H Q => ∃ a dx fs, vs = [.ref a] ∧ H a = some (.ins C dx fs) ∧ sp [.ref a] H (fun v H' => ∃ n : Nat, v = .int n ∧ n < 2 ^ 62 ∧ Q (.bl (decide (n ≠ 0))) H') E
theorem c_boolO (hb : PySem.W.findIn X.K (.ref C) "__bool__" = some none) (hs : PySem.W.findIn X.K (.ref C) "__len__" = some (some (.ref f))) (hf : PySem.W.isFn X.K (.ref f) = true) (F : FnR X.prog X.w X.K X.mg X.base CX k f sp) (hr : Room (k + 3) X.A) (hx : Passes CX X E) : CallR X (.type "bool") (rBoolO C sp E) := by
  intro pins s σ H xs us Q I r h
  obtain ⟨a, dx, fs, rfl, ha, h⟩ := h
  obtain ⟨u, rfl, ru⟩ := vals1 r
  cases ru
  obtain ⟨ox, od, J, _⟩ := ins_look I ha
  refine callType_codes (T := "bool") (Bi := Builtin.«object.__init__») (Q₁ := fun r s₁ => ∃ b, r = .bool b ∧ EP X pins σ Q r s₁) PySem.F.called_bool (PySem.F.typeCall_bool_1 _) PySem.F.entry_object_init ?_ ?_
  · refine codeAny_of_tree ?_
    show wpAny _ X.A.in1.in1 (do checkBuiltinCall "bool.__new__" ⟨[.type "bool", .ref a], []⟩; again (.builtin "bool.__new__" ⟨[.type "bool", .ref a], []⟩)) _ _ s
    refine wpAny_bind (wpAny_of_eq (PySem.F.newCall_bool_1 _) (wpAny_pure ⟨plainId_quiet (by decide +kernel) _, codeAny_builtin PySem.F.entry_bool_new ?_⟩))
    rw [Around.under_plainId (by decide +kernel) _]
    have key : wpAny (model X.prog X.w) X.A.in1.in1 (truthy (.ref a)) (fun b s₁ => EP X pins σ Q (.bool b) s₁) X.xe s := by
      unfold truthy
      refine wpAny_bind (m := callSpecial? (.ref a) (Str.ofString "__bool__")) (wpAny_bind (wpAny_bind (J.type.here ((PySem.W.looks_findIn I.kIn hb).here (wpAny_pure ?_)))))
      refine wpAny_bind (wpAny_bind (J.type.here ((PySem.W.looks_findIn I.kIn hs).here ?_)))
      show wpAny _ _ (runValue (.builtin "len" ⟨[.ref a], []⟩) >>= _) _ _ _
      refine wpAny_bind (wpAny_runValue (codeAny_builtin entry_len ?_))
      rw [Around.under_plainId (by decide +kernel) _]
      unfold Builtin.«len»
      refine wpAny_bind (m := oneArg "len" _) (wpAny_pure ?_)
      refine wpAny_bind (m := callSpecial? (.ref a) (Str.ofString "__len__")) (PySem.W.special_fn I.kIn J hs (beq_iff_eq.mp hf) (run_at (vs := [.ref a]) F hr.in1.in1.in1 I.env0.in1.in1.in1 hx I (.cons rfl .nil) h fun u s' hq => ?_))
      obtain ⟨v, H', I', rv, n, rfl, hn, q⟩ := hq
      obtain ⟨t, rfl⟩ := rv
      refine wpAny_bind (wpAny_holding (wpAny_pure ?_))
      refine wpAny_bind (wpAny_letGo ?_)
      show wpAny _ _ (if (n : Int) < 0 then _ else _) _ _ _
      rw [if_neg (by omega)]
      show wpAny _ _ (if (n : Int) ≥ 2 ^ 63 then _ else _) _ _ _
      rw [if_neg (by omega)]
      refine wpAny_bind (wpAny_mkInt (wpAny_pure ?_))
      refine wpAny_pure ⟨.bl (decide (n ≠ 0)), H', I'.kept (t' := s'.toks + 1) (fun b o e => e), ?_, q⟩
      show Value.bool _ = Value.bool _
      congr 1
      cases n
      · simp
      · simp
        omega
    unfold Builtin.«bool.__new__»
    have f1 := PySem.F.conv_sub_bool
    refine wpAny_bind (m := isType (.type "bool")) (wpAny_pure ?_)
    refine wpAny_bind (m := isSubtype (.type "bool") (.type "bool")) (wpAny_of_eq f1 ?_)
    refine wpAny_bind (m := someArgs "bool" 0 1 _) (wpAny_pure ?_)
    refine wpAny_bind (m := truthy (.ref a)) (wpAny_mono key (fun b s₁ hb => wpAny_pure ?_) fun _ _ y => y)
    exact ⟨_, rfl, hb⟩
  · rintro obj s₁ ⟨b, rfl, hq⟩
    exact ⟨rfl, PySem.F.args_object_init_2 _ _, object_init_meets PySem.F.called_bool.init.lookup PySem.F.called_bool.made (by decide) X.prog X.w X.A.in1 _ s₁ ⟨rfl, rfl, hq⟩⟩
end
/-! ### == and != with a foreign value -/
section
variable {X : Cx} {CX : CXT} {k : Nat} {K : PySem.W.Frag} {C f : Addr} {sp : Sp} {E : XK}
def rEqF (K : PySem.W.Frag) (C : Addr) (sp : Sp) (E : XK) (neg : Bool) : R2 := fun x y H Q => (∃ a dx fs, x = .ref a ∧ H a = some (.ins C dx fs)) ∧ (∃ tb, TyX K H y tb ∧ PySem.W.subIn K tb (.ref C) = some false) ∧ sp [x, y] H (fun v H' => ∃ b, v = .bl b ∧ Q (.bl (if neg then !b else b)) H') E
theorem op_eqF (hK : X.K = K) (O : OwnEq K C f) (F : FnR X.prog X.w X.K X.mg X.base CX k f sp) (hr : Room k X.A) (hx : Passes CX X E) : OpR X (compareOp .Eq) (rEqF K C sp E false) := by
  subst hK
  intro pins s σ H x y v u Q I rx ry h
  obtain ⟨⟨a, dx, fs, rfl, ha⟩, ⟨tb, ty, hsub⟩, h⟩ := h
  cases rx
  obtain ⟨m, hF⟩ := I.fr
  obtain ⟨ox, od, J, _⟩ := ins_look I ha
  obtain ⟨P, kx, hP, _⟩ := kit_of I ry ty
  refine PySem.W.cmp_K (op := .Eq) (Nat.lt_of_le_of_lt (Nat.le_add_right _ _) hr.units) hF I.ok.mod.kin J (kx.ty _ _ I.kIn hP) (by simp [PySem.W.notFirst, hsub]) O.e O.ef (run_at (vs := [.ref a, y]) F hr I.env0 hx I (.cons rfl (.cons ry .nil)) h fun u s' hq => ?_)
  obtain ⟨v, H', I', rv, c, rfl, q⟩ := hq
  cases rv
  exact ⟨.bl c, H', I', rfl, q⟩
theorem op_neF (hK : X.K = K) (O : OwnEq K C f) (F : FnR X.prog X.w X.K X.mg X.base CX k f sp) (hr : Room (k + 1) X.A) (hx : Passes CX X E) : OpR X (compareOp .NotEq) (rEqF K C sp E true) := by
  subst hK
  intro pins s σ H x y v u Q I rx ry h
  obtain ⟨⟨a, dx, fs, rfl, ha⟩, ⟨tb, ty, hsub⟩, h⟩ := h
  cases rx
  obtain ⟨ox, od, J, _⟩ := ins_look I ha
  obtain ⟨P, kx, hP, _⟩ := kit_of I ry ty
  have un : X.A.units < cLine := Nat.lt_of_le_of_lt (Nat.le_add_right _ _) hr.units
  have un1 : X.A.in1.units < cLine := Nat.lt_of_le_of_lt (Nat.le_add_right _ _) hr.in1.units
  have core : wpAny (model X.prog X.w) X.A (call (.builtin "object.__ne__") [.ref a, u]) (fun v s' => ∃ c, v = .bool c ∧ EP X pins σ Q v s') X.xe s := by
    refine wpAny_call (codeAny_call_builtin PySem.F.slot_object_ne.plain PySem.F.entry_object_ne (PySem.W.check_slot (i := "object.__ne__") (owner := "object") (n := "__ne__") (by decide +kernel) (by decide +kernel) (J.type.andThen (PySem.W.looks_mroIn I.kIn O.m)) (PySem.F.args_object_ne_2 _ _) ?_))
    unfold Builtin.«object.__ne__»
    refine wpAny_bind (m := slotArgs "__ne__" 1 _) (wpAny_pure ?_)
    refine wpAny_bind (m := cRoomFor _ _) (wpAny_cRoomFor un1 ?_)
    refine wpAny_bind (m := callSpecialIfBound? (.ref a) (Str.ofString "__eq__") _) (PySem.W.ifBound_K I.kIn J O.e O.ef (run_at (vs := [.ref a, y]) F hr.in1 I.env0.in1 hx I (.cons rfl (.cons ry .nil)) h fun u s' hq => ?_))
    obtain ⟨v, H', I', rv, c, rfl, q⟩ := hq
    cases rv
    refine wpAny_bind (m := truthy (.bool c)) (wpAny_pure (wpAny_pure ⟨!c, rfl, .bl (!c), H', I', rfl, ?_⟩))
    cases c <;> exact q
  have one : wpAny (model X.prog X.w) X.A (tryCompare (.ref a) (cmpInfo .NotEq).2.1 u) (fun r s' => ∃ v, r = some v ∧ EP X pins σ Q v s') X.xe s := by
    unfold tryCompare
    refine wpAny_bind (ifBound_B I.kIn J O.n PySem.F.slot_object_ne.bind (wpAny_mono core (fun v s' hv => ?_) fun _ _ e => e))
    obtain ⟨c, rfl, q⟩ := hv
    exact wpAny_pure ⟨_, rfl, q⟩
  show wpAny _ _ (richCompare .NotEq (.ref a) u) _ _ _
  unfold richCompare
  simp only [oneThing_ref]
  refine wpAny_holding (wpAny_bind (wpAny_cRoomFor un ?_))
  refine wpAny_bind (J.type.here (wpAny_bind ((kx.ty _ _ I.kIn hP).here ?_)))
  split
  · refine wpAny_bind ((PySem.W.looks_subIn I.kIn hsub).here ?_)
    simp only [Bool.false_eq_true, if_false]
    refine wpAny_bind (wpAny_mono one (fun r s' z => ?_) fun _ _ e => e)
    obtain ⟨v, rfl, hq⟩ := z
    exact wpAny_pure hq
  · refine wpAny_bind (wpAny_pure ?_)
    simp only [Bool.false_eq_true, if_false]
    refine wpAny_bind (wpAny_mono one (fun r s' z => ?_) fun _ _ e => e)
    obtain ⟨v, rfl, hq⟩ := z
    exact wpAny_pure hq
end
end Rd
set_option Elab.async false
set_option linter.all false
set_option maxRecDepth 100000
set_option maxHeartbeats 4000000
namespace M
open PySem L2
local macro_rules | `(tactic| walk_at "rdc") => `(tactic| first | exact Or.inl ⟨by decide, by decide⟩ | exact Or.inr ⟨by decide, by decide⟩ | exact ⟨by decide, by decide, by decide⟩ | exact ⟨by decide, by decide⟩ | decide | omega | assumption | (refine Or.inl ⟨?_, ?_⟩ <;> omega) | (refine Or.inr ⟨?_, ?_⟩ <;> omega) | (refine ⟨?_, ?_⟩ <;> omega))
local macro_rules | `(tactic| walk_at "rd1") => `(tactic| with_reducible first
  | refine Rd.rd_seq ?_ | refine Rd.rd_asg ?_ | refine Rd.rd_op ?_ | (refine' Rd.rd_var ?vh ?_; (case vh => with_unfolding_all rfl)) | refine Rd.rd_c ?_ | refine Rd.rd_I0 ?_ | refine Rd.rd_name0 ?_ | refine Rd.rd_nameS ?_ | refine Rd.rd_fn ?_
  | refine Rd.rd_cb ?_ | refine Rd.rd_cons ?_ | refine Rd.rd_nil ?_ | refine Rd.rd_int ?_ | refine Rd.rd_intB ?_ | refine Rd.rd_abs ?_ | refine Rd.rd_max2 ?_ | refine Rd.rd_min2 ?_
  | refine Rd.rd_call ?_ | refine Rd.rd_ifE ?_ | refine Rd.rd_test ?_ | refine Rd.rd_tB ?_ | refine Rd.rd_blV ?_ | refine Rd.rd_and ?_ | refine Rd.rd_or ?_ | refine Rd.rd_not ?_
  | refine Rd.rd_andV ?_ | refine Rd.rd_orV ?_ | refine Rd.rd_notV ?_ | refine Rd.rd_next ?_ | refine Rd.rd_ret ?_ | refine Rd.rd_drop ?_ | refine Rd.rd_ifS ?_ | refine Rd.rd_nx ?_ | refine Rd.rd_rt ?_ | refine Rd.rd_tMatch ?_ | refine Rd.rd_tCO ?_ | refine Rd.rd_tRevL ?_ | refine Rd.rd_tStar ?_ | refine Rd.rd_joined ?_ | refine Rd.rd_js1 ?_ | refine Rd.rd_js0 ?_ | refine Rd.rd_fmt ?_ | refine Rd.rd_propR ?_ | refine Rd.rd_iZipA ?_ | refine Rd.rd_iEnumT ?_ | refine Rd.rd_iOwn ?_ | (refine' Rd.rd_IET ?ln ?_; (case ln => with_unfolding_all walk_at "at")) | refine Rd.rd_chain ?_ | refine Rd.rd_tPar ?_ | refine Rd.rd_par ?_ | refine Rd.rd_sl ?_ | refine Rd.rd_noPart ?_ | refine Rd.rd_part ?_ | refine Rd.rd_intV ?_ | refine Rd.rd_lc ?_ | (refine' Rd.rd_aug ?vh ?_; (case vh => with_unfolding_all rfl)) | refine Rd.rd_ipI ?_ | refine Rd.rd_for ?_ | (refine' Rd.rd_IT ?ln ?_; (case ln => with_unfolding_all walk_at "at")) | (refine' Rd.rd_IL ?ln ?_; (case ln => with_unfolding_all walk_at "at")) | refine Rd.rd_iTup ?_ | refine Rd.rd_iList ?_ | refine Rd.rd_iRng1 ?_ | refine Rd.rd_iRng2 ?_ | refine Rd.rd_isi (Rd.isi_int Rd.kk_int_int) ?_ | refine Rd.rd_isi (Rd.isi_int Rd.kk_int_bool) ?_ | refine Rd.rd_dget ?_ | refine Rd.rd_din ?_ | refine Rd.rd_dnotin ?_ | refine Rd.rd_dput ?_ | refine Rd.rd_dc ?_ | refine Rd.rd_lc2 ?_ | refine Rd.rd_ltS ?_ | refine Rd.rd_inSg ?_ | refine Rd.rd_iStr ?_ | refine Rd.rd_IS ?_ | refine Rd.rd_prC ?_ | refine Rd.rd_prN ?_ | refine Rd.rd_methR ?_ | refine Rd.rd_cmeth ?_ | refine Rd.rd_fldS ?_ | refine Rd.rd_fld ?_ | (refine' Rd.rd_mkVS ?vh ?_; (case vh => with_unfolding_all rfl)) | (refine' Rd.rd_starT ?ln ?_; (case ln => with_unfolding_all walk_at "at")) | refine Rd.rd_iEnum ?_ | refine Rd.rd_iZip ?_ | (refine' Rd.rd_IE ?ln ?_; (case ln => with_unfolding_all walk_at "at")) | (refine' Rd.rd_IZ ?ln ?lm ?_; (case ln => with_unfolding_all walk_at "at"); (case lm => with_unfolding_all walk_at "at")) | (refine' Rd.rd_gTup ?ln ?lk ?_; (case ln => with_unfolding_all walk_at "at"); (case lk => with_unfolding_all rfl)) | refine Rd.rd_gCons ?_ | refine Rd.rd_gNil ?_ | refine Rd.rd_m1 ?_ | refine Rd.rd_strV ?_ | refine Rd.rd_tXiM ?_ | refine Rd.rd_tXiB ?_ | refine Rd.rd_tXiS ?_ | refine Rd.rd_bm ?_ | refine Rd.rd_bm0 ?_ | refine Rd.rd_isN ?_ | refine Rd.rd_notN ?_ | refine Rd.rd_sub ?_ | refine Rd.rd_un ?_ | refine Rd.rd_U ?_
  | (refine' Rd.rd_eq ?sc ?_; (case sc => with_unfolding_all rfl)) | (refine' Rd.rd_ne ?sc ?_; (case sc => with_unfolding_all rfl))
  | (refine' Rd.rd_I ?cc ?_; (case cc => with_unfolding_all walk_at "rdc"))
  | (refine' Rd.rd_lenL ?ln ?_; (case ln => with_unfolding_all walk_at "at")) | (refine' Rd.rd_lenT ?ln ?_; (case ln => with_unfolding_all walk_at "at"))
  | (refine' Rd.rd_ixL ?ln ?ia ?_; (case ln => with_unfolding_all walk_at "at"); (case ia => with_unfolding_all first | exact Rd.at0 | exact Rd.at1 | exact Rd.at2 | exact Rd.at3 | exact Rd.at4 | rfl)) | (refine' Rd.rd_ixT ?ln ?ia ?_; (case ln => with_unfolding_all walk_at "at"); (case ia => with_unfolding_all first | exact Rd.at0 | exact Rd.at1 | exact Rd.at2 | exact Rd.at3 | exact Rd.at4 | rfl)))
local macro_rules | `(tactic| walk_at "at") => `(tactic| first | assumption | (apply SqL.of; assumption) | (apply SqT.of; assumption) | (apply SqL.of; exact upd_same) | (apply SqT.of; exact upd_same))
local macro_rules | `(tactic| walk_at "rd") => `(tactic| repeat walk_at "rd1")
/-! ### length, iteration, coefficients by place, == with others -/
abbrev s_Polynomial___iter__ : Stmt := inClass (top 24) 8
theorem sc_Polynomial___iter__ : FnScope ["self"] ["self"] (defScope s_Polynomial___iter__) := ⟨rfl, rfl, rfl, by decide +kernel, rfl, by decide +kernel, by decide +kernel⟩
abbrev s_Polynomial___len__ : Stmt := inClass (top 24) 9
theorem sc_Polynomial___len__ : FnScope ["self"] ["self"] (defScope s_Polynomial___len__) := ⟨rfl, rfl, rfl, by decide +kernel, rfl, by decide +kernel, by decide +kernel⟩
abbrev s_Polynomial___getitem__ : Stmt := inClass (top 24) 7
theorem sc_Polynomial___getitem__ : FnScope ["self", "k"] ["self", "k"] (defScope s_Polynomial___getitem__) := ⟨rfl, rfl, rfl, by decide +kernel, rfl, by decide +kernel, by decide +kernel⟩
structure AdsD where
  (it ln gi : Addr)
structure PolyD (K : PySem.W.Frag) (C : Addr) (d : AdsD) : Prop where
  it : Rd.OwnIt K C d.it
  ln : PySem.W.findIn K (.ref C) "__len__" = some (some (.ref d.ln))
  lnf : PySem.W.isFn K (.ref d.ln) = true
  bo : PySem.W.findIn K (.ref C) "__bool__" = some none
  gi : PySem.W.findIn K (.ref C) "__getitem__" = some (some (.ref d.gi))
  gif : PySem.W.isFn K (.ref d.gi) = true
  gin : PySem.W.fnIn K d.gi = true
  sub : ∀ T ∈ ["int", "NoneType", "str", "list", "tuple"], PySem.W.subIn K (.type T) (.ref C) = some false ∧ PySem.W.kitOne K (.type T) (.ref C) = some false
def spPIter (K : PySem.W.Frag) (C : Addr) (n : Nat) : Sp := Rd.mkSp (fun (a : Addr × List Int) => [.ref a.1]) fun a H Q _ => PolyAt K C H a.1 a.2 ∧ ∀ it p, TI K H p a.2 → H it = none → n ≤ it → Q (.ref it) (upd H it (Rd.ItT p it))
def spPLen (K : PySem.W.Frag) (C : Addr) : Sp := Rd.mkSp (fun (a : Addr × List Int) => [.ref a.1]) fun a H Q _ => PolyAt K C H a.1 a.2 ∧ Q (.int a.2.length) H
def spPGet (K : PySem.W.Frag) (C : Addr) : Sp := Rd.mkSp (fun (a : Addr × List Int × Nat) => [.ref a.1, .int a.2.2]) fun a H Q _ => PolyAt K C H a.1 a.2.1 ∧ Q (.int (a.2.1.getD a.2.2 0)) H
def spPEqF (K : PySem.W.Frag) (C : Addr) : Sp := Rd.mkSp (fun (a : Addr × V) => [.ref a.1, a.2]) fun a H Q _ => (∃ tb, TyX K H a.2 tb ∧ PySem.W.kitOne K tb (.ref C) = some false) ∧ Q (.bl false) H
section
variable {P : Program} {w : World} {K : PySem.W.Frag} {mg : Str → Option Value} {a : Ads}
theorem ok_piter {base : Heap} {d : AdsD} (T : PolyC K mg a) (g : Glob mg) (F : Rd.HasAt K d.it "__iter__" "Polynomial.__iter__" s_Polynomial___iter__) : FnR P w K mg base CX0 1 d.it (spPIter K a.C base.objs.size) := by
  refine Rd.FnG.toR (F.fn sc_Polynomial___iter__ (fun _ => rfl) (fun _ _ _ _ _ _ us hl => match us, hl with | [_], _ => rfl) fun cdv A outer s H Q E b hr h => ?_)
  obtain ⟨x, ns⟩ := b
  obtain ⟨⟨dx, p, hx, hS⟩, k⟩ := h
  dsimp only at hx hS k
  have hS' : SqT K H p (ns.map V.int) := hS
  refine ⟨_, (pss_one (ps_ret (pe_callB Rd.c_iterT (by rfl) g.iter (by decide +kernel) (pa_cons (pe_fld (pv 0) rfl) pa_nil)))), ?_⟩
  try simp only [Rd.noxK, Rd.cxK]
  refine Rd.rd_start [some (V.ref x)] rfl ?_
  walk_at "rd"
  refine fld_at (T := T) hx ?_
  walk_at "rd"
  exact Rd.rd_iterT hS' fun it h1 h2 => k it p hS h1 h2
theorem ok_plen {base : Heap} {d : AdsD} (T : PolyC K mg a) (g : Glob mg) (F : Rd.HasAt K d.ln "__len__" "Polynomial.__len__" s_Polynomial___len__) : FnR P w K mg base CX0 1 d.ln (spPLen K a.C) := by
  refine Rd.FnG.toR (F.fn sc_Polynomial___len__ (fun _ => rfl) (fun _ _ _ _ _ _ us hl => match us, hl with | [_], _ => rfl) fun cdv A outer s H Q E b hr h => ?_)
  obtain ⟨x, ns⟩ := b
  obtain ⟨⟨dx, p, hx, hS⟩, k⟩ := h
  dsimp only at hx hS k
  have hS' : SqT K H p (ns.map V.int) := hS
  refine ⟨_, (pss_one (ps_ret (pe_callB Rd.c_len (by rfl) g.len (by decide +kernel) (pa_cons (pe_fld (pv 0) rfl) pa_nil)))), ?_⟩
  try simp only [Rd.noxK, Rd.cxK]
  refine Rd.rd_start [some (V.ref x)] rfl ?_
  walk_at "rd"
  refine fld_at (T := T) hx ?_
  walk_at "rd"
  rw [List.length_map]
  exact k
theorem ok_pget {base : Heap} {d : AdsD} (T : PolyC K mg a) (g : Glob mg) (F : Rd.HasAt K d.gi "__getitem__" "Polynomial.__getitem__" s_Polynomial___getitem__) (c_require_number : Rd.Fn false P w K mg base CX0 3 "require_number" spReqNum) : FnR P w K mg base CX0 4 d.gi (spPGet K a.C) := by
  refine Rd.FnG.toR (F.fn sc_Polynomial___getitem__ (fun _ => rfl) (fun _ _ _ _ _ _ us hl => match us, hl with | [_, _], _ => rfl) fun cdv A outer s H Q E b hr h => ?_)
  obtain ⟨x, ns, n⟩ := b
  obtain ⟨⟨dx, p, hx, hS⟩, k⟩ := h
  dsimp only at hx hS k
  have hS' : SqT K H p (ns.map V.int) := hS
  refine ⟨_, (pss_cons (ps_expr (Rd.pe_fn c_require_number (hr.mono (by decide)) (by rfl) (pa_cons (pv 1) pa_nil)))
      (pss_one (ps_ret (pe_ifExp (pt_cmpR op_lt (pv 1) (pe_callB Rd.c_len (by rfl) g.len (by decide +kernel) (pa_cons (pe_fld (pv 0) rfl) pa_nil)) (nomark _)) (pe_ix ix_tup (pe_fld (pv 0) rfl) (pv 1) (fun _ _ => rfl)) pe_int)))), ?_⟩
  try simp only [Rd.noxK, Rd.cxK]
  refine Rd.rd_start [some (V.ref x), some (V.int n)] rfl ?_
  walk_at "rd"
  refine Rd.rd_sp (n : Int) rfl ⟨by omega, ?_⟩
  walk_at "rd"
  refine fld_at (T := T) hx ?_
  walk_at "rd"
  rw [List.length_map]
  refine ite2 (fun hc => ?_) (fun hc => ?_)
  · have hn : n < ns.length := by
      have : (n : Int) < (ns.length : Int) := of_decide_eq_true hc
      omega
    walk_at "rd"
    refine fld_at (T := T) hx ?_
    walk_at "rd"
    refine Rd.rd_ixT hS' (atI_nat (v := V.int ns[n]) (by rw [List.getElem?_map, List.getElem?_eq_getElem hn]; rfl)) ?_
    rw [List.getD_eq_getElem?_getD, List.getElem?_eq_getElem hn] at k
    exact k
  · have hn : ¬ n < ns.length := fun q => hc (decide_eq_true (by omega))
    walk_at "rd"
    rw [List.getD_eq_getElem?_getD, List.getElem?_eq_none (by omega)] at k
    exact k
theorem ok_peqF {base : Heap} (T : PolyC K mg a) (g : Glob mg) (F : Rd.HasAt K a.eq "__eq__" "Polynomial.__eq__" s_Polynomial___eq__) : FnR P w K mg base CX0 1 a.eq (spPEqF K a.C) := by
  refine Rd.FnG.toR (F.fn sc_Polynomial___eq__ (fun _ => rfl) (fun _ _ _ _ _ _ us hl => match us, hl with | [_, _], _ => rfl) fun cdv A outer s H Q E b hr h => ?_)
  obtain ⟨x, v⟩ := b
  obtain ⟨⟨tb, ty, hk⟩, k⟩ := h
  dsimp only at ty hk k
  refine ⟨_, (pss_one (ps_ret (pe_and (pe_callB Rd.c_isi (by rfl) g.isinstance (by decide +kernel) (pa_cons (pv 1) (pa_cons (Rd.pe_glr (by rfl) T.mgC) pa_nil))) (pe_one (pe_cmpR (op_eqD hr.units) (pe_fld (pv 0) rfl) (pe_fld (pv 1) rfl) (nomark _)))))), ?_⟩
  try simp only [Rd.noxK, Rd.cxK]
  refine Rd.rd_start [some (V.ref x), some v] rfl ?_
  walk_at "rd"
  refine Rd.rd_isiC ty hk ?_
  walk_at "rd"
  exact Rd.if_f rfl k
end
end M
set_option Elab.async false
set_option linter.all false
set_option maxRecDepth 100000
set_option maxHeartbeats 4000000
/-! Rs: sets of texts: made of a tuple or a list, their number, sorted. -/
namespace Rd
open PySem PySem.Spec PySem.Froz PyProof.Rows L2
def txOf (e : Int × Value) : Str := match e.2 with | .str k _ => k | _ => Str.empty
/-- the set of the texts l at a, which can be walked -/
def SetS (P : Program) (w : World) (h : Heap) (a : Addr) (l : List Str) : Prop := ∃ D : SD, h.get? a = some (Froz.sObj "set" D) ∧ TxOk P w D l ∧ (D.1.toList.map txOf).Perm l ∧ l.Nodup ∧ Ris D.2.2.place.toList ∧ (w.params.followText "set-order" = true ∨ D.2.2.led = true)
section
variable {P : Program} {w : World} {h h' : Heap} {a : Addr} {l : List Str}
theorem SetS.at (R : SetS P w h a l) (k : ∀ o, h.get? a = some o → h'.get? a = some o) : SetS P w h' a l := by
  obtain ⟨D, ho, r⟩ := R
  exact ⟨D, k _ ho, r⟩
theorem addTx_facts {x : Int} {v : Value} {D : SD} (r : Ris D.2.2.place.toList) : (addTx x v D).1.toList.Perm (D.1.push (x, v)).toList ∧ Ris (addTx x v D).2.2.place.toList ∧ (addTx x v D).2.2.led = D.2.2.led := by
  have p1 := layNew_perm D.2.2 D.1 x v
  have r1 := layNew_ris D.2.2 D.1 x v r
  have l1 := layNew_led D.2.2 D.1 x v
  unfold addTx tailTx
  generalize layNew D.2.2 D.1 x v = Z at p1 r1 l1 ⊢
  obtain ⟨e1, t1, wd, gv⟩ := Z
  dsimp only at p1 r1 l1 ⊢
  have r2 : Ris (if t1.plain = true then { t1 with plain := false } else t1).place.toList := by split <;> exact r1
  have l2 : (if t1.plain = true then { t1 with plain := false } else t1).led = D.2.2.led := by split <;> exact l1
  generalize (if t1.plain = true then { t1 with plain := false } else t1) = t2 at r2 l2 ⊢
  split
  · exact ⟨(relayAll_perm t2 e1 _).trans p1, relayAll_ris t2 e1 _, (relayAll_led t2 e1 _).trans l2⟩
  · exact ⟨p1, r2, l2⟩
end
section
variable {P : Program} {w : World} {A : Around} {E : Value → Shared → Prop} {s : Shared} {a : Addr} {l : List Str}
/-- a text is put in -/
def putT (l : List Str) (k : Str) : List Str := if k ∈ l then l else l ++ [k]
theorem setS_add {k : Str} {u : Tok} {Q : Bool → Shared → Prop} (R : SetS P w s.heap a l) (room : l.length + 1 < scanBound) (hQ : ∀ (b : Bool) h2, Heap.SameBut a s.heap h2 → SetS P w h2 a (putT l k) → Q b { s with heap := h2 }) :
    wpAny (model P w) A (setAddHashed a (.str k u) (hashStr w k)) Q E s := by
  obtain ⟨D, ho, F, pm, nd, hr, hl⟩ := id R
  by_cases hk : k ∈ l
  · have el : ElemsOf (strKind P w) D.1.toList := F.el
    have sz : D.1.size = l.length := F.sz
    unfold setAddHashed setAddHashedIn
    refine wpAny_holding (wpAny_bind (wpAny_setState_of (es := D.1) (ep := D.2.1) (t := D.2.2) ho rfl F.fit ?_))
    dsimp only
    rw [byScan_of (knd := strKind P w) rfl (by omega) el]
    simp only [↓reduceIte]
    unfold setAddByScan
    refine wpAny_bind (wpAny_bind (wpAny_rule (wpAny_bind (wpAny_setScan_of (knd := strKind P w) (k := k) (is_str k u) ho rfl F.fit el ?_))))
    cases hf : List.findIdx? (fun e => (strKind P w).is k e.2) D.1.toList with
    | none =>
      obtain ⟨e, he, q⟩ := (F.mem k).mp hk
      have := List.findIdx?_eq_none_iff.mp hf e he
      rw [q] at this
      cases this
    | some j =>
      dsimp only
      refine wpAny_pure (wpAny_pure ?_)
      have := hQ false s.heap (Heap.SameBut.refl a s.heap) (by unfold putT; rw [if_pos hk]; exact R)
      exact this
  · refine add_x ho F hk room (hQ true _ (Heap.SameBut.update _ _ _) ?_)
    obtain ⟨p1, r1, l1⟩ := addTx_facts (x := hashStr w k) (v := .str k u) hr
    have F1 := add_ok (k := k) u F
    have e1 : putT l k = l ++ [k] := by unfold putT; rw [if_neg hk]
    rw [e1]
    have pl : (k :: l).Perm (l ++ [k]) := (List.perm_append_singleton k l).symm
    refine ⟨_, get_upd _ ho rfl, ⟨F1.el, fun z => (pl.mem_iff.symm.trans (F1.mem z)), by rw [F1.sz, pl.length_eq], F1.fit⟩, ?_, pl.nodup_iff.mp (List.nodup_cons.mpr ⟨hk, nd⟩), r1, hl.imp id fun z => l1.trans z⟩
    have p2 := p1.map txOf
    rw [Array.toList_push, List.map_append] at p2
    exact p2.trans (pm.append_right _)
/-- without repeats, in the order of their first places -/
def dedT (xs : List Str) : List Str := xs.foldl putT []
theorem dedT_snoc (xs : List Str) (k : Str) : dedT (xs ++ [k]) = putT (dedT xs) k := by unfold dedT; rw [List.foldl_append]; rfl
theorem mem_putT {xs : List Str} {k z : Str} : z ∈ putT xs k ↔ z ∈ xs ∨ z = k := by
  unfold putT
  by_cases h : k ∈ xs
  · rw [if_pos h]
    exact ⟨.inl, fun q => q.elim id fun e => e ▸ h⟩
  · rw [if_neg h, List.mem_append, List.mem_singleton]
theorem len_putT (xs : List Str) (k : Str) : (putT xs k).length ≤ xs.length + 1 := by
  unfold putT
  split
  · omega
  · rw [List.length_append]; exact Nat.le_refl _
theorem mem_fold : ∀ (xs acc : List Str) (z : Str), z ∈ xs.foldl putT acc ↔ z ∈ acc ∨ z ∈ xs
  | [], acc, z => by simp
  | k :: xs, acc, z => by
    rw [List.foldl_cons, mem_fold xs, mem_putT, List.mem_cons, or_assoc]
theorem mem_dedT {xs : List Str} {z : Str} : z ∈ dedT xs ↔ z ∈ xs := by
  unfold dedT
  rw [mem_fold]
  simp
theorem len_fold : ∀ (xs acc : List Str), (xs.foldl putT acc).length ≤ acc.length + xs.length
  | [], acc => by simp
  | k :: xs, acc => by
    rw [List.foldl_cons, List.length_cons]
    have := len_fold xs (putT acc k)
    have := len_putT acc k
    omega
theorem len_dedT (xs : List Str) : (dedT xs).length ≤ xs.length := by
  have := len_fold xs []
  unfold dedT
  simpa using this
theorem nodup_putT {xs : List Str} {k : Str} (h : xs.Nodup) : (putT xs k).Nodup := by
  unfold putT
  split
  · exact h
  · rename_i q
    exact (List.perm_append_singleton k xs).nodup_iff.mpr (List.nodup_cons.mpr ⟨q, h⟩)
theorem nodup_fold : ∀ (xs acc : List Str), acc.Nodup → (xs.foldl putT acc).Nodup
  | [], _, h => h
  | k :: xs, acc, h => nodup_fold xs _ (nodup_putT h)
theorem nodup_dedT (xs : List Str) : (dedT xs).Nodup := nodup_fold xs [] List.nodup_nil
theorem fold_new : ∀ (xs acc : List Str), (acc ++ xs).Nodup → xs.foldl putT acc = acc ++ xs
  | [], acc, _ => by simp
  | k :: xs, acc, h => by
    have hk : k ∉ acc := fun q => by
      have := List.nodup_append.mp h
      exact this.2.2 k q k List.mem_cons_self rfl
    rw [List.foldl_cons]
    have e : putT acc k = acc ++ [k] := by unfold putT; rw [if_neg hk]
    rw [e, fold_new xs _ (by rw [List.append_assoc]; exact h), List.append_assoc]
    rfl
theorem dedT_nodup {xs : List Str} (h : xs.Nodup) : dedT xs = xs := by
  have := fold_new xs [] (by simpa using h)
  simpa [dedT] using this
theorem dedT_lt {xs : List Str} (h : ¬ xs.Nodup) : (dedT xs).length < xs.length := by
  suffices q : ∀ (xs acc : List Str), acc.Nodup → ¬ (acc ++ xs).Nodup → (xs.foldl putT acc).length < acc.length + xs.length by
    have := q xs [] List.nodup_nil (by simpa using h)
    simpa [dedT] using this
  intro xs
  induction xs with
  | nil => intro acc h1 h2; exact absurd (by simpa using h1) h2
  | cons k xs ih =>
    intro acc h1 h2
    rw [List.foldl_cons, List.length_cons]
    by_cases hk : k ∈ acc
    · have e : putT acc k = acc := by unfold putT; rw [if_pos hk]
      rw [e]
      have := len_fold xs acc
      omega
    · have e : putT acc k = acc ++ [k] := by unfold putT; rw [if_neg hk]
      rw [e]
      have := ih (acc ++ [k]) (by rw [← e]; exact nodup_putT h1) (by rw [List.append_assoc]; exact h2)
      rw [List.length_append] at this
      simp only [List.length_singleton] at this
      omega
abbrev set0 (w : World) : Obj := { cls := .type "set", dict := none, data := .set #[] 0 (.fresh 0 0 (!w.params.followText "set-order")) }
theorem setS_new {h : Heap} (ho : h.get? a = some (set0 w)) : SetS P w h a [] :=
  ⟨(#[], 0, _), ho, TxOk.nil rfl, List.Perm.refl _, List.nodup_nil, List.Pairwise.nil, by
    show _ ∨ (!w.params.followText "set-order") = true
    cases w.params.followText "set-order" <;> simp⟩
/-- the texts of an iterator are put in, one by one -/
theorem set_update_txt {I : Addr} {fp wr : List Addr} {G : Array GenState → Array GenState → Prop} {Pv : Nat → Value → Prop} {St : Nat → Shared → Prop} {R : Result → Shared → Prop} (ns : List Str) (S : Addr)
    (W : WalksS P w A.in1 I fp wr G ns.length Pv St) (hSf : S ∉ fp) (hb : ns.length + 1 < scanBound) (hval : ∀ i v, Pv i v → ∃ k t, ns[i]? = some k ∧ v = .str k t)
    (hR : ∀ s0 s2, Moved (S :: wr) G s0 s2 → s0 = s → SetS P w s2.heap S (dedT ns) → R (.ok (.ret .none)) s2) :
    St 0 s → SetS P w s.heap S [] → codeAny (model P w) A (.builtin "set.update.loop" ⟨[.ref S, .ref I], []⟩) R s := by
  have hSw : S ∉ wr := fun q => hSf (W.sub _ q)
  have sub : ∀ b ∈ wr, b ∈ S :: wr := fun b q => List.mem_cons_of_mem _ q
  suffices all : ∀ (m i : Nat) (s1 : Shared), ns.length - i = m → i ≤ ns.length → St i s1 → SetS P w s1.heap S (dedT (ns.take i)) → (∀ s2, Moved (S :: wr) G s1 s2 → SetS P w s2.heap S (dedT ns) → R (.ok (.ret .none)) s2) →
      codeAny (model P w) A (.builtin "set.update.loop" ⟨[.ref S, .ref I], []⟩) R s1 from
    fun h0 h1 => all _ 0 s rfl (Nat.zero_le _) h0 h1 fun s2 m2 r2 => hR s s2 m2 rfl r2
  intro m
  induction m with
  | zero =>
    intro i s1 em hi hst hS hR
    obtain rfl : i = ns.length := by omega
    refine codeAny_builtin F.entry_set_update_loop ?_
    rw [Around.under_plainId F.plain_set_update_loop _]
    show wpAny _ A.in1 (pyNext (.ref I) >>= _) _ _ s1
    refine wpAny_bind (W.done s1 _ _ hst fun s2 hm => ?_)
    show wpAny _ A.in1 (ret Value.none) _ _ s2
    rw [List.take_length] at hS
    exact wpAny_pure (hR s2 (hm.mono sub) (hS.at fun o e => hm.heap S o hSw e))
  | succ m ih =>
    intro i s1 em hi hst hS hR
    have hlt : i < ns.length := by omega
    refine codeAny_builtin F.entry_set_update_loop ?_
    rw [Around.under_plainId F.plain_set_update_loop _]
    show wpAny _ A.in1 (pyNext (.ref I) >>= _) _ _ s1
    refine wpAny_bind (W.item i s1 _ _ hlt hst fun v s2 hP hst2 hm => ?_)
    obtain ⟨z, t, hz, rfl⟩ := hval i v hP
    have hS2 := hS.at (h' := s2.heap) fun o e => hm.heap S o hSw e
    show wpAny _ A.in1 (holding [Value.str z t] (setAdd S (.str z t)) >>= _) _ _ s2
    refine wpAny_bind (wpAny_holding ?_)
    unfold setAdd
    refine wpAny_holding (wpAny_bind ((strKind P w).pyHash (k := z) (is_str z t) ?_))
    have hlen := len_dedT (ns.take i)
    rw [List.length_take] at hlen
    refine setS_add (s := { s2 with toks := s2.toks + 1 }) hS2 (by omega) fun b h2 hsb hS3 => ?_
    rw [← dedT_snoc] at hS3
    have et : ns.take (i + 1) = ns.take i ++ [z] := by rw [List.take_add_one, hz]; rfl
    rw [← et] at hS3
    refine wpAny_pure ⟨plainId_quiet F.plain_set_update_loop _, ih (i + 1) _ (by omega) hlt (W.frame _ s2 _ _ hst2 (Nat.le_succ _) fun c hc o e => ?_) hS3 fun s3 hm3 hS4 => ?_⟩
    · rw [hsb.2 c fun q => hSf (q ▸ hc)]
      exact e
    · refine hR s3 (Moved.trans W.gtrans ((hm.mono sub).then_heap (Nat.le_succ _) fun c o hc e => ?_) hm3) hS4
      rw [hsb.2 c fun q => hc (q ▸ List.mem_cons_self)]
      exact e
set_option maxHeartbeats 16000000 in
/-- set(v), v a tuple or a list of texts -/
theorem call_set_txt {v : Addr} {items : Array Value} {T : String} (ns : List Str) {Q : Value → Shared → Prop} (hh : A.handled = none) (hT : (T = "tuple" ∧ s.heap.IsTuple v items) ∨ (T = "list" ∧ s.heap.IsList v items))
    (hval : ∀ (i : Nat) (x : Value), items[i]? = some x → ∃ k t, ns[i]? = some k ∧ x = .str k t) (hsz : items.size = ns.length) (hb : ns.length + 1 < scanBound)
    (hQ : ∀ (h2 : Heap) (tk : Nat), SetS P w h2 s.heap.objs.size (dedT ns) → (∀ b o, s.heap.get? b = some o → h2.get? b = some o) → Q (.ref s.heap.objs.size) { s with heap := h2, toks := tk }) :
    wpAny (model P w) A (call (.type "set") [.ref v]) Q E s := by
  obtain ⟨c, tl, hmro⟩ := F.called_set.mro
  have hmade := F.called_set.made
  have hsub := F.called_set.sub
  refine wpAny_call (codeAny_of_tree ?_)
  show wpAny _ _ (callAny (.type "set") _) _ _ _
  refine wpAny_pure ⟨Code.quiet_builtin _ (by decide +kernel), codeAny_builtin F.entry_type_call ?_⟩
  rw [Around.under_plain (weight_type_call_type "set" [.ref v] []) rfl]
  have n1 := F.called_set.notType
  have n2 := F.called_set.canCreate
  have n3 := F.typeCall_set_1 (.ref v)
  repeat (any_goals (first | assumption | wp_step))
  refine codeAny_mono (code_set_led1 (.ref v) (E := E) (Q₁ := fun obj s1 => obj = .ref s.heap.objs.size ∧ s1 = { s with heap := s.heap.push (set0 w) }) ⟨rfl, rfl⟩) fun r s1 hr => ?_
  match r, hr with
  | .error e, hr => exact hr
  | .ok .next, hr => exact hr.elim
  | .ok .brk, hr => exact hr.elim
  | .ok .cont, hr => exact hr.elim
  | .ok (.ret obj), hr =>
    obtain ⟨rfl, rfl⟩ := hr
    have hS : (s.heap.push (set0 w)).get? s.heap.objs.size = some (set0 w) := Heap.get?_push_size _ rfl
    have hTy : Shared.TypeIs { s with heap := s.heap.push (set0 w) } (.ref s.heap.objs.size) "set" := ⟨_, hS, rfl⟩
    have i1 := F.called_set.init.lookup
    have i2 := F.called_set.init.bind (.ref s.heap.objs.size)
    repeat (any_goals (first | assumption | wp_step))
    refine codeAny_mono (codeAny_call_builtin (R := wants (fun r s2 => r = .none ∧ ∃ h2 tk, s2 = { s with heap := h2, toks := tk } ∧ SetS P w h2 s.heap.objs.size (dedT ns) ∧ ∀ b o, s.heap.get? b = some o → h2.get? b = some o) E) F.called_set.init.plain F.entry_set_init (check_set_init_1 hTy ?_)) fun r2 s2 hr2 => ?_
    · have hz1 : (s.heap.push (set0 w)).objs.size = s.heap.objs.size + 1 := Heap.size_push ..
      have h3 : A.in1.in1.in1.handled = none := by simp [hh]
      have fin : ∀ {I : Addr} {G : Array GenState → Array GenState → Prop} {s0 s2 : Shared} {wr : List Addr}, Moved (s.heap.objs.size :: wr) G s0 s2 → (∀ b ∈ wr, s.heap.objs.size ≤ b) → (G = fun a b => b = a) → SetS P w s2.heap s.heap.objs.size (dedT ns) → (∀ b o, s.heap.get? b = some o → s0.heap.get? b = some o) → s0.gens = s.gens → s0.drawn = s.drawn → s0.os = s.os →
          ∃ h2 tk, s2 = { s with heap := h2, toks := tk } ∧ SetS P w h2 s.heap.objs.size (dedT ns) ∧ ∀ b o, s.heap.get? b = some o → h2.get? b = some o := by
        intro I G s0 s2 wr hm hwr hG r2 k0 g0 d0 o0
        obtain ⟨h2, g2, d2, tk2, os2⟩ := s2
        subst hG
        have eg : g2 = s0.gens := hm.gens
        have ed : d2 = s0.drawn := hm.drawn
        have eo : os2 = s0.os := hm.os
        refine ⟨h2, tk2, ?_, r2, fun b o e => hm.heap b o (fun z => ?_) (k0 b o e)⟩
        · rw [eg, ed, eo, g0, d0, o0]
        · have hb0 : b < s.heap.objs.size := Heap.lt_size e
          rcases List.mem_cons.mp z with q | q
          · exact absurd hb0 (by rw [q]; exact Nat.lt_irrefl _)
          · exact absurd hb0 (Nat.not_lt_of_le (hwr b q))
      rcases hT with ⟨rfl, hl⟩ | ⟨rfl, hl⟩
      · obtain ⟨ol, hol, hcl, nl, hdl⟩ := hl
        obtain ⟨ocls, odict, odata, oslots⟩ := ol
        simp only at hcl hdl
        subst hcl; subst hdl
        have hol1 := Heap.get?_push_of_some (set0 w) hol
        have q1 := F.sub_tuple_set
        have q2 := F.sub_tuple_frozenset
        have q3 : (Value.type "tuple" == Value.type "dict") = false := by decide
        have hl1 : (s.heap.push (set0 w)).IsTuple v items := ⟨_, hol1, rfl, nl, rfl⟩
        unfold Builtin.«set.__init__» noKeywords Builtin.Frozenset.updateFrom
        generalize hPI : pyIter = PI
        wp_walk
        subst hPI
        have hlS : v < s.heap.objs.size := Heap.lt_size hol
        have nI : v ≠ (s.heap.push (set0 w)).objs.size := by rw [hz1]; exact Nat.ne_of_lt (Nat.lt_succ_of_lt hlS)
        refine wpAny_pyIter_tuple hl1 (wpAny_bind (wpAny_runValue ?_))
        have W := (Walks.tuple (prog := P) (w := w) h3 _ v nI items).toS
        rw [hsz] at W
        refine set_update_txt ns s.heap.objs.size W ?_ hb hval (fun s0 s2 hm e0 r2 => ?_) ⟨⟨_, Heap.get?_push_size _ rfl, rfl, rfl⟩, hl1.push _⟩ (setS_new (Heap.get?_push_of_some _ hS))
        · rw [hz1]
          simp only [List.mem_cons, List.mem_singleton, List.not_mem_nil, or_false, not_or]
          exact ⟨Nat.ne_of_lt (Nat.lt_succ_self _), Nat.ne_of_gt hlS⟩
        · subst e0
          show wpAny _ _ _ _ _ _
          refine wpAny_pure ?_
          show wpAny _ _ (ret Value.none) _ _ _
          refine wpAny_pure ⟨rfl, fin (I := v) hm (fun b q => ?_) rfl r2 (fun b o e => Heap.get?_push_of_some _ (Heap.get?_push_of_some _ e)) rfl rfl rfl⟩
          rw [List.mem_singleton.mp q, hz1]
          exact Nat.le_succ _
      · obtain ⟨ol, hol, hcl, nl, hdl⟩ := hl
        obtain ⟨ocls, odict, odata, oslots⟩ := ol
        simp only at hcl hdl
        subst hcl; subst hdl
        have hol1 := Heap.get?_push_of_some (set0 w) hol
        have q1 := F.sub_list_set
        have q2 := F.sub_list_frozenset
        have q3 : (Value.type "list" == Value.type "dict") = false := by decide
        have hl1 : (s.heap.push (set0 w)).IsList v items := ⟨_, hol1, rfl, nl, rfl⟩
        unfold Builtin.«set.__init__» noKeywords Builtin.Frozenset.updateFrom
        generalize hPI : pyIter = PI
        wp_walk
        subst hPI
        have hlS : v < s.heap.objs.size := Heap.lt_size hol
        have nI : v ≠ (s.heap.push (set0 w)).objs.size := by rw [hz1]; exact Nat.ne_of_lt (Nat.lt_succ_of_lt hlS)
        refine wpAny_pyIter_list hl1 (wpAny_bind (wpAny_runValue ?_))
        have W := (Walks.list (prog := P) (w := w) h3 _ v nI items).toS
        rw [hsz] at W
        refine set_update_txt ns s.heap.objs.size W ?_ hb hval (fun s0 s2 hm e0 r2 => ?_) ⟨⟨_, Heap.get?_push_size _ rfl, rfl, rfl⟩, hl1.push _⟩ (setS_new (Heap.get?_push_of_some _ hS))
        · rw [hz1]
          simp only [List.mem_cons, List.mem_singleton, List.not_mem_nil, or_false, not_or]
          exact ⟨Nat.ne_of_lt (Nat.lt_succ_self _), Nat.ne_of_gt hlS⟩
        · subst e0
          show wpAny _ _ _ _ _ _
          refine wpAny_pure ?_
          show wpAny _ _ (ret Value.none) _ _ _
          refine wpAny_pure ⟨rfl, fin (I := v) hm (fun b q => ?_) rfl r2 (fun b o e => Heap.get?_push_of_some _ (Heap.get?_push_of_some _ e)) rfl rfl rfl⟩
          rw [List.mem_singleton.mp q, hz1]
          exact Nat.le_succ _
    · match r2, hr2 with
      | .error e, hr2 => exact hr2
      | .ok .next, hr2 => exact hr2.elim
      | .ok .brk, hr2 => exact hr2.elim
      | .ok .cont, hr2 => exact hr2.elim
      | .ok (.ret r), hr2 =>
        obtain ⟨rfl, h2, tk, rfl, r3, k3⟩ := hr2
        repeat (any_goals (first | assumption | wp_step))
        exact hQ _ _ r3 k3
end
end Rd
set_option Elab.async false
set_option linter.all false
set_option maxRecDepth 100000
set_option maxHeartbeats 4000000
/-! Rk: sorted of texts (of a list, a tuple, a set) and of tuples that begin with different texts. -/
namespace Rd
open PySem PySem.Spec PySem.Froz PyProof.Rows L2 SrtO
/-- the order of texts -/
def lts (x y : Str) : Bool := decide (x.cps.toList < y.cps.toList)
theorem lts_asym {x y : Str} (h : lts x y = true) : lts y x = false := by
  unfold lts at *
  rw [decide_eq_true_eq] at h
  rw [decide_eq_false_iff_not]
  exact fun q => List.lt_irrefl _ (List.lt_trans h q)
theorem lts_trans {x y z : Str} (h1 : lts x y = true) (h2 : lts y z = true) : lts x z = true := by
  unfold lts at *
  rw [decide_eq_true_eq] at *
  exact List.lt_trans h1 h2
theorem lts_irrefl (x : Str) : lts x x = false := by
  unfold lts
  rw [decide_eq_false_iff_not]
  exact List.lt_irrefl _
theorem lts_total {x y : Str} (h1 : lts x y = false) (h2 : lts y x = false) : x = y := by
  unfold lts at *
  rw [decide_eq_false_iff_not] at *
  have e := List.le_antisymm (List.not_lt.mp h2) (List.not_lt.mp h1)
  cases x
  cases y
  congr 1
  exact Array.toList_inj.mp e
theorem lts_ntr {x y z : Str} (h1 : lts y x = false) (h2 : lts z y = false) : lts z x = false := by
  unfold lts at *
  rw [decide_eq_false_iff_not] at *
  exact List.not_lt.mpr (List.le_trans (List.not_lt.mp h1) (List.not_lt.mp h2))
theorem swo_key (k : Value → Str) : Swo fun v u => lts (k v) (k u) := ⟨fun _ _ h => lts_asym h, fun _ _ _ h1 h2 => lts_ntr h1 h2⟩
/-- rising texts, without repeats -/
def Asc (l : List Str) : Prop := l.Pairwise fun x y => lts x y = true
theorem asc_of {l : List Str} (h : l.Pairwise fun x y => lts y x = false) (nd : l.Nodup) : Asc l := by
  unfold Asc
  have := List.pairwise_and_iff.mpr ⟨h, nd⟩
  refine this.imp fun {x y} ⟨q1, q2⟩ => ?_
  cases q : lts x y with
  | true => rfl
  | false => exact absurd (lts_total q q1) q2
theorem Asc.nodup {l : List Str} (h : Asc l) : l.Nodup := h.imp fun {x y} q e => by
  rw [e, lts_irrefl] at q
  cases q
theorem Asc.eq : ∀ {l m : List Str}, Asc l → Asc m → (∀ z, z ∈ l ↔ z ∈ m) → l = m
  | [], [], _, _, _ => rfl
  | [], y :: _, _, _, h => nomatch (h y).mpr List.mem_cons_self
  | x :: _, [], _, _, h => nomatch (h x).mp List.mem_cons_self
  | x :: l, y :: m, h1, h2, h => by
    obtain ⟨a1, b1⟩ := List.pairwise_cons.mp h1
    obtain ⟨a2, b2⟩ := List.pairwise_cons.mp h2
    have e : x = y := by
      rcases List.mem_cons.mp ((h x).mp List.mem_cons_self) with q | q
      · exact q
      · rcases List.mem_cons.mp ((h y).mpr List.mem_cons_self) with q' | q'
        · exact q'.symm
        · have z1 := a2 x q
          have z2 := a1 y q'
          rw [lts_asym z1] at z2
          cases z2
    subst e
    have hx : ∀ {r : List Str}, (∀ z ∈ r, lts x z = true) → x ∉ r := fun q m => by
      have := q x m
      rw [lts_irrefl] at this
      cases this
    rw [Asc.eq b1 b2 fun z => ⟨fun hz => ?_, fun hz => ?_⟩]
    · rcases List.mem_cons.mp ((h z).mp (List.mem_cons_of_mem _ hz)) with q | q
      · exact absurd hz (q ▸ hx a1)
      · exact q
    · rcases List.mem_cons.mp ((h z).mpr (List.mem_cons_of_mem _ hz)) with q | q
      · exact absurd hz (q ▸ hx a2)
      · exact q
theorem Asc.perm_eq {l m : List Str} (h1 : Asc l) (h2 : Asc m) (p : l.Perm m) : l = m := h1.eq h2 fun z => p.mem_iff
/-! ### sorted, whatever is gathered -/
section
variable {P : Program} {w : World} {A : Around} {E : Value → Shared → Prop} {s : Shared}
/-- the items of a list or a tuple, gathered; the heap has grown -/
theorem collect_seqZ {Q : List Value → Shared → Prop} (v : Addr) {T : String} {o : Obj} {items : Array Value} {n : Nat} (hT : T = "list" ∨ T = "tuple") (ho : s.heap.get? v = some o) (hc : o.cls = .type T) (hd : o.data = .seq items n) (hz : items.size ≤ sizeLine)
    (hQ : ∀ h2 : Heap, (∀ b u, s.heap.get? b = some u → h2.get? b = some u) → s.heap.objs.size ≤ h2.objs.size → Q items.toList { s with heap := h2 }) : wpAny (model P w) A (collect (.ref v)) Q E s := by
  let l0 : Obj := { cls := .type "list", data := .seq ([] : List Value).toArray }
  have g0 : (s.heap.push l0).get? s.heap.objs.size = some l0 := Heap.get?_push_size _ rfl
  have g1 := Heap.get?_update_self (Obj.mapSeq (· ++ items)) g0 rfl
  have done : wpAny (model P w) A (load s.heap.objs.size >>= fun o => match o.data with
      | Data.seq xs _ => pure xs.toList
      | _ => unsupported "internal:collect") Q E { s with heap := (s.heap.push l0).update s.heap.objs.size (Obj.mapSeq (· ++ items)) } := by
    refine wpAny_bind (wpAny_load g1 (wpAny_pure ?_))
    have e : ((#[] : Array Value) ++ items).toList = items.toList := by simp
    show Q ((#[] : Array Value) ++ items).toList _
    rw [e]
    refine hQ _ (fun b u q => (Heap.get?_update_other _ _ (Nat.ne_of_gt (Heap.lt_size q))).trans (Heap.get?_push_of_some _ q)) ?_
    rw [Heap.size_update, Heap.size_push]
    exact Nat.le_succ _
  unfold collect
  refine wpAny_bind (wpAny_runValue (codeAny_builtin F.entry_proto_collect ?_))
  rw [Around.under_plainId F.plain_proto_collect _]
  show wpAny _ A.in1 (newList [] >>= fun l => again (.builtin "list.__iadd__" ⟨[l, .ref v], []⟩)) _ _ s
  refine wpAny_bind (wpAny_newObj_type (wpAny_pure ⟨plainId_quiet F.plain_list_iadd _, codeAny_builtin F.entry_list_iadd ?_⟩))
  rw [Around.under_plainId F.plain_list_iadd _]
  refine wpAny_mono (wpAny_extend_seq (hsz := hz) (A := A) (R := fun r s2 => r = .ok (.ret (.ref s.heap.objs.size)) ∧ s2 = { s with heap := (s.heap.push l0).update s.heap.objs.size (Obj.mapSeq (· ++ items)) }) (s := { s with heap := s.heap.push l0 }) _ v _ 0 hT g0 (Heap.get?_push_of_some _ ho) hc hd ⟨rfl, rfl⟩) (fun fin s2 q => ?_) (fun e s2 q => absurd q.1 (by simp))
  match fin, q with
  | .done f, ⟨e, e2⟩ =>
    cases e
    subst e2
    exact done
  | .again c, q =>
    refine ⟨q.1, codeAny_mono q.2 fun r s3 hr => ?_⟩
    obtain ⟨rfl, rfl⟩ := hr
    exact done
theorem sorted_src {v : Value} {C : List Value → Prop} {ltv : Value → Value → Bool} {Q : Value → Shared → Prop} (O : Swo ltv)
    (hcol : wpAny (model P w) A.in1 (collect v) (fun vs s1 => C vs ∧ (∀ b o, s.heap.get? b = some o → s1.heap.get? b = some o) ∧ s.heap.objs.size ≤ s1.heap.objs.size ∧ s1.gens = s.gens ∧ s1.os = s.os) E s) (hz : ∀ vs, C vs → vs.length ≤ sizeLine)
    (hS : ∀ vs, C vs → 2 ≤ vs.length → ∀ (s1 : Shared) (a : Addr), s1.heap.get? a = some (seqObj "list" vs.toArray 0) → (∀ b o, s.heap.get? b = some o → s1.heap.get? b = some o) → SortableO P w A.in1.in1 s1 a vs ltv)
    (hQ : ∀ vs out s2 p n, C vs → Srtd ltv out → Stb ltv out vs → (∀ b o, s.heap.get? b = some o → s2.heap.get? b = some o) → s.heap.objs.size ≤ p → s2.heap.get? p = some (seqObj "list" out.toArray n) → s2.gens = s.gens → s2.os = s.os → Q (.ref p) s2) :
    wpAny (model P w) A (call (.builtin "sorted") [v]) Q E s := by
  refine Calls.call_function_entry kind_sorted plain_sorted entry_sorted (args_sorted1 _) ?_
  unfold Builtin.«sorted»
  refine wpAny_bind (m := checkCount "sorted" 1 1 _) (wpAny_pure ?_)
  refine wpAny_bind (wpAny_mono hcol (fun vs s1 ⟨c, k1, z1, g1, o1⟩ => ?_) fun _ _ z => z)
  refine wpAny_bind (wpAny_newList ?_ (hz vs c))
  have hoL : (s1.heap.push (seqObj "list" vs.toArray 0)).get? s1.heap.objs.size = some (seqObj "list" vs.toArray 0) := Heap.get?_push_size _ rfl
  have keep : ∀ b o, s.heap.get? b = some o → (s1.heap.push (seqObj "list" vs.toArray 0)).get? b = some o := fun b o q => Heap.get?_push_of_some _ (k1 b o q)
  refine wpAny_bind (wpAny_holding (wpAny_call_entry slot_list_sort ⟨_, hoL, rfl⟩ entry_list_sort (list_sort_ord (s := { s1 with heap := s1.heap.push (seqObj "list" vs.toArray 0) }) O hoL (hz vs c) (fun h2 => hS vs c h2 { s1 with heap := s1.heap.push (seqObj "list" vs.toArray 0) } _ hoL keep) fun out hs hb => ⟨_, rfl, ?_⟩) (args_list_sort _)))
  obtain ⟨n, hn⟩ := sortedHeap_at (vs := vs) (out := out.toArray) hoL
  refine wpAny_pure ⟨_, rfl, hQ vs out _ s1.heap.objs.size n c hs hb (fun b o e => ?_) z1 hn g1 o1⟩
  have q := k1 b o e
  have lt := Heap.lt_size q
  show (sortedHeap (s1.heap.push (seqObj "list" vs.toArray 0)) s1.heap.objs.size vs out.toArray).get? b = some o
  rw [sortedHeap_old (Nat.ne_of_lt lt) (by rw [size_push']; exact Nat.lt_succ_of_lt lt)]
  exact Heap.get?_push_of_some _ q
/-! ### texts -/
def kS (v : Value) : Str := match v with | .str x _ => x | _ => Str.empty
theorem strs_mem : ∀ {vs : List Value} {ss : List Str}, StrsAre vs ss → ∀ v ∈ vs, ∃ t, v = .str (kS v) t
  | _, _, .nil, _, h => nomatch h
  | _, _, .cons x t r, v, h => by
    rcases List.mem_cons.mp h with e | e
    · exact ⟨t, by rw [e]; rfl⟩
    · exact strs_mem r v e
theorem kS_strs : ∀ {vs : List Value} {ss : List Str}, StrsAre vs ss → vs.map kS = ss
  | _, _, .nil => rfl
  | _, _, .cons x t r => by rw [List.map_cons, kS_strs r]; rfl
theorem strs_of_mem : ∀ {vs : List Value}, (∀ v ∈ vs, ∃ t, v = .str (kS v) t) → StrsAre vs (vs.map kS)
  | [], _ => .nil
  | v :: r, h => by
    obtain ⟨t, e⟩ := h v List.mem_cons_self
    rw [List.map_cons]
    have q := StrsAre.cons (kS v) t (strs_of_mem fun u hu => h u (List.mem_cons_of_mem _ hu))
    rw [← e] at q
    exact q
theorem strs_sortable {a : Addr} {vs : List Value} {ss : List Str} (hS : StrsAre vs ss) (h2 : 2 ≤ vs.length) : SortableO P w A s a vs fun v u => lts (kS v) (kS u) := by
  intro h1 _
  refine ⟨oneType', fun Q E hq => ?_, fun p q hm hm' => ?_⟩
  · match vs, hS, h2 with
    | v1 :: v2 :: rest, hS, _ =>
      rw [keyKind_strs hS]
      exact wpAny_pure hq
    | [], _, h => exact absurd h (by decide)
    | [v], _, h => exact absurd h (by simp)
  · obtain ⟨t, e⟩ := strs_mem hS _ hm
    obtain ⟨u, e'⟩ := strs_mem hS _ hm'
    show wpAny (model P w) A (keyLt' oneType' p.1 q.1) (fun r s2 => s2 = _ ∧ r = lts (kS p.1) (kS q.1)) (fun _ _ => False) _
    rw [e, e', keyLt'_oneType]
    exact oneLt_str ⟨rfl, rfl⟩
/-! ### tuples, by their first items, which are different texts -/
/-- v is a tuple that begins with the text k v -/
def TupK (h : Heap) (k : Value → Str) (v : Value) : Prop := ∃ a o t n, ∃ xs : Array Value, v = .ref a ∧ h.get? a = some o ∧ o.cls = .type "tuple" ∧ o.data = .seq xs n ∧ xs[0]? = some (.str (k v) t)
theorem katTups_of {h : Heap} {k : Value → Str} : ∀ {vs : List Value}, (∀ v ∈ vs, TupK h k v) → ∃ fs, PySem.W.KatTups h vs fs ∧ fs.length = vs.length ∧ ∀ f ∈ fs, ∃ x t, f = .str x t
  | [], _ => ⟨[], PySem.W.KatTups.nil, rfl, fun _ z => nomatch z⟩
  | v :: r, hv => by
    obtain ⟨fs, k1, k2, k3⟩ := katTups_of (vs := r) fun u hu => hv u (List.mem_cons_of_mem _ hu)
    obtain ⟨a, o, t, n, xs, e, h1, h2, h3, h4⟩ := hv v List.mem_cons_self
    refine ⟨.str (k v) t :: fs, ?_, by rw [List.length_cons, List.length_cons, k2], fun f hf => ?_⟩
    · have q := PySem.W.KatTups.cons h1 h2 h3 h4 k1
      rw [← e] at q
      exact q
    · rcases List.mem_cons.mp hf with z | z
      · exact ⟨_, _, z⟩
      · exact k3 f z
theorem kat_self {b fin : Bool} {Q : Bool → Shared → Prop} : ∀ (l : List Value) (i : Nat), Q fin s → PySem.W.KatLex P w A b fin Q (l.zip l) i s
  | [], _, h => PySem.W.kat_nil h
  | v :: r, i, h => PySem.W.kat_cons (SeqAt.EqAt.same v P w _ _ (PySem.W.kat_yes (kat_self r (i + 1) h)))
theorem tups_sortable {a : Addr} {vs : List Value} {k : Value → Str} (hv : ∀ v ∈ vs, TupK s.heap k v) (inj : ∀ v ∈ vs, ∀ u ∈ vs, k v = k u → v = u) (ha : ∀ o, s.heap.get? a = some o → o.cls ≠ .type "tuple") (h2 : 2 ≤ vs.length) :
    SortableO P w A s a vs fun v u => lts (k v) (k u) := by
  intro h1 keep
  have hv1 : ∀ v ∈ vs, TupK h1 k v := fun v hm => by
    obtain ⟨b, o, t, n, xs, e, q1, q2, q3⟩ := hv v hm
    exact ⟨b, o, t, n, xs, e, keep b o (fun z => by subst z; exact ha o q1 q2) q1, q2, q3⟩
  obtain ⟨fs, f1, f2, f3⟩ := katTups_of hv1
  refine ⟨tuples' true, fun Q E hq => ?_, fun p q hm hm' => ?_⟩
  · refine PySem.W.kat_kind (T := .type "str") f1 (by omega) (fun f hf => ?_) (by rfl) ?_
    · obtain ⟨x, t, rfl⟩ := f3 f hf
      exact PySem.W.Looks.now
    · have e : (Value.type "str" != Value.type "tuple") = true := by first | decide +kernel | rfl | decide
      rw [e]
      exact hq
  · show wpAny (model P w) A (keyLt' (tuples' true) p.1 q.1) (fun r s2 => s2 = _ ∧ r = lts (k p.1) (k q.1)) (fun _ _ => False) _
    have hm : p.1 ∈ vs := hm
    have hm' : q.1 ∈ vs := hm'
    obtain ⟨x, ox, t, n, xs, ex, gx, cx, dx, fx⟩ := hv1 _ hm
    by_cases e : p.1 = q.1
    · rw [← e, lts_irrefl, ex]
      refine PySem.W.kat_lt gx dx gx dx (kat_self _ 0 ⟨rfl, ?_⟩)
      exact decide_eq_false (Nat.lt_irrefl _)
    · obtain ⟨y, oy, u, m, ys, ey, gy, cy, dy, fy⟩ := hv1 _ hm'
      have hne : ¬ k p.1 = k q.1 := fun z => e (inj _ hm _ hm' z)
      generalize k p.1 = kp at fx hne ⊢
      generalize k q.1 = kq at fy hne ⊢
      rw [ex, ey]
      refine PySem.W.kat_lt gx dx gy dy ?_
      obtain ⟨r1, e1⟩ : ∃ r, xs.toList = .str kp t :: r := by
        cases hh : xs.toList with
        | nil =>
          rw [← Array.getElem?_toList, hh] at fx
          cases fx
        | cons z r =>
          rw [← Array.getElem?_toList, hh] at fx
          exact ⟨r, by rw [Option.some.inj fx]⟩
      obtain ⟨r2, e2⟩ : ∃ r, ys.toList = .str kq u :: r := by
        cases hh : ys.toList with
        | nil =>
          rw [← Array.getElem?_toList, hh] at fy
          cases fy
        | cons z r =>
          rw [← Array.getElem?_toList, hh] at fy
          exact ⟨r, by rw [Option.some.inj fy]⟩
      rw [e1, e2, List.zip_cons_cons]
      refine PySem.W.kat_cons (SeqAt.EqAt.str_str kp t kq u P w _ _ ?_)
      have eb : (kp == kq) = false := beq_eq_false_iff_ne.mpr hne
      rw [eb]
      exact PySem.W.kat_no (oneLt_str ⟨rfl, rfl⟩)
end
/-! ### over the layer -/
/-- the set of the texts l at a -/
def SetL (P : Program) (w : World) (a : Addr) (l : List Str) : HO := .ext fun h => SetS P w h a l
section
variable {X : Cx}
theorem setL_new {P : Program} {w : World} {H : Hp} {h : Heap} {a : Addr} {l : List Str} (R : SetS P w h a l) : ObjOk P w H h a (SetL P w a l) := ⟨R, let ⟨_, ho, _⟩ := R; ⟨_, ho⟩, fun _ _ r k => r.at k⟩
theorem setL_get {pins : List (Addr × Obj)} {σ : L2.St} {H : Hp} {s : Shared} {a : Addr} {l : List Str} (I : Inv X pins σ H s) (ha : H a = some (SetL X.prog X.w a l)) : SetS X.prog X.w s.heap a l := (I.hok a _ ha).1
theorem strs_get : ∀ {xs : List Str} {its : List Value}, Vals (xs.map V.str) its → ∀ (i : Nat) (x : Value), its[i]? = some x → ∃ k t, xs[i]? = some k ∧ x = .str k t
  | [], [], .nil, i, x, h => by simp at h
  | k :: xs, _ :: _, .cons r t, 0, x, h => by
    obtain ⟨tk, e⟩ := r
    exact ⟨k, tk, rfl, by rw [← Option.some.inj h, e]⟩
  | k :: xs, _ :: _, .cons r t, i + 1, x, h => by
    obtain ⟨k', t', e1, e2⟩ := strs_get t i x h
    exact ⟨k', t', e1, e2⟩
theorem strsAre_vals : ∀ {ys : List Str} {us : List Value}, Vals (ys.map V.str) us → StrsAre us ys
  | [], _, .nil => .nil
  | y :: ys, _, .cons r t => by
    obtain ⟨k, rfl⟩ := r
    exact .cons y k (strsAre_vals t)
/-- a list or a tuple of texts -/
def TxtSeq (K : PySem.W.Frag) (H : Hp) (a : Addr) (xs : List Str) : Prop := SqT K H a (xs.map V.str) ∨ SqL K H a (xs.map V.str)
/-- set(xs) of texts -/
def rSetT (K : PySem.W.Frag) (P : Program) (w : World) : List V → Hp → VK → Prop := fun vs H Q => ∃ (a : Addr) (xs : List Str), vs = [.ref a] ∧ TxtSeq K H a xs ∧ xs.length < 1000 ∧ ∀ p, H p = none → Q (.ref p) (upd H p (SetL P w p (dedT xs)))
theorem c_setT (hc : X.calm = true) : CallR X (.type "set") (rSetT X.K X.prog X.w) := by
  intro pins s σ H vs us Q I r h
  obtain ⟨a, xs, rfl, hs, hl, q⟩ := h
  rw [Vals.ref1 r]
  have hb : xs.length + 1 < scanBound := Nat.lt_of_lt_of_le (Nat.succ_lt_succ hl) (by decide)
  have fin : ∀ (h2 : Heap) (tk : Nat), SetS X.prog X.w h2 s.heap.objs.size (dedT xs) → (∀ b o, s.heap.get? b = some o → h2.get? b = some o) → EP X pins σ Q (.ref s.heap.objs.size) { s with heap := h2, toks := tk } := fun h2 tk R k =>
    ⟨.ref _, upd H s.heap.objs.size (SetL X.prog X.w s.heap.objs.size (dedT xs)), I.laid (t' := tk) k (Nat.le_refl _) (setL_new R), rfl, q _ (I.hok.fresh (Nat.le_refl _))⟩
  rcases hs with hs | hs
  · obtain ⟨its, rv, hp, _⟩ := I.tuple hs
    have hz : its.length = xs.length := by rw [← rv.length, List.length_map]
    exact call_set_txt xs (I.ok.hd hc) (.inl ⟨rfl, hp⟩) (fun i x hx => strs_get rv i x (by simpa using hx)) (by simpa using hz) hb fin
  · obtain ⟨its, rv, hp, _⟩ := I.list hs
    have hz : its.length = xs.length := by rw [← rv.length, List.length_map]
    exact call_set_txt xs (I.ok.hd hc) (.inr ⟨rfl, hp.isList⟩) (fun i x hx => strs_get rv i x (by simpa using hx)) (by simpa using hz) hb fin
theorem rd_setT {K : PySem.W.Frag} {P : Program} {w : World} {H : Hp} {Q : VK} {a : Addr} {xs : List Str} (h : TxtSeq K H a xs) (hl : xs.length < 1000) (q : ∀ p H', H p = none → Same H H' → H' p = some (SetL P w p (dedT xs)) → Q (.ref p) H') : rSetT K P w [.ref a] H Q := ⟨a, xs, rfl, h, hl, fun p hp => q p _ hp (same_new hp) upd_same⟩
/-- len of a set of texts -/
def rLenSt (P : Program) (w : World) : List V → Hp → VK → Prop := fun vs H Q => ∃ (a : Addr) (l : List Str), vs = [.ref a] ∧ H a = some (SetL P w a l) ∧ l.length < 2 ^ 62 ∧ Q (.int (l.length : Nat)) H
theorem c_lenSt : CallR X (.builtin "len") (rLenSt X.prog X.w) := by
  intro pins s σ H vs us Q I r h
  obtain ⟨a, l, rfl, ha, hl, q⟩ := h
  rw [Vals.ref1 r]
  obtain ⟨D, ho, F, _⟩ := setL_get I ha
  have e : D.1.size = l.length := F.sz
  exact call_len_set (es := D.1) (ep := D.2.1) (t := D.2.2) ho ⟨rfl, rfl, rfl⟩ rfl F.fit (by rw [e]; omega) ⟨.int (l.length : Nat), H, I.tok _, ⟨_, by rw [e]⟩, q⟩
theorem rd_lenSt {P : Program} {w : World} {H : Hp} {Q : VK} {a : Addr} {l : List Str} (h : H a = some (SetL P w a l)) (hl : l.length < 2 ^ 62) (q : Q (.int (l.length : Nat)) H) : rLenSt P w [.ref a] H Q := ⟨a, l, rfl, h, hl, q⟩
theorem shared_eq {s s2 : Shared} (o : s2.os = s.os) : s2 = { s with heap := s2.heap, gens := s2.gens, drawn := s2.drawn, toks := s2.toks } := by
  cases s2
  cases s
  cases o
  rfl
/-- a new list at p in a later state -/
theorem laid_late {pins : List (Addr × Obj)} {σ : L2.St} {H : Hp} {s s2 : Shared} {p : Addr} {zs : List V} {out : List Value} {n : Nat} {Q : VK} (I : Inv X pins σ H s) (k : ∀ b o, s.heap.get? b = some o → s2.heap.get? b = some o) (hp : s.heap.objs.size ≤ p)
    (hg : s2.heap.get? p = some (seqObj "list" out.toArray n)) (rv : Vals zs out) (hz : zs.length ≤ sizeLine) (g : s2.gens = s.gens) (o : s2.os = s.os) (q : H p = none → Q (.ref p) (upd H p (.lst zs))) : EP X pins σ Q (.ref p) s2 := by
  have hn : H p = none := I.hok.fresh hp
  have J : Inv X pins σ (upd H p (.lst zs)) { s with heap := s2.heap, gens := s2.gens, drawn := s2.drawn, toks := s2.toks } :=
    I.call (ch := []) (Un.laid k hp hn) (I.hok.laid k hp ⟨hz, out, n, rv, hg⟩) (by rw [g]; exact I.bare) (fun _ z => nomatch z)
  rw [shared_eq o]
  exact ⟨.ref p, _, J, rfl, q hn⟩
theorem vals_strs : ∀ {us : List Value} {ys : List Str}, StrsAre us ys → Vals (ys.map V.str) us
  | _, _, .nil => .nil
  | _, _, .cons y t r => .cons ⟨t, rfl⟩ (vals_strs r)
/-- sorted of texts -/
def rSortT (K : PySem.W.Frag) (P : Program) (w : World) : List V → Hp → VK → Prop := fun vs H Q => ∃ (a : Addr) (xs : List Str), vs = [.ref a] ∧ (TxtSeq K H a xs ∨ H a = some (SetL P w a xs)) ∧ xs.length < 1000 ∧
  ∀ (ys : List Str) (p : Addr), ys.Perm xs → ys.Pairwise (fun x y => lts y x = false) → H p = none → Q (.ref p) (upd H p (.lst (ys.map V.str)))
theorem c_sortT (hc : X.calm = true) : CallR X (.builtin "sorted") (rSortT X.K X.prog X.w) := by
  intro pins s σ H vs us Q I r h
  obtain ⟨a, xs, rfl, hs, hl, q⟩ := h
  rw [Vals.ref1 r]
  refine sorted_src (C := fun vs => StrsAre vs (vs.map kS) ∧ (vs.map kS).Perm xs) (swo_key kS) ?_ (fun vs c => ?_) (fun vs c h2 s1 b _ _ => strs_sortable c.1 h2) fun vs out s2 p n c hs hb k hp hg g o => ?_
  · rcases hs with (hs | hs) | hs
    · obtain ⟨its, rv, ⟨oo, ho, hcl, nn, hd⟩, hz⟩ := I.tuple hs
      have st := strsAre_vals rv
      refine collect_seqZ (T := "tuple") a (.inr rfl) ho hcl hd (by simpa [← rv.length] using hz) fun h2 k kz => ?_
      refine ⟨?_, k, ?_, rfl, rfl⟩
      · rw [show its.toArray.toList = its by simp, kS_strs st]
        exact ⟨st, List.Perm.refl _⟩
      · exact kz
    · obtain ⟨its, rv, ⟨oo, nn, ho, hcl, _, hd⟩, hz⟩ := I.list hs
      have st := strsAre_vals rv
      refine collect_seqZ (T := "list") a (.inl rfl) ho hcl hd (by simpa [← rv.length] using hz) fun h2 k kz => ?_
      refine ⟨?_, k, ?_, rfl, rfl⟩
      · rw [show its.toArray.toList = its by simp, kS_strs st]
        exact ⟨st, List.Perm.refl _⟩
      · exact kz
    · obtain ⟨D, ho, F, pm, nd, hr, hled⟩ := setL_get I hs
      have hsz : D.1.size = xs.length := F.sz
      refine collect_set (a := a) (es := D.1) (ep := D.2.1) (t := D.2.2) (I.ok.hd hc) ⟨_, ho, rfl, rfl⟩ F.fit (by rw [hsz]; exact Nat.lt_of_lt_of_le hl (by decide)) hr hled fun s1 out k z g o pm2 => ?_
      have hm : ∀ v ∈ out, ∃ t, v = .str (kS v) t := fun v hv => by
        obtain ⟨e, he, rfl⟩ := List.mem_map.mp (pm2.mem_iff.mp hv)
        obtain ⟨⟨k0, q1, _⟩, _⟩ := F.el e he
        obtain ⟨t, ev⟩ := Value.isStrOf_shape (x := k0) (v := e.2) q1
        exact ⟨t, by rw [ev]; rfl⟩
      refine ⟨⟨strs_of_mem hm, ?_⟩, k, z, g, o⟩
      have e1 : D.1.toList.map txOf = (D.1.toList.map (·.2)).map kS := by rw [List.map_map]; rfl
      rw [e1] at pm
      exact (pm2.map kS).trans pm
  · have := c.2.length_eq
    rw [List.length_map] at this
    rw [this]
    exact small64 (by omega)
  · have hm : ∀ v ∈ out, ∃ t, v = .str (kS v) t := fun v hv => strs_mem c.1 v (hb.perm.mem_iff.mp hv)
    have st := strs_of_mem hm
    have pm : (out.map kS).Perm xs := (hb.perm.map kS).trans c.2
    refine laid_late I k hp hg (vals_strs st) ?_ g o (q _ p pm (List.pairwise_map.mpr hs))
    rw [List.length_map, pm.length_eq]
    exact small64 (by omega)
theorem rd_sortT {K : PySem.W.Frag} {P : Program} {w : World} {H : Hp} {Q : VK} {a : Addr} {xs : List Str} (h : TxtSeq K H a xs ∨ H a = some (SetL P w a xs)) (hl : xs.length < 1000) (q : ∀ (ys : List Str) (p : Addr) (H' : Hp), ys.Perm xs → ys.Pairwise (fun x y => lts y x = false) → H p = none → Same H H' → H' p = some (.lst (ys.map V.str)) → Q (.ref p) H') : rSortT K P w [.ref a] H Q :=
  ⟨a, xs, rfl, h, hl, fun ys p h1 h2 hp => q ys p _ h1 h2 hp (same_new hp) upd_same⟩
/-- sorted of tuples that begin with different texts: zs the texts and the tuples -/
def rSortK (K : PySem.W.Frag) : List V → Hp → VK → Prop := fun vs H Q => ∃ (a : Addr) (zs : List (Str × Addr)), vs = [.ref a] ∧ (SqT K H a (zs.map fun z => .ref z.2) ∨ SqL K H a (zs.map fun z => .ref z.2)) ∧ zs.length < 1000 ∧ (∀ z ∈ zs, ∃ r, SqT K H z.2 (.str z.1 :: r)) ∧ (zs.map (·.1)).Nodup ∧
  ∀ (ys : List (Str × Addr)) (p : Addr), ys.Perm zs → Asc (ys.map (·.1)) → H p = none → Q (.ref p) (upd H p (.lst (ys.map fun z => .ref z.2)))
theorem vals_refs : ∀ {zs : List (Str × Addr)} {us : List Value}, Vals (zs.map fun z => .ref z.2) us → us = zs.map fun z => .ref z.2
  | [], _, .nil => rfl
  | z :: zs, _, .cons r t => by
    have e : _ = Value.ref z.2 := r
    rw [List.map_cons, e, vals_refs t]
theorem refs_vals : ∀ (zs : List (Str × Addr)), Vals (zs.map fun z => V.ref z.2) (zs.map fun z => Value.ref z.2)
  | [] => .nil
  | z :: zs => .cons rfl (refs_vals zs)
theorem c_sortK : CallR X (.builtin "sorted") (rSortK X.K) := by
  intro pins s σ H vs us Q I r h
  obtain ⟨a, zs, rfl, hs, hl, ht, nd, q⟩ := h
  rw [Vals.ref1 r]
  -- the text of a tuple
  let k : Value → Str := fun v => match v with
    | .ref b => ((zs.find? fun z => decide (z.2 = b)).map (·.1)).getD Str.empty
    | _ => Str.empty
  have same : ∀ z ∈ zs, ∀ y ∈ zs, z.2 = y.2 → z = y := fun z hz y hy e => by
    obtain ⟨r1, h1⟩ := ht z hz
    obtain ⟨r2, h2⟩ := ht y hy
    rw [e] at h1
    have e1 := I.tuple_inj h1 h2
    injection e1 with e2
    injection e2 with e2
    exact Prod.ext e2 e
  have hk : ∀ z ∈ zs, k (.ref z.2) = z.1 := fun z hz => by
    show ((zs.find? fun y => decide (y.2 = z.2)).map (·.1)).getD Str.empty = z.1
    cases hf : zs.find? fun y => decide (y.2 = z.2) with
    | none =>
      have := List.find?_eq_none.mp hf z hz
      simp at this
    | some y =>
      have hy := List.mem_of_find?_eq_some hf
      have e := List.find?_some hf
      rw [same y hy z hz (of_decide_eq_true e)]
      rfl
  have injK : ∀ {l : List (Str × Addr)}, (l.map (·.1)).Nodup → ∀ z ∈ l, ∀ y ∈ l, z.1 = y.1 → z = y := by
    intro l
    induction l with
    | nil => intro _ z hz; exact nomatch hz
    | cons u l ih =>
      intro nd z hz y hy e
      rw [List.map_cons] at nd
      obtain ⟨n1, n2⟩ := List.nodup_cons.mp nd
      rcases List.mem_cons.mp hz with z1 | z1
      · rcases List.mem_cons.mp hy with z2 | z2
        · rw [z1, z2]
        · exact absurd (List.mem_map.mpr ⟨y, z2, by rw [← e, z1]⟩) n1
      · rcases List.mem_cons.mp hy with z2 | z2
        · exact absurd (List.mem_map.mpr ⟨z, z1, by rw [e, z2]⟩) n1
        · exact ih n2 z z1 y z2 e
  have tup : ∀ v ∈ zs.map (fun z => Value.ref z.2), TupK s.heap k v := fun v hv => by
    obtain ⟨z, hz, rfl⟩ := List.mem_map.mp hv
    obtain ⟨r1, h1⟩ := ht z hz
    obtain ⟨its, rv, ⟨o, ho, hcl, n, hd⟩, _⟩ := I.tuple h1
    cases rv with
    | cons rx rr =>
      obtain ⟨t, e⟩ := rx
      refine ⟨z.2, o, t, n, _, rfl, ho, hcl, hd, ?_⟩
      rw [hk z hz, e]
      rfl
  have inj : ∀ v ∈ zs.map (fun z => Value.ref z.2), ∀ u ∈ zs.map (fun z => Value.ref z.2), k v = k u → v = u := fun v hv u hu e => by
    obtain ⟨z, hz, rfl⟩ := List.mem_map.mp hv
    obtain ⟨y, hy, rfl⟩ := List.mem_map.mp hu
    rw [hk z hz, hk y hy] at e
    rw [injK nd z hz y hy e]
  refine sorted_src (C := fun vs => vs = zs.map fun z => Value.ref z.2) (swo_key k) ?_ (fun vs c => ?_) (fun vs c h2 s1 b hb kp => ?_) fun vs out s2 p n c hs hb kp hp hg g o => ?_
  · rcases hs with hs | hs
    · obtain ⟨its, rv, ⟨oo, ho, hcl, nn, hd⟩, hz⟩ := I.tuple hs
      refine collect_seqZ (T := "tuple") a (.inr rfl) ho hcl hd (by simpa [← rv.length] using hz) fun h2 k kz => ?_
      refine ⟨?_, k, kz, rfl, rfl⟩
      rw [vals_refs rv]
    · obtain ⟨its, rv, ⟨oo, nn, ho, hcl, _, hd⟩, hz⟩ := I.list hs
      refine collect_seqZ (T := "list") a (.inl rfl) ho hcl hd (by simpa [← rv.length] using hz) fun h2 k kz => ?_
      refine ⟨?_, k, kz, rfl, rfl⟩
      rw [vals_refs rv]
  · rw [c, List.length_map]
    exact small64 (by omega)
  · subst c
    refine tups_sortable (fun v hv => ?_) inj (fun o e hcl => ?_) h2
    · obtain ⟨b', o, t, n, xs, e, q1, q2⟩ := tup v hv
      exact ⟨b', o, t, n, xs, e, kp _ _ q1, q2⟩
    · rw [hb] at e
      rw [← Option.some.inj e] at hcl
      have z : Value.type "list" = Value.type "tuple" := hcl
      injection z with z
      exact absurd z (by decide)
  · subst c
    have mem : ∀ v ∈ out, ∃ z ∈ zs, v = .ref z.2 := fun v hv => by
      obtain ⟨z, hz, e⟩ := List.mem_map.mp (hb.perm.mem_iff.mp hv)
      exact ⟨z, hz, e.symm⟩
    -- the pairs behind
    have pull : ∀ {l : List Value} {m : List (Str × Addr)}, l.Perm (m.map fun z => Value.ref z.2) → ∃ ys : List (Str × Addr), ys.Perm m ∧ l = ys.map fun z => Value.ref z.2 := by
      intro l m hp
      generalize hM : (m.map fun z => Value.ref z.2) = M at hp
      have : ∀ {l M : List Value}, l.Perm M → ∀ m : List (Str × Addr), (m.map fun z => Value.ref z.2) = M → ∃ ys : List (Str × Addr), ys.Perm m ∧ l = ys.map fun z => Value.ref z.2 := by
        intro l M hp
        induction hp with
        | nil =>
          intro m hm
          rw [List.map_eq_nil_iff.mp hm]
          exact ⟨[], List.Perm.refl _, rfl⟩
        | cons x p ih =>
          intro m hm
          match m, hm with
          | y :: m, hm =>
            rw [List.map_cons] at hm
            injection hm with h1 h2
            obtain ⟨ys, p1, e1⟩ := ih m h2
            exact ⟨y :: ys, p1.cons y, by rw [List.map_cons, e1, h1]⟩
        | swap x y l =>
          intro m hm
          match m, hm with
          | a :: b :: m, hm =>
            rw [List.map_cons, List.map_cons] at hm
            injection hm with h1 h2
            injection h2 with h2 h3
            exact ⟨b :: a :: m, List.Perm.swap _ _ _, by rw [List.map_cons, List.map_cons, h1, h2, h3]⟩
        | trans p1 p2 ih1 ih2 =>
          intro m hm
          obtain ⟨ys, q1, e1⟩ := ih2 m hm
          obtain ⟨xs, q2, e2⟩ := ih1 ys e1.symm
          exact ⟨xs, q2.trans q1, e2⟩
      exact this hp m hM
    obtain ⟨ys, py, ey⟩ := pull hb.perm
    have hks : ∀ z ∈ ys, k (.ref z.2) = z.1 := fun z hz => hk z (py.mem_iff.mp hz)
    have asc : Asc (ys.map (·.1)) := by
      refine asc_of ?_ ((py.map (·.1)).nodup_iff.mpr nd)
      rw [ey] at hs
      have h1 := List.pairwise_map.mp hs
      refine List.pairwise_map.mpr ?_
      refine List.Pairwise.imp_of_mem ?_ h1
      intro x y hx hy q
      have q : lts (k (.ref y.2)) (k (.ref x.2)) = false := q
      rw [hks x hx, hks y hy] at q
      exact q
    subst ey
    refine laid_late I kp hp hg (refs_vals ys) ?_ g o (q ys p py asc)
    rw [List.length_map, py.length_eq]
    exact small64 (by omega)
theorem rd_sortK {K : PySem.W.Frag} {H : Hp} {Q : VK} {a : Addr} {zs : List (Str × Addr)} (h : SqT K H a (zs.map fun z => .ref z.2) ∨ SqL K H a (zs.map fun z => .ref z.2)) (hl : zs.length < 1000) (ht : ∀ z ∈ zs, ∃ r, SqT K H z.2 (.str z.1 :: r)) (nd : (zs.map (·.1)).Nodup)
    (q : ∀ (ys : List (Str × Addr)) (p : Addr) (H' : Hp), ys.Perm zs → Asc (ys.map (·.1)) → H p = none → Same H H' → H' p = some (.lst (ys.map fun z => .ref z.2)) → Q (.ref p) H') : rSortK K [.ref a] H Q := ⟨a, zs, rfl, h, hl, ht, nd, fun ys p h1 h2 hp => q ys p _ h1 h2 hp (same_new hp) upd_same⟩
end
end Rd
set_option Elab.async false
set_option linter.all false
set_option maxRecDepth 100000
set_option maxHeartbeats 4000000
/-! Rj: tuples whose object is known to have no dict, dicts made of pairs, updated, shown; a class called with a star and a keyword. -/
namespace Rd
open PySem PySem.Spec PyProof.Rows L2
/-! ### tuples without a dict of their own -/
def SqF (H : Hp) (a : Addr) (xs : List V) : Prop := ∃ o : Obj, o.dict = none ∧ H a = some (.frz o (.tup xs))
theorem SqF.sq {K : PySem.W.Frag} {H : Hp} {a : Addr} {xs : List V} (h : SqF H a xs) : SqT K H a xs := let ⟨o, _, e⟩ := h; .inl (.inr ⟨o, e⟩)
theorem SqF.same {H H' : Hp} {a : Addr} {xs : List V} (h : SqF H a xs) (s : Same H H') : SqF H' a xs := let ⟨o, d, e⟩ := h; ⟨o, d, s _ _ e⟩
def rMkTupF : List V → Hp → VK → Prop := fun xs H Q => xs.length ≤ sizeLine ∧ ∀ (p : Addr) (o : Obj), H p = none → o.dict = none → Q (.ref p) (upd H p (.frz o (.tup xs)))
section
variable {X : Cx} {es : List Expr} {t : TA} {k : Nat} {pos : Pos} {H : Hp} {Q : VK} {xs : List V} {K : PySem.W.Frag} {a : Addr}
theorem pe_tupF (h : PA X es t) : PE X (.Tuple es k pos) (tCB rMkTupF t) := by
  refine ⟨fun pins s σ H Q I hq => ?_⟩
  refine wpAny_Tuple_spliced (thn (h.run pos pins s σ H _ I hq) fun us s1 ⟨xs, H1, I1, r, z, q⟩ => ⟨by rw [← r.length]; exact z, ?_⟩)
  refine ⟨.ref s1.heap.objs.size, upd H1 s1.heap.objs.size (.frz { cls := .type "tuple", data := .seq us.toArray } (.tup xs)), I1.laid (t' := s1.toks) (fun b u e => Heap.get?_push_of_some _ e) (Nat.le_refl _) ?_, rfl, q _ _ (I1.hok.fresh (Nat.le_refl _)) rfl⟩
  exact ⟨Heap.get?_push_size _ rfl, z, us, r, ⟨_, Heap.get?_push_size _ rfl, rfl, _, rfl⟩⟩
theorem rd_mkTupF (hn : xs.length ≤ sizeLine) (q : ∀ p H', H p = none → Same H H' → SqF H' p xs → Q (.ref p) H') : rMkTupF xs H Q := ⟨hn, fun p o hp ho => q p _ hp (same_new hp) ⟨o, ho, upd_same⟩⟩
def rTupleF (K : PySem.W.Frag) : List V → Hp → VK → Prop := fun xs H Q => ∃ p ys, xs = [.ref p] ∧ SqL K H p ys ∧ ∀ (l : Addr) (o : Obj), H l = none → o.dict = none → Q (.ref l) (upd H l (.frz o (.tup ys)))
theorem c_tupleF : CallR X (.type "tuple") (rTupleF X.K) := by
  intro pins s σ H xs us Q I r h
  obtain ⟨p, ys, rfl, hq, q⟩ := h
  rw [Vals.ref1 r]
  obtain ⟨its, rv, pl, hz⟩ := I.list hq
  have hlen := rv.length
  refine call_tuple_list pl.isList (fun h2 kp => ?_) (by simp only [List.size_toArray] <;> omega)
  have I1 : L2.Inv X pins σ H { s with heap := h2 } := I.kept (t' := s.toks) kp
  refine ⟨.ref h2.objs.size, _, I1.laid (t' := s.toks) (o := .frz { cls := .type "tuple", data := .seq its.toArray } (.tup ys)) (fun b o e => Heap.get?_push_of_some _ e) (Nat.le_refl _) ?_, rfl, q _ _ (I1.hok.fresh (Nat.le_refl _)) rfl⟩
  exact ⟨Heap.get?_push_size _ rfl, hz, its, rv, IsTup.new _ _⟩
theorem rd_tupleF (h : SqL K H a xs) (q : ∀ l H', H l = none → Same H H' → SqF H' l xs → Q (.ref l) H') : rTupleF K [.ref a] H Q := ⟨a, xs, rfl, h, fun l o hl ho => q l _ hl (same_new hl) ⟨o, ho, upd_same⟩⟩
/-- a list display whose place is not that of sys.modules -/
def rMkLstN : List V → Hp → VK → Prop := fun xs H Q => xs.length ≤ sizeLine ∧ ∀ p : Addr, H p = none → p ≠ sysModules → Q (.ref p) (upd H p (.lst xs))
theorem pe_lstN (h : PA X es t) : PE X (.List es pos) (tCB rMkLstN t) := by
  refine ⟨fun pins s σ H Q I hq => ?_⟩
  refine wpAny_List_spliced (thn (h.run pos pins s σ H _ I hq) fun us s1 ⟨xs, H1, I1, r, z, q⟩ => ⟨by rw [← r.length]; exact z, ?_⟩)
  exact ⟨.ref s1.heap.objs.size, upd H1 s1.heap.objs.size (.lst xs), I1.laid (t' := s1.toks) (fun b u e => Heap.get?_push_of_some _ e) (Nat.le_refl _) ⟨z, us, 0, r, Heap.get?_push_size _ rfl⟩, rfl, q _ (I1.hok.fresh (Nat.le_refl _)) (Nat.ne_of_gt I1.big)⟩
theorem rd_mkLstN (hn : xs.length ≤ sizeLine) (q : ∀ p H', H p = none → p ≠ sysModules → Same H H' → H' p = some (.lst xs) → Q (.ref p) H') : rMkLstN xs H Q := ⟨hn, fun p hp np => q p _ hp np (same_new hp) upd_same⟩
end
/-! ### dicts -/
section
variable {X : Cx} {H : Hp} {Q : VK} {K : PySem.W.Frag} {a b : Addr} {kvs more : List (Key × V)} {σ : L2.St}
/-- a.update(b) -/
def rUpd : V → List V → Hp → VK → Prop := fun x xs H Q => ∃ (a b : Addr) (kvs more : List (Key × V)), x = .ref a ∧ xs = [.ref b] ∧ a ≠ b ∧ H a = some (.dK kvs) ∧ H b = some (.dK more) ∧ kvs.length + more.length ≤ sizeLine ∧ Q .non (upd H a (.dK (mergeK kvs more)))
theorem mt_upd : MtR X "dict.update" rUpd := by
  intro pins s σ H x xs v us Q I rx rxs h
  obtain ⟨a, b, kvs, more, rfl, rfl, hne, ha, hb, hz, q⟩ := h
  cases rx
  obtain ⟨u, rfl, ru⟩ := vals1 rxs
  cases ru
  obtain ⟨z1, s1, vs, rel, dd⟩ := dk_of I.hok ha
  obtain ⟨z2, s2, ws, rel2, dd2⟩ := dk_of I.hok hb
  have hl : (mergeK kvs more).length ≤ sizeLine := Nat.le_trans (length_mergeK more kvs) hz
  refine call_meetsIn F.slot_dict_update dd.typeIs F.entry_dict_update (F.args_dict_update_2 _ _) (meets_dict_update (mixKind X.prog X.w) a b hne s2) ⟨vs, ws, dd, dd2, by rw [← rel.length, ← rel2.length]; exact hz, fun h2 d1 d2 sb => ?_⟩
  have he : ∃ o, h2.get? a = some o := let ⟨o, _, _, e, _⟩ := d1; ⟨o, e⟩
  exact ⟨.non, _, I.write (e := a) (t' := s.toks) (o := .dK (mergeK kvs more)) (by rw [ha]; trivial) (.inl rfl) (fun c o hc e => (sb.2 c hc).trans e) he (dk_new hl s1 (KV.merge rel2 rel) d1), rfl, q⟩
theorem rd_upd (hne : a ≠ b) (ha : H a = some (.dK kvs)) (hb : H b = some (.dK more)) (hz : kvs.length + more.length ≤ sizeLine) (q : Q .non (upd H a (.dK (mergeK kvs more)))) : rUpd (.ref a) [.ref b] H Q := ⟨a, b, kvs, more, rfl, rfl, hne, ha, hb, hz, q⟩
theorem tyD (h : H a = some (.dK kvs)) : tyV K "dict" (.ref a) H := .inr (.inr (.inl ⟨rfl, .inl ⟨kvs, h⟩⟩))
/-- dict(t), t a tuple of pairs -/
def rDictT (K : PySem.W.Frag) : List V → Hp → VK → Prop := fun xs H Q => ∃ (a : Addr) (ps : List Addr) (kvs : List (Key × V)), xs = [.ref a] ∧ SqF H a (ps.map V.ref) ∧ Paired (fun p kv => SqT K H p [kV kv.1, kv.2]) ps kvs ∧ ∀ p, H p = none → Q (.ref p) (upd H p (.dK (mergeK [] kvs)))
theorem c_dictT (hc : X.calm = true) : CallR X (.type "dict") (rDictT X.K) := by
  intro pins s σ H xs us Q I r h
  obtain ⟨a, ps, kvs, rfl, ⟨o, hd, ho⟩, hp, q⟩ := h
  rw [Vals.ref1 r]
  obtain ⟨g1, hz, its, rv, ⟨o2, g2, hcl, n, hdat⟩⟩ := I.hok a _ ho
  rw [g1] at g2
  cases g2
  have ei := refs_at rv
  subst ei
  obtain ⟨prs, rel, hl, hpr⟩ := pairs_of I hp
  have hlen : ps.length = kvs.length := hp.length
  -- the pairs, by their keys and values
  have hpr2 : ∀ (j : Nat) (q : Key × Value), prs[j]? = some q → ∃ b u, ps[j]? = some b ∧ IsTup s.heap b #[u, q.2] ∧ (mixKind X.prog X.w).is q.1 u = true := fun j q e => hpr j q e
  have key : ∀ l : List (Key × Value), ∀ m : List Addr, l.length = m.length → (∀ (j : Nat) (q : Key × Value), l[j]? = some q → ∃ b u, m[j]? = some b ∧ IsTup s.heap b #[u, q.2] ∧ (mixKind X.prog X.w).is q.1 u = true) →
      ∃ us : List Value, us.length = l.length ∧ ∀ (j : Nat) (q : Key × Value), l[j]? = some q → ∃ b u, m[j]? = some b ∧ us[j]? = some u ∧ IsTup s.heap b #[u, q.2] ∧ (mixKind X.prog X.w).is q.1 u = true := by
    intro l
    induction l with
    | nil => intro m _ _; exact ⟨[], rfl, fun j q e => by simp at e⟩
    | cons z l ih =>
      intro m hm h
      match m, hm with
      | b :: m, hm =>
        obtain ⟨us, l1, l2⟩ := ih m (by simpa using hm) fun j q e => by
          obtain ⟨b', u, e1, e2, e3⟩ := h (j + 1) q e
          exact ⟨b', u, e1, e2, e3⟩
        obtain ⟨b', u, e1, e2, e3⟩ := h 0 z rfl
        refine ⟨u :: us, by rw [List.length_cons, List.length_cons, l1], fun j q e => ?_⟩
        cases j with
        | zero =>
          obtain rfl := Option.some.inj e
          exact ⟨b', u, e1, rfl, e2, e3⟩
        | succ j => exact l2 j q e
  obtain ⟨us, hul, hus⟩ := key prs ps hl hpr2
  let Ts : Nat → Addr := fun j => ps.getD j 0
  let PS : List (Value × Value) := us.zip (prs.map (·.2))
  have hPS : PS.length = ps.length := by
    show (us.zip (prs.map (·.2))).length = _
    rw [List.length_zip, List.length_map, hul, hl]
    simp
  have atPS : ∀ (j : Nat) (k v : Value), PS[j]? = some (k, v) → ∃ (q : Key × Value) (b : Addr), prs[j]? = some q ∧ ps[j]? = some b ∧ IsTup s.heap b #[k, v] ∧ (mixKind X.prog X.w).is q.1 k = true ∧ q.2 = v := fun j k v e => by
    obtain ⟨e1, e2⟩ := List.getElem?_zip_eq_some.mp e
    rw [List.getElem?_map] at e2
    obtain ⟨q, e3, e4⟩ := Option.map_eq_some_iff.mp e2
    obtain ⟨b, u, f1, f2, f3, f4⟩ := hus j q e3
    rw [f2] at e1
    cases e1
    rw [e4] at f3
    exact ⟨q, b, e3, f1, f3, f4, e4⟩
  have pit : PairItems s.heap (ps.map Value.ref).toArray Ts PS := by
    refine ⟨by rw [List.size_toArray, List.length_map, hPS], fun j k v e => ?_⟩
    obtain ⟨q, b, _, f1, f3, _⟩ := atPS j k v e
    have et : Ts j = b := by
      show ps.getD j 0 = b
      rw [List.getD_eq_getElem?_getD, f1]
      rfl
    rw [et]
    exact ⟨by simp [f1], .inl f3⟩
  have hzp : ps.length ≤ sizeLine := by simpa using hz
  refine PySem.call_dict_pairs (knd := mixKind X.prog X.w) (kvs := prs) (PairArg.tuple a (ps.map Value.ref).toArray Ts PS) (I.ok.hd hc) ⟨⟨o, n, g1, hcl, hd, hdat⟩, pit⟩ ⟨by rw [hPS, hl], fun j k v e => ?_⟩ (by rw [hPS]; exact hzp) fun h2 tk d2 kp => ?_
  · obtain ⟨q, b, f0, _, _, f4, f5⟩ := atPS j k v e
    exact ⟨q.1, by rw [f0, ← f5], f4⟩
  · have hm : (s.heap.objs.size == sysModules) = false := beq_eq_false_iff_ne.mpr (Nat.ne_of_gt I.big)
    have hlm : (mergeK [] kvs).length ≤ sizeLine := by
      refine Nat.le_trans (length_mergeK kvs []) ?_
      rw [List.length_nil, Nat.zero_add, ← hlen]
      exact hzp
    exact ⟨.ref s.heap.objs.size, _, I.laid (t' := tk) (o := .dK (mergeK [] kvs)) (fun b o e => kp b o (fun z => nomatch z) e) (Nat.le_refl _) (show ObjOk X.prog X.w _ _ _ (.dK (mergeK [] kvs)) from ⟨hlm, hm, merged [] prs, KV.merge rel .nil, d2⟩), rfl, q _ (I.hok.fresh (Nat.le_refl _))⟩
theorem rd_dictT {ps : List Addr} (h : SqF H a (ps.map V.ref)) (hp : Paired (fun p kv => SqT K H p [kV kv.1, kv.2]) ps kvs) (q : ∀ p H', H p = none → Same H H' → H' p = some (.dK (mergeK [] kvs)) → Q (.ref p) H') : rDictT K [.ref a] H Q := ⟨a, ps, kvs, rfl, h, hp, fun p hp => q p _ hp (same_new hp) upd_same⟩
/-- dict(l), l a list of pairs -/
def rDictL (K : PySem.W.Frag) : List V → Hp → VK → Prop := fun xs H Q => ∃ (a : Addr) (ps : List Addr) (kvs : List (Key × V)), xs = [.ref a] ∧ SqL K H a (ps.map V.ref) ∧ Paired (fun p kv => SqT K H p [kV kv.1, kv.2]) ps kvs ∧ ∀ p, H p = none → Q (.ref p) (upd H p (.dK (mergeK [] kvs)))
theorem c_dictL (hc : X.calm = true) : CallR X (.type "dict") (rDictL X.K) := call_dictP hc
theorem rd_dictL {ps : List Addr} (h : SqL K H a (ps.map V.ref)) (hp : Paired (fun p kv => SqT K H p [kV kv.1, kv.2]) ps kvs) (q : ∀ p H', H p = none → Same H H' → H' p = some (.dK (mergeK [] kvs)) → Q (.ref p) H') : rDictL K [.ref a] H Q := ⟨a, ps, kvs, rfl, h, hp, fun p hp => q p _ hp (same_new hp) upd_same⟩
/-- len(d) -/
def rLenD : List V → Hp → VK → Prop := fun xs H Q => ∃ (a : Addr) (kvs : List (Key × V)), xs = [.ref a] ∧ L2.Rd H a (.dK kvs) ∧ Q (.int (kvs.length : Nat)) H
theorem c_lenD : CallR X (.builtin "len") rLenD := by
  intro pins s σ H xs us Q I r h
  obtain ⟨a, kvs, rfl, ha, q⟩ := h
  rw [Vals.ref1 r]
  exact d_len I ha fun t s2 I2 => ⟨.int (kvs.length : Nat), H, I2, ⟨t, rfl⟩, q⟩
theorem rd_lenD (h : H a = some (.dK kvs)) (q : Q (.int (kvs.length : Nat)) H) : rLenD [.ref a] H Q := ⟨a, kvs, rfl, .inl h, q⟩
/-- sorted(d), keys texts -/
def rSortD : List V → Hp → VK → Prop := fun xs H Q => ∃ (a : Addr) (kvs : List (Key × V)) (ks : List Str), xs = [.ref a] ∧ L2.Rd H a (.dK kvs) ∧ kvs.map (·.1) = ks.map Sum.inr ∧ ks.length < 64 ∧
    ∀ ys p, ys.Perm ks → sortedS ys = true → H p = none → Q (.ref p) (upd H p (.lst (ys.map V.str)))
theorem c_sortD (hc : X.calm = true) : CallR X (.builtin "sorted") rSortD := call_sortedD hc
theorem rising_pw : ∀ (l : List Str) (x : Str), risingS x l = true → (x :: l).Pairwise fun a b => lts b a = false
  | [], x, _ => List.pairwise_singleton _ _
  | y :: l, x, h => by
    unfold risingS at h
    rw [Bool.and_eq_true] at h
    have ih := rising_pw l y h.2
    have e1 : lts y x = false := by
      have e0 := h.1
      rw [Bool.not_eq_true', ltCps_eq] at e0
      exact e0
    refine List.pairwise_cons.mpr ⟨fun z hz => ?_, ih⟩
    rcases List.mem_cons.mp hz with q | q
    · rw [q]; exact e1
    · exact lts_ntr e1 ((List.pairwise_cons.mp ih).1 z q)
theorem sortedS_pw {l : List Str} (h : sortedS l = true) : l.Pairwise fun a b => lts b a = false := by
  cases l with
  | nil => exact List.Pairwise.nil
  | cons x l => exact rising_pw l x h
theorem rd_sortD {ks : List Str} (h : H a = some (.dK kvs)) (hk : kvs.map (·.1) = ks.map Sum.inr) (hl : ks.length < 64) (nd : ks.Nodup) (q : ∀ (ys : List Str) (p : Addr) (H' : Hp), ys.Perm ks → Asc ys → H p = none → Same H H' → H' p = some (.lst (ys.map V.str)) → Q (.ref p) H') : rSortD [.ref a] H Q :=
  ⟨a, kvs, ks, rfl, .inl h, hk, hl, fun ys p h1 h2 hp => q ys p _ h1 (asc_of (sortedS_pw h2) (h1.nodup_iff.mpr nd)) hp (same_new hp) upd_same⟩
/-! readings of what the layer has -/
theorem rd_dget {td ty : TE} (q : td σ H fun x H1 => ty σ H1 fun y H2 => ∃ a v, x = .ref a ∧ DGet H2 a y (some v) ∧ Q v H2) : tDGet td ty σ H Q := q
theorem rd_din {td ty : TE} (q : ty σ H fun y H1 => td σ H1 fun x H2 => ∃ a o, x = .ref a ∧ DGet H2 a y o ∧ Q (.bl o.isSome) H2) : tDIn ty td σ H Q := q
theorem rd_dnotin {td ty : TE} (q : ty σ H fun y H1 => td σ H1 fun x H2 => ∃ a o, x = .ref a ∧ DGet H2 a y o ∧ Q (.bl (!o.isSome)) H2) : tDNotIn ty td σ H Q := q
theorem rd_dput {td ty tv : TE} {D : Ends} (q : tv σ H fun v H1 => td σ H1 fun x H2 => ty σ H2 fun y H3 => ∃ a H4, x = .ref a ∧ DPut H3 a y v H4 ∧ D.nx σ H4) : sDPut td ty tv D σ H := q
theorem dg_s {x : Str} (h : H a = some (.dK kvs)) : DGet H a (.str x) (valV kvs (Sum.inr x)) := DGet.k (k := Sum.inr x) h
theorem dp_s {x : Str} {v : V} (h : H a = some (.dK kvs)) (hl : kvs.length < sizeLine) : DPut H a (.str x) v (upd H a (.dK (putK kvs (Sum.inr x) v))) := DPut.k (k := Sum.inr x) h hl
end
/-! ### repr of data with dicts -/
mutual
/-- v is the data d: dicts, lists (not at the place of sys.modules), and data of tuples -/
inductive Dz (K : PySem.W.Frag) (H : Hp) : V → PyData → Prop
  | base {v : V} {d : PyData} : Dt K H v d → Dz K H v d
  | dic {a : Addr} {kvs : List (Key × V)} {ds : List PyData} : H a = some (.dK kvs) → DzAll K H (kvs.map (·.2)) ds → Dz K H (.ref a) (.dict ((kvs.map fun kv => match kv.1 with | .inl i => PyData.int i | .inr x => PyData.str x).zip ds))
  | lst {a : Addr} {xs : List V} {ds : List PyData} : SqL K H a xs → a ≠ sysModules → DzAll K H xs ds → Dz K H (.ref a) (.list ds)
inductive DzAll (K : PySem.W.Frag) (H : Hp) : List V → List PyData → Prop
  | nil : DzAll K H [] []
  | cons {v : V} {vs : List V} {d : PyData} {ds : List PyData} : Dz K H v d → DzAll K H vs ds → DzAll K H (v :: vs) (d :: ds)
end
section
variable {X : Cx} {pins : List (Addr × Obj)} {σ : L2.St} {H : Hp} {s : Shared}
mutual
theorem Dt.reads0 (I : L2.Inv X pins σ H s) : ∀ (d : PyData) (v : V) (u : Value), Dt X.K H v d → RelV v u → Reads s.heap u d []
  | .none, _, _, h, r => by cases h; cases r; exact Reads.none
  | .bool b, _, _, h, r => by cases h; cases r; exact Reads.bool b
  | .int i, _, _, h, r => by cases h; obtain ⟨t, rfl⟩ := r; exact Reads.int i t
  | .str x, _, _, h, r => by cases h; obtain ⟨t, rfl⟩ := r; exact Reads.str x t
  | .list _, _, _, h, _ => nomatch h
  | .dict _, _, _, h, _ => nomatch h
  | .tuple ds, _, _, h, r => by
    cases h with
    | tup h1 h2 =>
      cases r
      obtain ⟨its, rv, ⟨o, ho, hc, n, hd⟩, _⟩ := I.tuple h1
      exact Reads.tuple ho hc hd (by simpa using DtAll.reads0 I ds _ _ h2 rv)
theorem DtAll.reads0 (I : L2.Inv X pins σ H s) : ∀ (ds : List PyData) (vs : List V) (us : List Value), DtAll X.K H vs ds → Vals vs us → ReadsAll s.heap us ds []
  | [], _, _, h, r => by cases h; cases r; exact ReadsAll.nil
  | d :: ds, _, _, h, r => by
    cases h with
    | cons h1 h2 =>
      cases r with
      | cons r1 r2 => exact ReadsAll.cons (Dt.reads0 I d _ _ h1 r1) (DtAll.reads0 I ds _ _ h2 r2)
end
def encK (k : Key) : PyData := match k with | .inl i => .int i | .inr x => .str x
theorem reads_key {h : Heap} {P : Program} {w : World} (k : Key) (u : Value) (q : (mixKind P w).is k u = true) : Reads h u (encK k) [] := by
  rcases keyIs_shape q with ⟨i, t, e1, e2⟩ | ⟨x, t, e1, e2⟩
  · rw [e1, e2]
    exact Reads.int i t
  · rw [e1, e2]
    exact Reads.str x t
theorem pairsRead_of {h : Heap} : ∀ {kvs : List (Key × V)} {vs : List (Key × Value)} {ds : List PyData} {as : List Addr}, KV kvs vs → ReadsAll h (vs.map (·.2)) ds as → PyProof.V.PairsRead h encK vs ((kvs.map fun kv => encK kv.1).zip ds) as
  | [], _, _, _, .nil, r => by
    cases r
    exact PyProof.V.PairsRead.nil
  | (k, v) :: kvs, (k', u) :: vs, ds, as, .cons r1 r2, r => by
    obtain ⟨e, _⟩ := r1
    dsimp only at e
    subst e
    rw [List.map_cons] at r
    cases r with
    | cons q1 q2 => exact PyProof.V.PairsRead.cons q1 (pairsRead_of r2 q2)
theorem kv_vals : ∀ {kvs : List (Key × V)} {vs : List (Key × Value)}, KV kvs vs → Vals (kvs.map (·.2)) (vs.map (·.2))
  | _, _, .nil => .nil
  | _, _, .cons r t => .cons r.2 (kv_vals t)
mutual
theorem Dz.reads (I : L2.Inv X pins σ H s) : ∀ {d : PyData} {v : V} {u : Value}, Dz X.K H v d → RelV v u → ∃ as, Reads s.heap u d as ∧ sysModules ∉ as
  | _, _, _, .base h, r => ⟨[], Dt.reads0 I _ _ _ h r, fun z => nomatch z⟩
  | _, _, _, .lst h1 hn h2, r => by
    cases r
    obtain ⟨its, rv, ⟨o, n, ho, hc, _, hd⟩, _⟩ := I.list h1
    obtain ⟨as, q1, q2⟩ := DzAll.reads I h2 rv
    exact ⟨_, Reads.list ho hc hd (by simpa using q1), fun z => by
      rcases List.mem_cons.mp z with e | e
      · exact hn e.symm
      · exact q2 e⟩
  | _, _, _, .dic h1 h2, r => by
    cases r
    obtain ⟨_, hm, vs, rel, dd⟩ := dk_of I.hok h1
    obtain ⟨as, q1, q2⟩ := DzAll.reads I h2 (kv_vals rel)
    have hp := pairsRead_of rel q1
    refine ⟨_, PyProof.V.reads_dictOf (knd := mixKind X.prog X.w) (enc := encK) (fun k u q => reads_key k u q) dd hp, fun z => ?_⟩
    rcases List.mem_cons.mp z with e | e
    · rw [← e] at hm
      simp at hm
    · exact q2 e
theorem DzAll.reads (I : L2.Inv X pins σ H s) : ∀ {ds : List PyData} {vs : List V} {us : List Value}, DzAll X.K H vs ds → Vals vs us → ∃ as, ReadsAll s.heap us ds as ∧ sysModules ∉ as
  | _, _, _, .nil, .nil => ⟨[], ReadsAll.nil, fun z => nomatch z⟩
  | _, _, _, .cons h1 h2, .cons r1 r2 => by
    obtain ⟨as, q1, q2⟩ := Dz.reads I h1 r1
    obtain ⟨bs, q3, q4⟩ := DzAll.reads I h2 r2
    exact ⟨_, ReadsAll.cons q1 q3, fun z => (List.mem_append.mp z).elim q2 q4⟩
end
end
def rRepZ (K : PySem.W.Frag) : List V → Hp → VK → Prop := fun xs H Q => ∃ a d, xs = [.ref a] ∧ Dz K H (.ref a) d ∧ d.showable = true ∧ d.depth ≤ 60 ∧ d.shown.length ≤ sizeLine ∧ Q (.str d.shown) H
theorem c_reprZ {X : Cx} (hg : X.A.guards = some []) (hu : X.A.units + 64 < cLine) : CallR X (.builtin "repr") (rRepZ X.K) := by
  intro pins s σ H xs us Q I r h
  obtain ⟨a, d, rfl, hd, hs, hz, hl, q⟩ := h
  rw [Vals.ref1 r]
  obtain ⟨as, rd, nm⟩ := Dz.reads I hd rfl
  exact repr_of_reads' rd hs (fun _ => nm) hg (by omega) (fun _ _ e => e) (fun h' u tk hk => ⟨.str _, H, I.kept hk, ⟨_, rfl⟩, q⟩) hl
theorem rd_reprZ {K : PySem.W.Frag} {H : Hp} {Q : VK} {a : Addr} {d : PyData} (h : Dz K H (.ref a) d) (hs : d.showable = true) (hz : d.depth ≤ 60) (hl : d.shown.length ≤ sizeLine) (q : Q (.str d.shown) H) : rRepZ K [.ref a] H Q := ⟨a, d, rfl, h, hs, hz, hl, q⟩
end Rd
set_option Elab.async false
set_option linter.all false
set_option maxRecDepth 100000
set_option maxHeartbeats 4000000
/-! Rh: a class whose __init__ takes two values, a star and one keyword; defs with a default that is not used. -/
namespace Rd
open PySem PySem.Spec PyProof.Rows L2
/-- a promise of calls with positional values and the keyword kw: its value ahead of the others -/
def FnK (P : Program) (w : World) (K : PySem.W.Frag) (mg : Str → Option Value) (base : Heap) (CX : CXT) (k : Nat) (f : Addr) (kw : Str) (sp : Sp) : Prop :=
  ∀ (A : Around) (outer : List Env) (s : Shared) (H : Hp) (us : List Value) (vs : List V) (Q : VK) (E : XK) (u : Value) (v : V), Room k A → Env0 P w K mg base A outer s H → Vals vs us → RelV v u → sp (v :: vs) H Q E →
    codeAny (model P w) A (.call (.ref f) ⟨us, [(kw, u)]⟩) (CR CX outer P w H s Q E) s
/-- two values, the keyword's, the tuple of the rest -/
def spStarK (sp : Sp) : Sp := fun vs H Q E => ∃ v a b rest, vs = v :: a :: b :: rest ∧ rest.length ≤ sizeLine ∧ ∀ p H', H p = none → Same H H' → H' p = some (.tup rest) → sp [a, b, v, .ref p] H' Q E
section
variable {P : Program} {w : World} {K : PySem.W.Frag} {mg : Str → Option Value} {base : Heap} {CX : CXT} {k : Nat} {f : Addr} {x qual : Str} {st : Stmt} {N : List Str} {p1 p2 kw pv : Str}
theorem HasAt.starK {sp : Sp} (h : HasAt K f x qual st) (S : FnScope N [p1, p2, kw, pv] (defScope st)) (hCX : StX.CXUp CX)
    (hb : ∀ (kV doc pm : Value) (an : Option Addr) (cdv ct a b u : Value) (rest : List Value), bindArgs (PySem.W.fnOf x qual (defArgs st) (defBody st) (defScope st) .none kV doc pm an cdv ct) ⟨a :: b :: rest, [(kw, u)]⟩ = (newTuple rest >>= fun t => pure [(p1, a), (p2, b), (kw, u), (pv, t)]))
    (body : ∀ (cdv : Value) (A : Around) (outer : List Env) (s : Shared) (H : Hp) (Q : VK) (E : XK) (vs : List V), Room k (A.deeper (PyProof.Rows.envOfC qual (defScope st) s.heap.objs.size f cdv)) → sp vs H Q E →
      ∃ t, PSs (cxOf CX P w K mg base N qual (defScope st) f cdv A outer s H E) (defBody st) t ∧ t { nx := fun _ H' => Q .non H', rt := Q } (start N vs) H) :
    FnK P w K mg base CX (k + 1) f kw (spStarK sp) := by
  obtain ⟨fd, F⟩ := h
  obtain ⟨oc, od, dV, kV, doc, pm, an, cdv, ct, osl, e, lk, hcd, hD, hK⟩ := F.ex
  subst e
  rcases hD with ⟨_, e⟩ | ⟨e, _⟩
  · subst e
    intro A outer s H us vs Q E u v hr e0 r rv hsp
    obtain ⟨v', a, b, rest, ev, hz, hq⟩ := hsp
    obtain ⟨rfl, rfl⟩ := List.cons.inj ev
    match us, r with
    | ua :: ub :: ur, .cons ra (.cons rb rr) =>
      have hn : H s.heap.objs.size = none := e0.hok.fresh (Nat.le_refl _)
      have hl2 : ur.length ≤ sizeLine := by rw [← rr.length]; exact hz
      refine StX.run_bnd lk hcd S hr e0 (G := fun xs H2 => ∃ p, H p = none ∧ xs = [a, b, v, V.ref p] ∧ H2 = upd H p (.tup rest)) (fun A2 Ex Q2 hq2 => ?_) fun s2 H2 xs ⟨p, hp, ex, eH⟩ hr2 => ?_
      · rw [hb kV doc pm an cdv ct ua ub u ur]
        refine wpAny_bind (wpAny_newTuple (wpAny_pure ?_) hl2)
        have new : ObjOk P w (upd H s.heap.objs.size (.tup rest)) (s.heap.push ({ cls := .type "tuple", data := .seq ur.toArray } : Obj)) s.heap.objs.size (.tup rest) := ⟨hz, ur, rr, ⟨_, Heap.get?_push_size _ rfl, rfl, _, rfl⟩⟩
        have un := StX.un_laid (fs := frs outer) (s := s) (o := ({ cls := .type "tuple", data := .seq ur.toArray } : Obj)) (u := .tup rest) hn
        exact hq2 _ _ [a, b, v, V.ref s.heap.objs.size] [ua, ub, u, Value.ref s.heap.objs.size] (StX.env0_laid e0 new) un rfl (fun e s' => hCX outer s H _ _ E e s' un (fun c o q => Heap.get?_push_of_some _ q) rfl) (.cons ra (.cons rb (.cons rv (.cons rfl .nil)))) rfl ⟨_, hn, rfl, rfl⟩
      · subst ex eH
        exact body cdv A outer s2 _ Q E _ hr2 (hq p _ hp (same_new hp) upd_same)
  · exact absurd rfl e
end
end Rd
namespace Rd
open PySem PySem.Spec PyProof.Rows L2
section
variable {P : Program} {w : World} {K : PySem.W.Frag} {mg : Str → Option Value} {base : Heap} {CX : CXT} {k : Nat} {f : Addr} {x qual : Str} {st : Stmt} {N : List Str} {p1 p2 kw pv : Str}
/-- the def st at f, with a default of its keyword -/
def HasAtK (K : PySem.W.Frag) (f : Addr) (x qual : Str) (st : Stmt) (kw : Str) (dv : V) : Prop := ∃ fd, FunD K x qual (defArgs st) (defBody st) (defScope st) [] [(kw, dv)] f fd
theorem HasAtK.at {dv : V} (h : HasAtK K f x qual st kw dv) : HasAt K f x qual st := by
  obtain ⟨fd, ⟨oc, od, dV, kV, doc, pm, an, cdv, ct, osl, e, lk, hcd, hD, hK⟩, kp⟩ := h
  exact ⟨fd, ⟨oc, od, dV, kV, doc, pm, an, cdv, ct, osl, e, lk, hcd, hD, .inl rfl⟩, kp⟩
/-- the keyword is left out -/
def spStarD (dv : V) (sp : Sp) : Sp := fun vs H Q E => ∃ a b rest, vs = a :: b :: rest ∧ rest.length ≤ sizeLine ∧ ∀ p H', H p = none → Same H H' → H' p = some (.tup rest) → sp [a, b, dv, .ref p] H' Q E
theorem HasAtK.starD {sp : Sp} {dv : V} (h : HasAtK K f x qual st kw dv) (S : FnScope N [p1, p2, kw, pv] (defScope st)) (hCX : StX.CXUp CX)
    (hb : ∀ (D : Addr) (doc pm : Value) (an : Option Addr) (cdv ct a b : Value) (rest : List Value), ∃ (β γ : Type) (k1 : Option Value → Sem β) (k2 : β → Sem γ) (k3 : γ → Sem (List (Str × Value))) (c : Value → β), bindArgs (PySem.W.fnOf x qual (defArgs st) (defBody st) (defScope st) .none (.ref D) doc pm an cdv ct) ⟨a :: b :: rest, []⟩ = (((nsGet D kw >>= k1) >>= k2) >>= k3) ∧ (∀ u, k1 (some u) = pure (c u)) ∧ ∀ u, (k2 (c u) >>= k3) = (newTuple rest >>= fun t => pure [(p1, a), (p2, b), (kw, u), (pv, t)]))
    (body : ∀ (cdv : Value) (A : Around) (outer : List Env) (s : Shared) (H : Hp) (Q : VK) (E : XK) (vs : List V), Room k (A.deeper (PyProof.Rows.envOfC qual (defScope st) s.heap.objs.size f cdv)) → sp vs H Q E →
      ∃ t, PSs (cxOf CX P w K mg base N qual (defScope st) f cdv A outer s H E) (defBody st) t ∧ t { nx := fun _ H' => Q .non H', rt := Q } (start N vs) H) :
    FnR P w K mg base CX (k + 1) f (spStarD dv sp) := by
  obtain ⟨fd, F⟩ := h
  obtain ⟨oc, od, dV, kV, doc, pm, an, cdv, ct, osl, e, lk, hcd, hD, hK⟩ := F.ex
  subst e
  rcases hD with ⟨_, e⟩ | ⟨e, _⟩
  · subst e
    rcases hK with e | ⟨D, e, hq0⟩
    · exact nomatch e
    subst e
    obtain ⟨u, hu, ru⟩ := hq0 (kw, dv) List.mem_cons_self
    intro A outer s H us vs Q E hr e0 r hsp
    obtain ⟨a, b, rest, ev, hz, hq⟩ := hsp
    subst ev
    match us, r with
    | ua :: ub :: ur, .cons ra (.cons rb rr) =>
      have hn : H s.heap.objs.size = none := e0.hok.fresh (Nat.le_refl _)
      have hl2 : ur.length ≤ sizeLine := by rw [← rr.length]; exact hz
      have KX : K.In s.heap := e0.mod.kin.keeps fun b o e => (e0.bs b o e).1
      refine StX.run_bnd lk hcd S hr e0 (G := fun xs H2 => ∃ p, H p = none ∧ xs = [a, b, dv, V.ref p] ∧ H2 = upd H p (.tup rest)) (fun A2 Ex Q2 hq2 => ?_) fun s2 H2 xs ⟨p, hp, ex, eH⟩ hr2 => ?_
      · obtain ⟨β, γ, k1, k2, k3, c, e1, e2, e3⟩ := hb D doc pm an cdv ct ua ub ur
        rw [e1, bind_assoc]
        refine wpAny_bind (((PySem.W.looks_nsIn KX hu).andThen (PySem.W.Looks.of_pure (e2 u))).here ?_)
        rw [e3 u]
        refine wpAny_bind (wpAny_newTuple (wpAny_pure ?_) hl2)
        have new : ObjOk P w (upd H s.heap.objs.size (.tup rest)) (s.heap.push ({ cls := .type "tuple", data := .seq ur.toArray } : Obj)) s.heap.objs.size (.tup rest) := ⟨hz, ur, rr, ⟨_, Heap.get?_push_size _ rfl, rfl, _, rfl⟩⟩
        have un := StX.un_laid (fs := frs outer) (s := s) (o := ({ cls := .type "tuple", data := .seq ur.toArray } : Obj)) (u := .tup rest) hn
        exact hq2 _ _ [a, b, dv, V.ref s.heap.objs.size] [ua, ub, u, Value.ref s.heap.objs.size] (StX.env0_laid e0 new) un rfl (fun e s' => hCX outer s H _ _ E e s' un (fun c o q => Heap.get?_push_of_some _ q) rfl) (.cons ra (.cons rb (.cons ru (.cons rfl .nil)))) rfl ⟨_, hn, rfl, rfl⟩
      · subst ex eH
        exact body cdv A outer s2 _ Q E _ hr2 (hq p _ hp (same_new hp) upd_same)
  · exact absurd rfl e
end
end Rd
namespace Rd
open PySem PySem.Spec PyProof.Rows L2
section
variable {P : Program} {w : World} {K : PySem.W.Frag} {mg : Str → Option Value} {base : Heap} {CX : CXT} {k : Nat} {f : Addr} {x qual : Str} {st : Stmt} {N : List Str} {p1 p2 kw pv : Str}
/-- a def with defaults, all of which are given -/
def HasAtD (K : PySem.W.Frag) (f : Addr) (x qual : Str) (st : Stmt) : Prop := ∃ dv fd, FunD K x qual (defArgs st) (defBody st) (defScope st) [dv] [] f fd
theorem HasAtD.fn {α : Type} {args : α → List V} {pre : α → Hp → VK → XK → Prop} {gd : Bool} {ps : List Str} (h : HasAtD K f x qual st) (S : FnScope N ps (defScope st)) (hl : ∀ a, (args a).length = ps.length)
    (hb : ∀ (T : Addr) (kV doc pm : Value) (an : Option Addr) (cdv ct : Value) (us : List Value), us.length = ps.length → ∃ k : Option (Array Value) → Sem (List (Str × Value)), bindArgs (PySem.W.fnOf x qual (defArgs st) (defBody st) (defScope st) (.ref T) kV doc pm an cdv ct) ⟨us, []⟩ = (seqItems? (.ref T) >>= k) ∧ ∀ its, its.size = 1 → k (some its) = pure (ps.zip us))
    (body : ∀ (cdv : Value) (A : Around) (outer : List Env) (s : Shared) (H : Hp) (Q : VK) (E : XK) (a : α), RoomG gd k (A.deeper (PyProof.Rows.envOfC qual (defScope st) s.heap.objs.size f cdv)) → pre a H Q E →
      ∃ t, PSs (cxOf CX0 P w K mg base N qual (defScope st) f cdv A outer s H E).nox (defBody st) t ∧ t { nx := fun _ H' => Q .non H', rt := Q } (start N (args a)) H) :
    FnG gd P w K mg base CX0 (k + 1) f (mkSp args pre) := by
  obtain ⟨dv, fd, F⟩ := h
  obtain ⟨oc, od, dV, kV, doc, pm, an, cdv, ct, osl, e, lk, hcd, hD, hK⟩ := F.ex
  subst e
  rcases hD with ⟨e, _⟩ | ⟨_, T, o, its, n, e, lT, oT, rT⟩
  · exact nomatch e
  subst e
  intro A outer s H us vs Q E hr e0 r hsp
  obtain ⟨a, rfl, ha⟩ := hsp
  have hu : us.length = ps.length := by rw [← Vals.length r]; exact hl a
  have KX : K.In s.heap := e0.mod.kin.keeps fun b o e => (e0.bs b o e).1
  refine StX.run_bnd lk hcd S hr.toRoom e0 (G := fun xs H2 => xs = args a ∧ H2 = H) (fun A2 Ex Q2 hq => ?_) fun s2 H2 xs hx hr2 => ?_
  · obtain ⟨kk, e1, e2⟩ := hb T kV doc pm an cdv ct us hu
    have L : PySem.W.Looks (model P w) s.heap (bindArgs (PySem.W.fnOf x qual (defArgs st) (defBody st) (defScope st) (.ref T) kV doc pm an cdv ct) ⟨us, []⟩) (ps.zip us) := by
      rw [e1]
      exact looks_items KX lT oT (by rw [e2 _ (by rw [List.size_toArray, ← rT.length]; rfl)]; exact .now)
    exact L.here (hq s H _ us e0 Un.refl rfl (fun _ _ z => z) r (hl a) ⟨rfl, rfl⟩)
  · obtain ⟨rfl, rfl⟩ := hx
    obtain ⟨t, q1, q2⟩ := body cdv A outer s2 H2 Q E a ⟨hr2, hr.gs⟩ ha
    exact ⟨t, q1.nox, q2⟩
end
end Rd
namespace Rd
open PySem PySem.Spec PyProof.Rows L2
/-! ### c(e, *xs, kw = v), c a local name that holds the class -/
section
variable {M : Model} {A : Around} {Ex : Value → Shared → Prop} {s : Shared}
theorem ks_callK {f : Value} {first : List Value} {pos : Pos} {Q : Value → Shared → Prop} {Pr : Heap → Prop} {args : List (Bool × Sem Value)} {kws : List (Option Str × Sem Value)} (hst : args.any (·.1) = true)
    (hk : ∀ h, Pr h → ∃ k, (k = Keeper.frame ∨ k = Keeper.machine ∨ k = Keeper.boundFrame) ∧ PySem.W.Looks M h (keeperOf f) k)
    (h : wpAny M A (evalArgs f true args kws) (fun a s1 => Pr s1.heap ∧ wpAny M A (call f (first ++ a.pos) a.kw) Q Ex s1) Ex s) : wpAny M A (callWith pos f first args kws) Q Ex s := by
  unfold callWith
  refine wpAny_bind (wpAny_holding (wpAny_mono h (fun a s1 q => wpAny_bind (wpAny_standAt ?_)) fun _ _ z => z))
  obtain ⟨k, hk2, L⟩ := hk _ q.1
  simp only [hst, Bool.true_or]
  refine wpAny_bind (L.here ?_)
  have tail : ∀ {t : Sem Value}, wpAny M A t Q Ex s1 → wpAny M A (t >>= fun r => holding [r] point >>= fun _ => pure r) Q Ex s1 := fun ht => wpAny_bind (wpAny_mono ht (fun r s2 hr => wpAny_bind (wpAny_holding (wpAny_point (wpAny_pure hr)))) fun _ _ z => z)
  have marked (mk : Value) : wpAny M A (callMarked mk f (first ++ a.pos) a.kw) Q Ex s1 := by
    unfold callMarked
    exact Calls.wpAny_keep q.2
  rcases hk2 with rfl | rfl | rfl <;> dsimp only <;> first | exact tail (marked _) | exact tail (wpAny_operating q.2)
end
end Rd
namespace Rd
open PySem PySem.Spec PyProof.Rows L2
def oneV (R : V → Hp → Prop) : List V → Hp → Prop
  | [v], H => R v H
  | _, _ => False
theorem oneV_inv {R : V → Hp → Prop} : ∀ {zs : List V} {H : Hp}, oneV R zs H → ∃ v, zs = [v] ∧ R v H
  | [v], _, h => ⟨v, rfl, h⟩
  | [], _, h => h.elim
  | _ :: _ :: _, _, h => h.elim
def rMkSK (K : PySem.W.Frag) (C : Addr) (sp : Sp) (E : XK) (tk : TE) (σ : L2.St) (Q : VK) (vs : List V) (H : Hp) : Prop := tk σ H fun v H1 => ∀ x dx, H1 x = none → H1 dx = none → dx ≠ x → sp (v :: V.ref x :: vs) (upd (upd H1 dx (.own x)) x (.ins C dx [])) (fun v H2 => v = .non ∧ Q (.ref x) H2) E
def tMkSK (K : PySem.W.Frag) (i : Nat) (C : Addr) (sp : Sp) (E : XK) (t : TA) (tk : TE) : TE := fun σ H Q => σ[i]? = some (some (.ref C)) ∧ t σ H fun vs H1 => rMkSK K C sp E tk σ Q vs H1
section
variable {X : Cx} {CX : CXT} {k i : Nat} {f C : Addr} {sp : Sp} {E : XK} {x kw : Str} {e e2 e3 : Expr} {es : List Expr} {te tk : TE} {t : TA} {p pos sp_ kpos : Pos}
theorem run_makeSK {pins : List (Addr × Obj)} {σ : L2.St} {H : Hp} {s : Shared} {Q : VK} {us : List Value} {vs : List V} {u : Value} {v : V} (M : Mk X.K C f) (F : FnK X.prog X.w X.K X.mg X.base CX k f kw sp) (hr : Room (k + 1) X.A) (hx : Passes CX X E) (I : L2.Inv X pins σ H s) (r : Vals vs us) (rv : RelV v u)
    (h : ∀ x dx, H x = none → H dx = none → dx ≠ x → sp (v :: V.ref x :: vs) (upd (upd H dx (.own x)) x (.ins C dx [])) (fun v H2 => v = .non ∧ Q (.ref x) H2) E) :
    wpAny (model X.prog X.w) X.A (call (.ref C) us [(kw, u)]) (EP X pins σ Q) X.xe s := by
  have hq := h (s.heap.objs.size + 1) s.heap.objs.size (I.hok.fresh (Nat.le_succ _)) (I.hok.fresh (Nat.le_refl _)) (Nat.ne_of_lt (Nat.lt_succ_self _))
  have I2 := Inv.made (C := C) I
  have r2 : Vals (V.ref (s.heap.objs.size + 1) :: vs) (Value.ref (s.heap.objs.size + 1) :: us) := .cons rfl r
  refine wpAny_call (make_map (f := f) I.kIn M.makes M.init (beq_iff_eq.mp M.fn) (codeAny_mono (F _ X.stack _ _ (Value.ref (s.heap.objs.size + 1) :: us) _ _ E u v (hr.make C us [(kw, u)]) (I2.env0.make C us [(kw, u)]) r2 rv hq) fun r s2 hq2 => ?_))
  match r, hq2 with
  | .error e, hq2 => exact hx pins σ _ _ e s2 I2 hq2
  | .ok .next, hq2 => exact False.elim hq2
  | .ok .brk, hq2 => exact False.elim hq2
  | .ok .cont, hq2 => exact False.elim hq2
  | .ok (.ret z), hq2 =>
    obtain ⟨v3, H3, I3, rv3, ev, q3⟩ := I2.after hq2
    subst ev
    exact ⟨rv3, ⟨V.ref (s.heap.objs.size + 1), H3, I3, rfl, q3⟩⟩
theorem rd_mkSK {K : PySem.W.Frag} {σ : L2.St} {H : Hp} {Q : VK} (h : σ[i]? = some (some (.ref C))) (q : t σ H fun vs H1 => rMkSK K C sp E tk σ Q vs H1) : tMkSK K i C sp E t tk σ H Q := ⟨h, q⟩
theorem pe_mkSK (M : Mk X.K C f) (F : FnK X.prog X.w X.K X.mg X.base CX k f kw sp) (hr : Room (k + 1) X.A) (hx : Passes CX X E) (hN : X.N[i]? = some x) (hv : Vis X.env.scope x) (ha : PA X [e, .Starred e2 sp_] t) (hk : PE X e3 tk) (hd : (x == ("__debug__" : Str)) = false := by decide) (hcd : (x == ("__classdict__" : Str)) = false := by decide)
    (he : starEach [e, .Starred e2 sp_] X.env = (false, eval e X.env) :: starEach [.Starred e2 sp_] X.env := by rfl) (hst : (backTo pos (starEach [e, .Starred e2 sp_] X.env)).any (·.1) = true := by rfl) (hall : (backToKw pos (keywordEach [⟨some kw, e3, kpos⟩] X.env)).all (·.1.isSome) = true := by rfl)
    (hks : (backToKw pos (keywordEach [⟨some kw, e3, kpos⟩] X.env)).filterMap (·.1) = [kw] := by rfl) : PE X (.Call (.Name x p) [e, .Starred e2 sp_] [⟨some kw, e3, kpos⟩] pos) (tMkSK X.K i C sp E t tk) := by
  refine ⟨fun pins s σ H Q I h => ?_⟩
  obtain ⟨hs, h⟩ := h
  refine wpAny_Call_Name_kw (thn ((pe_var (pos := p) (i := i) hN hv hd hcd).run pins s σ H (fun v H1 => v = .ref C ∧ H1 = H) I ⟨.ref C, hs, rfl, rfl⟩) fun u s1 ⟨v, H1, I1, r1, ev, eH⟩ => ?_)
  subst ev
  rw [eH] at I1
  cases r1
  refine ks_callK hst (PySem.W.keeps_K M.kp) (evalArgs_kw2 hall (thn (ha.run pos pins s1 σ H _ I1 h) fun us s2 ⟨vs, H2, I2, r, q⟩ => ?_) he)
  have q' : tCons tk tNil σ H2 (oneV fun v H3 => ∀ x dx, H3 x = none → H3 dx = none → dx ≠ x → sp (v :: V.ref x :: vs) (upd (upd H3 dx (.own x)) x (.ins C dx [])) (fun v H2 => v = .non ∧ Q (.ref x) H2) E) := q
  refine thn ((pk_cons hk pk_nil).run pos pins s2 σ H2 _ I2 q') fun ws s3 ⟨zs, H3, I3, rz, q3⟩ => ⟨I3.kIn, ?_⟩
  obtain ⟨v, rfl, q3⟩ := oneV_inv q3
  obtain ⟨u, rfl, ru⟩ := vals1 rz
  rw [hks]
  exact run_makeSK M F hr hx I3 r ru q3
end
end Rd
set_option Elab.async false
set_option linter.all false
set_option maxRecDepth 100000
set_option maxHeartbeats 4000000
/-! Ri: dict comprehensions, comprehensions over texts and over two sources, order of texts, a sign in a text. -/
namespace Rd
open PySem PySem.Spec PyProof.Rows L2
section
variable {X : Cx}
theorem sw_trueD {kx vx : Expr} {gs : List Comprehension} {scope : Scope} {pos py : Pos} {y : Str} {l : Nat} {env : Env} (hk : env.scope.kind = .function) (hy : env.scope.names.lookup y = some .local) (hl : (py.line == pos.line) = true)
    (ha : (scope.names.any fun (n, k) => n == y && (k == .local || k == .cell)) = false) : swapsWith (.DictComp kx vx gs scope pos) (some (.Name y py)) l env = pure true := by
  have ky : env.kindOf y = some .local := hy
  have hb : env.blockKind = .function := by unfold Env.blockKind; rw [hk]; rfl
  unfold swapsWith
  simp only [hb, ky, ha]
  have e : (py.line == (Expr.DictComp kx vx gs scope pos).pos.line) = true := hl
  rw [e]
  rfl
/-- y = {k: v for ..} -/
theorem ps_setDc {i : Nat} {y : Str} {py : Pos} {kx vx tg iter : Expr} {ifs : List Expr} {scope : Scope} {own : List (Str × Nat)} {pos spos : Pos} {wi : TI} {g : TG} {tt : TT} {tk tv : TE} (hc : X.calm = true) (hN : X.N.Nodup) (hy : X.N[i]? = some y) (hyl : X.env.scope.names.lookup y = some .local)
    (hsw : swapsWith (.DictComp kx vx [⟨tg, iter, ifs, 0⟩] scope pos) (some (.Name y py)) spos.line X.env = pure true) (hi : PI X tg iter wi) (ok : BlkOk X.N X.env.scope scope own)
    (hg : ∀ (s : Shared) (H : Hp) (C : Addr) (cl : List (Str × Addr)) (fp : List Addr), PG (X.blk s H scope (compEnvC scope cl C X.env) fp) tg g) (ht : ∀ (s : Shared) (H : Hp) (C : Addr) (cl : List (Str × Addr)) (fp : List Addr), PTs (X.blk s H scope (compEnvC scope cl C X.env) fp) ifs tt)
    (hk : ∀ (s : Shared) (H : Hp) (C : Addr) (cl : List (Str × Addr)) (fp : List Addr), PE (X.blk s H scope (compEnvC scope cl C X.env) fp) kx tk)
    (he : ∀ (s : Shared) (H : Hp) (C : Addr) (cl : List (Str × Addr)) (fp : List Addr), PE (X.blk s H scope (compEnvC scope cl C X.env) fp) vx tv) (hs : ∀ x, foldedSetIterable iter X.env x = pure x := by intro _; rfl) :
    PS X (.Assign [.Name y py] (.DictComp kx vx [⟨tg, iter, ifs, 0⟩] scope pos) spos) (tAsg (tDc wi g tt tk tv (own.map (·.2))) (gName i)) := by
  refine ⟨fun pins s σ H D I h => ?_⟩
  rw [exec_Assign_Name_used _ _ _ _ hsw]
  refine wpAny_bind (wpAny_standAt (wpAny_bind ?_))
  show wpAny _ X.A (do let _ ← comprehension (.DictComp kx vx [⟨tg, iter, ifs, 0⟩] scope pos) scope X.env (firstIterPos [⟨tg, iter, ifs, 0⟩] pos) newDict false (eval iter X.env) (some (assign (.Name y py) X.env))) _ _ s
  have h : tDc wi g tt tk tv (own.map (·.2)) σ H (fun x H1 => gName i x σ H1 D.nx) := h
  refine wpAny_bind (thn (dc_core (Qf := fun _ s2 => SP X pins D .next s2) hc hN I hi ok hg ht hk he hs h fun L C s2 m H2 I2 q hn f => ?_) fun _ s2 hq => wpAny_pure (wpAny_pure hq))
  show wpAny _ _ (assign (.Name y py) X.env (.ref L)) _ _ _
  refine wpAny_assign_Name (store_ok2 (v := V.ref L) I2 hN hy (.inl hyl) rfl (fun s3 I3 ⟨a, sb, ha⟩ => ?_) (.inr hyl))
  obtain ⟨f0, f1, f2, f3, f4, f5⟩ := f
  have haC : C ≠ a := by
    rcases ha with z | z
    · rw [z]; exact f1
    · exact fun e => f4 y a z e.symm
  exact ⟨m, hn.sameBut sb haC, fun h3 sb3 => ⟨_, H2, I3.turned (t' := s3.toks) (fun b o hb e => (sb3.2 b hb).trans e) f0 f1 f3 f4 f5, q⟩⟩
end
/-! readings -/
section
variable {K : PySem.W.Frag} {σ : L2.St} {H : Hp} {Q : VK} {g : TG} {tt : TT} {tk tv te : TE} {vs : List Nat} {a : Addr} {xs : List V} {wi : TI}
def rDc (g : TG) (tt : TT) (tk tv : TE) (vs : List Nat) (σ : L2.St) (Q : VK) (J : It) (H1 : Hp) : Prop := ∀ D, H1 D = none → ∃ W : Nat → Nat → Hp → Prop, (∃ m, W 0 m (upd H1 D (.dK []))) ∧ ∀ i m H, W i m H →
  (J.stop i H ∧ Q (.ref D) H) ∨ (J.go i H ∧ ∃ Nx : Hp → Prop, (∀ H', Nx H' → ∃ m', m' < m ∧ W (i + 1) m' H') ∧ ∀ x H', J.yld i H x H' → g x (wipe σ vs) H' fun σ2 H2 => wipe σ2 vs = wipe σ vs ∧ tt σ2 H2 fun b H3 =>
    if b = true then tk σ2 H3 fun y H4 => tv σ2 H4 fun z H5 => ∃ kvs k, y = kV k ∧ H5 D = some (.dK kvs) ∧ kvs.length < sizeLine ∧ Nx (upd H5 D (.dK (putK kvs k z))) else Nx H3)
theorem rd_dc (q : wi σ H fun J H1 => rDc g tt tk tv vs σ Q J H1) : tDc wi g tt tk tv vs σ H Q := q
theorem putK_new' {kvs : List (Key × V)} {k : Key} {v : V} (h : k ∉ kvs.map (·.1)) : putK kvs k v = kvs ++ [(k, v)] := by
  refine putK_new v ?_
  cases e : valV kvs k with
  | none => rfl
  | some w =>
    have : (kvs.any fun kv => decide (kv.1 = k)) = true := by rw [valV_any, e]; rfl
    obtain ⟨kv, hm, hk⟩ := List.any_eq_true.mp this
    exact absurd (List.mem_map.mpr ⟨kv, hm, of_decide_eq_true hk⟩) h
/-- {k: v for x in a tuple}: kf x is the key, vf x the value -/
theorem dc_tup' (kf : V → Key) (vf : V → V) (hz : xs.length ≤ 100000) (hS : SqT K H a xs)
    (step : ∀ x H1 (N : V → V → Hp → Prop), x ∈ xs → Same H H1 → (∀ H2, Same H1 H2 → N (kV (kf x)) (vf x) H2) → g x (wipe σ vs) H1 fun σ2 H2 => wipe σ2 vs = wipe σ vs ∧ tk σ2 H2 fun y H4 => tv σ2 H4 fun z H5 => N y z H5)
    (done : ∀ D H', H D = none → Same H H' → H' D = some (.dK (mergeK [] (xs.map fun x => (kf x, vf x)))) → Q (.ref D) H') : rDc g tYes tk tv vs σ Q (Itt K a) H := by
  intro D hD
  let m : Nat → List (Key × V) := fun i => mergeK [] ((xs.take i).map fun x => (kf x, vf x))
  let Pv : Nat → Hp → Prop := fun i H1 => Same H H1 ∧ H1 D = some (.dK (m i))
  refine ⟨fun i n H1 => n = xs.length - i ∧ i ≤ xs.length ∧ Pv i H1, ⟨xs.length, by simp, Nat.zero_le _, same_new hD, by rw [upd_same]; rfl⟩, ?_⟩
  rintro i n H1 ⟨rfl, hi, s1, hd1⟩
  have hq : SqT K H1 a xs := Same.sqT s1 hS
  by_cases hlt : i < xs.length
  · refine .inr ⟨⟨xs, xs[i], hq, by simp [hlt]⟩, Pv (i + 1), fun H' p' => ⟨xs.length - (i + 1), by omega, rfl, hlt, p'⟩, fun x H' y => ?_⟩
    obtain ⟨rfl, hy⟩ := y
    have ex := hy xs hq
    refine step x H' _ (List.mem_of_getElem? ex) s1 fun H2 s2 => ?_
    have hl : (m i).length < sizeLine := by
      refine Nat.lt_of_le_of_lt (length_mergeK _ _) ?_
      rw [List.length_nil, Nat.zero_add, List.length_map, List.length_take]
      exact Nat.lt_of_le_of_lt (Nat.le_trans (Nat.min_le_right _ _) hz) (by decide)
    refine ⟨m i, kf x, rfl, s2 _ _ hd1, hl, fun b o e => ?_, ?_⟩
    · rw [upd_ne (ne_of_none e hD)]
      exact s2 _ _ (s1 _ _ e)
    · rw [upd_same]
      show some (HO.dK (putK (mergeK [] ((xs.take i).map fun x => (kf x, vf x))) (kf x) (vf x))) = some (HO.dK (mergeK [] ((xs.take (i + 1)).map fun x => (kf x, vf x))))
      rw [List.take_add_one, ex, List.map_append]
      unfold mergeK
      rw [List.foldl_append]
      rfl
  · obtain rfl : i = xs.length := by omega
    refine .inl ⟨⟨xs, hq, Nat.le_refl _⟩, done D H1 hD s1 ?_⟩
    rw [hd1]
    show some (HO.dK (mergeK [] ((xs.take xs.length).map fun x => (kf x, vf x)))) = _
    rw [List.take_length]
/-- different keys: the pairs themselves -/
theorem merge_nodup : ∀ (ps acc : List (Key × V)), ((acc ++ ps).map (·.1)).Nodup → mergeK acc ps = acc ++ ps
  | [], acc, _ => by simp [mergeK]
  | p :: ps, acc, h => by
    have hk : p.1 ∉ acc.map (·.1) := fun q => by
      rw [List.map_append, List.map_cons] at h
      exact (List.nodup_append.mp h).2.2 _ q _ List.mem_cons_self rfl
    have e : mergeK acc (p :: ps) = mergeK (acc ++ [p]) ps := by
      show mergeK (putK acc p.1 p.2) ps = _
      rw [putK_new' hk]
    rw [e, merge_nodup ps _ (by rw [List.append_assoc]; exact h), List.append_assoc]
    rfl
def rLtS : R2 := fun x y H Q => ∃ i j, x = .str i ∧ y = .str j ∧ Q (.bl (decide (i.cps.toList < j.cps.toList))) H
theorem op_ltS {X : Cx} : OpR X (compareOp .Lt) rLtS := op_lt_str
theorem rd_ltS {x y : Str} (q : Q (.bl (lts x y)) H) : rLtS (.str x) (.str y) H Q := ⟨x, y, rfl, rfl, q⟩
def rInSg : R2 := fun x y H Q => ∃ (c : Nat) (z : Str), x = .str ⟨#[c]⟩ ∧ y = .str z ∧ Q (.bl (decide (c ∈ z.cps.toList))) H
theorem op_inSg {X : Cx} : OpR X (compareOp .In) rInSg := op_in_sign
theorem rd_inSg {c : Nat} {z : Str} (q : Q (.bl (decide (c ∈ z.cps.toList))) H) : rInSg (.str ⟨#[c]⟩) (.str z) H Q := ⟨c, z, rfl, rfl, q⟩
theorem c_any {X : Cx} (hc : X.calm = true) : CallR X (.builtin "any") (rAny X.K) := cr_any hc
theorem rd_any {bs : List Bool} (h : SqL K H a (bs.map V.bl)) (q : Q (.bl (bs.any id)) H) : rAny K [.ref a] H Q := ⟨a, bs, rfl, h, q⟩
theorem rd_iStr {R : It → Hp → Prop} {te : TE} (q : te σ H fun v H1 => ∃ x, v = .str x ∧ R (Its x) H1) : iStr te σ H R := q
theorem rd_IS {x : Str} {R : It → Hp → Prop} (q : R (Its x) H) : ∃ y, V.str x = .str y ∧ R (Its y) H := ⟨x, rfl, q⟩
/-- [.. for c in a text] -/
theorem lc_str {x : Str} (f : Nat → V) (hz : x.cps.size ≤ 100000)
    (step : ∀ c H1 (N : V → Hp → Prop), c ∈ x.cps.toList → Same H H1 → (∀ H2, Same H1 H2 → N (f c) H2) → g (.str ⟨#[c]⟩) (wipe σ vs) H1 fun σ2 H2 => wipe σ2 vs = wipe σ vs ∧ te σ2 H2 N)
    (done : ∀ D H', H D = none → Same H H' → H' D = some (.lst (x.cps.toList.map f)) → Q (.ref D) H') : rLc g tYes te vs σ Q (Its x) H := by
  refine lc_gen x.cps.toList (fun c v _ => v = .str ⟨#[c]⟩) (fun _ => true) f (by simpa using hz) (fun i H1 hi s1 => ?_) (fun H1 s1 => ?_) (fun i H1 v H2 c ec s1 y => ?_) (fun c v H1 N M hc s1 hv hN hM => ?_) (fun D H' h1 h2 h3 => ?_)
  · exact by simpa [Its] using hi
  · exact by simp [Its]
  · have y' := y
    simp only [Its] at y'
    obtain ⟨e, c', h1, h2⟩ := y'
    have : x.cps.toList[i]? = some c' := by simpa using h1
    rw [this] at ec
    cases ec
    exact ⟨by rw [e]; exact Same.refl _, h2⟩
  · subst hv
    exact step c H1 M hc s1 (hM rfl)
  · refine done D H' h1 h2 ?_
    rw [h3, List.filter_eq_self.mpr fun _ _ => rfl]
/-- [.. for x, y in zip(..)] of two tuples, as long as the shorter one goes -/
theorem lc_zipM {b : Addr} {ys : List V} (f : V × V → V) (hz : xs.length ≤ 100000) (h1 : SqT K H a xs) (h2 : SqT K H b ys)
    (step : ∀ (z : V × V) T H1 (M : V → Hp → Prop), z ∈ xs.zip ys → Same H H1 → H1 T = some (.tup [z.1, z.2]) → (∀ H2, Same H1 H2 → M (f z) H2) → g (.ref T) (wipe σ vs) H1 fun σ2 H2 => wipe σ2 vs = wipe σ vs ∧ te σ2 H2 M)
    (done : ∀ D H', H D = none → Same H H' → H' D = some (.lst ((xs.zip ys).map f)) → Q (.ref D) H') : rLc g tYes te vs σ Q (RZ.ItzT K a b) H := by
  have lz : (xs.zip ys).length = min xs.length ys.length := List.length_zip
  refine lc_gen (xs.zip ys) (fun z v H2 => ∃ T, v = .ref T ∧ H2 T = some (.tup [z.1, z.2])) (fun _ => true) f (by omega) (fun i H1 hi s1 => ?_) (fun H1 s1 => ?_) (fun i H1 x H2 z ez s1 y => ?_) (fun z x H1 N M hz' s1 hx hN hM => ?_) (fun D H' q1 q2 q3 => ?_)
  · exact ⟨xs, ys, xs[i]'(by omega), ys[i]'(by omega), Same.sqT s1 h1, Same.sqT s1 h2, List.getElem?_eq_getElem _, List.getElem?_eq_getElem _⟩
  · exact ⟨xs, ys, Same.sqT s1 h1, Same.sqT s1 h2, by rw [lz]; omega⟩
  · obtain ⟨T, u, v, rfl, hT, rfl, hu, hv⟩ := y
    have e1 := hu xs (Same.sqT s1 h1)
    have e2 := hv ys (Same.sqT s1 h2)
    have e3 : (xs.zip ys)[i]? = some (u, v) := by rw [List.getElem?_zip_eq_some]; exact ⟨e1, e2⟩
    rw [e3] at ez
    injection ez with ez
    subst ez
    exact ⟨same_new hT, T, rfl, upd_same⟩
  · obtain ⟨T, rfl, hT⟩ := hx
    exact step z T H1 M hz' s1 hT (hM rfl)
  · refine done D H' q1 q2 ?_
    rw [q3, List.filter_eq_self.mpr fun _ _ => rfl]
theorem op_inK {X : Cx} (hK : X.K = K) : OpR X (compareOp .In) (rIn K false) := by subst hK; exact op_in_seq
theorem op_notInK {X : Cx} (hK : X.K = K) : OpR X (compareOp .NotIn) (rIn K true) := by subst hK; exact op_notIn_seq
theorem pi_tupK {X : Cx} {tg e : Expr} {tl : TE} (hK : X.K = K) (he : PE X e tl) : PI X tg e (iTup K tl) := by subst hK; exact pi_tup he
theorem inV_strs (x : Str) : ∀ ys : List Str, inV (.str x) (ys.map V.str) = decide (x ∈ ys)
  | [] => rfl
  | y :: ys => by
    have e : inV (.str x) ((y :: ys).map V.str) = (eqV (.str y) (.str x) || inV (.str x) (ys.map V.str)) := rfl
    rw [e, inV_strs x ys]
    have e2 : eqV (.str y) (.str x) = decide (y = x) := rfl
    rw [e2, Bool.eq_iff_iff]
    simp only [Bool.or_eq_true, decide_eq_true_eq, List.mem_cons]
    exact or_congr_left eq_comm
theorem rd_inTx {neg : Bool} {x : Str} {ys : List Str} (h : SqT K H a (ys.map V.str) ∨ SqL K H a (ys.map V.str)) (q : Q (.bl (if neg then !decide (x ∈ ys) else decide (x ∈ ys))) H) : rIn K neg (.str x) (.ref a) H Q := by
  rw [← inV_strs x ys] at q
  exact ⟨a, _, rfl, h.symm, rfl, by rw [List.all_map]; exact List.all_eq_true.mpr fun _ _ => rfl, q⟩
def rLc2 (g : TG) (tt : TT) (wi1 : TI) (g1 : TG) (tt1 : TT) (te : TE) (vs vs1 : List Nat) (σ : L2.St) (Q : VK) (J : It) (H1 : Hp) : Prop := ∀ D, H1 D = none → ∃ W : Nat → Nat → Hp → Prop, (∃ m, W 0 m (upd H1 D (.lst []))) ∧ ∀ i m H, W i m H →
  (J.stop i H ∧ Q (.ref D) H) ∨ (J.go i H ∧ ∃ Nx : Hp → Prop, (∀ H', Nx H' → ∃ m', m' < m ∧ W (i + 1) m' H') ∧ ∀ x H', J.yld i H x H' → g x (wipe σ vs) H' fun σ2 H2 => wipe σ2 vs = wipe σ vs ∧ tt σ2 H2 fun b H3 =>
    if b = true then wi1 σ2 H3 fun J1 H4 => ∃ W1 : Nat → Nat → Hp → Prop, (∃ m, W1 0 m H4) ∧ ∀ j k H, W1 j k H →
      (J1.stop j H ∧ Nx H) ∨ (J1.go j H ∧ ∃ Nx1 : Hp → Prop, (∀ H', Nx1 H' → ∃ k', k' < k ∧ W1 (j + 1) k' H') ∧ ∀ x H', J1.yld j H x H' → g1 x (wipe σ2 vs1) H' fun σ3 H5 => wipe σ3 vs1 = wipe σ2 vs1 ∧ tt1 σ3 H5 fun b H6 =>
        if b = true then te σ3 H6 fun y H7 => ∃ acc, H7 D = some (.lst acc) ∧ acc.length < sizeLine ∧ Nx1 (upd H7 D (.lst (acc ++ [y]))) else Nx1 H6)
    else Nx H3)
theorem rd_lc2 {wi1 : TI} {g1 : TG} {tt1 : TT} {vs1 : List Nat} (q : wi σ H fun J H1 => rLc2 g tt wi1 g1 tt1 te vs vs1 σ Q J H1) : tLc2 wi g tt wi1 g1 tt1 te vs vs1 σ H Q := q
/-- [.. for x in a tuple for y in a tuple], all of it True -/
theorem lc2_true {wi1 : TI} {g1 : TG} {vs1 : List Nat} (hz : xs.length ≤ 1000) (hS : SqT K H a xs)
    (step : ∀ x H1 (M : L2.St → It → Hp → Prop), x ∈ xs → Same H H1 → (∀ σ2 c ys, SqT K H c ys → ys.length ≤ 100 → (∀ y H5 (N : V → Hp → Prop), y ∈ ys → Same H H5 → (∀ H6, Same H5 H6 → N (.bl true) H6) → g1 y (wipe σ2 vs1) H5 fun σ3 H6 => wipe σ3 vs1 = wipe σ2 vs1 ∧ te σ3 H6 N) → M σ2 (Itt K c) H1) →
      g x (wipe σ vs) H1 fun σ2 H2 => wipe σ2 vs = wipe σ vs ∧ wi1 σ2 H2 fun J H3 => M σ2 J H3)
    (done : ∀ (D : Addr) (H' : Hp) (bs : List Bool), H D = none → Same H H' → H' D = some (.lst (bs.map V.bl)) → bs.all id = true → Q (.ref D) H') : rLc2 g tYes wi1 g1 tYes te vs vs1 σ Q (Itt K a) H := by
  intro D hD
  let Pv : Nat → Nat → Hp → Prop := fun i j H1 => Same H H1 ∧ ∃ bs : List Bool, H1 D = some (.lst (bs.map V.bl)) ∧ bs.all id = true ∧ bs.length ≤ i * 100 + j
  refine ⟨fun i m H1 => m = xs.length - i ∧ i ≤ xs.length ∧ Pv i 0 H1, ⟨xs.length, rfl, Nat.zero_le _, same_new hD, [], upd_same, rfl, Nat.zero_le _⟩, ?_⟩
  rintro i m H1 ⟨rfl, hi, s1, bs, hb1, hb2, hb3⟩
  have hq : SqT K H1 a xs := Same.sqT s1 hS
  by_cases hlt : i < xs.length
  · refine .inr ⟨⟨xs, xs[i], hq, by simp [hlt]⟩, Pv (i + 1) 0, fun H' p' => ⟨xs.length - (i + 1), by omega, rfl, hlt, p'⟩, fun x H' y => ?_⟩
    obtain ⟨rfl, hy⟩ := y
    refine step x H' _ (List.mem_of_getElem? (hy xs hq)) s1 fun σ2 c ys hc hn inn => ?_
    refine ⟨fun j k H2 => k = ys.length - j ∧ j ≤ ys.length ∧ Pv i j H2, ⟨ys.length, rfl, Nat.zero_le _, s1, bs, hb1, hb2, hb3⟩, ?_⟩
    rintro j k H2 ⟨rfl, hj, s2, cs, hc1, hc2, hc3⟩
    have hq2 : SqT K H2 c ys := Same.sqT s2 hc
    by_cases hjt : j < ys.length
    · refine .inr ⟨⟨ys, ys[j], hq2, by simp [hjt]⟩, Pv i (j + 1), fun H3 p3 => ⟨ys.length - (j + 1), by omega, rfl, hjt, p3⟩, fun z H3 y2 => ?_⟩
      obtain ⟨rfl, hy2⟩ := y2
      refine inn z H3 _ (List.mem_of_getElem? (hy2 ys hq2)) s2 fun H4 s4 => ?_
      refine ⟨_, s4 _ _ hc1, ?_, fun b o e => ?_, cs ++ [true], ?_, ?_, ?_⟩
      · rw [List.length_map]
        have e := sizeLine_eq
        omega
      · rw [upd_ne (ne_of_none e hD)]
        exact s4 _ _ (s2 _ _ e)
      · rw [upd_same, List.map_append]
        rfl
      · rw [List.all_append, hc2]
        rfl
      · rw [List.length_append]
        show cs.length + 1 ≤ _
        omega
    · obtain rfl : j = ys.length := by omega
      exact .inl ⟨⟨ys, hq2, Nat.le_refl _⟩, s2, cs, hc1, hc2, by omega⟩
  · obtain rfl : i = xs.length := by omega
    exact .inl ⟨⟨xs, hq, Nat.le_refl _⟩, done D H1 bs hD s1 hb1 hb2⟩
/-- [.. for x in a tuple, a list] by an invariant -/
theorem lc_invI {J : It} {n : Nat} (val : Nat → V → Prop) (P : Nat → Addr → List V → Hp → Prop) (go : ∀ i D acc H1, i < n → P i D acc H1 → J.go i H1) (stop : ∀ D acc H1, P n D acc H1 → J.stop n H1) (yld : ∀ i D acc H1 x H2, P i D acc H1 → J.yld i H1 x H2 → H2 = H1 ∧ val i x) (h0 : ∀ D, H D = none → P 0 D [] (upd H D (.lst [])))
    (step : ∀ (i : Nat) x D acc H1 (N : VK), i < n → val i x → H D = none → P i D acc H1 → (∀ y H3, H3 D = some (.lst acc) → acc.length < sizeLine → P (i + 1) D (acc ++ [y]) (upd H3 D (.lst (acc ++ [y]))) → N y H3) →
      g x (wipe σ vs) H1 fun σ2 H2 => wipe σ2 vs = wipe σ vs ∧ te σ2 H2 N)
    (done : ∀ D acc H1, H D = none → P n D acc H1 → Q (.ref D) H1) : rLc g tYes te vs σ Q J H := by
  intro D hD
  refine ⟨fun i m H1 => m = n - i ∧ i ≤ n ∧ ∃ acc, P i D acc H1, ⟨n, rfl, Nat.zero_le _, [], h0 D hD⟩, ?_⟩
  rintro i m H1 ⟨rfl, hi, acc, p⟩
  by_cases hlt : i < n
  · refine .inr ⟨go i D acc H1 hlt p, fun H2 => ∃ acc, P (i + 1) D acc H2, fun H' p' => ⟨n - (i + 1), by omega, rfl, hlt, p'⟩, fun x H' y => ?_⟩
    obtain ⟨rfl, hx⟩ := yld i D acc H1 x H' p y
    exact step i x D acc H' _ hlt hx hD p fun y H3 h1 h2 h3 => ⟨acc, h1, h2, _, h3⟩
  · obtain rfl : i = n := by omega
    exact .inl ⟨stop D acc H1 p, done D acc H1 hD p⟩
theorem lc_tupI (P : Nat → Addr → List V → Hp → Prop) (hl : ∀ i D acc H1, P i D acc H1 → SqT K H1 a xs) (h0 : ∀ D, H D = none → P 0 D [] (upd H D (.lst [])))
    (step : ∀ (i : Nat) x D acc H1 (N : VK), xs[i]? = some x → H D = none → P i D acc H1 → (∀ y H3, H3 D = some (.lst acc) → acc.length < sizeLine → P (i + 1) D (acc ++ [y]) (upd H3 D (.lst (acc ++ [y]))) → N y H3) →
      g x (wipe σ vs) H1 fun σ2 H2 => wipe σ2 vs = wipe σ vs ∧ te σ2 H2 N)
    (done : ∀ D acc H1, H D = none → P xs.length D acc H1 → Q (.ref D) H1) : rLc g tYes te vs σ Q (Itt K a) H := by
  refine lc_invI (n := xs.length) (fun i x => xs[i]? = some x) P (fun i D acc H1 hi p => ⟨xs, xs[i], hl i D acc H1 p, by simp [hi]⟩) (fun D acc H1 p => ⟨xs, hl _ D acc H1 p, Nat.le_refl _⟩) (fun i D acc H1 x H2 p y => ?_) h0 (fun i x D acc H1 N _ => step i x D acc H1 N) done
  exact ⟨y.1, y.2 xs (hl i D acc H1 p)⟩
theorem lc_lstI (P : Nat → Addr → List V → Hp → Prop) (hl : ∀ i D acc H1, P i D acc H1 → SqL K H1 a xs) (h0 : ∀ D, H D = none → P 0 D [] (upd H D (.lst [])))
    (step : ∀ (i : Nat) x D acc H1 (N : VK), xs[i]? = some x → H D = none → P i D acc H1 → (∀ y H3, H3 D = some (.lst acc) → acc.length < sizeLine → P (i + 1) D (acc ++ [y]) (upd H3 D (.lst (acc ++ [y]))) → N y H3) →
      g x (wipe σ vs) H1 fun σ2 H2 => wipe σ2 vs = wipe σ vs ∧ te σ2 H2 N)
    (done : ∀ D acc H1, H D = none → P xs.length D acc H1 → Q (.ref D) H1) : rLc g tYes te vs σ Q (Itl K a) H := by
  refine lc_invI (n := xs.length) (fun i x => xs[i]? = some x) P (fun i D acc H1 hi p => ⟨xs, xs[i], hl i D acc H1 p, by simp [hi]⟩) (fun D acc H1 p => ⟨xs, hl _ D acc H1 p, Nat.le_refl _⟩) (fun i D acc H1 x H2 p y => ?_) h0 (fun i x D acc H1 N _ => step i x D acc H1 N) done
  exact ⟨y.1, y.2 xs (hl i D acc H1 p)⟩
/-- a dict display -/
theorem rd_disp {trs : List (TE × TE)} (q : ∀ p, H p = none → tPairs trs σ (upd H p (.dK [])) fun ps H2 => H2 p = some (.dK []) ∧ ∃ kvs : List (Key × V), ps = kvs.map (fun kv => (kV kv.1, kv.2)) ∧ kvs.length ≤ 15 ∧ Q (.ref p) (upd H2 p (.dK (mergeK [] kvs)))) : tDisp trs σ H Q := q
theorem rd_prC {trs : List (TE × TE)} {QP : List (V × V) → Hp → Prop} (q : tk σ H fun x H1 => tv σ H1 fun y H2 => tPairs trs σ H2 fun ps H3 => QP ((x, y) :: ps) H3) : tPairs ((tk, tv) :: trs) σ H QP := q
theorem rd_prN {QP : List (V × V) → Hp → Prop} (q : QP [] H) : tPairs [] σ H QP := q
end
end Rd
set_option Elab.async false
set_option linter.all false
set_option maxRecDepth 100000
set_option maxHeartbeats 4000000
/-! Rno: a comprehension that takes nothing, by an invariant (what is asked may change the heap). -/
namespace Rd
open PySem PySem.Spec PyProof.Rows L2
section
variable {K : PySem.W.Frag} {a : Addr} {xs : List V} {g : TG} {tt : TT} {te : TE} {vs : List Nat} {σ : L2.St} {H : Hp} {Q : VK}
theorem lc_noI {J : It} {n : Nat} (val : Nat → V → Prop) (P : Addr → Hp → Prop) (go : ∀ i D H1, i < n → P D H1 → J.go i H1) (stop : ∀ D H1, P D H1 → J.stop n H1) (yld : ∀ i D H1 x H2, P D H1 → J.yld i H1 x H2 → H2 = H1 ∧ val i x) (h0 : ∀ D, H D = none → P D (upd H D (.lst [])))
    (step : ∀ (i : Nat) x D H1 (N : Hp → Prop) (M : V → Hp → Prop), i < n → val i x → H D = none → P D H1 → (∀ H3, P D H3 → N H3) → g x (wipe σ vs) H1 fun σ2 H2 => wipe σ2 vs = wipe σ vs ∧ tt σ2 H2 fun b H3 => if b = true then te σ2 H3 M else N H3)
    (done : ∀ D H1, H D = none → P D H1 → Q (.ref D) H1) : rLc g tt te vs σ Q J H := by
  intro D hD
  refine ⟨fun i m H1 => m = n - i ∧ i ≤ n ∧ P D H1, ⟨n, rfl, Nat.zero_le _, h0 D hD⟩, ?_⟩
  rintro i m H1 ⟨rfl, hi, p⟩
  by_cases hlt : i < n
  · refine .inr ⟨go i D H1 hlt p, P D, fun H' p' => ⟨n - (i + 1), by omega, rfl, hlt, p'⟩, fun x H' y => ?_⟩
    obtain ⟨rfl, hx⟩ := yld i D H1 x H' p y
    exact step i x D H' _ _ hlt hx hD p fun H3 h => h
  · obtain rfl : i = n := by omega
    exact .inl ⟨stop D H1 p, done D H1 hD p⟩
theorem lc_noL (P : Addr → Hp → Prop) (hl : ∀ D H1, P D H1 → SqL K H1 a xs) (h0 : ∀ D, H D = none → P D (upd H D (.lst [])))
    (step : ∀ (i : Nat) x D H1 (N : Hp → Prop) (M : V → Hp → Prop), xs[i]? = some x → H D = none → P D H1 → (∀ H3, P D H3 → N H3) → g x (wipe σ vs) H1 fun σ2 H2 => wipe σ2 vs = wipe σ vs ∧ tt σ2 H2 fun b H3 => if b = true then te σ2 H3 M else N H3)
    (done : ∀ D H1, H D = none → P D H1 → Q (.ref D) H1) : rLc g tt te vs σ Q (Itl K a) H := by
  refine lc_noI (n := xs.length) (fun i x => xs[i]? = some x) P (fun i D H1 hi p => ⟨xs, xs[i], hl D H1 p, by simp [hi]⟩) (fun D H1 p => ⟨xs, hl D H1 p, Nat.le_refl _⟩) (fun i D H1 x H2 p y => ?_) h0 (fun i x D H1 N M _ => step i x D H1 N M) done
  exact ⟨y.1, y.2 xs (hl D H1 p)⟩
theorem cut_mem {lo hi : Option Int} {x : V} (h : x ∈ cutV xs lo hi) : x ∈ xs := by
  unfold cutV at h
  exact List.mem_of_mem_drop (List.mem_of_mem_take h)
end
end Rd
set_option Elab.async false
set_option linter.all false
set_option maxRecDepth 100000
set_option maxHeartbeats 4000000
/-! Rof: own operators with a foreign value (of a built-in class) on either side. -/
namespace Rd
open PySem PySem.Spec PyProof.Rows L2
def fillsB (K : PySem.W.Frag) (T nm : String) : Option Bool := match PySem.W.findIn K (.type T) (PySem.dunder nm), PySem.W.findIn K (.type T) (dunderR nm) with
  | some fo, some ro => some ((fo.isSome && !isSeqSlot fo) || (ro.isSome && !isSeqSlot ro))
  | _, _ => none
theorem fills_looks {M : Model} {K : PySem.W.Frag} {h : Heap} {T nm : String} {b : Bool} (X : K.In h) (e : fillsB K T nm = some b) : PySem.W.Looks M h (fillsNumberSlot (.type T) nm) b := by
  unfold fillsB at e
  split at e
  · rename_i fo ro h1 h2
    obtain rfl := Option.some.inj e
    exact PySem.W.ksp_fillsT X h1 h2
  · cases e
/-- a foreign class T: what its values are to the class C -/
structure Frn (K : PySem.W.Frag) (C : Addr) (nm T : String) : Prop where
  fi : ∃ b, fillsB K T nm = some b
  s1 : PySem.W.subIn K (.type T) (.ref C) = some false
  r2 : ∃ ro, PySem.W.findIn K (.type T) (dunderR nm) = some ro
section
variable {prog : Program} {w : World} {A : Around} {E : Value → Shared → Prop} {s : Shared} {K : PySem.W.Frag} {x C f fr : Addr} {ox : Obj} {od : Option Obj} {b : Value} {T : String}
/-- the own value on the left -/
theorem lbin_K {op : Operator} {rc : Option Value} {Q : Value → Shared → Prop} (XK : K.In s.heap) (J : PySem.W.InstAt s.heap x ox C od) (hb : PySem.W.Looks (model prog w) s.heap (typeOf b) (.type T)) (sf : PySem.W.selfFirst K C = true) (hl : PySem.W.findIn K (.ref C) (PySem.dunder op.info.2) = some (some (.ref f))) (hf : PySem.W.isFn K (.ref f) = true) (hr : PySem.W.findIn K (.ref C) (dunderR op.info.2) = some rc) (hp : rc = none ∨ ∃ g : Addr, rc = some (.ref g)) (O : Frn K C op.info.2 T)
    (h : wpAny (model prog w) A (call (.ref f) [.ref x, b]) (PySem.W.CmpBack Q) E s) : wpAny (model prog w) A (binaryOp op (.ref x) b) Q E s := by
  obtain ⟨cd, rest, hcd, hm⟩ := PySem.W.ksp_first sf
  obtain ⟨right, fi⟩ := O.fi
  obtain ⟨ro, r2⟩ := O.r2
  have s1 := O.s1
  rcases hi : op.info with ⟨sym, nm'⟩
  rw [hi] at hl hr fi r2
  dsimp only at hl hr fi r2
  have one := PySem.W.ksp_try XK J hl hf h
  obtain ⟨hh, g, d, tt, os⟩ := s
  have L1 : PySem.W.Looks (model prog w) hh (typeOf (.ref x)) (.ref C) := J.type
  have L3 : PySem.W.Looks (model prog w) hh (fillsNumberSlot (.ref C) nm') true := PySem.W.fills_K XK hcd hm hl
  have L4 : PySem.W.Looks (model prog w) hh (fillsNumberSlot (.type T) nm') right := fills_looks XK fi
  have L5 : PySem.W.Looks (model prog w) hh (isSubtype (.type T) (.ref C)) false := PySem.W.looks_subIn XK s1
  have L6 : PySem.W.Looks (model prog w) hh (numberSlotInPython (.ref C) nm') true := PySem.W.ksp_inPy XK hl hr hp
  have L7 : PySem.W.Looks (model prog w) hh (numberSlotInPython (.type T) nm') false := PySem.W.Looks.of_pure rfl
  have L8 : PySem.W.Looks (model prog w) hh (typeLookup (.type T) (dunderR nm')) ro := PySem.W.looks_findIn XK r2
  have hne : (Value.ref C == Value.type T) = false := Bool.eq_false_iff.mpr fun q => by cases beq_iff_eq.mp q
  simp only [binaryOp, hi]
  refine wpAny_holding (wpAny_bind ?_)
  unfold binaryOp1
  refine wpAny_bind (L1.at (wpAny_bind (hb.at (wpAny_bind (L3.at ?_)))))
  simp only [hne, Bool.false_eq_true, if_false]
  refine wpAny_bind (L4.at ?_)
  cases right with
  | false =>
    simp only [Bool.and_false, Bool.false_eq_true, if_false, pure_bind, Bool.not_false, Bool.and_self, if_true, Bool.false_and]
    refine wpAny_bind (wpAny_mono one (fun r s' hr' => ?_) fun _ _ e => e)
    obtain ⟨v, rfl, hq⟩ := hr'
    exact wpAny_pure (wpAny_pure hq)
  | true =>
    simp only [Bool.and_self, if_true]
    refine wpAny_bind (L5.at ?_)
    simp only [Bool.false_eq_true, if_false, pure_bind, Bool.not_false, Bool.and_self, if_true]
    refine wpAny_bind (L6.at ?_)
    simp only [if_true]
    refine wpAny_bind (L7.at ?_)
    simp only [Bool.not_false, if_true]
    refine wpAny_bind (L8.at ?_)
    refine wpAny_bind (wpAny_mono one (fun r s' hr' => ?_) fun _ _ e => e)
    obtain ⟨v, rfl, hq⟩ := hr'
    exact wpAny_pure (wpAny_pure hq)
/-- the own value on the right, the left one's class fills no number slot -/
theorem rbin_F {op : Operator} {Q : Value → Shared → Prop} (XK : K.In s.heap) (J : PySem.W.InstAt s.heap x ox C od) (hb : PySem.W.Looks (model prog w) s.heap (typeOf b) (.type T)) (O : OwnOp K C op.info.2 f fr) (fi : fillsB K T op.info.2 = some false)
    (h : wpAny (model prog w) A (call (.ref fr) [.ref x, b]) (PySem.W.CmpBack Q) E s) : wpAny (model prog w) A (binaryOp op b (.ref x)) Q E s := by
  obtain ⟨cd, rest, hcd, hm⟩ := PySem.W.ksp_first O.sf
  have Ol := O.l
  have Or := O.r
  rcases hi : op.info with ⟨sym, nm'⟩
  rw [hi] at fi Ol Or
  dsimp only at fi Ol Or
  have two := PySem.W.ksp_try XK J Or O.rf h
  obtain ⟨hh, g, d, tt, os⟩ := s
  have L2 : PySem.W.Looks (model prog w) hh (typeOf (.ref x)) (.ref C) := J.type
  have L3 : PySem.W.Looks (model prog w) hh (fillsNumberSlot (.type T) nm') false := fills_looks XK fi
  have L4 : PySem.W.Looks (model prog w) hh (fillsNumberSlot (.ref C) nm') true := PySem.W.fills_K XK hcd hm Ol
  have hne : (Value.type T == Value.ref C) = false := Bool.eq_false_iff.mpr fun q => by cases beq_iff_eq.mp q
  simp only [binaryOp, hi]
  refine wpAny_holding (wpAny_bind ?_)
  unfold binaryOp1
  refine wpAny_bind (hb.at (wpAny_bind (L2.at (wpAny_bind (L3.at ?_)))))
  simp only [hne, Bool.false_eq_true, if_false]
  refine wpAny_bind (L4.at ?_)
  simp only [Bool.false_and, Bool.false_eq_true, if_false, pure_bind, Bool.not_false, Bool.and_self, if_true, Bool.true_and]
  refine wpAny_bind (wpAny_mono two (fun r s' hr' => ?_) fun _ _ e => e)
  obtain ⟨v, rfl, hq⟩ := hr'
  exact wpAny_bind (wpAny_rule (wpAny_pure (wpAny_pure hq)))
/-- .. is an int or a bool, whose own method declines -/
theorem rbin_D {op : Operator} {id : String} {Q : Value → Shared → Prop} (XK : K.In s.heap) (J : PySem.W.InstAt s.heap x ox C od) (O : OwnOp K C op.info.2 f fr) (s2 : PySem.W.subIn K (.ref C) (.type T) = some false) (ty : s.TypeIs b T) (hb : PySem.W.Looks (model prog w) s.heap (typeOf b) (.type T)) (fi : fillsNumberSlot (.type T) op.info.2 = pure true) (slot : Slot T (PySem.dunder op.info.2) id)
    (dec : wpAny (model prog w) A (call (.builtin id) [b, .ref x]) (fun v s' => v = .notImplemented ∧ s' = s) E s)
    (h : wpAny (model prog w) A (call (.ref fr) [.ref x, b]) (PySem.W.CmpBack Q) E s) : wpAny (model prog w) A (binaryOp op b (.ref x)) Q E s := by
  obtain ⟨cd, rest, hcd, hm⟩ := PySem.W.ksp_first O.sf
  have Ol := O.l
  have Or := O.r
  rcases hi : op.info with ⟨sym, nm'⟩
  rw [hi] at fi slot Ol Or
  dsimp only at fi slot Ol Or
  have two := PySem.W.ksp_try XK J Or O.rf h
  have one : wpAny (model prog w) A (tryMethod b (PySem.dunder nm') (.ref x)) (fun r s' => r = none ∧ s' = s) E s :=
    wpAny_tryMethod_declines ty slot (wpAny_mono dec (fun v s' q => ⟨q.1, rfl, q.2⟩) fun _ _ e => e)
  obtain ⟨hh, g, d, tt, os⟩ := s
  have L2 : PySem.W.Looks (model prog w) hh (typeOf (.ref x)) (.ref C) := J.type
  have L3 : PySem.W.Looks (model prog w) hh (fillsNumberSlot (.type T) nm') true := PySem.W.Looks.of_pure fi
  have L4 : PySem.W.Looks (model prog w) hh (fillsNumberSlot (.ref C) nm') true := PySem.W.fills_K XK hcd hm Ol
  have L5 : PySem.W.Looks (model prog w) hh (isSubtype (.ref C) (.type T)) false := PySem.W.looks_subIn XK s2
  have L6 : PySem.W.Looks (model prog w) hh (numberSlotInPython (.type T) nm') false := PySem.W.Looks.of_pure rfl
  have hne : (Value.type T == Value.ref C) = false := Bool.eq_false_iff.mpr fun q => by cases beq_iff_eq.mp q
  simp only [binaryOp, hi]
  refine wpAny_holding (wpAny_bind ?_)
  unfold binaryOp1
  refine wpAny_bind (hb.at (wpAny_bind (L2.at (wpAny_bind (L3.at ?_)))))
  simp only [hne, Bool.false_eq_true, if_false]
  refine wpAny_bind (L4.at ?_)
  simp only [Bool.and_self, if_true]
  refine wpAny_bind (L5.at ?_)
  simp only [Bool.false_eq_true, if_false, pure_bind, Bool.not_false, Bool.and_self, if_true]
  refine wpAny_bind (L6.at ?_)
  simp only [Bool.false_eq_true, if_false, pure_bind]
  refine wpAny_bind (wpAny_mono one (fun r s' hr' => ?_) fun _ _ e => e)
  obtain ⟨rfl, rfl⟩ := hr'
  refine wpAny_bind (wpAny_mono two (fun r s' hr' => ?_) fun _ _ e => e)
  obtain ⟨v, rfl, hq⟩ := hr'
  exact wpAny_bind (wpAny_rule (wpAny_pure (wpAny_pure hq)))
theorem bool_add_dec {k : Bool} (hx : s.heap.get? x = some ox) (hd : ox.data = .plain) : wpAny (model prog w) A (call (.builtin "int.__add__") [.bool k, .ref x]) (fun v s' => v = .notImplemented ∧ s' = s) E s := by
  refine wpAny_call_entry PySem.F.slot_bool_add (PySem.typeIs_bool s k) PySem.F.entry_int_add ?_ (PySem.F.args_int_add_2 _ _)
  unfold Builtin.«int.__add__» Builtin.Int.intBinary
  refine wpAny_bind (m := slotArgs "__add__" 1 _) (wpAny_pure ?_)
  dsimp only
  refine wpAny_bind (m := Builtin.Int.intOfSelf _) (wpAny_bind (wpAny_pure (wpAny_pure ?_)))
  refine wpAny_bind ?_
  show wpAny _ _ (load x >>= fun o => match o.data with | .prim (.int i _) => pure (some i) | _ => pure none) _ _ s
  refine wpAny_bind (wpAny_load hx ?_)
  rw [hd]
  exact wpAny_pure (wpAny_bind (wpAny_rule (wpAny_pure ⟨_, rfl, rfl, rfl⟩)))
theorem bool_mul_dec {k : Bool} (hx : s.heap.get? x = some ox) (hd : ox.data = .plain) : wpAny (model prog w) A (call (.builtin "int.__mul__") [.bool k, .ref x]) (fun v s' => v = .notImplemented ∧ s' = s) E s := by
  refine wpAny_call_entry PySem.F.slot_bool_mul (PySem.typeIs_bool s k) PySem.F.entry_int_mul ?_ (PySem.F.args_int_mul_2 _ _)
  unfold Builtin.«int.__mul__» Builtin.Int.intBinary
  refine wpAny_bind (m := slotArgs "__mul__" 1 _) (wpAny_pure ?_)
  dsimp only
  refine wpAny_bind (m := Builtin.Int.intOfSelf _) (wpAny_bind (wpAny_pure (wpAny_pure ?_)))
  refine wpAny_bind ?_
  show wpAny _ _ (load x >>= fun o => match o.data with | .prim (.int i _) => pure (some i) | _ => pure none) _ _ s
  refine wpAny_bind (wpAny_load hx ?_)
  rw [hd]
  exact wpAny_pure (wpAny_bind (wpAny_rule (wpAny_pure ⟨_, rfl, rfl, rfl⟩)))
end
section
variable {X : Cx} {CX : CXT} {k : Nat} {C f fr : Addr} {sp : Sp} {E : XK}
theorem ty_looks {pins : List (Addr × Obj)} {σ : L2.St} {H : Hp} {s : Shared} {y : V} {u t : Value} {M : Model} (I : Inv X pins σ H s) (r : RelV y u) (h : TyX X.K H y t) : PySem.W.Looks M s.heap (typeOf u) t := by
  obtain ⟨P, kt, hp, _⟩ := kit_of I r h
  exact kt.ty M s.heap I.kIn hp
/-- own op foreign -/
def rFrn (K : PySem.W.Frag) (C : Addr) (nm : String) (sp : Sp) (E : XK) : R2 := fun x y H Q => (∃ a dx fs, x = .ref a ∧ H a = some (.ins C dx fs)) ∧ (∃ T, TyX K H y (.type T) ∧ Frn K C nm T) ∧ sp [x, y] H (fun v H' => (∃ p, v = .ref p) ∧ Q v H') E
theorem op_frn {op : Operator} (O : OwnL X.K C op.info.2 f) (F : FnR X.prog X.w X.K X.mg X.base CX k f sp) (hr : Room k X.A) (hx : Passes CX X E) : OpR X (binaryOp op) (rFrn X.K C op.info.2 sp E) := by
  intro pins s σ H x y v u Q I rx ry h
  obtain ⟨⟨a, dx, fs, rfl, ha⟩, ⟨T, hT, Fr⟩, h⟩ := h
  cases rx
  obtain ⟨ox, od, J, _⟩ := ins_look I ha
  obtain ⟨rc, h3, h4⟩ := O.r
  exact lbin_K I.kIn J (ty_looks I ry hT) O.sf O.l O.lf h3 h4 Fr (run_back (vs := [.ref a, y]) F hr hx I (.cons rfl (.cons ry .nil)) h)
/-- foreign op own -/
def rFrnR (K : PySem.W.Frag) (C : Addr) (nm : String) (sp : Sp) (E : XK) : R2 := fun x y H Q => (∃ a dx fs, y = .ref a ∧ H a = some (.ins C dx fs)) ∧ ((∃ T, TyX K H x (.type T) ∧ fillsB K T nm = some false) ∨ (∃ i, x = .int i) ∨ ∃ b, x = .bl b) ∧ sp [y, x] H (fun v H' => (∃ p, v = .ref p) ∧ Q v H') E
theorem op_frnR {op : Operator} {id : String} (O : OwnOp X.K C op.info.2 f fr) (sb : PySem.W.subIn X.K (.ref C) (.type "bool") = some false) (fi : fillsNumberSlot (.type "int") op.info.2 = pure true) (slot : Slot "int" (PySem.dunder op.info.2) id) (fb : fillsNumberSlot (.type "bool") op.info.2 = pure true) (slotb : Slot "bool" (PySem.dunder op.info.2) id)
    (dec : ∀ {A : Around} {E : Value → Shared → Prop} {s : Shared} {i : Int} {t : Tok} {x : Addr} {ox : Obj}, s.heap.get? x = some ox → ox.data = .plain → wpAny (model X.prog X.w) A (call (.builtin id) [.int i t, .ref x]) (fun v s' => v = .notImplemented ∧ s' = s) E s)
    (decb : ∀ {A : Around} {E : Value → Shared → Prop} {s : Shared} {k : Bool} {x : Addr} {ox : Obj}, s.heap.get? x = some ox → ox.data = .plain → wpAny (model X.prog X.w) A (call (.builtin id) [.bool k, .ref x]) (fun v s' => v = .notImplemented ∧ s' = s) E s)
    (F : FnR X.prog X.w X.K X.mg X.base CX k fr sp) (hr : Room k X.A) (hx : Passes CX X E) : OpR X (binaryOp op) (rFrnR X.K C op.info.2 sp E) := by
  intro pins s σ H x y v u Q I rx ry h
  obtain ⟨⟨a, dx, fs, rfl, ha⟩, h1, h⟩ := h
  cases ry
  obtain ⟨ox, od, J, hd⟩ := ins_look I ha
  have back := run_back (vs := [.ref a, x]) F hr hx I (.cons rfl (.cons rx .nil)) h
  rcases h1 with ⟨T, hT, hf⟩ | ⟨i, rfl⟩ | ⟨b, rfl⟩
  · exact rbin_F I.kIn J (ty_looks I rx hT) O hf back
  · obtain ⟨t, rfl⟩ := rx
    exact rbin_D I.kIn J O O.s2 (typeIs_int s i t) (PySem.W.Looks.of_pure rfl) fi slot (dec J.at_ hd) back
  · cases rx
    exact rbin_D I.kIn J O sb (PySem.typeIs_bool s b) (PySem.W.Looks.of_pure rfl) fb slotb (decb J.at_ hd) back
/-- op_frn with the Frag told -/
theorem op_frnK {op : Operator} {K : PySem.W.Frag} (eK : X.K = K) (O : OwnL K C op.info.2 f) (F : FnR X.prog X.w K X.mg X.base CX k f sp) (hr : Room k X.A) (hx : Passes CX X E) : OpR X (binaryOp op) (rFrn K C op.info.2 sp E) := by
  subst eK
  exact op_frn O F hr hx
theorem op_frnRK {op : Operator} {id : String} {K : PySem.W.Frag} (eK : X.K = K) (O : OwnOp K C op.info.2 f fr) (sb : PySem.W.subIn K (.ref C) (.type "bool") = some false) (fi : fillsNumberSlot (.type "int") op.info.2 = pure true) (slot : Slot "int" (PySem.dunder op.info.2) id) (fb : fillsNumberSlot (.type "bool") op.info.2 = pure true) (slotb : Slot "bool" (PySem.dunder op.info.2) id)
    (dec : ∀ {A : Around} {E : Value → Shared → Prop} {s : Shared} {i : Int} {t : Tok} {x : Addr} {ox : Obj}, s.heap.get? x = some ox → ox.data = .plain → wpAny (model X.prog X.w) A (call (.builtin id) [.int i t, .ref x]) (fun v s' => v = .notImplemented ∧ s' = s) E s)
    (decb : ∀ {A : Around} {E : Value → Shared → Prop} {s : Shared} {k : Bool} {x : Addr} {ox : Obj}, s.heap.get? x = some ox → ox.data = .plain → wpAny (model X.prog X.w) A (call (.builtin id) [.bool k, .ref x]) (fun v s' => v = .notImplemented ∧ s' = s) E s)
    (F : FnR X.prog X.w K X.mg X.base CX k fr sp) (hr : Room k X.A) (hx : Passes CX X E) : OpR X (binaryOp op) (rFrnR K C op.info.2 sp E) := by
  subst eK
  exact op_frnR O sb fi slot fb slotb dec decb F hr hx
end
end Rd
set_option Elab.async false
set_option linter.all false
set_option maxRecDepth 100000
set_option maxHeartbeats 4000000
/-! Rrv: repr of any data; data under Same and ExtN; lists and tables. -/
namespace Rd
open PySem PySem.Spec PyProof.Rows L2
/-- repr of a value: an int, a bool, a text, None, or data at a place -/
def rRepV (K : PySem.W.Frag) : List V → Hp → VK → Prop := fun xs H Q => ∃ v d, xs = [v] ∧ Dz K H v d ∧ d.showable = true ∧ d.depth ≤ 60 ∧ d.shown.length ≤ sizeLine ∧ Q (.str d.shown) H
theorem c_reprV {X : Cx} (hg : X.A.guards = some []) (hu : X.A.units + 64 < cLine) : CallR X (.builtin "repr") (rRepV X.K) := by
  intro pins s σ H xs us Q I r h
  obtain ⟨v, d, rfl, hd, hs, hz, hl, q⟩ := h
  cases r with
  | cons rx rr =>
    cases rr
    cases v with
    | ref a =>
      cases rx
      obtain ⟨as, rd, nm⟩ := Dz.reads I hd rfl
      exact repr_of_reads' rd hs (fun _ => nm) hg (by omega) (fun _ _ e => e) (fun h' u tk hk => ⟨.str _, H, I.kept hk, ⟨_, rfl⟩, q⟩) hl
    | int i =>
      obtain ⟨t, rfl⟩ := rx
      cases hd with
      | base h => cases h; exact PySem.P.repr_of_int (of_decide_eq_true hs) ⟨.str _, H, I.tok _, ⟨_, rfl⟩, q⟩
    | bl b =>
      cases rx
      cases hd with
      | base h => cases h; exact PySem.P.repr_of_bool ⟨.str _, H, I.tok _, ⟨_, rfl⟩, q⟩
    | str x =>
      obtain ⟨t, rfl⟩ := rx
      cases hd with
      | base h => cases h; exact PySem.P.repr_of_str ⟨.str _, H, I.tok _, ⟨_, rfl⟩, q⟩ hl
    | non =>
      cases rx
      cases hd with
      | base h => cases h; exact PySem.P.repr_of_none ⟨.str _, H, I.tok _, ⟨_, rfl⟩, q⟩
    | _ =>
      cases hd with
      | base h => cases h
theorem rd_reprV {K : PySem.W.Frag} {H : Hp} {Q : VK} {v : V} {d : PyData} (h : Dz K H v d) (hs : d.showable = true) (hz : d.depth ≤ 60) (hl : d.shown.length ≤ sizeLine) (q : Q (.str d.shown) H) : rRepV K [v] H Q := ⟨v, d, rfl, h, hs, hz, hl, q⟩
mutual
theorem Dt.mono {K : PySem.W.Frag} {H H' : Hp} (k : ∀ a xs, SqT K H a xs → SqT K H' a xs) : ∀ {v : V} {d : PyData}, Dt K H v d → Dt K H' v d
  | _, _, .non => .non
  | _, _, .bl b => .bl b
  | _, _, .int i => .int i
  | _, _, .str x => .str x
  | _, _, .tup h1 h2 => .tup (k _ _ h1) (DtAll.mono k h2)
theorem DtAll.mono {K : PySem.W.Frag} {H H' : Hp} (k : ∀ a xs, SqT K H a xs → SqT K H' a xs) : ∀ {vs : List V} {ds : List PyData}, DtAll K H vs ds → DtAll K H' vs ds
  | _, _, .nil => .nil
  | _, _, .cons h1 h2 => .cons (Dt.mono k h1) (DtAll.mono k h2)
end
mutual
theorem Dz.mono {K : PySem.W.Frag} {H H' : Hp} (kt : ∀ a xs, SqT K H a xs → SqT K H' a xs) (kl : ∀ a xs, SqL K H a xs → SqL K H' a xs) (kd : ∀ a kvs, H a = some (.dK kvs) → H' a = some (.dK kvs)) : ∀ {v : V} {d : PyData}, Dz K H v d → Dz K H' v d
  | _, _, .base h => .base (h.mono kt)
  | _, _, .dic h1 h2 => .dic (kd _ _ h1) (DzAll.mono kt kl kd h2)
  | _, _, .lst h1 hn h2 => .lst (kl _ _ h1) hn (DzAll.mono kt kl kd h2)
theorem DzAll.mono {K : PySem.W.Frag} {H H' : Hp} (kt : ∀ a xs, SqT K H a xs → SqT K H' a xs) (kl : ∀ a xs, SqL K H a xs → SqL K H' a xs) (kd : ∀ a kvs, H a = some (.dK kvs) → H' a = some (.dK kvs)) : ∀ {vs : List V} {ds : List PyData}, DzAll K H vs ds → DzAll K H' vs ds
  | _, _, .nil => .nil
  | _, _, .cons h1 h2 => .cons (Dz.mono kt kl kd h1) (DzAll.mono kt kl kd h2)
end
end Rd
set_option Elab.async false
set_option linter.all false
set_option maxRecDepth 100000
set_option maxHeartbeats 4000000
namespace M
open PySem L2
local macro_rules | `(tactic| walk_at "rdc") => `(tactic| first | exact Or.inl ⟨by decide, by decide⟩ | exact Or.inr ⟨by decide, by decide⟩ | exact ⟨by decide, by decide, by decide⟩ | exact ⟨by decide, by decide⟩ | decide | omega | assumption | (refine Or.inl ⟨?_, ?_⟩ <;> omega) | (refine Or.inr ⟨?_, ?_⟩ <;> omega) | (refine ⟨?_, ?_⟩ <;> omega))
local macro_rules | `(tactic| walk_at "rd1") => `(tactic| with_reducible first
  | refine Rd.rd_seq ?_ | refine Rd.rd_asg ?_ | refine Rd.rd_op ?_ | (refine' Rd.rd_var ?vh ?_; (case vh => with_unfolding_all rfl)) | refine Rd.rd_c ?_ | refine Rd.rd_I0 ?_ | refine Rd.rd_name0 ?_ | refine Rd.rd_nameS ?_ | refine Rd.rd_fn ?_
  | refine Rd.rd_cb ?_ | refine Rd.rd_cons ?_ | refine Rd.rd_nil ?_ | refine Rd.rd_int ?_ | refine Rd.rd_intB ?_ | refine Rd.rd_abs ?_ | refine Rd.rd_max2 ?_ | refine Rd.rd_min2 ?_
  | refine Rd.rd_call ?_ | refine Rd.rd_ifE ?_ | refine Rd.rd_test ?_ | refine Rd.rd_tB ?_ | refine Rd.rd_blV ?_ | refine Rd.rd_and ?_ | refine Rd.rd_or ?_ | refine Rd.rd_not ?_
  | refine Rd.rd_andV ?_ | refine Rd.rd_orV ?_ | refine Rd.rd_notV ?_ | refine Rd.rd_next ?_ | refine Rd.rd_ret ?_ | refine Rd.rd_drop ?_ | refine Rd.rd_ifS ?_ | refine Rd.rd_nx ?_ | refine Rd.rd_rt ?_ | refine Rd.rd_tMatch ?_ | refine Rd.rd_tCO ?_ | refine Rd.rd_tRevL ?_ | refine Rd.rd_tStar ?_ | refine Rd.rd_joined ?_ | refine Rd.rd_js1 ?_ | refine Rd.rd_js0 ?_ | refine Rd.rd_fmt ?_ | refine Rd.rd_propR ?_ | refine Rd.rd_iZipA ?_ | refine Rd.rd_iEnumT ?_ | refine Rd.rd_iOwn ?_ | (refine' Rd.rd_IET ?ln ?_; (case ln => with_unfolding_all walk_at "at")) | refine Rd.rd_chain ?_ | refine Rd.rd_tPar ?_ | refine Rd.rd_par ?_ | refine Rd.rd_sl ?_ | refine Rd.rd_noPart ?_ | refine Rd.rd_part ?_ | refine Rd.rd_intV ?_ | refine Rd.rd_lc ?_ | (refine' Rd.rd_aug ?vh ?_; (case vh => with_unfolding_all rfl)) | refine Rd.rd_ipI ?_ | refine Rd.rd_for ?_ | (refine' Rd.rd_IT ?ln ?_; (case ln => with_unfolding_all walk_at "at")) | (refine' Rd.rd_IL ?ln ?_; (case ln => with_unfolding_all walk_at "at")) | refine Rd.rd_iTup ?_ | refine Rd.rd_iList ?_ | refine Rd.rd_iRng1 ?_ | refine Rd.rd_iRng2 ?_ | refine Rd.rd_isi (Rd.isi_int Rd.kk_int_int) ?_ | refine Rd.rd_isi (Rd.isi_int Rd.kk_int_bool) ?_ | refine Rd.rd_dget ?_ | refine Rd.rd_din ?_ | refine Rd.rd_dnotin ?_ | refine Rd.rd_dput ?_ | refine Rd.rd_dc ?_ | refine Rd.rd_lc2 ?_ | refine Rd.rd_ltS ?_ | refine Rd.rd_inSg ?_ | refine Rd.rd_iStr ?_ | refine Rd.rd_IS ?_ | refine Rd.rd_prC ?_ | refine Rd.rd_prN ?_ | refine Rd.rd_methR ?_ | refine Rd.rd_cmeth ?_ | refine Rd.rd_fldS ?_ | refine Rd.rd_fld ?_ | (refine' Rd.rd_mkVS ?vh ?_; (case vh => with_unfolding_all rfl)) | (refine' Rd.rd_starT ?ln ?_; (case ln => with_unfolding_all walk_at "at")) | refine Rd.rd_iEnum ?_ | refine Rd.rd_iZip ?_ | (refine' Rd.rd_IE ?ln ?_; (case ln => with_unfolding_all walk_at "at")) | (refine' Rd.rd_IZ ?ln ?lm ?_; (case ln => with_unfolding_all walk_at "at"); (case lm => with_unfolding_all walk_at "at")) | (refine' Rd.rd_gTup ?ln ?lk ?_; (case ln => with_unfolding_all walk_at "at"); (case lk => with_unfolding_all rfl)) | refine Rd.rd_gCons ?_ | refine Rd.rd_gNil ?_ | refine Rd.rd_m1 ?_ | refine Rd.rd_strV ?_ | refine Rd.rd_tXiM ?_ | refine Rd.rd_tXiB ?_ | refine Rd.rd_tXiS ?_ | refine Rd.rd_bm ?_ | refine Rd.rd_bm0 ?_ | refine Rd.rd_isN ?_ | refine Rd.rd_notN ?_ | refine Rd.rd_sub ?_ | refine Rd.rd_un ?_ | refine Rd.rd_U ?_
  | (refine' Rd.rd_eq ?sc ?_; (case sc => with_unfolding_all rfl)) | (refine' Rd.rd_ne ?sc ?_; (case sc => with_unfolding_all rfl))
  | (refine' Rd.rd_I ?cc ?_; (case cc => with_unfolding_all walk_at "rdc"))
  | (refine' Rd.rd_lenL ?ln ?_; (case ln => with_unfolding_all walk_at "at")) | (refine' Rd.rd_lenT ?ln ?_; (case ln => with_unfolding_all walk_at "at"))
  | (refine' Rd.rd_ixL ?ln ?ia ?_; (case ln => with_unfolding_all walk_at "at"); (case ia => with_unfolding_all first | exact Rd.at0 | exact Rd.at1 | exact Rd.at2 | exact Rd.at3 | exact Rd.at4 | rfl)) | (refine' Rd.rd_ixT ?ln ?ia ?_; (case ln => with_unfolding_all walk_at "at"); (case ia => with_unfolding_all first | exact Rd.at0 | exact Rd.at1 | exact Rd.at2 | exact Rd.at3 | exact Rd.at4 | rfl)))
local macro_rules | `(tactic| walk_at "at") => `(tactic| first | assumption | (apply SqL.of; assumption) | (apply SqT.of; assumption) | (apply SqL.of; exact upd_same) | (apply SqT.of; exact upd_same))
local macro_rules | `(tactic| walk_at "rd") => `(tactic| repeat walk_at "rd1")
/-! ### the program: errors of polynomials -/
abbrev s_InvalidNumber___init__ : Stmt := inClass (top 4) 0
theorem sc_InvalidNumber___init__ : FnScope ["self", "value"] ["self", "value"] (defScope s_InvalidNumber___init__) := ⟨rfl, rfl, rfl, by decide +kernel, rfl, by decide +kernel, by decide +kernel⟩
abbrev veM8 : List Value := [.type "ValueError", .type "Exception", .type "BaseException", .type "object"]
abbrev ieM8 : List Value := [.type "IndexError", .type "LookupError", .type "Exception", .type "BaseException", .type "object"]
/-- the error classes -/
structure ErrP (K : PySem.W.Frag) (mg : Str → Option Value) (IO IN fN : Addr) : Prop where
  p : PySem.W.excIn K IO veM8 "ValueError.__new__" = true
  g : mg "InvalidOperation" = some (.ref IO)
  k : PySem.W.keepIn K (.ref IO) = true
  b : PySem.W.subIn K (.ref IO) (.type "BaseException") = some true
  t : PySem.W.typeIn K (.ref IO) = some (.type "type")
  x : PySem.W.exmOne K (.ref IO) (.ref IO) = some true
  gN : mg "InvalidNumber" = some (.ref IN)
  gI : mg "IndexError" = none
  iN : Rd.XiC K IN ieM8 "IndexError.__new__"
  n1 : PySem.W.findIn K (.ref IN) "__init__" = some (some (.ref fN))
  n2 : PySem.W.typeIn K (.ref fN) = some (.type "function")
  bN : PySem.W.subIn K (.ref IN) (.type "BaseException") = some true
  tN : PySem.W.typeIn K (.ref IN) = some (.type "type")
  xf : XfC K IN
  nf : PySem.W.findIn K (.ref IN) "value" = some none
  tv : PySem.W.takerIn K IN "value" = some none
  v0 : PySem.W.findCls K (.type "IndexError") (.type "type") "__init__" = some (.val (.builtin "IndexError.__init__"))
  xNO : PySem.W.exmOne K (.ref IN) (.ref IO) = some false
  xNN : PySem.W.exmOne K (.ref IN) (.ref IN) = some true
def NoNum (K : PySem.W.Frag) (H : Hp) (v : V) : Prop := (∃ i, v = .int i ∧ i < 0) ∨ (∀ i, v ≠ .int i) ∧ IsI K H v false
/-- a value that is no polynomial and no number -/
def NoOp (K : PySem.W.Frag) (C : Addr) (H : Hp) (v : V) : Prop := (∃ t, TyX K H v t ∧ PySem.W.kitOne K t (.ref C) = some false) ∧ NoNum K H v
/-- no tuple of coefficients -/
def NoCo (K : PySem.W.Frag) (H : Hp) (v : V) : Prop := Rd.Isi K H v "tuple" false ∨ ∃ a xs, v = .ref a ∧ SqT K H a xs ∧ xs.length ≤ 1000 ∧ (∀ x ∈ xs, (∃ i, x = .int i) ∨ (∀ i, x ≠ .int i) ∧ ∀ H', Same H H' → IsI K H' x false) ∧ ∃ x ∈ xs, NoNum K H x
/-- what is_count tells of a value -/
def cntB (x : V) : Bool := match x with
  | .int i => decide (0 ≤ i)
  | _ => false
theorem cntB_f {x : V} (h : ∀ i, x ≠ .int i) : cntB x = false := by
  cases x with
  | int i => exact absurd rfl (h i)
  | _ => rfl
theorem cntB_n {K : PySem.W.Frag} {H : Hp} {x : V} (h : NoNum K H x) : cntB x = false := by
  rcases h with ⟨i, rfl, hi⟩ | ⟨h, _⟩
  · exact decide_eq_false (by omega)
  · exact cntB_f h
def spReqNumX (K : PySem.W.Frag) (IN : Addr) : Sp := Rd.mkSp (fun (v : V) => [v]) fun v H _ E => NoNum K H v ∧ ∀ d H', H d = none → Same H H' → H' d = some (.xd [("value", v)]) → E (.ref IN) (some d) H'
def spReqCoX (K : PySem.W.Frag) (IO : Addr) : Sp := Rd.mkSp (fun (v : V) => [v]) fun v H _ E => NoCo K H v ∧ ∀ H', Same H H' → E (.ref IO) none H'
def spCoOfX (K : PySem.W.Frag) (C IO : Addr) : Sp := Rd.mkSp (fun (v : V) => [v]) fun v H _ E => NoOp K C H v ∧ ∀ H', Same H H' → E (.ref IO) none H'
def spPOfX (K : PySem.W.Frag) (C IO : Addr) : Sp := Rd.mkSp (fun (v : V) => [.ref C, v]) fun v H _ E => NoCo K H v ∧ ∀ H', Same H H' → E (.ref IO) none H'
/-- an operation with a value that is none -/
def spPOpX (K : PySem.W.Frag) (C IO : Addr) : Sp := Rd.mkSp (fun (a : Addr × V × List Int) => [.ref a.1, a.2.1]) fun a H _ E => PolyAt K C H a.1 a.2.2 ∧ NoOp K C H a.2.1 ∧ ∀ H', Same H H' → E (.ref IO) none H'
def spPAtX (K : PySem.W.Frag) (C IO : Addr) : Sp := Rd.mkSp (fun (a : Addr × V) => [.ref a.1, a.2]) fun a H _ E => (∃ t, TyX K H a.2 t ∧ PySem.W.kitOne K t (.ref C) = some false) ∧ ∀ H', Same H H' → E (.ref IO) none H'
def spPNumX (K : PySem.W.Frag) (IN : Addr) : Sp := Rd.mkSp (fun (a : Addr × V) => [.ref a.1, a.2]) fun a H _ E => NoNum K H a.2 ∧ ∀ d H', H d = none → Same H H' → H' d = some (.xd [("value", a.2)]) → E (.ref IN) (some d) H'
def spPPowX (IO : Addr) : Sp := Rd.mkSp (fun (a : Addr × Int) => [.ref a.1, .int a.2]) fun a H _ E => 20 < a.2 ∧ ∀ H', Same H H' → E (.ref IO) none H'
section
variable {gd : Bool} {P : Program} {w : World} {K : PySem.W.Frag} {mg : Str → Option Value} {base : Heap} {a : Ads} {IO IN fN : Addr}
theorem ok_xiN (h : Rd.HasAt K fN "__init__" "InvalidNumber.__init__" s_InvalidNumber___init__) (g : Glob mg) (TE : ErrP K mg IO IN fN) : Rd.FnG gd P w K mg base CX0 1 fN (Rd.spXr IN "value") := by
  refine h.fn sc_InvalidNumber___init__ (fun _ => rfl) (fun _ _ _ _ _ _ us hl => match us, hl with | [_, _], _ => rfl) fun cdv A outer s H Q E a hr hp => ?_
  obtain ⟨a, v⟩ := a
  obtain ⟨h0, k⟩ := hp
  refine ⟨_, pss_cons (ps_expr (Rd.pe_xiB (Rd.ini_of PySem.F.excBase_IndexError) (by decide +kernel) TE.iN (by rfl) TE.gI (by kernel_rfl) (by decide) (by decide) (by kernel_rfl) (by decide +kernel) (by decide +kernel) TE.v0 (pa_cons (pv 0) (pa_cons pe_str pa_nil)))) (pss_one (Rd.ps_xiS F.store_IndexError TE.iN TE.tv (pv 0) (pv 1))), ?_⟩
  refine Rd.rd_start [some (V.ref a), some v] rfl ?_
  walk_at "rd"
  refine ⟨a, _, rfl, by show 1 ≤ 1000; decide, h0, ?_⟩
  walk_at "rd"
  refine ⟨a, rfl, h0, fun dx hd hne => ?_⟩
  exact k dx _ hd hne upd_same (by rw [upd_ne hne, upd_same]) fun b o hb e => by rw [upd_ne hb, upd_ne (ne_of_none e hd)]; exact e
theorem ok_require_numberX (F : Rd.Has K mg "require_number" s_require_number) (g : Glob mg) (TE : ErrP K mg IO IN fN) (c_init : Rd.FnG gd P w K mg base CX0 1 fN (Rd.spXr IN "value")) (c_is_count : Rd.Fn gd P w K mg base CX0 2 "is_count" (spIsCount K)) : Rd.Fn gd P w K mg base (L2.CX P w) 3 "require_number" (spReqNumX K IN) := by
  refine F.fnX sc_require_number (fun _ => rfl) (fun _ _ _ _ _ _ us hl => match us, hl with | [_], _ => rfl) fun f cdv A outer s H Q E v hr h => ?_
  obtain ⟨hb, k⟩ := h
  refine ⟨_, (pss_one (ps_if (pt_not (pt_val (Rd.pe_fn c_is_count (hr.mono (by decide)) (by rfl) (pa_cons (pv 0) pa_nil)))) (pss_one (ps_raise rfl (takes_of rfl rfl rfl rfl) (Rd.pmk_xi PySem.F.excBase_IndexError (by decide +kernel) (by decide +kernel) (by decide +kernel) TE.iN TE.n1 TE.n2 TE.bN TE.tN c_init (hr.mono (by decide)) pass0 (by exact rfl) TE.gN (pa_cons (pv 0) pa_nil)))) pss_nil)), ?_⟩
  try simp only [Rd.noxK, Rd.cxK]
  refine Rd.rd_start [some v] rfl ?_
  walk_at "rd"
  have fin : ∀ (σ : L2.St), σ = [some v] → Rd.tMkXi IN "value" (tCons (tVar 0) tNil) σ H fun cls d H' => E cls d H' := by
    rintro _ rfl
    refine Rd.rd_mkXi ?_
    walk_at "rd"
    exact ⟨v, rfl, fun d H' hd s' hv => k d H' hd s' hv⟩
  rcases hb with ⟨i, rfl, hi⟩ | ⟨_, hb⟩
  · refine Rd.rd_sp (V.int i) rfl (.inl ⟨i, rfl, ?_⟩)
    walk_at "rd"
    refine Rd.if_t (by rw [decide_eq_false (by omega)]; rfl) ?_
    exact fin _ rfl
  · refine Rd.rd_sp v rfl (.inr ⟨hb, ?_⟩)
    walk_at "rd"
    refine Rd.if_t rfl ?_
    exact fin _ rfl
theorem ok_require_coefficientsX (F : Rd.Has K mg "require_coefficients" s_require_coefficients) (g : Glob mg) (TE : ErrP K mg IO IN fN) (c_is_count : Rd.Fn gd P w K mg base CX0 2 "is_count" (spIsCount K)) : Rd.Fn gd P w K mg base (L2.CX P w) 3 "require_coefficients" (spReqCoX K IO) := by
  refine F.fnX sc_require_coefficients (fun _ => rfl) (fun _ _ _ _ _ _ us hl => match us, hl with | [_], _ => rfl) fun f cdv A outer s H Q E v hr h => ?_
  obtain ⟨hb, k⟩ := h
  refine ⟨_, (pss_one (ps_if (PW.pt (pw_or (pt_not (pt_val (pe_callB Rd.c_isi (by rfl) g.isinstance (by decide +kernel) (pa_cons (pv 0) (pa_cons (pe_bltn (v := .ty "tuple") (by rfl) g.tuple (by decide +kernel) rfl) pa_nil))))) (pw_or1 (pt_not (pt_val (pe_callB (Rd.c_all rfl) (by rfl) g.all (by decide +kernel) (pa_cons (pe_lc (own := [("one", 1)]) (by rfl) sc_require_coefficients.nd (pi_tup (pv 0)) (blkOk_by (own := [("one", 1)]) (N := ["coefficients", "one"]) (sc := defScope s_require_coefficients) (by decide +kernel)) (fun _ _ _ _ _ => (pg_name (i := 1) sc_require_coefficients.nd rfl (Or.inl rfl))) (fun _ _ _ _ _ => pts_nil) (fun _ _ _ _ _ => (Rd.pe_fn c_is_count (hr.mono (by decide)) (by rfl) (pa_cons (pv 1) pa_nil)))) pa_nil))))))) (pss_one (ps_raise rfl (takes_of rfl rfl rfl rfl) (pmk_own PySem.F.excBase_ValueError TE.p TE.g TE.k (raises_own TE.b TE.t) (by exact rfl)))) pss_nil)), ?_⟩
  try simp only [Rd.noxK, Rd.cxK]
  refine Rd.rd_start [some v, none] rfl ?_
  walk_at "rd"
  rcases hb with hb | ⟨a, xs, rfl, hS, hz, hall, x0, hx0, hbad⟩
  · refine Rd.rd_isi hb ?_
    walk_at "rd"
    refine Rd.if_t rfl ?_
    walk_at "rd"
    refine Rd.if_t rfl ?_
    exact k H (Same.refl H)
  · refine Rd.rd_isi (Rd.isi_tup hS Rd.kk_tup_tup) ?_
    walk_at "rd"
    refine Rd.if_f rfl ?_
    walk_at "rd"
    refine Rd.lc_tup (K := K) (f := fun x => V.bl (cntB x)) (by omega) hS (fun x H1 N hx s1 hN => ?_) (fun D H' hD s' hd => ?_)
    · refine Rd.rd_start' [some (V.ref a), none] rfl ?_
      walk_at "rd"
      refine ⟨rfl, ?_⟩
      walk_at "rd"
      rcases hall x hx with ⟨i, rfl⟩ | ⟨hn, hx⟩
      · refine Rd.rd_sp (V.int i) rfl (.inl ⟨i, rfl, ?_⟩)
        exact hN _ (Same.refl _)
      · refine Rd.rd_sp x rfl (.inr ⟨hx _ s1, ?_⟩)
        have e : V.bl (cntB x) = V.bl false := by rw [cntB_f hn]
        exact e ▸ hN _ (Same.refl _)
    · walk_at "rd"
      refine Rd.rd_all (bs := xs.map cntB) (SqL.of (by rw [List.map_map]; exact hd)) ?_
      have e : (xs.map cntB).all id = false := by
        cases q : (xs.map cntB).all id with
        | false => rfl
        | true =>
          have := List.all_eq_true.mp q (cntB x0) (List.mem_map_of_mem hx0)
          rw [cntB_n hbad] at this
          cases this
      rw [e]
      refine ⟨_, rfl, ?_⟩
      refine Rd.if_t rfl ?_
      exact k _ s'
end
end M
set_option Elab.async false
set_option linter.all false
set_option maxRecDepth 100000
set_option maxHeartbeats 4000000
namespace M
open PySem L2
local macro_rules | `(tactic| walk_at "rdc") => `(tactic| first | exact Or.inl ⟨by decide, by decide⟩ | exact Or.inr ⟨by decide, by decide⟩ | exact ⟨by decide, by decide, by decide⟩ | exact ⟨by decide, by decide⟩ | decide | omega | assumption | (refine Or.inl ⟨?_, ?_⟩ <;> omega) | (refine Or.inr ⟨?_, ?_⟩ <;> omega) | (refine ⟨?_, ?_⟩ <;> omega))
local macro_rules | `(tactic| walk_at "rd1") => `(tactic| with_reducible first
  | refine Rd.rd_seq ?_ | refine Rd.rd_asg ?_ | refine Rd.rd_op ?_ | (refine' Rd.rd_var ?vh ?_; (case vh => with_unfolding_all rfl)) | refine Rd.rd_c ?_ | refine Rd.rd_I0 ?_ | refine Rd.rd_name0 ?_ | refine Rd.rd_nameS ?_ | refine Rd.rd_fn ?_
  | refine Rd.rd_cb ?_ | refine Rd.rd_cons ?_ | refine Rd.rd_nil ?_ | refine Rd.rd_int ?_ | refine Rd.rd_intB ?_ | refine Rd.rd_abs ?_ | refine Rd.rd_max2 ?_ | refine Rd.rd_min2 ?_
  | refine Rd.rd_call ?_ | refine Rd.rd_ifE ?_ | refine Rd.rd_test ?_ | refine Rd.rd_tB ?_ | refine Rd.rd_blV ?_ | refine Rd.rd_and ?_ | refine Rd.rd_or ?_ | refine Rd.rd_not ?_
  | refine Rd.rd_andV ?_ | refine Rd.rd_orV ?_ | refine Rd.rd_notV ?_ | refine Rd.rd_next ?_ | refine Rd.rd_ret ?_ | refine Rd.rd_drop ?_ | refine Rd.rd_ifS ?_ | refine Rd.rd_nx ?_ | refine Rd.rd_rt ?_ | refine Rd.rd_tMatch ?_ | refine Rd.rd_tCO ?_ | refine Rd.rd_tRevL ?_ | refine Rd.rd_tStar ?_ | refine Rd.rd_joined ?_ | refine Rd.rd_js1 ?_ | refine Rd.rd_js0 ?_ | refine Rd.rd_fmt ?_ | refine Rd.rd_propR ?_ | refine Rd.rd_iZipA ?_ | refine Rd.rd_iEnumT ?_ | refine Rd.rd_iOwn ?_ | (refine' Rd.rd_IET ?ln ?_; (case ln => with_unfolding_all walk_at "at")) | refine Rd.rd_chain ?_ | refine Rd.rd_tPar ?_ | refine Rd.rd_par ?_ | refine Rd.rd_sl ?_ | refine Rd.rd_noPart ?_ | refine Rd.rd_part ?_ | refine Rd.rd_intV ?_ | refine Rd.rd_lc ?_ | (refine' Rd.rd_aug ?vh ?_; (case vh => with_unfolding_all rfl)) | refine Rd.rd_ipI ?_ | refine Rd.rd_for ?_ | (refine' Rd.rd_IT ?ln ?_; (case ln => with_unfolding_all walk_at "at")) | (refine' Rd.rd_IL ?ln ?_; (case ln => with_unfolding_all walk_at "at")) | refine Rd.rd_iTup ?_ | refine Rd.rd_iList ?_ | refine Rd.rd_iRng1 ?_ | refine Rd.rd_iRng2 ?_ | refine Rd.rd_isi (Rd.isi_int Rd.kk_int_int) ?_ | refine Rd.rd_isi (Rd.isi_int Rd.kk_int_bool) ?_ | refine Rd.rd_dget ?_ | refine Rd.rd_din ?_ | refine Rd.rd_dnotin ?_ | refine Rd.rd_dput ?_ | refine Rd.rd_dc ?_ | refine Rd.rd_lc2 ?_ | refine Rd.rd_ltS ?_ | refine Rd.rd_inSg ?_ | refine Rd.rd_iStr ?_ | refine Rd.rd_IS ?_ | refine Rd.rd_prC ?_ | refine Rd.rd_prN ?_ | refine Rd.rd_methR ?_ | refine Rd.rd_cmeth ?_ | refine Rd.rd_fldS ?_ | refine Rd.rd_fld ?_ | (refine' Rd.rd_mkVS ?vh ?_; (case vh => with_unfolding_all rfl)) | (refine' Rd.rd_starT ?ln ?_; (case ln => with_unfolding_all walk_at "at")) | refine Rd.rd_iEnum ?_ | refine Rd.rd_iZip ?_ | (refine' Rd.rd_IE ?ln ?_; (case ln => with_unfolding_all walk_at "at")) | (refine' Rd.rd_IZ ?ln ?lm ?_; (case ln => with_unfolding_all walk_at "at"); (case lm => with_unfolding_all walk_at "at")) | (refine' Rd.rd_gTup ?ln ?lk ?_; (case ln => with_unfolding_all walk_at "at"); (case lk => with_unfolding_all rfl)) | refine Rd.rd_gCons ?_ | refine Rd.rd_gNil ?_ | refine Rd.rd_m1 ?_ | refine Rd.rd_strV ?_ | refine Rd.rd_tXiM ?_ | refine Rd.rd_tXiB ?_ | refine Rd.rd_tXiS ?_ | refine Rd.rd_bm ?_ | refine Rd.rd_bm0 ?_ | refine Rd.rd_isN ?_ | refine Rd.rd_notN ?_ | refine Rd.rd_sub ?_ | refine Rd.rd_un ?_ | refine Rd.rd_U ?_
  | (refine' Rd.rd_eq ?sc ?_; (case sc => with_unfolding_all rfl)) | (refine' Rd.rd_ne ?sc ?_; (case sc => with_unfolding_all rfl))
  | (refine' Rd.rd_I ?cc ?_; (case cc => with_unfolding_all walk_at "rdc"))
  | (refine' Rd.rd_lenL ?ln ?_; (case ln => with_unfolding_all walk_at "at")) | (refine' Rd.rd_lenT ?ln ?_; (case ln => with_unfolding_all walk_at "at"))
  | (refine' Rd.rd_ixL ?ln ?ia ?_; (case ln => with_unfolding_all walk_at "at"); (case ia => with_unfolding_all first | exact Rd.at0 | exact Rd.at1 | exact Rd.at2 | exact Rd.at3 | exact Rd.at4 | rfl)) | (refine' Rd.rd_ixT ?ln ?ia ?_; (case ln => with_unfolding_all walk_at "at"); (case ia => with_unfolding_all first | exact Rd.at0 | exact Rd.at1 | exact Rd.at2 | exact Rd.at3 | exact Rd.at4 | rfl)))
local macro_rules | `(tactic| walk_at "at") => `(tactic| first | assumption | (apply SqL.of; assumption) | (apply SqT.of; assumption) | (apply SqL.of; exact upd_same) | (apply SqT.of; exact upd_same))
local macro_rules | `(tactic| walk_at "rd") => `(tactic| repeat walk_at "rd1")
/-! ### the program: errors of polynomials, the class -/
def spPInitX (K : PySem.W.Frag) (C IO : Addr) : Sp := Rd.mkSp (fun (a : Addr × Addr) => [.ref a.1, .ref a.2]) fun a H _ E => NoCo K H (.ref a.2) ∧ ∀ H', Same H H' → E (.ref IO) none H'
section
variable {gd : Bool} {P : Program} {w : World} {K : PySem.W.Frag} {mg : Str → Option Value} {base : Heap} {a : Ads} {IO IN fN : Addr}
theorem ok_pinitX (T : PolyC K mg a) (hi : Rd.HasAt K a.fi "__init__" "Polynomial.__init__" s_Polynomial___init__) (g : Glob mg) (c_require_coefficients : Rd.Fn false P w K mg base (L2.CX P w) 3 "require_coefficients" (spReqCoX K IO)) (c_trimmed : Rd.Fn false P w K mg base CX0 1 "trimmed" (spTrim K)) :
    FnR P w K mg base (L2.CX P w) 4 a.fi (Rd.spStar 1 (spPInitX K a.C IO)) := by
  refine Rd.FnG.toR (hi.starX (ps := ["self"]) sc_Polynomial___init__ StX.cxUp (fun _ _ _ _ _ _ us rest hl => match us, hl, rest with | [_], _, [] => rfl | [_], _, _ :: _ => rfl) fun cdv A outer s H Q E b hr h => ?_)
  obtain ⟨x, p⟩ := b
  obtain ⟨hb, k⟩ := h
  refine ⟨_, (pss_cons (ps_expr (Rd.pe_fnX c_require_coefficients (hr.mono (by decide)) (by rfl) (passes_call (takes_of rfl rfl rfl rfl) fun _ _ _ _ h => h) (pa_cons (pv 1) pa_nil)))
      (pss_one (ps_fld (pv 0) (Rd.pe_fn c_trimmed (hr.mono (by decide)) (by rfl) (pa_cons (pv 1) pa_nil)) rfl))), ?_⟩
  try simp only [Rd.noxK, Rd.cxK]
  refine Rd.rd_start [some (V.ref x), some (V.ref p)] rfl ?_
  walk_at "rd"
  exact Rd.rd_sp (V.ref p) rfl ⟨hb, k⟩
theorem ok_pofX (T : PolyC K mg a) (ho : Rd.HasAt K a.fo "of" "Polynomial.of" s_Polynomial_of) (g : Glob mg) (c_require_coefficients : Rd.Fn false P w K mg base (L2.CX P w) 3 "require_coefficients" (spReqCoX K IO)) (c_Polynomial : FnR P w K mg base CX0 4 a.fi (Rd.spStar 1 (spPInit K a.C))) : FnR P w K mg base (L2.CX P w) 6 a.fo (spPOfX K a.C IO) := by
  refine Rd.FnG.toR (ho.fnX sc_Polynomial_of (fun _ => rfl) (fun _ _ _ _ _ _ us hl => match us, hl with | [_, _], _ => rfl) fun cdv A outer s H Q E v hr h => ?_)
  obtain ⟨hb, k⟩ := h
  refine ⟨_, (pss_cons (ps_expr (Rd.pe_fnX c_require_coefficients (hr.mono (by decide)) (by rfl) (passes_call (takes_of rfl rfl rfl rfl) fun _ _ _ _ h => h) (pa_cons (pv 1) pa_nil)))
      (pss_one (ps_ret (Rd.pe_mkVS (i := 0) T.mk_ c_Polynomial (hr.mono (by decide)).toRoom pass0 (by rfl) (Or.inl rfl) (pv 1))))), ?_⟩
  try simp only [Rd.noxK, Rd.cxK]
  refine Rd.rd_start [some (V.ref a.C), some v] rfl ?_
  walk_at "rd"
  exact Rd.rd_sp v rfl ⟨hb, k⟩
theorem ok_coefficients_ofX (T : PolyC K mg a) (TE : ErrP K mg IO IN fN) (F : Rd.Has K mg "coefficients_of" s_coefficients_of) (g : Glob mg) (c_is_count : Rd.Fn gd P w K mg base CX0 2 "is_count" (spIsCount K)) : Rd.Fn gd P w K mg base (L2.CX P w) 3 "coefficients_of" (spCoOfX K a.C IO) := by
  refine F.fnX sc_coefficients_of (fun _ => rfl) (fun _ _ _ _ _ _ us hl => match us, hl with | [_], _ => rfl) fun f cdv A outer s H Q E v hr h => ?_
  obtain ⟨⟨⟨t, ht, hk⟩, hb⟩, k⟩ := h
  refine ⟨_, (pss_cons (ps_if (pt_val (pe_callB Rd.c_isi (by rfl) g.isinstance (by decide +kernel) (pa_cons (pv 0) (pa_cons (Rd.pe_glr (by rfl) T.mgC) pa_nil)))) (pss_one (ps_ret (pe_fld (pv 0) rfl))) pss_nil)
      (pss_cons (ps_if (pt_not (pt_val (Rd.pe_fn c_is_count (hr.mono (by decide)) (by rfl) (pa_cons (pv 0) pa_nil)))) (pss_one (ps_raise rfl (takes_of rfl rfl rfl rfl) (pmk_own PySem.F.excBase_ValueError TE.p TE.g TE.k (raises_own TE.b TE.t) (by exact rfl)))) pss_nil)
      (pss_one (ps_ret (Rd.pe_tup (pa_cons (pv 0) pa_nil)))))), ?_⟩
  try simp only [Rd.noxK, Rd.cxK]
  refine Rd.rd_start [some v] rfl ?_
  walk_at "rd"
  refine Rd.rd_isiC ht hk ?_
  walk_at "rd"
  refine Rd.if_f rfl ?_
  walk_at "rd"
  rcases hb with ⟨i, rfl, hi⟩ | ⟨_, hb⟩
  · refine Rd.rd_sp (V.int i) rfl (.inl ⟨i, rfl, ?_⟩)
    walk_at "rd"
    refine Rd.if_t (by rw [decide_eq_false (by omega)]; rfl) ?_
    exact k H (Same.refl H)
  · refine Rd.rd_sp v rfl (.inr ⟨hb, ?_⟩)
    walk_at "rd"
    refine Rd.if_t rfl ?_
    exact k H (Same.refl H)
theorem ok_paddX (T : PolyC K mg a) (F : Rd.HasAt K a.ad "__add__" "Polynomial.__add__" s_Polynomial___add__) (c_sum_in : Rd.Fn false P w K mg base CX0 1 "sum_in" (spSumIn K)) (c_coefficients_of : Rd.Fn false P w K mg base (L2.CX P w) 3 "coefficients_of" (spCoOfX K a.C IO)) (c_made : Rd.Fn false P w K mg base CX0 6 "made" (spMade K a.C)) : FnR P w K mg base (L2.CX P w) 7 a.ad (spPOpX K a.C IO) := by
  refine Rd.FnG.toR (F.fnX sc_Polynomial___add__ (fun _ => rfl) (fun _ _ _ _ _ _ us hl => match us, hl with | [_, _], _ => rfl) fun cdv A outer s H Q E b hr h => ?_)
  obtain ⟨x, v, l⟩ := b
  obtain ⟨⟨dx, p, hx, hS⟩, hv, k⟩ := h
  dsimp only at hx hS hv k
  refine ⟨_, (pss_one (ps_ret (Rd.pe_fn c_made (hr.mono (by decide)) (by rfl) (pa_cons (Rd.pe_fn c_sum_in (hr.mono (by decide)) (by rfl) (pa_cons (pe_fld (pv 0) rfl) (pa_cons (Rd.pe_fnX c_coefficients_of (hr.mono (by decide)) (by rfl) (passes_call (takes_of rfl rfl rfl rfl) fun _ _ _ _ h => h) (pa_cons (pv 1) pa_nil)) pa_nil))) pa_nil)))), ?_⟩
  try simp only [Rd.noxK, Rd.cxK]
  refine Rd.rd_start [some (V.ref x), some v] rfl ?_
  walk_at "rd"
  refine fld_at (T := T) hx ?_
  walk_at "rd"
  exact Rd.rd_sp v rfl ⟨hv, k⟩
theorem ok_praddX (T : PolyC K mg a) (F : Rd.HasAt K a.ra "__radd__" "Polynomial.__radd__" s_Polynomial___radd__) (c_sum_in : Rd.Fn false P w K mg base CX0 1 "sum_in" (spSumIn K)) (c_coefficients_of : Rd.Fn false P w K mg base (L2.CX P w) 3 "coefficients_of" (spCoOfX K a.C IO)) (c_made : Rd.Fn false P w K mg base CX0 6 "made" (spMade K a.C)) : FnR P w K mg base (L2.CX P w) 7 a.ra (spPOpX K a.C IO) := by
  refine Rd.FnG.toR (F.fnX sc_Polynomial___radd__ (fun _ => rfl) (fun _ _ _ _ _ _ us hl => match us, hl with | [_, _], _ => rfl) fun cdv A outer s H Q E b hr h => ?_)
  obtain ⟨x, v, l⟩ := b
  obtain ⟨⟨dx, p, hx, hS⟩, hv, k⟩ := h
  dsimp only at hx hS hv k
  refine ⟨_, (pss_one (ps_ret (Rd.pe_fn c_made (hr.mono (by decide)) (by rfl) (pa_cons (Rd.pe_fn c_sum_in (hr.mono (by decide)) (by rfl) (pa_cons (pe_fld (pv 0) rfl) (pa_cons (Rd.pe_fnX c_coefficients_of (hr.mono (by decide)) (by rfl) (passes_call (takes_of rfl rfl rfl rfl) fun _ _ _ _ h => h) (pa_cons (pv 1) pa_nil)) pa_nil))) pa_nil)))), ?_⟩
  try simp only [Rd.noxK, Rd.cxK]
  refine Rd.rd_start [some (V.ref x), some v] rfl ?_
  walk_at "rd"
  refine fld_at (T := T) hx ?_
  walk_at "rd"
  exact Rd.rd_sp v rfl ⟨hv, k⟩
theorem ok_pmulX (T : PolyC K mg a) (F : Rd.HasAt K a.mu "__mul__" "Polynomial.__mul__" s_Polynomial___mul__) (c_product_in : Rd.Fn false P w K mg base CX0 2 "product_in" (spProdIn K)) (c_coefficients_of : Rd.Fn false P w K mg base (L2.CX P w) 3 "coefficients_of" (spCoOfX K a.C IO)) (c_made : Rd.Fn false P w K mg base CX0 6 "made" (spMade K a.C)) : FnR P w K mg base (L2.CX P w) 7 a.mu (spPOpX K a.C IO) := by
  refine Rd.FnG.toR (F.fnX sc_Polynomial___mul__ (fun _ => rfl) (fun _ _ _ _ _ _ us hl => match us, hl with | [_, _], _ => rfl) fun cdv A outer s H Q E b hr h => ?_)
  obtain ⟨x, v, l⟩ := b
  obtain ⟨⟨dx, p, hx, hS⟩, hv, k⟩ := h
  dsimp only at hx hS hv k
  refine ⟨_, (pss_one (ps_ret (Rd.pe_fn c_made (hr.mono (by decide)) (by rfl) (pa_cons (Rd.pe_fn c_product_in (hr.mono (by decide)) (by rfl) (pa_cons (pe_fld (pv 0) rfl) (pa_cons (Rd.pe_fnX c_coefficients_of (hr.mono (by decide)) (by rfl) (passes_call (takes_of rfl rfl rfl rfl) fun _ _ _ _ h => h) (pa_cons (pv 1) pa_nil)) pa_nil))) pa_nil)))), ?_⟩
  try simp only [Rd.noxK, Rd.cxK]
  refine Rd.rd_start [some (V.ref x), some v] rfl ?_
  walk_at "rd"
  refine fld_at (T := T) hx ?_
  walk_at "rd"
  exact Rd.rd_sp v rfl ⟨hv, k⟩
theorem ok_prmulX (T : PolyC K mg a) (F : Rd.HasAt K a.rm "__rmul__" "Polynomial.__rmul__" s_Polynomial___rmul__) (c_product_in : Rd.Fn false P w K mg base CX0 2 "product_in" (spProdIn K)) (c_coefficients_of : Rd.Fn false P w K mg base (L2.CX P w) 3 "coefficients_of" (spCoOfX K a.C IO)) (c_made : Rd.Fn false P w K mg base CX0 6 "made" (spMade K a.C)) : FnR P w K mg base (L2.CX P w) 7 a.rm (spPOpX K a.C IO) := by
  refine Rd.FnG.toR (F.fnX sc_Polynomial___rmul__ (fun _ => rfl) (fun _ _ _ _ _ _ us hl => match us, hl with | [_, _], _ => rfl) fun cdv A outer s H Q E b hr h => ?_)
  obtain ⟨x, v, l⟩ := b
  obtain ⟨⟨dx, p, hx, hS⟩, hv, k⟩ := h
  dsimp only at hx hS hv k
  refine ⟨_, (pss_one (ps_ret (Rd.pe_fn c_made (hr.mono (by decide)) (by rfl) (pa_cons (Rd.pe_fn c_product_in (hr.mono (by decide)) (by rfl) (pa_cons (pe_fld (pv 0) rfl) (pa_cons (Rd.pe_fnX c_coefficients_of (hr.mono (by decide)) (by rfl) (passes_call (takes_of rfl rfl rfl rfl) fun _ _ _ _ h => h) (pa_cons (pv 1) pa_nil)) pa_nil))) pa_nil)))), ?_⟩
  try simp only [Rd.noxK, Rd.cxK]
  refine Rd.rd_start [some (V.ref x), some v] rfl ?_
  walk_at "rd"
  refine fld_at (T := T) hx ?_
  walk_at "rd"
  exact Rd.rd_sp v rfl ⟨hv, k⟩
theorem ok_patX (T : PolyC K mg a) (TE : ErrP K mg IO IN fN) (g : Glob mg) (F : Rd.HasAt K a.at_ "at" "Polynomial.at" s_Polynomial_at) (c_inner_in : Rd.Fn false P w K mg base CX0 3 "inner_in" (spInnIn K)) (c_made : Rd.Fn false P w K mg base CX0 6 "made" (spMade K a.C)) : FnR P w K mg base (L2.CX P w) 7 a.at_ (spPAtX K a.C IO) := by
  refine Rd.FnG.toR (F.fnX sc_Polynomial_at (fun _ => rfl) (fun _ _ _ _ _ _ us hl => match us, hl with | [_, _], _ => rfl) fun cdv A outer s H Q E b hr h => ?_)
  obtain ⟨x, v⟩ := b
  obtain ⟨⟨t, ht, hk⟩, k⟩ := h
  dsimp only at ht
  refine ⟨_, (pss_cons (ps_if (pt_not (pt_val (pe_callB Rd.c_isi (by rfl) g.isinstance (by decide +kernel) (pa_cons (pv 1) (pa_cons (Rd.pe_glr (by rfl) T.mgC) pa_nil))))) (pss_one (ps_raise rfl (takes_of rfl rfl rfl rfl) (pmk_own PySem.F.excBase_ValueError TE.p TE.g TE.k (raises_own TE.b TE.t) (by exact rfl)))) pss_nil)
      (pss_one (ps_ret (Rd.pe_fn c_made (hr.mono (by decide)) (by rfl) (pa_cons (Rd.pe_fn c_inner_in (hr.mono (by decide)) (by rfl) (pa_cons (pe_fld (pv 0) rfl) (pa_cons (pe_fld (pv 1) rfl) pa_nil))) pa_nil))))), ?_⟩
  try simp only [Rd.noxK, Rd.cxK]
  refine Rd.rd_start [some (V.ref x), some v] rfl ?_
  walk_at "rd"
  refine Rd.rd_isiC ht hk ?_
  walk_at "rd"
  refine Rd.if_t rfl ?_
  exact k H (Same.refl H)
theorem ok_ppowX (T : PolyC K mg a) (TE : ErrP K mg IO IN fN) (ws : Ints mg) (F : Rd.HasAt K a.pw "__pow__" "Polynomial.__pow__" s_Polynomial___pow__) (c_is_count : Rd.Fn false P w K mg base CX0 2 "is_count" (spIsCount K)) (c_power_in : Rd.Fn false P w K mg base CX0 3 "power_in" (spPowIn K)) (c_made : Rd.Fn false P w K mg base CX0 6 "made" (spMade K a.C)) : FnR P w K mg base (L2.CX P w) 7 a.pw (spPPowX IO) := by
  refine Rd.FnG.toR (F.fnX sc_Polynomial___pow__ (fun _ => rfl) (fun _ _ _ _ _ _ us hl => match us, hl with | [_, _], _ => rfl) fun cdv A outer s H Q E b hr h => ?_)
  obtain ⟨x, n⟩ := b
  obtain ⟨hn, k⟩ := h
  dsimp only at hn
  refine ⟨_, (pss_cons (ps_if (PW.pt (pw_or (pt_not (pt_val (Rd.pe_fn c_is_count (hr.mono (by decide)) (by rfl) (pa_cons (pv 1) pa_nil)))) (pw_or1 (pt_cmpR op_gt (pv 1) (Rd.pe_gli (by rfl) ws.MAX_POWER) (nomark _))))) (pss_one (ps_raise rfl (takes_of rfl rfl rfl rfl) (pmk_own PySem.F.excBase_ValueError TE.p TE.g TE.k (raises_own TE.b TE.t) (by exact rfl)))) pss_nil)
      (pss_one (ps_ret (Rd.pe_fn c_made (hr.mono (by decide)) (by rfl) (pa_cons (Rd.pe_fn c_power_in (hr.mono (by decide)) (by rfl) (pa_cons (pe_fld (pv 0) rfl) (pa_cons (pv 1) pa_nil))) pa_nil))))), ?_⟩
  try simp only [Rd.noxK, Rd.cxK]
  refine Rd.rd_start [some (V.ref x), some (V.int n)] rfl ?_
  walk_at "rd"
  refine Rd.rd_sp (V.int n) rfl (.inl ⟨n, rfl, ?_⟩)
  rw [decide_eq_true (show (0 : Int) ≤ n by omega)]
  walk_at "rd"
  refine Rd.if_f rfl ?_
  walk_at "rd"
  refine Rd.if_t (decide_eq_true (by omega)) ?_
  exact k H (Same.refl H)
theorem ok_pcallX (T : PolyC K mg a) (g : Glob mg) (F : Rd.HasAt K a.cl "__call__" "Polynomial.__call__" s_Polynomial___call__) (c_require_number : Rd.Fn false P w K mg base (L2.CX P w) 3 "require_number" (spReqNumX K IN)) (c_at_in : Rd.Fn false P w K mg base CX0 1 "at_in" (spAtIn K)) : FnR P w K mg base (L2.CX P w) 4 a.cl (spPNumX K IN) := by
  refine Rd.FnG.toR (F.fnX sc_Polynomial___call__ (fun _ => rfl) (fun _ _ _ _ _ _ us hl => match us, hl with | [_, _], _ => rfl) fun cdv A outer s H Q E b hr h => ?_)
  obtain ⟨x, v⟩ := b
  obtain ⟨hv, k⟩ := h
  dsimp only at hv k
  refine ⟨_, (pss_cons (ps_expr (Rd.pe_fnX c_require_number (hr.mono (by decide)) (by rfl) (passes_call (takes_of rfl rfl rfl rfl) fun _ _ _ _ h => h) (pa_cons (pv 1) pa_nil)))
      (pss_one (ps_ret (Rd.pe_fn c_at_in (hr.mono (by decide)) (by rfl) (pa_cons (pe_fld (pv 0) rfl) (pa_cons (pv 1) pa_nil)))))), ?_⟩
  try simp only [Rd.noxK, Rd.cxK]
  refine Rd.rd_start [some (V.ref x), some v] rfl ?_
  walk_at "rd"
  exact Rd.rd_sp v rfl ⟨hv, k⟩
theorem ok_preachX (T : PolyC K mg a) (g : Glob mg) (F : Rd.HasAt K a.rc "reach" "Polynomial.reach" s_Polynomial_reach) (c_require_number : Rd.Fn false P w K mg base (L2.CX P w) 3 "require_number" (spReqNumX K IN)) (c_least_in : Rd.Fn false P w K mg base CX0 2 "least_in" (spLeast K)) : FnR P w K mg base (L2.CX P w) 4 a.rc (spPNumX K IN) := by
  refine Rd.FnG.toR (F.fnX sc_Polynomial_reach (fun _ => rfl) (fun _ _ _ _ _ _ us hl => match us, hl with | [_, _], _ => rfl) fun cdv A outer s H Q E b hr h => ?_)
  obtain ⟨x, v⟩ := b
  obtain ⟨hv, k⟩ := h
  dsimp only at hv k
  refine ⟨_, (pss_cons (ps_expr (Rd.pe_fnX c_require_number (hr.mono (by decide)) (by rfl) (passes_call (takes_of rfl rfl rfl rfl) fun _ _ _ _ h => h) (pa_cons (pv 1) pa_nil)))
      (pss_one (ps_ret (Rd.pe_fn c_least_in (hr.mono (by decide)) (by rfl) (pa_cons (pe_fld (pv 0) rfl) (pa_cons (pv 1) pa_nil)))))), ?_⟩
  try simp only [Rd.noxK, Rd.cxK]
  refine Rd.rd_start [some (V.ref x), some v] rfl ?_
  walk_at "rd"
  exact Rd.rd_sp v rfl ⟨hv, k⟩
theorem ok_pgetX {gi : Addr} (T : PolyC K mg a) (g : Glob mg) (F : Rd.HasAt K gi "__getitem__" "Polynomial.__getitem__" s_Polynomial___getitem__) (c_require_number : Rd.Fn false P w K mg base (L2.CX P w) 3 "require_number" (spReqNumX K IN)) : FnR P w K mg base (L2.CX P w) 4 gi (spPNumX K IN) := by
  refine Rd.FnG.toR (F.fnX sc_Polynomial___getitem__ (fun _ => rfl) (fun _ _ _ _ _ _ us hl => match us, hl with | [_, _], _ => rfl) fun cdv A outer s H Q E b hr h => ?_)
  obtain ⟨x, v⟩ := b
  obtain ⟨hv, k⟩ := h
  dsimp only at hv k
  refine ⟨_, (pss_cons (ps_expr (Rd.pe_fnX c_require_number (hr.mono (by decide)) (by rfl) (passes_call (takes_of rfl rfl rfl rfl) fun _ _ _ _ h => h) (pa_cons (pv 1) pa_nil)))
      (pss_one (ps_ret (pe_ifExp (pt_cmpR op_lt (pv 1) (pe_callB Rd.c_len (by rfl) g.len (by decide +kernel) (pa_cons (pe_fld (pv 0) rfl) pa_nil)) (nomark _)) (pe_ix ix_tup (pe_fld (pv 0) rfl) (pv 1) (fun _ _ => rfl)) pe_int)))), ?_⟩
  try simp only [Rd.noxK, Rd.cxK]
  refine Rd.rd_start [some (V.ref x), some v] rfl ?_
  walk_at "rd"
  exact Rd.rd_sp v rfl ⟨hv, k⟩
end
end M
set_option Elab.async false
set_option linter.all false
set_option maxRecDepth 100000
set_option maxHeartbeats 4000000
namespace M
open PySem L2
local macro_rules | `(tactic| walk_at "rdc") => `(tactic| first | exact Or.inl ⟨by decide, by decide⟩ | exact Or.inr ⟨by decide, by decide⟩ | exact ⟨by decide, by decide, by decide⟩ | exact ⟨by decide, by decide⟩ | decide | omega | assumption | (refine Or.inl ⟨?_, ?_⟩ <;> omega) | (refine Or.inr ⟨?_, ?_⟩ <;> omega) | (refine ⟨?_, ?_⟩ <;> omega))
local macro_rules | `(tactic| walk_at "rd1") => `(tactic| with_reducible first
  | refine Rd.rd_seq ?_ | refine Rd.rd_asg ?_ | refine Rd.rd_op ?_ | (refine' Rd.rd_var ?vh ?_; (case vh => with_unfolding_all rfl)) | refine Rd.rd_c ?_ | refine Rd.rd_I0 ?_ | refine Rd.rd_name0 ?_ | refine Rd.rd_nameS ?_ | refine Rd.rd_fn ?_
  | refine Rd.rd_cb ?_ | refine Rd.rd_cons ?_ | refine Rd.rd_nil ?_ | refine Rd.rd_int ?_ | refine Rd.rd_intB ?_ | refine Rd.rd_abs ?_ | refine Rd.rd_max2 ?_ | refine Rd.rd_min2 ?_
  | refine Rd.rd_call ?_ | refine Rd.rd_ifE ?_ | refine Rd.rd_test ?_ | refine Rd.rd_tB ?_ | refine Rd.rd_blV ?_ | refine Rd.rd_and ?_ | refine Rd.rd_or ?_ | refine Rd.rd_not ?_
  | refine Rd.rd_andV ?_ | refine Rd.rd_orV ?_ | refine Rd.rd_notV ?_ | refine Rd.rd_next ?_ | refine Rd.rd_ret ?_ | refine Rd.rd_drop ?_ | refine Rd.rd_ifS ?_ | refine Rd.rd_nx ?_ | refine Rd.rd_rt ?_ | refine Rd.rd_tMatch ?_ | refine Rd.rd_tCO ?_ | refine Rd.rd_tRevL ?_ | refine Rd.rd_tStar ?_ | refine Rd.rd_joined ?_ | refine Rd.rd_js1 ?_ | refine Rd.rd_js0 ?_ | refine Rd.rd_fmt ?_ | refine Rd.rd_propR ?_ | refine Rd.rd_iZipA ?_ | refine Rd.rd_iEnumT ?_ | refine Rd.rd_iOwn ?_ | (refine' Rd.rd_IET ?ln ?_; (case ln => with_unfolding_all walk_at "at")) | refine Rd.rd_chain ?_ | refine Rd.rd_tPar ?_ | refine Rd.rd_par ?_ | refine Rd.rd_sl ?_ | refine Rd.rd_noPart ?_ | refine Rd.rd_part ?_ | refine Rd.rd_intV ?_ | refine Rd.rd_lc ?_ | (refine' Rd.rd_aug ?vh ?_; (case vh => with_unfolding_all rfl)) | refine Rd.rd_ipI ?_ | refine Rd.rd_for ?_ | (refine' Rd.rd_IT ?ln ?_; (case ln => with_unfolding_all walk_at "at")) | (refine' Rd.rd_IL ?ln ?_; (case ln => with_unfolding_all walk_at "at")) | refine Rd.rd_iTup ?_ | refine Rd.rd_iList ?_ | refine Rd.rd_iRng1 ?_ | refine Rd.rd_iRng2 ?_ | refine Rd.rd_isi (Rd.isi_int Rd.kk_int_int) ?_ | refine Rd.rd_isi (Rd.isi_int Rd.kk_int_bool) ?_ | refine Rd.rd_dget ?_ | refine Rd.rd_din ?_ | refine Rd.rd_dnotin ?_ | refine Rd.rd_dput ?_ | refine Rd.rd_dc ?_ | refine Rd.rd_lc2 ?_ | refine Rd.rd_ltS ?_ | refine Rd.rd_inSg ?_ | refine Rd.rd_iStr ?_ | refine Rd.rd_IS ?_ | refine Rd.rd_prC ?_ | refine Rd.rd_prN ?_ | refine Rd.rd_methR ?_ | refine Rd.rd_cmeth ?_ | refine Rd.rd_fldS ?_ | refine Rd.rd_fld ?_ | (refine' Rd.rd_mkVS ?vh ?_; (case vh => with_unfolding_all rfl)) | (refine' Rd.rd_starT ?ln ?_; (case ln => with_unfolding_all walk_at "at")) | refine Rd.rd_iEnum ?_ | refine Rd.rd_iZip ?_ | (refine' Rd.rd_IE ?ln ?_; (case ln => with_unfolding_all walk_at "at")) | (refine' Rd.rd_IZ ?ln ?lm ?_; (case ln => with_unfolding_all walk_at "at"); (case lm => with_unfolding_all walk_at "at")) | (refine' Rd.rd_gTup ?ln ?lk ?_; (case ln => with_unfolding_all walk_at "at"); (case lk => with_unfolding_all rfl)) | refine Rd.rd_gCons ?_ | refine Rd.rd_gNil ?_ | refine Rd.rd_m1 ?_ | refine Rd.rd_strV ?_ | refine Rd.rd_tXiM ?_ | refine Rd.rd_tXiB ?_ | refine Rd.rd_tXiS ?_ | refine Rd.rd_bm ?_ | refine Rd.rd_bm0 ?_ | refine Rd.rd_isN ?_ | refine Rd.rd_notN ?_ | refine Rd.rd_sub ?_ | refine Rd.rd_un ?_ | refine Rd.rd_U ?_
  | (refine' Rd.rd_eq ?sc ?_; (case sc => with_unfolding_all rfl)) | (refine' Rd.rd_ne ?sc ?_; (case sc => with_unfolding_all rfl))
  | (refine' Rd.rd_I ?cc ?_; (case cc => with_unfolding_all walk_at "rdc"))
  | (refine' Rd.rd_lenL ?ln ?_; (case ln => with_unfolding_all walk_at "at")) | (refine' Rd.rd_lenT ?ln ?_; (case ln => with_unfolding_all walk_at "at"))
  | (refine' Rd.rd_ixL ?ln ?ia ?_; (case ln => with_unfolding_all walk_at "at"); (case ia => with_unfolding_all first | exact Rd.at0 | exact Rd.at1 | exact Rd.at2 | exact Rd.at3 | exact Rd.at4 | rfl)) | (refine' Rd.rd_ixT ?ln ?ia ?_; (case ln => with_unfolding_all walk_at "at"); (case ia => with_unfolding_all first | exact Rd.at0 | exact Rd.at1 | exact Rd.at2 | exact Rd.at3 | exact Rd.at4 | rfl)))
local macro_rules | `(tactic| walk_at "at") => `(tactic| first | assumption | (apply SqL.of; assumption) | (apply SqT.of; assumption) | (apply SqL.of; exact upd_same) | (apply SqT.of; exact upd_same))
local macro_rules | `(tactic| walk_at "rd") => `(tactic| repeat walk_at "rd1")
/-! ### the law: what a call told -/
abbrev s__law_told : Stmt := top 33
theorem sc__law_told : FnScope ["_law_call", "error"] ["_law_call"] (defScope s__law_told) := ⟨rfl, rfl, rfl, by decide +kernel, rfl, by decide +kernel, by decide +kernel⟩
/-- a number that was refused -/
def XNum (K : PySem.W.Frag) (IN : Addr) (cls : Value) (d : Option Addr) (H : Hp) (q : Str → Prop) : Prop := cls = .ref IN ∧ ∃ dd v z, d = some dd ∧ H dd = some (.xd [("value", v)]) ∧ Rd.Dz K H v z ∧ z.showable = true ∧ z.depth ≤ 60 ∧ z.shown.length + 10 ≤ sizeLine ∧ q ("number " ++ z.shown)
def TTold (K : PySem.W.Frag) (IO IN : Addr) : (XK → Hp → VK → Prop) → Hp → VK → Prop := fun tl H Q => tl (fun cls d H' => (cls = .ref IO ∧ Q (.str "operation") H') ∨ XNum K IN cls d H' fun z => Q (.str z) H') H fun _ H' => Q (.str "returned") H'
theorem rd_told {K : PySem.W.Frag} {IO IN : Addr} {T : List (Addr × Str)} {t : XK → TE} {σ : L2.St} {H : Hp} {Q : VK} (hT : LamX.Tabs T H) (q : ∀ H1, LamX.ExtN H H1 → LamX.Tabs T H1 → t (fun cls d H' => (cls = .ref IO ∧ Q (.str "operation") H') ∨ XNum K IN cls d H' fun z => Q (.str z) H') σ H1 fun _ H' => Q (.str "returned") H') : LamX.tLam T (TTold K IO IN) t σ H Q := ⟨hT, q⟩
theorem takes_len {X : Cx} {W : WX} (t : Takes X W) : Takes X (fun c d σ H => σ.length = X.N.length → W c d σ H) := fun u s' ⟨a, B, sI, pins, σ, H, cls, d, e, I, nb, up, sky, na, os, ag, w⟩ => t u s' ⟨a, B, sI, pins, σ, H, cls, d, e, I, nb, up, sky, na, os, ag, w I.len⟩
section
variable {X : Cx} {IO IN fN : Addr}
theorem told_gives {g : Addr} {cdg : Value} {q : Str} (hr0 : Rd.RoomG true (2 + 1) X.A) (GG : Glob X.mg) (TE : ErrP X.K X.mg IO IN fN) :
    LamX.GivesTo X ["_law_call", "error"] "_law_told" (defScope s__law_told) g cdg (defBody s__law_told) "_law_call" q (TTold X.K IO IN) := by
  intro f c' s H Q tl act hc h
  have hr : Rd.RoomG true 2 (cxOf C8.CX0 X.prog X.w X.K X.mg X.base ["_law_call", "error"] "_law_told" (defScope s__law_told) g cdg X.A X.stack s H C8.E0).nox.A := hr0.deeper _
  have l1 : Gl (cxOf C8.CX0 X.prog X.w X.K X.mg X.base ["_law_call", "error"] "_law_told" (defScope s__law_told) g cdg X.A X.stack s H C8.E0).nox "InvalidOperation" := by rfl
  have l2 : Gl (cxOf C8.CX0 X.prog X.w X.K X.mg X.base ["_law_call", "error"] "_law_told" (defScope s__law_told) g cdg X.A X.stack s H C8.E0).nox "InvalidNumber" := by rfl
  refine ⟨_, pss_one (Rd.ps_tryAs (X := (cxOf C8.CX0 X.prog X.w X.K X.mg X.base ["_law_call", "error"] "_law_told" (defScope s__law_told) g cdg X.A X.stack s H C8.E0).nox) (l := [Rd.clP (.ref IO) (fun _ _ _ => tRet (tC (.str "operation"))), Rd.clA (.ref IN) 1 (fun a cls d => tRet (tOp (fun x y H Q => ∃ i j, x = .str i ∧ y = .str j ∧ i.length + j.length ≤ sizeLine ∧ Q (.str (i ++ j)) H) (tC (.str "number ")) (tCB (Rd.rRepV X.K) (tCons (tXf a cls d IN "value" (tVar 1)) tNil))))])
      (tb := fun W D σ H => ∃ Ech : XK, (∀ cls d σ' H', σ'.length = 2 → Ech cls d H' → W cls d σ' H') ∧ σ[0]? = some (some (.ref f)) ∧ H c' = some (LamX.CodeO c' q) ∧ tl Ech H fun _ H' => D.rt (.str "returned") H')
      rfl rfl (fun W pn xe tk => ?_) (.next ⟨l1, by decide, .inl TE.g⟩ (fun a oe cls d pn _ _ => pss_one (ps_ret pe_str)) (.nextAs sc__law_told.nd rfl rfl ⟨l2, by decide, .inl TE.gN⟩ (fun a oe cls d pn hz hf => pss_one (ps_ret ?_)) .rest))), ?_⟩
  · refine ⟨fun pins s' σ H' D I h' => ?_⟩
    obtain ⟨Ech, hW, h1, h2, h3⟩ := h'
    exact (pss_cons (ps_expr (act _ pn xe Ech _ _ (takes_len tk) fun cls d σ' H' he hl => hW cls d σ' H' hl he)) (pss_one (ps_ret pe_str))).run pins s' σ H' D I ⟨h1, h2, h3⟩
  · exact pe_op op_add_str pe_str (pe_callB (Rd.c_reprV hr.gd hr.units) (by rfl) GG.repr (by decide +kernel) (pa_cons (pe_xf TE.xf TE.nf hz hf (pv 1)) pa_nil))
  · refine ⟨_, fun cls d σ' H' hl hq => ?_, rfl, hc, h⟩
    rcases hq with ⟨ec, hq⟩ | ⟨ec, dd, v, z, ed, hd, hz, h1, h2, h3, hq⟩
    · subst ec
      exact ⟨true, TE.x, fun _ _ _ => hq, fun z => nomatch z⟩
    · subst ec
      refine ⟨false, TE.xNO, (fun z => nomatch z), fun _ => ⟨true, TE.xNN, fun _ a ha => ?_, fun z => nomatch z⟩⟩
      subst ed
      have l2 : (σ'.set 1 (some (V.ref a)))[1]? = some (some (V.ref a)) := by rw [List.getElem?_set]; simp [hl]
      refine Rd.rd_ret ?_
      refine Rd.rd_op ?_
      show tCB (Rd.rRepV X.K) _ _ _ _
      refine Rd.rd_cb ?_
      refine Rd.rd_cons ?_
      refine Rd.rd_var l2 ?_
      refine ⟨rfl, rfl, dd, _, v, rfl, hd, rfl, ?_⟩
      refine Rd.rd_nil ?_
      refine Rd.rd_reprV hz h1 h2 (by omega) ⟨_, _, rfl, rfl, ?_, hq⟩
      have : ("number " : Str).length = 7 := by decide +kernel
      omega
/-- what is told of what a lambda does -/
theorem pe_told {T : List (Addr × Str)} {c P : Addr} {k : Nat} {params : Arguments} {body : Expr} {scope : Scope} {t : XK → TE} {p lpos pos : Pos} (hE : Rd.Has X.K X.mg "_law_told" s__law_told) (GG : Glob X.mg) (TE : ErrP X.K X.mg IO IN fN) (hg : Gl X "_law_told")
    (TB : LamX.TabB X.base X.mg c P) (hcode : X.env.code = .ref c) (hmT : (P, X.env.qual ++ "<lambda>") ∈ T) (hu : ∀ p ∈ T, p.1 = P → p.2 = X.env.qual ++ "<lambda>") (hr : Rd.RoomG true (k + 3) X.A) (L : LamX.LamS X.env.scope scope) (hdef : defaultsOf params X.env = ([], []))
    (hbind : ∀ (q : Str) (cl : List (Str × Addr)) (pm cv ctv : Value), bindArgs (PySem.W.kla_fn "<lambda>" q params body scope cl pm cv ctv) ⟨[], []⟩ = pure [])
    (hbody : ∀ (A : Around) (outer : List Env) (s : Shared) (H : Hp) (E : XK) (f c' : Addr), Room (k + 1) (A.deeper (LamX.lamEnv X scope s.heap.objs.size f c')) → PE (LamX.lamCx X A outer s H E scope f c') body (t E)) :
    PE X (.Call (.Name "_law_told" p) [.Lambda params body scope lpos] [] pos) (LamX.tLam T (TTold X.K IO IN) t) := by
  obtain ⟨g, ⟨fd, F⟩, hm, hk⟩ := hE
  obtain ⟨oc, od, dV, kV, doc, pm, an, cdv, ct, osl, e, lk, hcd, hD, hK⟩ := F.ex
  subst e
  rcases hD with ⟨_, e⟩ | ⟨e, _⟩
  · subst e
    refine LamX.pe_lamcall (a := "_law_call") (Ng := ["_law_call", "error"]) hg hm hk lk hcd (Binds.all fun us hl => match us, hl with | [_], _ => rfl) sc__law_told rfl (.inl rfl) ?_ TB hcode hmT hu hr.toRoom L hdef hbind hbody
    exact told_gives (hr.mono (by omega)) GG TE
  · exact absurd rfl e
end
end M
set_option Elab.async false
set_option linter.all false
set_option maxRecDepth 100000
set_option maxHeartbeats 4000000
namespace M
open PySem L2
local macro_rules | `(tactic| walk_at "rdc") => `(tactic| first | exact Or.inl ⟨by decide, by decide⟩ | exact Or.inr ⟨by decide, by decide⟩ | exact ⟨by decide, by decide, by decide⟩ | exact ⟨by decide, by decide⟩ | decide | omega | assumption | (refine Or.inl ⟨?_, ?_⟩ <;> omega) | (refine Or.inr ⟨?_, ?_⟩ <;> omega) | (refine ⟨?_, ?_⟩ <;> omega))
local macro_rules | `(tactic| walk_at "rd1") => `(tactic| with_reducible first
  | refine Rd.rd_seq ?_ | refine Rd.rd_asg ?_ | refine Rd.rd_op ?_ | (refine' Rd.rd_var ?vh ?_; (case vh => with_unfolding_all rfl)) | refine Rd.rd_c ?_ | refine Rd.rd_I0 ?_ | refine Rd.rd_name0 ?_ | refine Rd.rd_nameS ?_ | refine Rd.rd_fn ?_
  | refine Rd.rd_cb ?_ | refine Rd.rd_cons ?_ | refine Rd.rd_nil ?_ | refine Rd.rd_int ?_ | refine Rd.rd_intB ?_ | refine Rd.rd_abs ?_ | refine Rd.rd_max2 ?_ | refine Rd.rd_min2 ?_
  | refine Rd.rd_call ?_ | refine Rd.rd_ifE ?_ | refine Rd.rd_test ?_ | refine Rd.rd_tB ?_ | refine Rd.rd_blV ?_ | refine Rd.rd_and ?_ | refine Rd.rd_or ?_ | refine Rd.rd_not ?_
  | refine Rd.rd_andV ?_ | refine Rd.rd_orV ?_ | refine Rd.rd_notV ?_ | refine Rd.rd_next ?_ | refine Rd.rd_ret ?_ | refine Rd.rd_drop ?_ | refine Rd.rd_ifS ?_ | refine Rd.rd_nx ?_ | refine Rd.rd_rt ?_ | refine Rd.rd_tMatch ?_ | refine Rd.rd_tCO ?_ | refine Rd.rd_tRevL ?_ | refine Rd.rd_tStar ?_ | refine Rd.rd_joined ?_ | refine Rd.rd_js1 ?_ | refine Rd.rd_js0 ?_ | refine Rd.rd_fmt ?_ | refine Rd.rd_propR ?_ | refine Rd.rd_iZipA ?_ | refine Rd.rd_iEnumT ?_ | refine Rd.rd_iOwn ?_ | (refine' Rd.rd_IET ?ln ?_; (case ln => with_unfolding_all walk_at "at")) | refine Rd.rd_chain ?_ | refine Rd.rd_tPar ?_ | refine Rd.rd_par ?_ | refine Rd.rd_sl ?_ | refine Rd.rd_noPart ?_ | refine Rd.rd_part ?_ | refine Rd.rd_intV ?_ | refine Rd.rd_lc ?_ | (refine' Rd.rd_aug ?vh ?_; (case vh => with_unfolding_all rfl)) | refine Rd.rd_ipI ?_ | refine Rd.rd_for ?_ | (refine' Rd.rd_IT ?ln ?_; (case ln => with_unfolding_all walk_at "at")) | (refine' Rd.rd_IL ?ln ?_; (case ln => with_unfolding_all walk_at "at")) | refine Rd.rd_iTup ?_ | refine Rd.rd_iList ?_ | refine Rd.rd_iRng1 ?_ | refine Rd.rd_iRng2 ?_ | refine Rd.rd_isi (Rd.isi_int Rd.kk_int_int) ?_ | refine Rd.rd_isi (Rd.isi_int Rd.kk_int_bool) ?_ | refine Rd.rd_dget ?_ | refine Rd.rd_din ?_ | refine Rd.rd_dnotin ?_ | refine Rd.rd_dput ?_ | refine Rd.rd_dc ?_ | refine Rd.rd_lc2 ?_ | refine Rd.rd_ltS ?_ | refine Rd.rd_inSg ?_ | refine Rd.rd_iStr ?_ | refine Rd.rd_IS ?_ | refine Rd.rd_prC ?_ | refine Rd.rd_prN ?_ | refine Rd.rd_methR ?_ | refine Rd.rd_cmeth ?_ | refine Rd.rd_fldS ?_ | refine Rd.rd_fld ?_ | (refine' Rd.rd_mkVS ?vh ?_; (case vh => with_unfolding_all rfl)) | (refine' Rd.rd_starT ?ln ?_; (case ln => with_unfolding_all walk_at "at")) | refine Rd.rd_iEnum ?_ | refine Rd.rd_iZip ?_ | (refine' Rd.rd_IE ?ln ?_; (case ln => with_unfolding_all walk_at "at")) | (refine' Rd.rd_IZ ?ln ?lm ?_; (case ln => with_unfolding_all walk_at "at"); (case lm => with_unfolding_all walk_at "at")) | (refine' Rd.rd_gTup ?ln ?lk ?_; (case ln => with_unfolding_all walk_at "at"); (case lk => with_unfolding_all rfl)) | refine Rd.rd_gCons ?_ | refine Rd.rd_gNil ?_ | refine Rd.rd_m1 ?_ | refine Rd.rd_strV ?_ | refine Rd.rd_tXiM ?_ | refine Rd.rd_tXiB ?_ | refine Rd.rd_tXiS ?_ | refine Rd.rd_bm ?_ | refine Rd.rd_bm0 ?_ | refine Rd.rd_isN ?_ | refine Rd.rd_notN ?_ | refine Rd.rd_sub ?_ | refine Rd.rd_un ?_ | refine Rd.rd_U ?_
  | (refine' Rd.rd_eq ?sc ?_; (case sc => with_unfolding_all rfl)) | (refine' Rd.rd_ne ?sc ?_; (case sc => with_unfolding_all rfl))
  | (refine' Rd.rd_I ?cc ?_; (case cc => with_unfolding_all walk_at "rdc"))
  | (refine' Rd.rd_lenL ?ln ?_; (case ln => with_unfolding_all walk_at "at")) | (refine' Rd.rd_lenT ?ln ?_; (case ln => with_unfolding_all walk_at "at"))
  | (refine' Rd.rd_ixL ?ln ?ia ?_; (case ln => with_unfolding_all walk_at "at"); (case ia => with_unfolding_all first | exact Rd.at0 | exact Rd.at1 | exact Rd.at2 | exact Rd.at3 | exact Rd.at4 | rfl)) | (refine' Rd.rd_ixT ?ln ?ia ?_; (case ln => with_unfolding_all walk_at "at"); (case ia => with_unfolding_all first | exact Rd.at0 | exact Rd.at1 | exact Rd.at2 | exact Rd.at3 | exact Rd.at4 | rfl)))
local macro_rules | `(tactic| walk_at "at") => `(tactic| first | assumption | (apply SqL.of; assumption) | (apply SqT.of; assumption) | (apply SqL.of; exact upd_same) | (apply SqT.of; exact upd_same))
local macro_rules | `(tactic| walk_at "rd") => `(tactic| repeat walk_at "rd1")
/-! ### the law: what is refused -/
abbrev s__law_sums_refused : Stmt := top 34
theorem sc__law_sums_refused : FnScope ["_law_thing", "_law_odd", "_law_found"] ["_law_thing", "_law_odd"] (defScope s__law_sums_refused) := ⟨rfl, rfl, rfl, by decide +kernel, rfl, by decide +kernel, by decide +kernel⟩
abbrev s__law_numbers_refused : Stmt := top 35
theorem sc__law_numbers_refused : FnScope ["_law_thing", "_law_odd", "_law_found"] ["_law_thing", "_law_odd"] (defScope s__law_numbers_refused) := ⟨rfl, rfl, rfl, by decide +kernel, rfl, by decide +kernel, by decide +kernel⟩
def oddT : List String := ["int", "bool", "NoneType", "str", "tuple", "list", "dict"]
/-- the built-in classes, to the class C -/
structure FrnP (K : PySem.W.Frag) (C : Addr) : Prop where
  fr : ∀ T ∈ oddT, Rd.Frn K C "add" T ∧ Rd.Frn K C "mul" T ∧ PySem.W.kitOne K (.type T) (.ref C) = some false
  no : ∀ T ∈ ["NoneType", "str", "tuple", "list", "dict"], Rd.fillsB K T "add" = some false ∧ Rd.fillsB K T "mul" = some false
  sb : PySem.W.subIn K (.ref C) (.type "bool") = some false
  tp : PySem.W.kitOne K (.ref C) (.type "tuple") = some false
/-- no polynomial, no number from 0 on -/
def OddB (K : PySem.W.Frag) (H : Hp) (v : V) : Prop := (∃ i, v = .int i ∧ i < 0) ∨ (∃ b, v = .bl b) ∨ v = .non ∨ (∃ z, v = .str z) ∨ (∃ a xs, v = .ref a ∧ SqT K H a xs) ∨ (∃ a xs, v = .ref a ∧ SqL K H a xs) ∨ ∃ a kvs, v = .ref a ∧ H a = some (.dK kvs)
section
variable {K : PySem.W.Frag} {C : Addr} {H H' : Hp} {v : V}
theorem OddB.mono (h : OddB K H v) (kt : ∀ a xs, SqT K H a xs → SqT K H' a xs) (kl : ∀ a xs, SqL K H a xs → SqL K H' a xs) (kd : ∀ a kvs, H a = some (.dK kvs) → H' a = some (.dK kvs)) : OddB K H' v := by
  rcases h with h | h | h | h | ⟨a, xs, e, h⟩ | ⟨a, xs, e, h⟩ | ⟨a, xs, e, h⟩
  · exact .inl h
  · exact .inr (.inl h)
  · exact .inr (.inr (.inl h))
  · exact .inr (.inr (.inr (.inl h)))
  · exact .inr (.inr (.inr (.inr (.inl ⟨a, xs, e, kt _ _ h⟩))))
  · exact .inr (.inr (.inr (.inr (.inr (.inl ⟨a, xs, e, kl _ _ h⟩)))))
  · exact .inr (.inr (.inr (.inr (.inr (.inr ⟨a, xs, e, kd _ _ h⟩)))))
theorem OddB.extN (h : OddB K H v) (e : LamX.ExtN H H') : OddB K H' v := h.mono (fun _ _ q => Rd.sqT_N e q) (fun _ _ q => Rd.sqL_N e q) fun _ _ q => e _ _ q fun ps z => by cases z
theorem isI_no {t : String} (h : TyX K H v (.type t)) (hk : kitB t "int" = some false) : IsI K H v false := ⟨false, false, Rd.isi_of h hk, (fun e => by cases e), rfl⟩
theorem OddB.ty (h : OddB K H v) : ∃ T, T ∈ oddT ∧ TyX K H v (.type T) ∧ (T ∈ ["NoneType", "str", "tuple", "list", "dict"] ∨ (∃ i, v = .int i) ∨ ∃ b, v = .bl b) := by
  rcases h with ⟨i, rfl, h⟩ | ⟨b, rfl⟩ | rfl | ⟨z, rfl⟩ | ⟨a, xs, rfl, h⟩ | ⟨a, xs, rfl, h⟩ | ⟨a, xs, rfl, h⟩
  · exact ⟨"int", by decide +kernel, .base (.int i), .inr (.inl ⟨i, rfl⟩)⟩
  · exact ⟨"bool", by decide +kernel, .base (.bl b), .inr (.inr ⟨b, rfl⟩)⟩
  · exact ⟨"NoneType", by decide +kernel, .base .non, .inl (by decide +kernel)⟩
  · exact ⟨"str", by decide +kernel, .base (.str z), .inl (by decide +kernel)⟩
  · exact ⟨"tuple", by decide +kernel, Rd.ty_tup h, .inl (by decide +kernel)⟩
  · exact ⟨"list", by decide +kernel, Rd.ty_lst h, .inl (by decide +kernel)⟩
  · exact ⟨"dict", by decide +kernel, .base (.dK h), .inl (by decide +kernel)⟩
theorem OddB.num (h : OddB K H v) : NoNum K H v := by
  rcases h with ⟨i, rfl, h⟩ | ⟨b, rfl⟩ | rfl | ⟨z, rfl⟩ | ⟨a, xs, rfl, h⟩ | ⟨a, xs, rfl, h⟩ | ⟨a, xs, rfl, h⟩
  · exact .inl ⟨i, rfl, h⟩
  · exact .inr ⟨fun i e => (by cases e), true, true, Rd.isi_bl (by decide +kernel), fun _ => Rd.isi_bl (by decide +kernel), rfl⟩
  · exact .inr ⟨fun i e => (by cases e), isI_no (.base .non) (by decide +kernel)⟩
  · exact .inr ⟨fun i e => (by cases e), isI_no (.base (.str z)) (by decide +kernel)⟩
  · exact .inr ⟨fun i e => (by cases e), isI_no (Rd.ty_tup h) (by decide +kernel)⟩
  · exact .inr ⟨fun i e => (by cases e), isI_no (Rd.ty_lst h) (by decide +kernel)⟩
  · exact .inr ⟨fun i e => (by cases e), isI_no (.base (.dK h)) (by decide +kernel)⟩
theorem OddB.kit (FP : FrnP K C) (h : OddB K H v) : ∃ t, TyX K H v t ∧ PySem.W.kitOne K t (.ref C) = some false := by
  obtain ⟨T, hT, ty, _⟩ := h.ty
  exact ⟨_, ty, (FP.fr T hT).2.2⟩
theorem OddB.op (FP : FrnP K C) (h : OddB K H v) : NoOp K C H v := ⟨h.kit FP, h.num⟩
theorem OddB.fa (FP : FrnP K C) (h : OddB K H v) : ∃ T, TyX K H v (.type T) ∧ Rd.Frn K C "add" T := by
  obtain ⟨T, hT, ty, _⟩ := h.ty
  exact ⟨T, ty, (FP.fr T hT).1⟩
theorem OddB.fm (FP : FrnP K C) (h : OddB K H v) : ∃ T, TyX K H v (.type T) ∧ Rd.Frn K C "mul" T := by
  obtain ⟨T, hT, ty, _⟩ := h.ty
  exact ⟨T, ty, (FP.fr T hT).2.1⟩
theorem OddB.ra (FP : FrnP K C) (h : OddB K H v) : (∃ T, TyX K H v (.type T) ∧ Rd.fillsB K T "add" = some false) ∨ (∃ i, v = .int i) ∨ ∃ b, v = .bl b := by
  obtain ⟨T, hT, ty, e⟩ := h.ty
  exact e.imp (fun e => ⟨T, ty, (FP.no T e).1⟩) id
theorem OddB.rm (FP : FrnP K C) (h : OddB K H v) : (∃ T, TyX K H v (.type T) ∧ Rd.fillsB K T "mul" = some false) ∨ (∃ i, v = .int i) ∨ ∃ b, v = .bl b := by
  obtain ⟨T, hT, ty, e⟩ := h.ty
  exact e.imp (fun e => ⟨T, ty, (FP.no T e).2⟩) id
/-- shown as z -/
def Shown (K : PySem.W.Frag) (H : Hp) (v : V) (z : PyData) : Prop := Rd.Dz K H v z ∧ z.showable = true ∧ z.depth ≤ 60 ∧ z.shown.length + 10 ≤ sizeLine
theorem Shown.extN {z : PyData} (h : Shown K H v z) (e : LamX.ExtN H H') : Shown K H' v z := ⟨h.1.mono (fun _ _ q => Rd.sqT_N e q) (fun _ _ q => Rd.sqL_N e q) (fun _ _ q => e _ _ q fun ps z => by cases z), h.2⟩
theorem PolyAt.extN {x : Addr} {ns : List Int} (h : PolyAt K C H x ns) (e : LamX.ExtN H H') : PolyAt K C H' x ns := by
  obtain ⟨dx, p, h1, h2⟩ := h
  exact ⟨dx, p, e _ _ h1 (fun ps z => by cases z), Rd.sqT_N e h2⟩
end
/-- a list of one's own, written: all else stays -/
theorem lst_put {T : List (Addr × Str)} {H H1 H' : Hp} {l : Addr} {xs ys : List V} (nl : ∀ b o, H b = some o → (∀ ps, o ≠ .tbl ps) → b ≠ l) (e : LamX.ExtN H H') (t : LamX.Tabs T H') (h : H' l = some (.lst xs)) : LamX.ExtN H (upd H' l (.lst ys)) ∧ LamX.Tabs T (upd H' l (.lst ys)) ∧ (upd H' l (.lst ys)) l = some (.lst ys) :=
  ⟨fun b o q n => by rw [upd_ne (nl b o q n)]; exact e b o q n, Rd.tabs_keep t h fun b o hb q => by rw [upd_ne hb]; exact q, upd_same⟩
section
variable {K : PySem.W.Frag} {C IO IN : Addr} {T : List (Addr × Str)} {σ : L2.St} {H : Hp} {Q : VK} {x : Addr} {v : V} {ns : List Int} {i j : Nat}
theorem told_op {op : Operator} (hT : LamX.Tabs T H) (h1 : σ[i]? = some (some (.ref x))) (h2 : σ[j]? = some (some v)) (FP : FrnP K C) (hx : PolyAt K C H x ns) (hv : OddB K H v) (fr : ∀ H', OddB K H' v → ∃ T, TyX K H' v (.type T) ∧ Rd.Frn K C op.info.2 T) (q : ∀ H', LamX.ExtN H H' → LamX.Tabs T H' → Q (.str "operation") H') :
    LamX.tLam T (TTold K IO IN) (fun E => tOp (Rd.rFrn K C op.info.2 (spPOpX K C IO) E) (tVar i) (tVar j)) σ H Q := by
  refine rd_told hT fun H1 x1 T1 => ?_
  have hv1 := hv.extN x1
  have hx1 := hx.extN x1
  refine Rd.rd_op (Rd.rd_var h1 (Rd.rd_var h2 ⟨?_, fr H1 hv1, Rd.rd_sp (x, v, ns) rfl ⟨hx1, hv1.op FP, fun H2 s2 => .inl ⟨rfl, q H2 (x1.trans (Rd.extN_same s2)) (Rd.tabs_same T1 s2)⟩⟩⟩))
  obtain ⟨dx, fs, e⟩ := hx1.ins
  exact ⟨x, dx, fs, rfl, e⟩
theorem told_opR {op : Operator} (hT : LamX.Tabs T H) (h1 : σ[i]? = some (some (.ref x))) (h2 : σ[j]? = some (some v)) (FP : FrnP K C) (hx : PolyAt K C H x ns) (hv : OddB K H v) (fr : ∀ H', OddB K H' v → (∃ T, TyX K H' v (.type T) ∧ Rd.fillsB K T op.info.2 = some false) ∨ (∃ i, v = .int i) ∨ ∃ b, v = .bl b) (q : ∀ H', LamX.ExtN H H' → LamX.Tabs T H' → Q (.str "operation") H') :
    LamX.tLam T (TTold K IO IN) (fun E => tOp (Rd.rFrnR K C op.info.2 (spPOpX K C IO) E) (tVar j) (tVar i)) σ H Q := by
  refine rd_told hT fun H1 x1 T1 => ?_
  have hv1 := hv.extN x1
  have hx1 := hx.extN x1
  refine Rd.rd_op (Rd.rd_var h2 (Rd.rd_var h1 ⟨?_, fr H1 hv1, Rd.rd_sp (x, v, ns) rfl ⟨hx1, hv1.op FP, fun H2 s2 => .inl ⟨rfl, q H2 (x1.trans (Rd.extN_same s2)) (Rd.tabs_same T1 s2)⟩⟩⟩))
  obtain ⟨dx, fs, e⟩ := hx1.ins
  exact ⟨x, dx, fs, rfl, e⟩
theorem told_at {te : TE} (hT : LamX.Tabs T H) (h1 : σ[i]? = some (some (.ref x))) (h2 : ∀ H (R : VK), R v H → te σ H R) (hx : PolyAt K C H x ns) (ty : ∀ H', LamX.ExtN H H' → ∃ t, TyX K H' v t ∧ PySem.W.kitOne K t (.ref C) = some false) (q : ∀ H', LamX.ExtN H H' → LamX.Tabs T H' → Q (.str "operation") H') :
    LamX.tLam T (TTold K IO IN) (fun E => tMethR C "at" (spPAtX K C IO) E (tVar i) (tCons te tNil)) σ H Q := by
  refine rd_told hT fun H1 x1 T1 => ?_
  obtain ⟨dx, p, e, _⟩ := hx.extN x1
  refine Rd.rd_methR ?_
  refine Rd.rd_var h1 ?_
  refine ⟨x, dx, _, rfl, e, rfl, ?_⟩
  refine Rd.rd_cons ?_
  refine h2 _ _ ?_
  refine Rd.rd_nil ?_
  exact Rd.rd_sp (x, v) rfl ⟨ty H1 x1, fun H2 s2 => .inl ⟨rfl, q H2 (x1.trans (Rd.extN_same s2)) (Rd.tabs_same T1 s2)⟩⟩
/-- a number is refused -/
theorem num_told {H1 : Hp} {z : PyData} (x1 : LamX.ExtN H H1) (T1 : LamX.Tabs T H1) (hv : OddB K H v) (hz : Shown K H v z) (q : ∀ H', LamX.ExtN H H' → LamX.Tabs T H' → Q (.str ("number " ++ z.shown)) H') :
    spPNumX K IN [.ref x, v] H1 (fun _ H' => Q (.str "returned") H') (fun cls d H' => (cls = .ref IO ∧ Q (.str "operation") H') ∨ XNum K IN cls d H' fun z => Q (.str z) H') := by
  refine Rd.rd_sp (x, v) rfl ⟨(hv.extN x1).num, fun d H2 hd s2 h2 => .inr ⟨rfl, d, v, z, rfl, h2, ?_⟩⟩
  have x2 := x1.trans (Rd.extN_same s2)
  have s := hz.extN x2
  exact ⟨s.1, s.2.1, s.2.2.1, s.2.2.2, q H2 x2 (Rd.tabs_same T1 s2)⟩
theorem told_call {z : PyData} (hT : LamX.Tabs T H) (h1 : σ[i]? = some (some (.ref x))) (h2 : σ[j]? = some (some v)) (hx : PolyAt K C H x ns) (hv : OddB K H v) (hz : Shown K H v z) (q : ∀ H', LamX.ExtN H H' → LamX.Tabs T H' → Q (.str ("number " ++ z.shown)) H') :
    LamX.tLam T (TTold K IO IN) (fun E => Rd.tCO C (spPNumX K IN) E (tVar i) (tCons (tVar j) tNil)) σ H Q := by
  refine rd_told hT fun H1 x1 T1 => ?_
  obtain ⟨dx, fs, e⟩ := (hx.extN x1).ins
  refine Rd.rd_tCO ?_
  refine Rd.rd_var h1 ?_
  refine ⟨x, rfl, ?_⟩
  refine Rd.rd_cons (Rd.rd_var h2 (Rd.rd_nil ?_))
  exact ⟨⟨dx, fs, e⟩, num_told x1 T1 hv hz q⟩
theorem told_ix {z : PyData} (hT : LamX.Tabs T H) (h1 : σ[i]? = some (some (.ref x))) (h2 : σ[j]? = some (some v)) (hx : PolyAt K C H x ns) (hv : OddB K H v) (hz : Shown K H v z) (q : ∀ H', LamX.ExtN H H' → LamX.Tabs T H' → Q (.str ("number " ++ z.shown)) H') :
    LamX.tLam T (TTold K IO IN) (fun E => tOp (Rd.rIxO C (spPNumX K IN) E) (tVar i) (tVar j)) σ H Q := by
  refine rd_told hT fun H1 x1 T1 => ?_
  obtain ⟨dx, fs, e⟩ := (hx.extN x1).ins
  exact Rd.rd_op (Rd.rd_var h1 (Rd.rd_var h2 ⟨x, dx, fs, rfl, e, num_told x1 T1 hv hz q⟩))
theorem told_reach {z : PyData} (hT : LamX.Tabs T H) (h1 : σ[i]? = some (some (.ref x))) (h2 : σ[j]? = some (some v)) (hx : PolyAt K C H x ns) (hv : OddB K H v) (hz : Shown K H v z) (q : ∀ H', LamX.ExtN H H' → LamX.Tabs T H' → Q (.str ("number " ++ z.shown)) H') :
    LamX.tLam T (TTold K IO IN) (fun E => tMethR C "reach" (spPNumX K IN) E (tVar i) (tCons (tVar j) tNil)) σ H Q := by
  refine rd_told hT fun H1 x1 T1 => ?_
  obtain ⟨dx, p, e, _⟩ := hx.extN x1
  refine Rd.rd_methR ?_
  refine Rd.rd_var h1 ?_
  refine ⟨x, dx, _, rfl, e, rfl, ?_⟩
  refine Rd.rd_cons (Rd.rd_var h2 (Rd.rd_nil ?_))
  exact num_told x1 T1 hv hz q
end
def lamS (x : Str) (s : Scope) : Str := (PyProof.Rows.envOfC x s 0 0 .none).qual ++ "<lambda>"
def spSumsR (K : PySem.W.Frag) (C : Addr) (TL : List (Addr × Str)) : Sp := Rd.mkSp (fun (a : Addr × V × List Int) => [.ref a.1, a.2.1]) fun a H Q _ => PolyAt K C H a.1 a.2.2 ∧ OddB K H a.2.1 ∧ LamX.Tabs TL H ∧
  ∀ r H', LamX.ExtN H H' → LamX.Tabs TL H' → H' r = some (.lst (List.replicate 5 (.str "operation"))) → Q (.ref r) H'
def spNumsR (K : PySem.W.Frag) (C : Addr) (TL : List (Addr × Str)) : Sp := Rd.mkSp (fun (a : Addr × V × List Int × PyData) => [.ref a.1, a.2.1]) fun a H Q _ => PolyAt K C H a.1 a.2.2.1 ∧ OddB K H a.2.1 ∧ Shown K H a.2.1 a.2.2.2 ∧ LamX.Tabs TL H ∧
  ∀ r H', LamX.ExtN H H' → LamX.Tabs TL H' → H' r = some (.lst (List.replicate 3 (.str ("number " ++ a.2.2.2.shown)))) → Q (.ref r) H'
section
variable {P : Program} {w : World} {K : PySem.W.Frag} {mg : Str → Option Value} {base : Heap} {a : Ads} {IO IN fN c Pt : Addr} {TL : List (Addr × Str)}
theorem ok_sumsR (T : PolyC K mg a) (TE : ErrP K mg IO IN fN) (FP : FrnP K a.C) (F : Rd.HasC K mg "_law_sums_refused" s__law_sums_refused c) (g : Glob mg) (hE : Rd.Has K mg "_law_told" s__law_told) (TB : LamX.TabB base mg c Pt) (mT : (Pt, lamS "_law_sums_refused" (defScope s__law_sums_refused)) ∈ TL) (uT : ∀ p ∈ TL, p.1 = Pt → p.2 = lamS "_law_sums_refused" (defScope s__law_sums_refused))
    (c_add : FnR P w K mg base (L2.CX P w) 7 a.ad (spPOpX K a.C IO)) (c_radd : FnR P w K mg base (L2.CX P w) 7 a.ra (spPOpX K a.C IO)) (c_mul : FnR P w K mg base (L2.CX P w) 7 a.mu (spPOpX K a.C IO)) (c_rmul : FnR P w K mg base (L2.CX P w) 7 a.rm (spPOpX K a.C IO)) (c_Polynomial_at : FnR P w K mg base (L2.CX P w) 7 a.at_ (spPAtX K a.C IO)) :
    Rd.Fn true P w K mg base CX0 16 "_law_sums_refused" (spSumsR K a.C TL) := by
  refine F.fn sc__law_sums_refused (fun _ => rfl) (fun _ _ _ _ _ _ us hl => match us, hl with | [_, _], _ => rfl) fun f A outer s H Q E b hr h => ?_
  obtain ⟨x, v, ns⟩ := b
  obtain ⟨hx, hv, hT, k⟩ := h
  dsimp only at hx hv k
  refine ⟨_, (pss_cons (ps_set (i := 2) sc__law_sums_refused.nd rfl (Or.inl rfl) (Rd.pe_lst (pa_cons (pe_told (T := TL) (k := 12) hE g TE (by rfl) TB rfl mT uT (hr.mono (by decide)) (LamX.lamS_by (sc := defScope s__law_sums_refused) (by decide +kernel)) rfl (fun _ _ _ _ _ => rfl) (fun A outer s H E f c hr2 => (pe_op (Rd.op_frnK (E := E) (K := K) (C := a.C) (sp := spPOpX K a.C IO) (k := 7) (op := .Add) rfl T.la c_add (hr2.mono (by decide)) (passes_call (takes_of rfl rfl rfl rfl) fun _ _ _ _ h => h)) (pv 0) (pv 1)))) pa_nil)))
      (pss_cons (ps_expr (pe_bm PySem.F.plainAttrs_list PySem.F.slot_list_append PySem.F.type_list_append mt_append (pv 2) (pa_cons (pe_told (T := TL) (k := 12) hE g TE (by rfl) TB rfl mT uT (hr.mono (by decide)) (LamX.lamS_by (sc := defScope s__law_sums_refused) (by decide +kernel)) rfl (fun _ _ _ _ _ => rfl) (fun A outer s H E f c hr2 => (pe_op (Rd.op_frnRK (E := E) (K := K) (C := a.C) (sp := spPOpX K a.C IO) (k := 7) (op := .Add) rfl T.ra FP.sb PySem.F.fills_int_add PySem.F.slot_int_add PySem.F.fills_bool_add PySem.F.slot_bool_add (fun h1 h2 => Rd.int_add_dec h1 h2) (fun h1 h2 => Rd.bool_add_dec h1 h2) c_radd (hr2.mono (by decide)) (passes_call (takes_of rfl rfl rfl rfl) fun _ _ _ _ h => h)) (pv 1) (pv 0)))) pa_nil)))
      (pss_cons (ps_expr (pe_bm PySem.F.plainAttrs_list PySem.F.slot_list_append PySem.F.type_list_append mt_append (pv 2) (pa_cons (pe_told (T := TL) (k := 12) hE g TE (by rfl) TB rfl mT uT (hr.mono (by decide)) (LamX.lamS_by (sc := defScope s__law_sums_refused) (by decide +kernel)) rfl (fun _ _ _ _ _ => rfl) (fun A outer s H E f c hr2 => (pe_op (Rd.op_frnK (E := E) (K := K) (C := a.C) (sp := spPOpX K a.C IO) (k := 7) (op := .Mult) rfl T.lm c_mul (hr2.mono (by decide)) (passes_call (takes_of rfl rfl rfl rfl) fun _ _ _ _ h => h)) (pv 0) (pv 1)))) pa_nil)))
      (pss_cons (ps_expr (pe_bm PySem.F.plainAttrs_list PySem.F.slot_list_append PySem.F.type_list_append mt_append (pv 2) (pa_cons (pe_told (T := TL) (k := 12) hE g TE (by rfl) TB rfl mT uT (hr.mono (by decide)) (LamX.lamS_by (sc := defScope s__law_sums_refused) (by decide +kernel)) rfl (fun _ _ _ _ _ => rfl) (fun A outer s H E f c hr2 => (pe_op (Rd.op_frnRK (E := E) (K := K) (C := a.C) (sp := spPOpX K a.C IO) (k := 7) (op := .Mult) rfl T.rm FP.sb PySem.F.fills_int_mul PySem.F.slot_int_mul PySem.F.fills_bool_mul PySem.F.slot_bool_mul (fun h1 h2 => Rd.int_mul_dec h1 h2) (fun h1 h2 => Rd.bool_mul_dec h1 h2) c_rmul (hr2.mono (by decide)) (passes_call (takes_of rfl rfl rfl rfl) fun _ _ _ _ h => h)) (pv 1) (pv 0)))) pa_nil)))
      (pss_cons (ps_expr (pe_bm PySem.F.plainAttrs_list PySem.F.slot_list_append PySem.F.type_list_append mt_append (pv 2) (pa_cons (pe_told (T := TL) (k := 12) hE g TE (by rfl) TB rfl mT uT (hr.mono (by decide)) (LamX.lamS_by (sc := defScope s__law_sums_refused) (by decide +kernel)) rfl (fun _ _ _ _ _ => rfl) (fun A outer s H E f c hr2 => (pe_methR (pv 0) T.cl T.m_at c_Polynomial_at (hr2.mono (by decide)) (passes_call (takes_of rfl rfl rfl rfl) fun _ _ _ _ h => h) (pa_cons (pv 1) pa_nil)))) pa_nil)))
      (pss_one (ps_ret (pv 2)))))))), ?_⟩
  try simp only [Rd.noxK, Rd.cxK]
  refine Rd.rd_start [some (V.ref x), some v, none] rfl ?_
  walk_at "rd"
  refine told_op (op := .Add) hT rfl rfl FP hx hv (fun _ h => h.fa FP) fun H1 x1 T1 => ?_
  walk_at "rd"
  refine Rd.rd_mkLst (by show 1 ≤ sizeLine; decide) fun l G1 n1 s1 h1 => ?_
  have X1 := x1.trans (Rd.extN_same s1)
  have Y1 := Rd.tabs_same T1 s1
  have nl : ∀ b o, H b = some o → (∀ ps, o ≠ .tbl ps) → b ≠ l := fun b o e n => ne_of_none (x1 b o e n) n1
  walk_at "rd"
  refine ⟨Rd.tyL (SqL.of h1), ?_⟩
  walk_at "rd"
  refine told_opR (op := .Add) Y1 rfl rfl FP (hx.extN X1) (hv.extN X1) (fun _ h => h.ra FP) fun H2 x2 T2 => ?_
  walk_at "rd"
  have g2 := x2 _ _ h1 fun ps z => by cases z
  refine Rd.rd_append g2 (by show 1 < sizeLine; decide) ?_
  obtain ⟨X2, Y2, h2⟩ := lst_put (H1 := H) (ys := [(V.str "operation")] ++ [(V.str "operation")]) nl (X1.trans x2) T2 g2
  generalize upd H2 l (.lst ([(V.str "operation")] ++ [(V.str "operation")])) = G2 at X2 Y2 h2 ⊢
  walk_at "rd"
  refine ⟨Rd.tyL (SqL.of h2), ?_⟩
  walk_at "rd"
  refine told_op (op := .Mult) Y2 rfl rfl FP (hx.extN X2) (hv.extN X2) (fun _ h => h.fm FP) fun H3 x3 T3 => ?_
  walk_at "rd"
  have g3 := x3 _ _ h2 fun ps z => by cases z
  refine Rd.rd_append g3 (by show 2 < sizeLine; decide) ?_
  obtain ⟨X3, Y3, h3⟩ := lst_put (H1 := H) (ys := ([(V.str "operation")] ++ [(V.str "operation")]) ++ [(V.str "operation")]) nl (X2.trans x3) T3 g3
  generalize upd H3 l (.lst (([(V.str "operation")] ++ [(V.str "operation")]) ++ [(V.str "operation")])) = G3 at X3 Y3 h3 ⊢
  walk_at "rd"
  refine ⟨Rd.tyL (SqL.of h3), ?_⟩
  walk_at "rd"
  refine told_opR (op := .Mult) Y3 rfl rfl FP (hx.extN X3) (hv.extN X3) (fun _ h => h.rm FP) fun H4 x4 T4 => ?_
  walk_at "rd"
  have g4 := x4 _ _ h3 fun ps z => by cases z
  refine Rd.rd_append g4 (by show 3 < sizeLine; decide) ?_
  obtain ⟨X4, Y4, h4⟩ := lst_put (H1 := H) (ys := (([(V.str "operation")] ++ [(V.str "operation")]) ++ [(V.str "operation")]) ++ [(V.str "operation")]) nl (X3.trans x4) T4 g4
  generalize upd H4 l (.lst ((([(V.str "operation")] ++ [(V.str "operation")]) ++ [(V.str "operation")]) ++ [(V.str "operation")])) = G4 at X4 Y4 h4 ⊢
  walk_at "rd"
  refine ⟨Rd.tyL (SqL.of h4), ?_⟩
  walk_at "rd"
  refine told_at Y4 rfl (fun H R q => Rd.rd_var rfl q) (hx.extN X4) (fun H' e => (hv.extN (X4.trans e)).kit FP) fun H5 x5 T5 => ?_
  walk_at "rd"
  have g5 := x5 _ _ h4 fun ps z => by cases z
  refine Rd.rd_append g5 (by show 4 < sizeLine; decide) ?_
  obtain ⟨X5, Y5, h5⟩ := lst_put (H1 := H) (ys := ((([(V.str "operation")] ++ [(V.str "operation")]) ++ [(V.str "operation")]) ++ [(V.str "operation")]) ++ [(V.str "operation")]) nl (X4.trans x5) T5 g5
  generalize upd H5 l (.lst (((([(V.str "operation")] ++ [(V.str "operation")]) ++ [(V.str "operation")]) ++ [(V.str "operation")]) ++ [(V.str "operation")])) = G5 at X5 Y5 h5 ⊢
  walk_at "rd"
  exact k l _ X5 Y5 h5
theorem ok_numsR {d : AdsD} (T : PolyC K mg a) (TE : ErrP K mg IO IN fN) (FP : FrnP K a.C) (DD : PolyD K a.C d) (F : Rd.HasC K mg "_law_numbers_refused" s__law_numbers_refused c) (g : Glob mg) (hE : Rd.Has K mg "_law_told" s__law_told) (TB : LamX.TabB base mg c Pt) (mT : (Pt, lamS "_law_numbers_refused" (defScope s__law_numbers_refused)) ∈ TL) (uT : ∀ p ∈ TL, p.1 = Pt → p.2 = lamS "_law_numbers_refused" (defScope s__law_numbers_refused))
    (c_call : FnR P w K mg base (L2.CX P w) 4 a.cl (spPNumX K IN)) (c_get : FnR P w K mg base (L2.CX P w) 4 d.gi (spPNumX K IN)) (c_Polynomial_reach : FnR P w K mg base (L2.CX P w) 4 a.rc (spPNumX K IN)) :
    Rd.Fn true P w K mg base CX0 16 "_law_numbers_refused" (spNumsR K a.C TL) := by
  refine F.fn sc__law_numbers_refused (fun _ => rfl) (fun _ _ _ _ _ _ us hl => match us, hl with | [_, _], _ => rfl) fun f A outer s H Q E b hr h => ?_
  obtain ⟨x, v, ns, z⟩ := b
  obtain ⟨hx, hv, hz, hT, k⟩ := h
  dsimp only at hx hv hz k
  refine ⟨_, (pss_cons (ps_set (i := 2) sc__law_numbers_refused.nd rfl (Or.inl rfl) (Rd.pe_lst (pa_cons (pe_told (T := TL) (k := 12) hE g TE (by rfl) TB rfl mT uT (hr.mono (by decide)) (LamX.lamS_by (sc := defScope s__law_numbers_refused) (by decide +kernel)) rfl (fun _ _ _ _ _ => rfl) (fun A outer s H E f c hr2 => (Rd.pe_coN (pv 0) T.call c_call (hr2.mono (by decide)) (passes_call (takes_of rfl rfl rfl rfl) fun _ _ _ _ h => h) (pa_cons (pv 1) pa_nil)))) pa_nil)))
      (pss_cons (ps_expr (pe_bm PySem.F.plainAttrs_list PySem.F.slot_list_append PySem.F.type_list_append mt_append (pv 2) (pa_cons (pe_told (T := TL) (k := 12) hE g TE (by rfl) TB rfl mT uT (hr.mono (by decide)) (LamX.lamS_by (sc := defScope s__law_numbers_refused) (by decide +kernel)) rfl (fun _ _ _ _ _ => rfl) (fun A outer s H E f c hr2 => (Rd.pe_ixO DD.gi DD.gif DD.gin c_get (hr2.mono (by decide)) (passes_call (takes_of rfl rfl rfl rfl) fun _ _ _ _ h => h) (pv 0) (pv 1) (fun _ _ => rfl)))) pa_nil)))
      (pss_cons (ps_expr (pe_bm PySem.F.plainAttrs_list PySem.F.slot_list_append PySem.F.type_list_append mt_append (pv 2) (pa_cons (pe_told (T := TL) (k := 12) hE g TE (by rfl) TB rfl mT uT (hr.mono (by decide)) (LamX.lamS_by (sc := defScope s__law_numbers_refused) (by decide +kernel)) rfl (fun _ _ _ _ _ => rfl) (fun A outer s H E f c hr2 => (pe_methR (pv 0) T.cl T.m_reach c_Polynomial_reach (hr2.mono (by decide)) (passes_call (takes_of rfl rfl rfl rfl) fun _ _ _ _ h => h) (pa_cons (pv 1) pa_nil)))) pa_nil)))
      (pss_one (ps_ret (pv 2)))))), ?_⟩
  try simp only [Rd.noxK, Rd.cxK]
  refine Rd.rd_start [some (V.ref x), some v, none] rfl ?_
  walk_at "rd"
  refine told_call hT rfl rfl hx hv hz fun H1 x1 T1 => ?_
  walk_at "rd"
  refine Rd.rd_mkLst (by show 1 ≤ sizeLine; decide) fun l G1 n1 s1 h1 => ?_
  have X1 := x1.trans (Rd.extN_same s1)
  have Y1 := Rd.tabs_same T1 s1
  have nl : ∀ b o, H b = some o → (∀ ps, o ≠ .tbl ps) → b ≠ l := fun b o e n => ne_of_none (x1 b o e n) n1
  walk_at "rd"
  refine ⟨Rd.tyL (SqL.of h1), ?_⟩
  walk_at "rd"
  refine told_ix Y1 rfl rfl (hx.extN X1) (hv.extN X1) (hz.extN X1) fun H2 x2 T2 => ?_
  walk_at "rd"
  have g2 := x2 _ _ h1 fun ps z => by cases z
  refine Rd.rd_append g2 (by show 1 < sizeLine; decide) ?_
  obtain ⟨X2, Y2, h2⟩ := lst_put (H1 := H) (ys := [(V.str ("number " ++ z.shown))] ++ [(V.str ("number " ++ z.shown))]) nl (X1.trans x2) T2 g2
  generalize upd H2 l (.lst ([(V.str ("number " ++ z.shown))] ++ [(V.str ("number " ++ z.shown))])) = G2 at X2 Y2 h2 ⊢
  walk_at "rd"
  refine ⟨Rd.tyL (SqL.of h2), ?_⟩
  walk_at "rd"
  refine told_reach Y2 rfl rfl (hx.extN X2) (hv.extN X2) (hz.extN X2) fun H3 x3 T3 => ?_
  walk_at "rd"
  have g3 := x3 _ _ h2 fun ps z => by cases z
  refine Rd.rd_append g3 (by show 2 < sizeLine; decide) ?_
  obtain ⟨X3, Y3, h3⟩ := lst_put (H1 := H) (ys := ([(V.str ("number " ++ z.shown))] ++ [(V.str ("number " ++ z.shown))]) ++ [(V.str ("number " ++ z.shown))]) nl (X2.trans x3) T3 g3
  generalize upd H3 l (.lst (([(V.str ("number " ++ z.shown))] ++ [(V.str ("number " ++ z.shown))]) ++ [(V.str ("number " ++ z.shown))])) = G3 at X3 Y3 h3 ⊢
  walk_at "rd"
  exact k l _ X3 Y3 h3
end
end M
set_option Elab.async false
set_option linter.all false
set_option maxRecDepth 100000
set_option maxHeartbeats 4000000
namespace M
open PySem L2
local macro_rules | `(tactic| walk_at "rdc") => `(tactic| first | exact Or.inl ⟨by decide, by decide⟩ | exact Or.inr ⟨by decide, by decide⟩ | exact ⟨by decide, by decide, by decide⟩ | exact ⟨by decide, by decide⟩ | decide | omega | assumption | (refine Or.inl ⟨?_, ?_⟩ <;> omega) | (refine Or.inr ⟨?_, ?_⟩ <;> omega) | (refine ⟨?_, ?_⟩ <;> omega))
local macro_rules | `(tactic| walk_at "rd1") => `(tactic| with_reducible first
  | refine Rd.rd_seq ?_ | refine Rd.rd_asg ?_ | refine Rd.rd_op ?_ | (refine' Rd.rd_var ?vh ?_; (case vh => with_unfolding_all rfl)) | refine Rd.rd_c ?_ | refine Rd.rd_I0 ?_ | refine Rd.rd_name0 ?_ | refine Rd.rd_nameS ?_ | refine Rd.rd_fn ?_
  | refine Rd.rd_cb ?_ | refine Rd.rd_cons ?_ | refine Rd.rd_nil ?_ | refine Rd.rd_int ?_ | refine Rd.rd_intB ?_ | refine Rd.rd_abs ?_ | refine Rd.rd_max2 ?_ | refine Rd.rd_min2 ?_
  | refine Rd.rd_call ?_ | refine Rd.rd_ifE ?_ | refine Rd.rd_test ?_ | refine Rd.rd_tB ?_ | refine Rd.rd_blV ?_ | refine Rd.rd_and ?_ | refine Rd.rd_or ?_ | refine Rd.rd_not ?_
  | refine Rd.rd_andV ?_ | refine Rd.rd_orV ?_ | refine Rd.rd_notV ?_ | refine Rd.rd_next ?_ | refine Rd.rd_ret ?_ | refine Rd.rd_drop ?_ | refine Rd.rd_ifS ?_ | refine Rd.rd_nx ?_ | refine Rd.rd_rt ?_ | refine Rd.rd_tMatch ?_ | refine Rd.rd_tCO ?_ | refine Rd.rd_tRevL ?_ | refine Rd.rd_tStar ?_ | refine Rd.rd_joined ?_ | refine Rd.rd_js1 ?_ | refine Rd.rd_js0 ?_ | refine Rd.rd_fmt ?_ | refine Rd.rd_propR ?_ | refine Rd.rd_iZipA ?_ | refine Rd.rd_iEnumT ?_ | refine Rd.rd_iOwn ?_ | (refine' Rd.rd_IET ?ln ?_; (case ln => with_unfolding_all walk_at "at")) | refine Rd.rd_chain ?_ | refine Rd.rd_tPar ?_ | refine Rd.rd_par ?_ | refine Rd.rd_sl ?_ | refine Rd.rd_noPart ?_ | refine Rd.rd_part ?_ | refine Rd.rd_intV ?_ | refine Rd.rd_lc ?_ | (refine' Rd.rd_aug ?vh ?_; (case vh => with_unfolding_all rfl)) | refine Rd.rd_ipI ?_ | refine Rd.rd_for ?_ | (refine' Rd.rd_IT ?ln ?_; (case ln => with_unfolding_all walk_at "at")) | (refine' Rd.rd_IL ?ln ?_; (case ln => with_unfolding_all walk_at "at")) | refine Rd.rd_iTup ?_ | refine Rd.rd_iList ?_ | refine Rd.rd_iRng1 ?_ | refine Rd.rd_iRng2 ?_ | refine Rd.rd_isi (Rd.isi_int Rd.kk_int_int) ?_ | refine Rd.rd_isi (Rd.isi_int Rd.kk_int_bool) ?_ | refine Rd.rd_dget ?_ | refine Rd.rd_din ?_ | refine Rd.rd_dnotin ?_ | refine Rd.rd_dput ?_ | refine Rd.rd_dc ?_ | refine Rd.rd_lc2 ?_ | refine Rd.rd_ltS ?_ | refine Rd.rd_inSg ?_ | refine Rd.rd_iStr ?_ | refine Rd.rd_IS ?_ | refine Rd.rd_prC ?_ | refine Rd.rd_prN ?_ | refine Rd.rd_methR ?_ | refine Rd.rd_cmeth ?_ | refine Rd.rd_fldS ?_ | refine Rd.rd_fld ?_ | (refine' Rd.rd_mkVS ?vh ?_; (case vh => with_unfolding_all rfl)) | (refine' Rd.rd_starT ?ln ?_; (case ln => with_unfolding_all walk_at "at")) | refine Rd.rd_iEnum ?_ | refine Rd.rd_iZip ?_ | (refine' Rd.rd_IE ?ln ?_; (case ln => with_unfolding_all walk_at "at")) | (refine' Rd.rd_IZ ?ln ?lm ?_; (case ln => with_unfolding_all walk_at "at"); (case lm => with_unfolding_all walk_at "at")) | (refine' Rd.rd_gTup ?ln ?lk ?_; (case ln => with_unfolding_all walk_at "at"); (case lk => with_unfolding_all rfl)) | refine Rd.rd_gCons ?_ | refine Rd.rd_gNil ?_ | refine Rd.rd_m1 ?_ | refine Rd.rd_strV ?_ | refine Rd.rd_tXiM ?_ | refine Rd.rd_tXiB ?_ | refine Rd.rd_tXiS ?_ | refine Rd.rd_bm ?_ | refine Rd.rd_bm0 ?_ | refine Rd.rd_isN ?_ | refine Rd.rd_notN ?_ | refine Rd.rd_sub ?_ | refine Rd.rd_un ?_ | refine Rd.rd_U ?_
  | (refine' Rd.rd_eq ?sc ?_; (case sc => with_unfolding_all rfl)) | (refine' Rd.rd_ne ?sc ?_; (case sc => with_unfolding_all rfl))
  | (refine' Rd.rd_I ?cc ?_; (case cc => with_unfolding_all walk_at "rdc"))
  | (refine' Rd.rd_lenL ?ln ?_; (case ln => with_unfolding_all walk_at "at")) | (refine' Rd.rd_lenT ?ln ?_; (case ln => with_unfolding_all walk_at "at"))
  | (refine' Rd.rd_ixL ?ln ?ia ?_; (case ln => with_unfolding_all walk_at "at"); (case ia => with_unfolding_all first | exact Rd.at0 | exact Rd.at1 | exact Rd.at2 | exact Rd.at3 | exact Rd.at4 | rfl)) | (refine' Rd.rd_ixT ?ln ?ia ?_; (case ln => with_unfolding_all walk_at "at"); (case ia => with_unfolding_all first | exact Rd.at0 | exact Rd.at1 | exact Rd.at2 | exact Rd.at3 | exact Rd.at4 | rfl)))
local macro_rules | `(tactic| walk_at "at") => `(tactic| first | assumption | (apply SqL.of; assumption) | (apply SqT.of; assumption) | (apply SqL.of; exact upd_same) | (apply SqT.of; exact upd_same))
local macro_rules | `(tactic| walk_at "rd") => `(tactic| repeat walk_at "rd1")
/-! ### drawn lists -/
abbrev s__law_coefficients : Stmt := top 31
theorem sc__law_coefficients : FnScope ["_law_dice_here", "_law_found", "_law_turn"] ["_law_dice_here"] (defScope s__law_coefficients) := ⟨rfl, rfl, rfl, by decide +kernel, rfl, by decide +kernel, by decide +kernel⟩
/-- the items in some order: here only that each is one of them -/
def spMixed (K : PySem.W.Frag) : Sp := Rd.mkSp (fun (a : Addr × Addr × List V) => [.ref a.1, .ref a.2.1]) fun a H Q _ => Dice H a.1 ∧ a.2.1 ≠ a.1 ∧ SqL K H a.2.1 a.2.2 ∧ a.2.2.length < 1000 ∧
  ∀ D ys H', H D = none → (∀ y ∈ ys, y ∈ a.2.2) → ys.length = a.2.2.length → Rolled a.1 H H' → H' D = some (.lst ys) → Q (.ref D) H'
def spDrawC (K : PySem.W.Frag) : Sp := Rd.mkSp (fun (d : Addr) => [.ref d]) fun d H Q _ => Dice H d ∧ ∀ p H' ns, Rolled d H H' → SqT K H' p (ns.map V.int) → Co 67 ns ∧ ns.length ≤ 6 → Q (.ref p) H'
theorem none_pre {H H1 : Hp} {D : Addr} (s : Same H H1) (h : H1 D = none) : H D = none := by
  cases e : H D with
  | none => rfl
  | some o => rw [s _ _ e] at h; cases h
section
variable {gd : Bool} {P : Program} {w : World} {K : PySem.W.Frag} {mg : Str → Option Value} {base : Heap}
theorem ok_coef (F : Rd.Has K mg "_law_coefficients" s__law_coefficients) (g : Glob mg) (c__law_roll : Rd.Fn gd P w K mg base CX0 1 "_law_roll" spRoll) (c__law_one_of : Rd.Fn gd P w K mg base CX0 2 "_law_one_of" (spOneOf K)) :
    Rd.Fn gd P w K mg base CX0 3 "_law_coefficients" (spDrawC K) := by
  refine F.fn sc__law_coefficients (fun _ => rfl) (fun _ _ _ _ _ _ us hl => match us, hl with | [_], _ => rfl) fun f cdv A outer s H Q E d hr h => ?_
  obtain ⟨hD, k⟩ := h
  refine ⟨_, (pss_cons (ps_set (i := 1) sc__law_coefficients.nd rfl (Or.inl rfl) (Rd.pe_lst pa_nil))
      (pss_cons (ps_for PassesOwn.never rfl (pi_range1 (by rfl) g.range (pa_cons (Rd.pe_fn c__law_roll (hr.mono (by decide)) (by rfl) (pa_cons (pv 0) (pa_cons pe_int pa_nil))) pa_nil)) (pg_name (i := 2) sc__law_coefficients.nd rfl (Or.inl rfl)) (pss_one (ps_expr (pe_bm PySem.F.plainAttrs_list PySem.F.slot_list_append PySem.F.type_list_append mt_append (pv 1) (pa_cons (Rd.pe_fn c__law_one_of (hr.mono (by decide)) (by rfl) (pa_cons (pv 0) (pa_cons (Rd.pe_lst (pa_cons pe_int (pa_cons pe_int (pa_cons pe_int (pa_cons pe_int (pa_cons pe_int (pa_cons pe_int (pa_cons pe_int (pa_cons pe_int (pa_cons (pe_op op_add (pe_op op_pow pe_int pe_int) (Rd.pe_fn c__law_roll (hr.mono (by decide)) (by rfl) (pa_cons (pv 0) (pa_cons pe_int pa_nil)))) pa_nil)))))))))) pa_nil))) pa_nil)))))
      (pss_one (ps_ret (pe_op op_catA (pe_callTy Rd.c_tuple (by rfl) g.tuple (by decide +kernel) (pa_cons (pv 1) pa_nil)) (pe_op Rd.op_mulT (Rd.pe_tup (pa_cons pe_int pa_nil)) (Rd.pe_fn c__law_one_of (hr.mono (by decide)) (by rfl) (pa_cons (pv 0) (pa_cons (Rd.pe_lst (pa_cons pe_int (pa_cons pe_int (pa_cons pe_int (pa_cons pe_int pa_nil))))) pa_nil))))))))), ?_⟩
  try simp only [Rd.noxK, Rd.cxK]
  refine Rd.rd_start [some (V.ref d), none, none] rfl ?_
  walk_at "rd"
  refine Rd.rd_mkLst (by decide) fun l H1 hl s1 h1 => ?_
  walk_at "rd"
  have hD1 : Dice H1 d := hD.same s1
  have hld : l ≠ d := hD.ne hl
  refine rd_roll hD1 (by decide) (by decide) fun r H2 r0 r5 R2 => ?_
  walk_at "rd"
  refine Rd.rd_IR1 (by omega) (by omega) ?_
  refine Rd.for_range (fun i σ H' => ∃ (ns : List Int) (o : Option V), σ = [some (V.ref d), some (V.ref l), o] ∧ Rolled d H H' ∧ H' l = some (.lst (ns.map V.int)) ∧ Co 67 ns ∧ ns.length = i)
    ⟨[], none, rfl, R2.pre s1, R2.keep _ _ hld h1, fun _ h => (nomatch h), rfl⟩ ?_ ?_
  · rintro i σ H3 hi ⟨ns, o, rfl, R3, h3, hc, hn⟩
    walk_at "rd"
    refine ⟨Rd.tyL (SqL.of h3), ?_⟩
    walk_at "rd"
    refine rd_roll R3.dice (by decide) (by decide) fun r H4 q0 q1 R4 => ?_
    walk_at "rd"
    refine Rd.rd_mkLst (by show 9 ≤ sizeLine; decide) fun m H5 hm s5 h5 => ?_
    walk_at "rd"
    have hmd : m ≠ d := R4.dice.ne hm
    refine rd_one (R4.dice.same s5) hmd (SqL.of h5) (by show 0 < 9; decide) (by show 9 < 1000; decide) fun v H6 hv R6 => ?_
    obtain ⟨n, rfl, hn0, hn1⟩ : ∃ n : Int, v = V.int n ∧ 0 ≤ n ∧ n < 2 ^ 67 := by
      have e20 : (10 : Int) ^ Int.toNat 20 = 100000000000000000000 := by decide
      simp only [List.mem_cons, List.not_mem_nil, or_false] at hv
      rcases hv with rfl | rfl | rfl | rfl | rfl | rfl | rfl | rfl | rfl
      all_goals first
        | exact ⟨_, rfl, by decide, by decide⟩
        | (refine ⟨_, rfl, ?_, ?_⟩ <;> rw [e20] <;> omega)
    have h6 : H6 l = some (.lst (ns.map V.int)) := R6.keep _ _ hld (s5 _ _ (R4.keep _ _ hld h3))
    walk_at "rd"
    refine Rd.rd_append h6 (by rw [List.length_map]; exact Nat.lt_of_le_of_lt (show ns.length ≤ 100 by omega) (by decide)) ?_
    walk_at "rd"
    refine ⟨ns ++ [n], _, rfl, ?_, ?_, ?_, by rw [List.length_append, hn]; rfl⟩
    · exact (((R3.trans R4).same s5).trans R6).mut hl hld
    · rw [upd_same, List.map_append]; rfl
    · intro c hc'
      rcases List.mem_append.mp hc' with e | e
      · exact hc c e
      · rw [List.mem_singleton.mp e]; exact ⟨hn0, hn1⟩
  · rintro σ H3 ⟨ns, o, rfl, R3, h3, hc, hn⟩
    walk_at "rd"
    refine Rd.rd_tupleL (SqL.of h3) fun q H4 hq s4 h4 => ?_
    walk_at "rd"
    refine Rd.rd_mkTup (by show 1 ≤ sizeLine; decide) fun z H5 hz s5 h5 => ?_
    walk_at "rd"
    refine Rd.rd_mkLst (by show 4 ≤ sizeLine; decide) fun m H6 hm s6 h6 => ?_
    walk_at "rd"
    have R6 : Rolled d H H6 := ((R3.same s4).same s5).same s6
    refine rd_one R6.dice (((R3.same s4).same s5).dice.ne hm) (SqL.of h6) (by show 0 < 4; decide) (by show 4 < 1000; decide) fun v H7 hv R7 => ?_
    obtain ⟨n, rfl, hn0, hn1⟩ : ∃ n : Int, v = V.int n ∧ 0 ≤ n ∧ n ≤ 2 := by
      simp only [List.mem_cons, List.not_mem_nil, or_false] at hv
      rcases hv with rfl | rfl | rfl | rfl
      all_goals exact ⟨_, rfl, by decide, by decide⟩
    have hz7 : SqT K H7 z [V.int 0] := R7.sqT R6.dice (SqT.of (s6 _ _ h5))
    have hq7 : SqT K H7 q (ns.map V.int) := R7.sqT R6.dice (SqT.of (s6 _ _ (s5 _ _ h4)))
    refine Rd.rd_mulT hz7 (by simp) hn0 (by omega) (by decide) fun z' H8 s8 h8 => ?_
    have e8 : (List.replicate n.toNat [V.int 0]).flatten = (List.replicate n.toNat (0 : Int)).map V.int := by
      rw [List.map_replicate]
      generalize n.toNat = j
      induction j with
      | zero => rfl
      | succ j ih => rw [List.replicate_succ, List.flatten_cons, ih, List.replicate_succ]; rfl
    rw [e8] at h8
    walk_at "rd"
    refine Rd.rd_catA (Rd.Same.sqT s8 hq7) h8 (by rw [List.length_map, List.length_map, List.length_replicate]; exact Rd.small64 (by omega)) fun p H9 s9 h9 => ?_
    rw [← List.map_append] at h9
    refine k p H9 _ (((R6.trans R7).same s8).same s9) h9 ⟨fun c hc' => ?_, ?_⟩
    · rcases List.mem_append.mp hc' with e | e
      · exact hc c e
      · rw [(List.mem_replicate.mp e).2]; exact ⟨by decide, by decide⟩
    · rw [List.length_append, List.length_replicate]; omega
end
end M
set_option Elab.async false
set_option linter.all false
set_option maxRecDepth 100000
set_option maxHeartbeats 4000000
namespace M
open PySem L2
local macro_rules | `(tactic| walk_at "rdc") => `(tactic| first | exact Or.inl ⟨by decide, by decide⟩ | exact Or.inr ⟨by decide, by decide⟩ | exact ⟨by decide, by decide, by decide⟩ | exact ⟨by decide, by decide⟩ | decide | omega | assumption | (refine Or.inl ⟨?_, ?_⟩ <;> omega) | (refine Or.inr ⟨?_, ?_⟩ <;> omega) | (refine ⟨?_, ?_⟩ <;> omega))
local macro_rules | `(tactic| walk_at "rd1") => `(tactic| with_reducible first
  | refine Rd.rd_seq ?_ | refine Rd.rd_asg ?_ | refine Rd.rd_op ?_ | (refine' Rd.rd_var ?vh ?_; (case vh => with_unfolding_all rfl)) | refine Rd.rd_c ?_ | refine Rd.rd_I0 ?_ | refine Rd.rd_name0 ?_ | refine Rd.rd_nameS ?_ | refine Rd.rd_fn ?_
  | refine Rd.rd_cb ?_ | refine Rd.rd_cons ?_ | refine Rd.rd_nil ?_ | refine Rd.rd_int ?_ | refine Rd.rd_intB ?_ | refine Rd.rd_abs ?_ | refine Rd.rd_max2 ?_ | refine Rd.rd_min2 ?_
  | refine Rd.rd_call ?_ | refine Rd.rd_ifE ?_ | refine Rd.rd_test ?_ | refine Rd.rd_tB ?_ | refine Rd.rd_blV ?_ | refine Rd.rd_and ?_ | refine Rd.rd_or ?_ | refine Rd.rd_not ?_
  | refine Rd.rd_andV ?_ | refine Rd.rd_orV ?_ | refine Rd.rd_notV ?_ | refine Rd.rd_next ?_ | refine Rd.rd_ret ?_ | refine Rd.rd_drop ?_ | refine Rd.rd_ifS ?_ | refine Rd.rd_nx ?_ | refine Rd.rd_rt ?_ | refine Rd.rd_tMatch ?_ | refine Rd.rd_tCO ?_ | refine Rd.rd_tRevL ?_ | refine Rd.rd_tStar ?_ | refine Rd.rd_joined ?_ | refine Rd.rd_js1 ?_ | refine Rd.rd_js0 ?_ | refine Rd.rd_fmt ?_ | refine Rd.rd_propR ?_ | refine Rd.rd_iZipA ?_ | refine Rd.rd_iEnumT ?_ | refine Rd.rd_iOwn ?_ | (refine' Rd.rd_IET ?ln ?_; (case ln => with_unfolding_all walk_at "at")) | refine Rd.rd_chain ?_ | refine Rd.rd_tPar ?_ | refine Rd.rd_par ?_ | refine Rd.rd_sl ?_ | refine Rd.rd_noPart ?_ | refine Rd.rd_part ?_ | refine Rd.rd_intV ?_ | refine Rd.rd_lc ?_ | (refine' Rd.rd_aug ?vh ?_; (case vh => with_unfolding_all rfl)) | refine Rd.rd_ipI ?_ | refine Rd.rd_for ?_ | (refine' Rd.rd_IT ?ln ?_; (case ln => with_unfolding_all walk_at "at")) | (refine' Rd.rd_IL ?ln ?_; (case ln => with_unfolding_all walk_at "at")) | refine Rd.rd_iTup ?_ | refine Rd.rd_iList ?_ | refine Rd.rd_iRng1 ?_ | refine Rd.rd_iRng2 ?_ | refine Rd.rd_isi (Rd.isi_int Rd.kk_int_int) ?_ | refine Rd.rd_isi (Rd.isi_int Rd.kk_int_bool) ?_ | refine Rd.rd_dget ?_ | refine Rd.rd_din ?_ | refine Rd.rd_dnotin ?_ | refine Rd.rd_dput ?_ | refine Rd.rd_dc ?_ | refine Rd.rd_lc2 ?_ | refine Rd.rd_ltS ?_ | refine Rd.rd_inSg ?_ | refine Rd.rd_iStr ?_ | refine Rd.rd_IS ?_ | refine Rd.rd_prC ?_ | refine Rd.rd_prN ?_ | refine Rd.rd_methR ?_ | refine Rd.rd_cmeth ?_ | refine Rd.rd_fldS ?_ | refine Rd.rd_fld ?_ | (refine' Rd.rd_mkVS ?vh ?_; (case vh => with_unfolding_all rfl)) | (refine' Rd.rd_starT ?ln ?_; (case ln => with_unfolding_all walk_at "at")) | refine Rd.rd_iEnum ?_ | refine Rd.rd_iZip ?_ | (refine' Rd.rd_IE ?ln ?_; (case ln => with_unfolding_all walk_at "at")) | (refine' Rd.rd_IZ ?ln ?lm ?_; (case ln => with_unfolding_all walk_at "at"); (case lm => with_unfolding_all walk_at "at")) | (refine' Rd.rd_gTup ?ln ?lk ?_; (case ln => with_unfolding_all walk_at "at"); (case lk => with_unfolding_all rfl)) | refine Rd.rd_gCons ?_ | refine Rd.rd_gNil ?_ | refine Rd.rd_m1 ?_ | refine Rd.rd_strV ?_ | refine Rd.rd_tXiM ?_ | refine Rd.rd_tXiB ?_ | refine Rd.rd_tXiS ?_ | refine Rd.rd_bm ?_ | refine Rd.rd_bm0 ?_ | refine Rd.rd_isN ?_ | refine Rd.rd_notN ?_ | refine Rd.rd_sub ?_ | refine Rd.rd_un ?_ | refine Rd.rd_U ?_
  | (refine' Rd.rd_eq ?sc ?_; (case sc => with_unfolding_all rfl)) | (refine' Rd.rd_ne ?sc ?_; (case sc => with_unfolding_all rfl))
  | (refine' Rd.rd_I ?cc ?_; (case cc => with_unfolding_all walk_at "rdc"))
  | (refine' Rd.rd_lenL ?ln ?_; (case ln => with_unfolding_all walk_at "at")) | (refine' Rd.rd_lenT ?ln ?_; (case ln => with_unfolding_all walk_at "at"))
  | (refine' Rd.rd_ixL ?ln ?ia ?_; (case ln => with_unfolding_all walk_at "at"); (case ia => with_unfolding_all first | exact Rd.at0 | exact Rd.at1 | exact Rd.at2 | exact Rd.at3 | exact Rd.at4 | rfl)) | (refine' Rd.rd_ixT ?ln ?ia ?_; (case ln => with_unfolding_all walk_at "at"); (case ia => with_unfolding_all first | exact Rd.at0 | exact Rd.at1 | exact Rd.at2 | exact Rd.at3 | exact Rd.at4 | rfl)))
local macro_rules | `(tactic| walk_at "at") => `(tactic| first | assumption | (apply SqL.of; assumption) | (apply SqT.of; assumption) | (apply SqL.of; exact upd_same) | (apply SqT.of; exact upd_same))
local macro_rules | `(tactic| walk_at "rd") => `(tactic| repeat walk_at "rd1")
/-! ### the law: all that is refused -/
abbrev s__law_cut : Stmt := top 32
theorem sc__law_cut : FnScope ["_law_some", "_law_found"] ["_law_some"] (defScope s__law_cut) := ⟨rfl, rfl, rfl, by decide +kernel, rfl, by decide +kernel, by decide +kernel⟩
abbrev s__law_right : Stmt := top 36
theorem sc__law_right : FnScope ["_law_dice_here", "_law_some", "_law_thing", "_law_bad", "_law_spot", "_law_odd", "_law_one"] ["_law_dice_here"] (defScope s__law_right) := ⟨rfl, rfl, rfl, by decide +kernel, rfl, by decide +kernel, by decide +kernel⟩
/-- but for the dice at d and the tables all is as it was -/
structure Kept (d : Addr) (H H' : Hp) : Prop where
  keep : ∀ b o, b ≠ d → H b = some o → (∀ ps, o ≠ .tbl ps) → H' b = some o
  dice : Dice H' d
section
variable {K : PySem.W.Frag} {H H' H1 H2 : Hp} {d a : Addr} {xs : List V} {v : V} {T : List (Addr × Str)}
theorem Rolled.kept (r : Rolled d H H') : Kept d H H' := ⟨fun b o hb e _ => r.keep b o hb e, r.dice⟩
theorem Kept.same (k : Kept d H H1) (s : Same H1 H2) : Kept d H H2 := ⟨fun b o hb e n => s _ _ (k.keep b o hb e n), k.dice.same s⟩
theorem Kept.trans (k : Kept d H H1) (k' : Kept d H1 H2) : Kept d H H2 := ⟨fun b o hb e n => k'.keep b o hb (k.keep b o hb e n) n, k'.dice⟩
theorem dice_N (h : Dice H d) (e : LamX.ExtN H H') : Dice H' d := by
  obtain ⟨x, y, z, h⟩ := h
  exact ⟨x, y, z, e _ _ h fun ps q => by cases q⟩
theorem Kept.extN (k : Kept d H H1) (e : LamX.ExtN H1 H2) : Kept d H H2 := ⟨fun b o hb q n => e _ _ (k.keep b o hb q n) n, dice_N k.dice e⟩
theorem tabs_rolled (h : LamX.Tabs T H) (hD : Dice H d) (r : Rolled d H H') : LamX.Tabs T H' := by
  obtain ⟨x, y, z, e⟩ := hD
  exact Rd.tabs_keep h e r.keep
end
def spCut (K : PySem.W.Frag) : Sp := Rd.mkSp (fun (a : Addr × List Int) => [.ref a.1]) fun a H Q _ => (TI K H a.1 a.2 ∨ SqL K H a.1 (a.2.map V.int)) ∧ a.2.length ≤ 1000 ∧ ∀ p H', Same H H' → TI K H' p (trim a.2) → Q (.ref p) H'
section
variable {gd : Bool} {P : Program} {w : World} {K : PySem.W.Frag} {mg : Str → Option Value} {base : Heap}
theorem ok_cut (F : Rd.Has K mg "_law_cut" s__law_cut) (g : Glob mg) : Rd.Fn gd P w K mg base CX0 1 "_law_cut" (spCut K) := by
  refine F.fn sc__law_cut (fun _ => rfl) (fun _ _ _ _ _ _ us hl => match us, hl with | [_], _ => rfl) fun f cdv A outer s H Q E a hr h => ?_
  obtain ⟨a, ns⟩ := a
  obtain ⟨hS, hz, k⟩ := h
  dsimp only at hS hz k
  refine ⟨_, (pss_cons (ps_set (i := 1) sc__law_cut.nd rfl (Or.inl rfl) (pe_callTy Rd.c_list (by rfl) g.list (by decide +kernel) (pa_cons (pv 0) pa_nil)))
      (pss_cons (ps_while PassesOwn.never (PW.pt (pw_and (pt_cmpR (op_neD hr.units) (pv 1) (Rd.pe_lst pa_nil) (nomark _)) (pw_and1 (pt_cmpR op_eq (pe_ix ix_list (pv 1) (pe_un un_neg pe_int) (fun _ _ => rfl)) pe_int (nomark _))))) (pss_one (ps_expr (pe_bm0 PySem.F.plainAttrs_list PySem.F.slot_list_pop PySem.F.type_list_pop mt_pop (pv 1)))))
      (pss_one (ps_ret (pe_callTy Rd.c_tuple (by rfl) g.tuple (by decide +kernel) (pa_cons (pv 1) pa_nil)))))), ?_⟩
  try simp only [Rd.noxK, Rd.cxK]
  refine Rd.rd_start [some (V.ref a), none] rfl ?_
  walk_at "rd"
  have lst_ : ∀ (QQ : VK), (∀ l H', H l = none → Same H H' → H' l = some (.lst (ns.map V.int)) → QQ (.ref l) H') → Rd.rListOf K [V.ref a] H QQ := fun QQ q => by
    rcases hS with hS | hS
    · exact Rd.rd_listT hS q
    · exact Rd.rd_listL hS q
  refine lst_ _ fun l H1 hl s1 h1 => ?_
  walk_at "rd"
  refine Rd.rd_while (fun m σ H' => Same H H' ∧ m ≤ ns.length ∧ σ = [some (V.ref a), some (V.ref l)] ∧ H' l = some (.lst ((ns.take m).map V.int)) ∧ trim ns = trim (ns.take m)) ns.length ⟨s1, Nat.le_refl _, rfl, by rw [List.take_length]; exact h1, by rw [List.take_length]⟩ ?_
  rintro m σ H2 ⟨s2, hm, rfl, h2, ht⟩
  walk_at "rd"
  refine Rd.rd_mkLst (by decide) fun p H3 hp s3 h3 => ?_
  walk_at "rd"
  refine Rd.rd_neD (.lst (SqL.of (s3 _ _ h2)) (Rd.dpI _)) (.lst (SqL.of h3) .nil) (Rd.shLI _) (Rd.shLI []) ?_
  walk_at "rd"
  have fin : trim ns = ns.take m → ∀ H4 : Hp, Same H H4 → H4 l = some (.lst ((ns.take m).map V.int)) → Rd.rTupleOf K [V.ref l] H4 Q := fun e H4 s4 h4 => by
    refine Rd.rd_tupleL (SqL.of h4) fun p H5 _ s5 h5 => k p H5 (s4.trans s5) ?_
    rw [e]
    exact SqT.of h5
  cases m with
  | zero =>
    rw [List.take_zero]
    refine iteF ?_
    refine iteF ?_
    walk_at "rd"
    exact fin (by rw [ht] <;> rfl) H3 (s2.trans s3) (s3 _ _ h2)
  | succ j =>
    have hj : j < ns.length := by omega
    have et := take_succ_last ns j ns[j] (List.getElem?_eq_getElem hj)
    have e1 : (!PyData.eqv (.list ((ns.take (j + 1)).map PyData.int)) (.list [])) = true := by
      rw [et, List.map_append]
      cases (ns.take j).map PyData.int <;> rfl
    rw [e1]
    refine iteT ?_
    walk_at "rd"
    refine Rd.rd_ixL (SqL.of (s3 _ _ h2)) (v := V.int ns[j]) (by rw [et, List.map_append]; exact atI_last _ _) ?_
    walk_at "rd"
    refine ite2 (fun hz0 => ?_) (fun hz0 => ?_)
    · have hz1 : ns[j] = 0 := by simpa using hz0
      refine Rd.rd_turn ?_
      walk_at "rd"
      refine ⟨Rd.tyL (SqL.of (s3 _ _ h2)), Rd.rd_pop (y := V.int ns[j]) (s3 _ _ h2) ?_ ?_⟩
      · rw [et, List.map_append]
        simp
      · walk_at "rd"
        refine ⟨j, by omega, fun b o e => ?_, by omega, rfl, ?_, ?_⟩
        · rw [upd_ne (ne_of_none e hl)]
          exact s3 _ _ (s2 _ _ e)
        · rw [upd_same, et, List.map_append]
          simp
        · rw [ht, et, hz1, trim_zero]
    · have hz1 : ns[j] ≠ 0 := by simpa using hz0
      walk_at "rd"
      exact fin (by rw [ht, et, trim_last _ hz1]) H3 (s2.trans s3) (s3 _ _ h2)
end
theorem ev_co {s : Nat} : ∀ {l : List Int}, Co s l → ev l 1 ≤ l.length * 2 ^ s
  | [], _ => by show (0 : Int) ≤ 0 * _; omega
  | c :: r, h => by
    have i := ev_co (l := r) fun z hz => h z (List.mem_cons_of_mem _ hz)
    have hc := (h c List.mem_cons_self).2
    show ev r 1 * 1 + c ≤ ((r.length + 1 : Nat) : Int) * 2 ^ s
    rw [show ((r.length + 1 : Nat) : Int) = (r.length : Int) + 1 by omega, Int.add_mul]
    omega
theorem nb_draw {ns : List Int} (h : Co 67 ns) (hl : ns.length ≤ 6) : NB 70 6 ns := by
  refine ⟨fun c hc => (h c hc).1, hl, ?_⟩
  have h1 := ev_co h
  have h2 : (ns.length : Int) * 2 ^ 67 ≤ 6 * 2 ^ 67 := Int.mul_le_mul_of_nonneg_right (by omega) (by decide)
  have h3 : (6 : Int) * 2 ^ 67 < 2 ^ 70 := by decide
  omega
section
variable {K : PySem.W.Frag} {C : Addr} {H H' : Hp} {v : V} {d x pe pl pd : Addr} {ns : List Int}
theorem PolyAt.rolled (h : PolyAt K C H x ns) (hD : Dice H d) (r : Rolled d H H') : PolyAt K C H' x ns := by
  obtain ⟨dx, p, h1, h2⟩ := h
  refine ⟨dx, p, r.keep _ _ (fun e => ?_) h1, r.sqT hD h2⟩
  obtain ⟨a, b, c, hd⟩ := hD
  rw [e, hd] at h1
  cases h1
/-- the value that is drawn -/
theorem odd_of (he : SqT K H pe []) (hl : SqL K H pl [.int 1]) (nl : pl ≠ sysModules) (hd : H pd = some (.dK [])) (hv : v ∈ [V.int (-1), V.bl true, V.non, V.str "1", V.ref pe, V.ref pl, V.ref pd, V.int (0 - 10 ^ 30), V.str "n"]) : OddB K H v ∧ ∃ z, Shown K H v z ∧ PyData.strOk ("number " ++ z.shown) = true := by
  simp only [List.mem_cons, List.not_mem_nil, or_false] at hv
  rcases hv with rfl | rfl | rfl | rfl | rfl | rfl | rfl | rfl | rfl
  · exact ⟨.inl ⟨_, rfl, by decide⟩, .int (-1), ⟨.base (.int _), by decide +kernel, by decide +kernel, by decide +kernel⟩, by decide +kernel⟩
  · exact ⟨.inr (.inl ⟨_, rfl⟩), .bool true, ⟨.base (.bl _), by decide +kernel, by decide +kernel, by decide +kernel⟩, by decide +kernel⟩
  · exact ⟨.inr (.inr (.inl rfl)), .none, ⟨.base .non, by decide +kernel, by decide +kernel, by decide +kernel⟩, by decide +kernel⟩
  · exact ⟨.inr (.inr (.inr (.inl ⟨_, rfl⟩))), .str "1", ⟨.base (.str _), by decide +kernel, by decide +kernel, by decide +kernel⟩, by decide +kernel⟩
  · exact ⟨.inr (.inr (.inr (.inr (.inl ⟨_, _, rfl, he⟩)))), .tuple [], ⟨.base (.tup he .nil), by decide +kernel, by decide +kernel, by decide +kernel⟩, by decide +kernel⟩
  · exact ⟨.inr (.inr (.inr (.inr (.inr (.inl ⟨_, _, rfl, hl⟩))))), .list [.int 1], ⟨.lst hl nl (.cons (.base (.int _)) .nil), by decide +kernel, by decide +kernel, by decide +kernel⟩, by decide +kernel⟩
  · exact ⟨.inr (.inr (.inr (.inr (.inr (.inr ⟨_, _, rfl, hd⟩))))), .dict [], ⟨.dic hd .nil, by decide +kernel, by decide +kernel, by decide +kernel⟩, by decide +kernel⟩
  · exact ⟨.inl ⟨_, rfl, by decide⟩, .int (0 - 10 ^ 30), ⟨.base (.int _), by decide +kernel, by decide +kernel, by decide +kernel⟩, by decide +kernel⟩
  · exact ⟨.inr (.inr (.inr (.inl ⟨_, rfl⟩))), .str "n", ⟨.base (.str _), by decide +kernel, by decide +kernel, by decide +kernel⟩, by decide +kernel⟩
end
section
variable {K : PySem.W.Frag} {H H' : Hp} {v : V} {q : Addr} {xs : List V}
theorem same_put {H1 : Hp} {l : Addr} {o : HO} (s : Same H H1) (n : H l = none) : Same H (upd H1 l o) := fun b o' e => by rw [upd_ne (ne_of_none e n)]; exact s _ _ e
theorem OddB.same (h : OddB K H v) (s : Same H H') : OddB K H' v := h.extN (LamX.ExtN.of s)
theorem OddB.el (h : OddB K H v) : (∃ i, v = .int i) ∨ (∀ i, v ≠ .int i) ∧ ∀ H', Same H H' → IsI K H' v false := by
  rcases h.num with ⟨i, e, _⟩ | ⟨n, _⟩
  · exact .inl ⟨i, e⟩
  · refine .inr ⟨n, fun H' s => ?_⟩
    rcases (h.same s).num with ⟨i, e, _⟩ | ⟨_, h⟩
    · exact absurd e (n i)
    · exact h
theorem co_bad (ha : SqT K H q xs) (hz : xs.length ≤ 1000) (hv : OddB K H v) (hin : v ∈ xs) (hall : ∀ u ∈ xs, (∃ i, u = .int i) ∨ u = v) : NoCo K H (.ref q) :=
  .inr ⟨q, xs, rfl, ha, hz, fun u hu => (hall u hu).elim .inl fun e => e ▸ hv.el, v, hin, hv.num⟩
end
theorem can_strs0 : ∀ l : List Str, (∀ x ∈ l, PyData.strOk x = true) → PyData.canLayAll0 (l.map PyData.str) = true ∧ PyData.depthAll (l.map PyData.str) = 0 := by
  intro l
  induction l with
  | nil => exact fun _ => ⟨rfl, rfl⟩
  | cons x r ih =>
    intro h
    obtain ⟨i1, i2⟩ := ih fun y hy => h y (List.mem_cons_of_mem _ hy)
    refine ⟨?_, ?_⟩
    · show (PyData.strOk x && PyData.canLayAll0 (r.map PyData.str)) = true
      rw [h x List.mem_cons_self, i1]; rfl
    · show max 0 (PyData.depthAll (r.map PyData.str)) = 0
      rw [i2]; rfl
theorem can_strsP (l : List Str) (h : ∀ x ∈ l, PyData.strOk x = true) : PyData.canLayAll0 (l.map PyData.str) = true := (can_strs0 l h).1
theorem shaped_strsP (l : List Str) (h : ∀ x ∈ l, PyData.strOk x = true) : SeqAt.shaped (.list (l.map PyData.str)) = true := by
  have c := can_strs0
  obtain ⟨c1, c2⟩ := c l h
  unfold SeqAt.shaped
  rw [show PyData.canLay0 (.list (l.map PyData.str)) = true from c1, show PyData.depth (.list (l.map PyData.str)) = 1 by show PyData.depthAll (l.map PyData.str) + 1 = 1; rw [c2]]
  rfl
theorem pe_toldK {X : Cx} {IO IN fN : Addr} {K : PySem.W.Frag} (eK : X.K = K) {T : List (Addr × Str)} {c P : Addr} {k : Nat} {params : Arguments} {body : Expr} {scope : Scope} {t : XK → TE} {p lpos pos : Pos} (hE : Rd.Has K X.mg "_law_told" s__law_told) (GG : Glob X.mg) (TE : ErrP K X.mg IO IN fN) (hg : Gl X "_law_told")
    (TB : LamX.TabB X.base X.mg c P) (hcode : X.env.code = .ref c) (hmT : (P, X.env.qual ++ "<lambda>") ∈ T) (hu : ∀ p ∈ T, p.1 = P → p.2 = X.env.qual ++ "<lambda>") (hr : Rd.RoomG true (k + 3) X.A) (L : LamX.LamS X.env.scope scope) (hdef : defaultsOf params X.env = ([], []))
    (hbind : ∀ (q : Str) (cl : List (Str × Addr)) (pm cv ctv : Value), bindArgs (PySem.W.kla_fn "<lambda>" q params body scope cl pm cv ctv) ⟨[], []⟩ = pure [])
    (hbody : ∀ (A : Around) (outer : List Env) (s : Shared) (H : Hp) (E : XK) (f c' : Addr), Room (k + 1) (A.deeper (LamX.lamEnv X scope s.heap.objs.size f c')) → PE (LamX.lamCx X A outer s H E scope f c') body (t E)) :
    PE X (.Call (.Name "_law_told" p) [.Lambda params body scope lpos] [] pos) (LamX.tLam T (TTold K IO IN) t) := by
  subst eK
  exact pe_told hE GG TE hg TB hcode hmT hu hr L hdef hbind hbody
def spRight (K : PySem.W.Frag) (TL : List (Addr × Str)) : Sp := Rd.mkSp (fun (d : Addr) => [.ref d]) fun d H Q _ => Dice H d ∧ LamX.Tabs TL H ∧ ∀ H', Kept d H H' → LamX.Tabs TL H' → Q (.bl true) H'
section
variable {P : Program} {w : World} {K : PySem.W.Frag} {mg : Str → Option Value} {base : Heap} {a : Ads} {IO IN fN c Pt : Addr} {TL : List (Addr × Str)}
theorem ok_right (T : PolyC K mg a) (TE : ErrP K mg IO IN fN) (FP : FrnP K a.C) (F : Rd.HasC K mg "_law_right" s__law_right c) (g : Glob mg) (hE : Rd.Has K mg "_law_told" s__law_told) (TB : LamX.TabB base mg c Pt) (mT : (Pt, lamS "_law_right" (defScope s__law_right)) ∈ TL) (uT : ∀ p ∈ TL, p.1 = Pt → p.2 = lamS "_law_right" (defScope s__law_right))
    (c_Polynomial_of : FnR P w K mg base CX0 6 a.fo (spPOf K a.C)) (c_Polynomial_ofX : FnR P w K mg base (L2.CX P w) 6 a.fo (spPOfX K a.C IO)) (c_coef : FnR P w K mg base CX0 1 a.gc (spCoef K a.C)) (c_pow : FnR P w K mg base CX0 7 a.pw (spPPow K a.C)) (c_powX : FnR P w K mg base (L2.CX P w) 7 a.pw (spPPowX IO)) (c_Polynomial_at : FnR P w K mg base (L2.CX P w) 7 a.at_ (spPAtX K a.C IO))
    (c__law_roll : Rd.Fn true P w K mg base CX0 1 "_law_roll" spRoll) (c__law_one_of : Rd.Fn true P w K mg base CX0 2 "_law_one_of" (spOneOf K)) (c__law_coefficients : Rd.Fn true P w K mg base CX0 3 "_law_coefficients" (spDrawC K)) (c__law_cut : Rd.Fn true P w K mg base CX0 1 "_law_cut" (spCut K))
    (c__law_sums_refused : Rd.Fn true P w K mg base CX0 16 "_law_sums_refused" (spSumsR K a.C TL)) (c__law_numbers_refused : Rd.Fn true P w K mg base CX0 16 "_law_numbers_refused" (spNumsR K a.C TL)) :
    Rd.Fn true P w K mg base CX0 17 "_law_right" (spRight K TL) := by
  refine F.fn sc__law_right (fun _ => rfl) (fun _ _ _ _ _ _ us hl => match us, hl with | [_], _ => rfl) fun f A outer s H Q E d hr h => ?_
  obtain ⟨hD, hT, k⟩ := h
  refine ⟨_, (pss_cons (ps_set (i := 1) sc__law_right.nd rfl (Or.inl rfl) (Rd.pe_fn c__law_coefficients (hr.mono (by decide)) (by rfl) (pa_cons (pv 0) pa_nil)))
      (pss_cons (ps_asg (Rd.pe_tup (pa_cons (ClX.pe_cmeth (Rd.pe_glr (by rfl) T.mgC) T.cr T.cm_of c_Polynomial_of (hr.mono (by decide)).toRoom pass0 (pa_cons (pv 1) pa_nil)) (pa_cons (Rd.pe_fn c__law_one_of (hr.mono (by decide)) (by rfl) (pa_cons (pv 0) (pa_cons (Rd.pe_lst (pa_cons (pe_un un_neg pe_int) (pa_cons pe_bl (pa_cons pe_non (pa_cons pe_str (pa_cons (Rd.pe_tup pa_nil) (pa_cons (Rd.pe_lstN (pa_cons pe_int pa_nil)) (pa_cons pe_dnewK (pa_cons (pe_op op_sub pe_int (pe_op op_pow pe_int pe_int)) (pa_cons pe_str pa_nil)))))))))) pa_nil))) pa_nil))) (pg_tup rfl (pgs_cons (pg_name (i := 2) sc__law_right.nd rfl (Or.inr rfl)) (pgs_cons (pg_name (i := 3) sc__law_right.nd rfl (Or.inl rfl)) pgs_nil))))
      (pss_cons (ps_set (i := 4) sc__law_right.nd rfl (Or.inl rfl) (Rd.pe_fn c__law_roll (hr.mono (by decide)) (by rfl) (pa_cons (pv 0) (pa_cons (pe_op op_add (pe_callB Rd.c_len (by rfl) g.len (by decide +kernel) (pa_cons (pv 1) pa_nil)) pe_int) pa_nil))))
      (pss_cons (ps_set (i := 5) sc__law_right.nd rfl (Or.inl rfl) (Rd.pe_lst (pa_cons (pe_op op_catA (pe_op op_catA (pe_slice sl_tupA (pv 1) po_none (po_some (pv 4))) (Rd.pe_tup (pa_cons (pv 3) pa_nil))) (pe_slice sl_tupA (pv 1) (po_some (pv 4)) po_none)) (pa_cons (pe_callTy Rd.c_list (by rfl) g.list (by decide +kernel) (pa_cons (pv 1) pa_nil)) (pa_cons pe_non (pa_cons pe_int (pa_cons pe_str (pa_cons pe_dnewK (pa_cons (pe_disp (pps_cons pe_int pe_int pps_nil) (by rfl) (by rfl) (fun z => by cases z) (by decide)) (pa_cons (Rd.pe_tup (pa_cons (pv 1) pa_nil)) (pa_cons (pv 2) pa_nil)))))))))))
      (pss_cons (ps_if (pt_cmpR (op_neD hr.units) (pe_lc (own := [("_law_one", 6)]) (by rfl) sc__law_right.nd (pi_list (pv 5)) (blkOk_by (own := [("_law_one", 6)]) (N := ["_law_dice_here", "_law_some", "_law_thing", "_law_bad", "_law_spot", "_law_odd", "_law_one"]) (sc := defScope s__law_right) (by decide +kernel)) (fun _ _ _ _ _ => (pg_name (i := 6) sc__law_right.nd rfl (Or.inr rfl))) (fun _ _ _ _ _ => (pts_one (pt_cmpR op_ne (pe_toldK (K := K) rfl (T := TL) (k := 12) hE g TE (by rfl) TB rfl mT uT (hr.mono (by decide)) (LamX.lamS_by (by kernel_rfl)) rfl (fun _ _ _ _ _ => rfl) (fun A outer s H E f c hr2 => (ClX.pe_cmeth (Rd.pe_glr (by rfl) T.mgC) T.cr T.cm_of c_Polynomial_ofX (hr2.mono (by decide)) (passes_call (takes_of rfl rfl rfl rfl) fun _ _ _ _ h => h) (pa_cons (pv 6) pa_nil)))) pe_str (nomark _)))) (fun _ _ _ _ _ => (pv 6))) (Rd.pe_lst pa_nil) (nomark _)) (pss_one (ps_ret pe_bl)) pss_nil)
      (pss_cons (ps_if (PW.pt (pw_or (pt_cmpR (op_neD hr.units) (Rd.pe_fn c__law_sums_refused (hr.mono (by decide)) (by rfl) (pa_cons (pv 2) (pa_cons (pv 3) pa_nil))) (pe_op op_rep (Rd.pe_lst (pa_cons pe_str pa_nil)) pe_int) (nomark _)) (pw_or1 (pt_cmpR op_ne (pe_toldK (K := K) rfl (T := TL) (k := 12) hE g TE (by rfl) TB rfl mT uT (hr.mono (by decide)) (LamX.lamS_by (by kernel_rfl)) rfl (fun _ _ _ _ _ => rfl) (fun A outer s H E f c hr2 => (pe_methR (pv 2) T.cl T.m_at c_Polynomial_at (hr2.mono (by decide)) (passes_call (takes_of rfl rfl rfl rfl) fun _ _ _ _ h => h) (pa_cons pe_int pa_nil)))) pe_str (nomark _))))) (pss_one (ps_ret pe_bl)) pss_nil)
      (pss_cons (ps_if (pt_cmpR (op_neD hr.units) (Rd.pe_fn c__law_numbers_refused (hr.mono (by decide)) (by rfl) (pa_cons (pv 2) (pa_cons (pv 3) pa_nil))) (pe_op op_rep (Rd.pe_lst (pa_cons (pe_op op_add_str pe_str (pe_callB (Rd.c_reprV hr.gd hr.units) (by rfl) g.repr (by decide +kernel) (pa_cons (pv 3) pa_nil))) pa_nil)) pe_int) (nomark _)) (pss_one (ps_ret pe_bl)) pss_nil)
      (pss_cons (ps_if (pt_cmpR op_ne (pe_toldK (K := K) rfl (T := TL) (k := 12) hE g TE (by rfl) TB rfl mT uT (hr.mono (by decide)) (LamX.lamS_by (by kernel_rfl)) rfl (fun _ _ _ _ _ => rfl) (fun A outer s H E f c hr2 => (pe_op (Rd.op_own (op := .Pow) (C := a.C) (sp := spPPowX IO) (E := E) (k := 7) T.lp c_powX (hr2.mono (by decide)) (passes_call (takes_of rfl rfl rfl rfl) fun _ _ _ _ h => h)) (pv 2) pe_int))) pe_str (nomark _)) (pss_one (ps_ret pe_bl)) pss_nil)
      (pss_cons (ps_if (pt_cmpR op_ne (pe_toldK (K := K) rfl (T := TL) (k := 12) hE g TE (by rfl) TB rfl mT uT (hr.mono (by decide)) (LamX.lamS_by (by kernel_rfl)) rfl (fun _ _ _ _ _ => rfl) (fun A outer s H E f c hr2 => (pe_op (Rd.op_own (op := .Pow) (C := a.C) (sp := spPPowX IO) (E := E) (k := 7) T.lp c_powX (hr2.mono (by decide)) (passes_call (takes_of rfl rfl rfl rfl) fun _ _ _ _ h => h)) (pv 2) pe_int))) pe_str (nomark _)) (pss_one (ps_ret pe_bl)) pss_nil)
      (pss_cons (ps_if (pt_cmpR op_ne (pe_toldK (K := K) rfl (T := TL) (k := 12) hE g TE (by rfl) TB rfl mT uT (hr.mono (by decide)) (LamX.lamS_by (by kernel_rfl)) rfl (fun _ _ _ _ _ => rfl) (fun A outer s H E f c hr2 => (pe_op (Rd.op_own (op := .Pow) (C := a.C) (sp := spPPow K a.C) (E := E0) (k := 7) T.lp c_pow (hr2.mono (by decide)) pass0) (pv 2) pe_int))) pe_str (nomark _)) (pss_one (ps_ret pe_bl)) pss_nil)
      (pss_one (ps_ret (pe_cmpR (op_eqD hr.units) (Rd.pe_propR (pv 2) T.cl T.pr_c c_coef (hr.mono (by decide)).toRoom pass0) (Rd.pe_fn c__law_cut (hr.mono (by decide)) (by rfl) (pa_cons (pv 1) pa_nil)) (nomark _)))))))))))))), ?_⟩
  try simp only [Rd.noxK, Rd.cxK]
  refine Rd.rd_start [some (V.ref d), none, none, none, none, none, none] rfl ?_
  walk_at "rd"
  refine Rd.rd_sp d rfl ⟨hD, fun p H1 ns R1 hS hco => ?_⟩
  obtain ⟨hco, hlen⟩ := hco
  have nb := nb_draw hco hlen
  have D1 := R1.dice
  have T1 := tabs_rolled hT hD R1
  walk_at "rd"
  refine ⟨rfl, ?_⟩
  walk_at "rd"
  refine Rd.rd_sp (p, ns) rfl ⟨hS, nb.nn, by show ns.length ≤ 1000; omega, fun x H2 s2 hx => ?_⟩
  walk_at "rd"
  refine Rd.rd_mkTup (by show 0 ≤ sizeLine; decide) fun pe H3 n3 s3 h3 => ?_
  walk_at "rd"
  refine Rd.rd_mkLstN (by show 1 ≤ sizeLine; decide) fun pl H4 n4 nsys s4 h4 => ?_
  walk_at "rd"
  refine Rd.rd_dnew fun pd H5 n5 s5 h5 => ?_
  walk_at "rd"
  refine Rd.rd_mkLst (by show 9 ≤ sizeLine; decide) fun l6 H6 n6 s6 h6 => ?_
  have s26 := ((s3.trans s4).trans s5).trans s6
  have D5 := D1.same (((s2.trans s3).trans s4).trans s5)
  have D6 := D5.same s6
  walk_at "rd"
  refine rd_one D6 (D5.ne n6) (SqL.of h6) (by show 0 < 9; decide) (by show 9 < 1000; decide) fun v H7 hv R7 => ?_
  walk_at "rd"
  refine Rd.rd_mkTup (by show 2 ≤ sizeLine; decide) fun p8 H8 n8 s8 h8 => ?_
  refine Rd.rd_gTup (SqT.of h8) rfl ?_
  walk_at "rd"
  have hS6 : SqT K H6 p (ns.map V.int) := Rd.Same.sqT (s2.trans s26) hS
  have hS8 : SqT K H8 p (ns.map V.int) := Rd.Same.sqT s8 (R7.sqT D6 hS6)
  have hx8 : PolyAt K a.C H8 x (trim ns) := ((hx.same s26).rolled D6 R7).same s8
  have D8 := R7.dice.same s8
  have T8 : LamX.Tabs TL H8 := Rd.tabs_same (tabs_rolled (Rd.tabs_same T1 (s2.trans s26)) D6 R7) s8
  have K8 : Kept d H H8 := (R1.kept.same (s2.trans s26)).trans (R7.kept.same s8)
  refine Rd.rd_lenT hS8 ?_
  rw [List.length_map]
  walk_at "rd"
  refine rd_roll D8 (by omega) (by omega) fun r H9 r0 r1 R9 => ?_
  have D9 := R9.dice
  have hS9 : SqT K H9 p (ns.map V.int) := R9.sqT D8 hS8
  have hx9 := hx8.rolled D8 R9
  have T9 := tabs_rolled T8 D8 R9
  have K9 : Kept d H H9 := K8.trans R9.kept
  have kp : ∀ b o, b ≠ d → H6 b = some o → H9 b = some o := fun b o hb e => R9.keep b o hb (s8 _ _ (R7.keep b o hb e))
  have nd : ∀ b o, H5 b = some o → b ≠ d → H9 b = some o := fun b o e hb => kp b o hb (s6 _ _ e)
  obtain ⟨ov9, z, sh9, zok⟩ : OddB K H9 v ∧ ∃ z, Shown K H9 v z ∧ PyData.strOk ("number " ++ z.shown) = true := by
    refine odd_of (pe := pe) (pl := pl) (pd := pd) (SqT.of (nd _ _ ((s4.trans s5) _ _ h3) ?_)) (SqL.of (nd _ _ (s5 _ _ h4) ?_)) nsys (nd _ _ h5 ?_) hv
    · exact (D1.same s2).ne n3
    · exact (D1.same (s2.trans s3)).ne n4
    · exact (D1.same ((s2.trans s3).trans s4)).ne n5
  clear h3 h4 h5 h6 h8 hv kp nd
  walk_at "rd"
  refine Rd.rd_cut hS9 fun q10 H10 s10 h10 => ?_
  walk_at "rd"
  refine Rd.rd_mkTup (by show 1 ≤ sizeLine; decide) fun q11 H11 n11 s11 h11 => ?_
  have hS11 : SqT K H11 p (ns.map V.int) := Rd.Same.sqT (s10.trans s11) hS9
  have lz : ∀ lo hi, (cutV (ns.map V.int) lo hi).length ≤ 6 := fun lo hi => by
    unfold cutV
    rw [List.length_take, List.length_drop, List.length_map]
    omega
  refine Rd.rd_catA (Rd.Same.sqT s11 h10) (SqT.of h11) (by have := lz none (some r); simp only [List.length_cons, List.length_nil]; exact Rd.small64 (by omega)) fun q12 H12 s12 h12 => ?_
  walk_at "rd"
  refine Rd.rd_cut (Rd.Same.sqT s12 hS11) fun q13 H13 s13 h13 => ?_
  refine Rd.rd_catA (Rd.Same.sqT s13 h12) h13 (by have := lz none (some r); have := lz (some r) none; simp only [List.length_append, List.length_cons, List.length_nil]; exact Rd.small64 (by omega)) fun q14 H14 s14 h14 => ?_
  walk_at "rd"
  have hS14 : SqT K H14 p (ns.map V.int) := Rd.Same.sqT ((s12.trans s13).trans s14) hS11
  refine Rd.rd_listT hS14 fun l15 H15 n15 s15 h15 => ?_
  walk_at "rd"
  refine Rd.rd_dnew fun m16 H16 n16 s16 h16 => ?_
  walk_at "rd"
  refine Rd.rd_disp fun m17 n17 => ?_
  refine Rd.rd_prC ?_
  walk_at "rd"
  refine ⟨upd_same, [(Sum.inl 0, .int 1)], rfl, by show 1 ≤ 15; decide, ?_⟩
  have s17 : Same H16 (upd (upd H16 m17 (.dK [])) m17 (.dK (mergeK [] [((Sum.inl 0 : Key), V.int 1)]))) := same_put (Rd.same_new n17) n17
  have h17 : (upd (upd H16 m17 (.dK [])) m17 (.dK (mergeK [] [((Sum.inl 0 : Key), V.int 1)]))) m17 = some (.dK (mergeK [] [((Sum.inl 0 : Key), V.int 1)])) := upd_same
  generalize upd (upd H16 m17 (.dK [])) m17 (.dK (mergeK [] [((Sum.inl 0 : Key), V.int 1)])) = H17 at s17 h17 ⊢
  walk_at "rd"
  refine Rd.rd_mkTup (by show 1 ≤ sizeLine; decide) fun q18 H18 n18 s18 h18 => ?_
  walk_at "rd"
  refine Rd.rd_mkLst (by show 9 ≤ sizeLine; decide) fun l19 H19 n19 s19 h19 => ?_
  have s149 := ((((s15.trans s16).trans s17).trans s18).trans s19)
  have s919 := ((((s10.trans s11).trans s12).trans s13).trans s14).trans s149
  have hS19 : SqT K H19 p (ns.map V.int) := Rd.Same.sqT s149 hS14
  have hx19 := hx9.same s919
  have ov19 := ov9.same s919
  have sh19 := sh9.extN (LamX.ExtN.of s919)
  have T19 := Rd.tabs_same T9 s919
  have K19 := K9.same s919
  have h14' := Rd.Same.sqT s149 h14
  have h15' := SqL.of (K := K) ((((s16.trans s17).trans s18).trans s19) _ _ h15)
  have h16' := ((s17.trans s18).trans s19) _ _ h16
  have h17' := (s18.trans s19) _ _ h17
  have h18' := SqT.of (K := K) (s19 _ _ h18)
  have h19' := SqL.of (K := K) h19
  walk_at "rd"
  refine Rd.lc_noL (K := K) (fun D H' => LamX.ExtN H19 H' ∧ LamX.Tabs TL H' ∧ H' D = some (.lst [])) (fun D H' hP => Rd.sqL_N hP.1 h19') (fun D nD => ⟨LamX.ExtN.of (Rd.same_new nD), Rd.tabs_same T19 (Rd.same_new nD), upd_same⟩) (fun i u D H20 N M hu nD hP hN => ?_) (fun D H20 nD hP => ?_)
  · obtain ⟨x20, T20, d20⟩ := hP
    refine Rd.rd_start' [some (V.ref d), some (V.ref p), some (V.ref x), some v, some (V.int r), some (V.ref l19), none] rfl ?_
    walk_at "rd"
    refine ⟨rfl, ?_⟩
    walk_at "rd"
    refine rd_told T20 fun H21 x21 T21 => ?_
    have X21 := x20.trans x21
    have bad : NoCo K H21 u := by
      have hm := List.mem_of_getElem? hu
      simp only [List.mem_cons, List.not_mem_nil, or_false] at hm
      rcases hm with rfl | rfl | rfl | rfl | rfl | rfl | rfl | rfl | rfl
      · refine co_bad (v := v) (Rd.sqT_N X21 h14') ?_ (ov19.extN X21) (by simp) (fun u hu => ?_)
        · have := lz none (some r)
          have := lz (some r) none
          simp only [List.length_append, List.length_cons, List.length_nil]
          omega
        · have im : ∀ lo hi, u ∈ cutV (ns.map V.int) lo hi → ∃ i, u = V.int i := fun lo hi h => by
            obtain ⟨i, _, e⟩ := List.mem_map.mp (Rd.cut_mem h)
            exact ⟨i, e.symm⟩
          rcases List.mem_append.mp hu with h | h
          · rcases List.mem_append.mp h with h | h
            · exact .inl (im _ _ h)
            · exact .inr (List.mem_singleton.mp h)
          · exact .inl (im _ _ h)
      · exact .inl (Rd.isi_lst (Rd.sqL_N X21 h15') (by decide +kernel))
      · exact .inl (Rd.isi_non (by decide +kernel))
      · exact .inl (Rd.isi_int (by decide +kernel))
      · exact .inl (Rd.isi_str (by decide +kernel))
      · exact .inl (Rd.isi_dK (X21 _ _ h16' fun ps z => by cases z) (by decide +kernel))
      · exact .inl (Rd.isi_dK (X21 _ _ h17' fun ps z => by cases z) (by decide +kernel))
      · exact co_bad (v := V.ref p) (Rd.sqT_N X21 h18') (by show 1 ≤ 1000; decide) (.inr (.inr (.inr (.inr (.inl ⟨_, _, rfl, Rd.sqT_N X21 hS19⟩))))) (by simp) (fun u hu => .inr (List.mem_singleton.mp hu))
      · exact .inl ⟨_, T.ty (hx19.extN X21), FP.tp⟩
    walk_at "rd"
    refine ⟨rfl, ?_⟩
    walk_at "rd"
    refine Rd.rd_sp u rfl ⟨bad, fun H22 s22 => .inl ⟨rfl, ?_⟩⟩
    walk_at "rd"
    exact hN _ ⟨X21.trans (LamX.ExtN.of s22), Rd.tabs_same T21 s22, s22 _ _ (x21 _ _ d20 fun ps z => by cases z)⟩
  obtain ⟨x20, T20, d20⟩ := hP
  walk_at "rd"
  refine Rd.rd_mkLst (by show 0 ≤ sizeLine; decide) fun e21 H21 n21 s21 h21 => ?_
  walk_at "rd"
  refine Rd.rd_neD (.lst (SqL.of (s21 _ _ d20)) .nil) (.lst (SqL.of h21) .nil) rfl rfl ?_
  refine ⟨false, rfl, ?_⟩
  walk_at "rd"
  have X21 := x20.trans (LamX.ExtN.of s21)
  have T21 := Rd.tabs_same T20 s21
  refine Rd.if_f rfl ?_
  walk_at "rd"
  refine Rd.rd_sp (x, v, trim ns) rfl ⟨hx19.extN X21, ov19.extN X21, T21, fun r22 H22 x22 T22 h22 => ?_⟩
  have X22 := X21.trans x22
  walk_at "rd"
  refine Rd.rd_mkLst (by show 1 ≤ sizeLine; decide) fun l23 H23 n23 s23 h23 => ?_
  walk_at "rd"
  refine Rd.rd_rep h23 (by decide) (by decide) (by show 1 ≤ 1000; decide) fun l24 H24 n24 s24 h24 => ?_
  refine Rd.rd_neD (d := .list (List.replicate 5 (.str "operation"))) (e := .list (List.replicate 5 (.str "operation"))) (.lst (SqL.of ((s23.trans s24) _ _ h22)) (.cons (.str _) (.cons (.str _) (.cons (.str _) (.cons (.str _) (.cons (.str _) .nil)))))) (.lst (SqL.of h24) (.cons (.str _) (.cons (.str _) (.cons (.str _) (.cons (.str _) (.cons (.str _) .nil)))))) (by decide +kernel) (by decide +kernel) ?_
  rw [show (!PyData.eqv (.list (List.replicate 5 (.str "operation"))) (.list (List.replicate 5 (.str "operation")))) = false from by decide +kernel]
  have X24 := X22.trans (LamX.ExtN.of (s23.trans s24))
  have T24 := Rd.tabs_same T22 (s23.trans s24)
  refine ⟨false, rfl, ?_⟩
  refine Rd.if_f rfl ?_
  walk_at "rd"
  refine told_at T24 rfl (fun H R q => q) (hx19.extN X24) (fun H' e => ⟨_, .base (.int 3), T.i2⟩) fun H25 x25 T25 => ?_
  have X25 := X24.trans x25
  walk_at "rd"
  refine Rd.if_f rfl ?_
  walk_at "rd"
  refine Rd.rd_sp (x, v, trim ns, z) rfl ⟨hx19.extN X25, ov19.extN X25, sh19.extN X25, T25, fun r26 H26 x26 T26 h26 => ?_⟩
  have X26 := X25.trans x26
  have sh26 := sh19.extN X26
  walk_at "rd"
  refine Rd.rd_reprV sh26.1 sh26.2.1 sh26.2.2.1 (by have := sh26.2.2.2; omega) ⟨_, _, rfl, rfl, ?_, ?_⟩
  · have := sh26.2.2.2
    have : ("number " : Str).length = 7 := by decide +kernel
    omega
  walk_at "rd"
  refine Rd.rd_mkLst (by show 1 ≤ sizeLine; decide) fun l27 H27 n27 s27 h27 => ?_
  walk_at "rd"
  refine Rd.rd_rep h27 (by decide) (by decide) (by show 1 ≤ 1000; decide) fun l28 H28 n28 s28 h28 => ?_
  refine Rd.rd_neD (d := .list (List.replicate 3 (.str ("number " ++ z.shown)))) (e := .list (List.replicate 3 (.str ("number " ++ z.shown)))) (.lst (SqL.of ((s27.trans s28) _ _ h26)) (.cons (.str _) (.cons (.str _) (.cons (.str _) .nil)))) (.lst (SqL.of h28) (.cons (.str _) (.cons (.str _) (.cons (.str _) .nil)))) ?_ ?_ ?_
  · exact shaped_strsP [_, _, _] (by intro y hy; simp only [List.mem_cons, List.not_mem_nil, or_false, or_self] at hy; subst hy; exact zok)
  · exact shaped_strsP [_, _, _] (by intro y hy; simp only [List.mem_cons, List.not_mem_nil, or_false, or_self] at hy; subst hy; exact zok)
  rw [SeqAt.eqv_refl (.list (List.replicate 3 (.str ("number " ++ z.shown)))) (can_strsP [_, _, _] (by intro y hy; simp only [List.mem_cons, List.not_mem_nil, or_false, or_self] at hy; subst hy; exact zok))]
  have X27 := X26.trans (LamX.ExtN.of (s27.trans s28))
  have T27 := Rd.tabs_same T26 (s27.trans s28)
  refine ⟨false, rfl, ?_⟩
  refine Rd.if_f rfl ?_
  walk_at "rd"
  refine rd_told T27 fun H31 x31 T31 => ?_
  have X31 := X27.trans x31
  walk_at "rd"
  refine ⟨?_, .inr ⟨_, rfl⟩, Rd.rd_sp (x, (21 : Int)) rfl ⟨show (20 : Int) < 21 by decide, fun H32 s32 => .inl ⟨rfl, ?_⟩⟩⟩
  · obtain ⟨dx, fs, e⟩ := (hx19.extN X31).ins
    exact ⟨x, dx, fs, rfl, e⟩
  have X32 := X31.trans (LamX.ExtN.of s32)
  have T32 := Rd.tabs_same T31 s32
  walk_at "rd"
  refine Rd.if_f rfl ?_
  walk_at "rd"
  refine rd_told T32 fun H33 x33 T33 => ?_
  have X33 := X32.trans x33
  walk_at "rd"
  refine ⟨?_, .inr ⟨_, rfl⟩, Rd.rd_sp (x, (64 : Int)) rfl ⟨show (20 : Int) < 64 by decide, fun H34 s34 => .inl ⟨rfl, ?_⟩⟩⟩
  · obtain ⟨dx, fs, e⟩ := (hx19.extN X33).ins
    exact ⟨x, dx, fs, rfl, e⟩
  have X34 := X33.trans (LamX.ExtN.of s34)
  have T34 := Rd.tabs_same T33 s34
  walk_at "rd"
  refine Rd.if_f rfl ?_
  walk_at "rd"
  refine rd_told T34 fun H35 x35 T35 => ?_
  have X35 := X34.trans x35
  walk_at "rd"
  refine rd_ppow (k := 20) (hx19.extN X35) nb.trim (by decide) ⟨by decide, by decide⟩ fun y H36 s36 _ => ?_
  have X36 := X35.trans (LamX.ExtN.of s36)
  have T36 := Rd.tabs_same T35 s36
  walk_at "rd"
  refine Rd.if_f rfl ?_
  walk_at "rd"
  have px := hx19.extN X36
  have hS36 : SqT K H36 p (ns.map V.int) := Rd.sqT_N X36 hS19
  refine pp_ px ?_
  refine Rd.rd_sp (x, trim ns) rfl ⟨px, fun p' hp' => ?_⟩
  walk_at "rd"
  refine Rd.rd_sp (p, ns) rfl ⟨.inl hS36, by show ns.length ≤ 1000; omega, fun q' H37 s37 h37 => ?_⟩
  walk_at "rd"
  refine Rd.rd_eqD (.tup (Rd.Same.sqT s37 hp') (Rd.dpI (trim ns))) (.tup h37 (Rd.dpI (trim ns))) (Rd.shTI _) (Rd.shTI _) ?_
  rw [SeqAt.eqv_refl (.tuple ((trim ns).map PyData.int)) (Rd.canI _)]
  exact k _ ((K19.extN X36).same s37) (Rd.tabs_same T36 s37)
end
end M
set_option Elab.async false
set_option linter.all false
set_option maxRecDepth 100000
set_option maxHeartbeats 4000000
namespace M
open PySem L2
local macro_rules | `(tactic| walk_at "rdc") => `(tactic| first | exact Or.inl ⟨by decide, by decide⟩ | exact Or.inr ⟨by decide, by decide⟩ | exact ⟨by decide, by decide, by decide⟩ | exact ⟨by decide, by decide⟩ | decide | omega | assumption | (refine Or.inl ⟨?_, ?_⟩ <;> omega) | (refine Or.inr ⟨?_, ?_⟩ <;> omega) | (refine ⟨?_, ?_⟩ <;> omega))
local macro_rules | `(tactic| walk_at "rd1") => `(tactic| with_reducible first
  | refine Rd.rd_seq ?_ | refine Rd.rd_asg ?_ | refine Rd.rd_op ?_ | (refine' Rd.rd_var ?vh ?_; (case vh => with_unfolding_all rfl)) | refine Rd.rd_c ?_ | refine Rd.rd_I0 ?_ | refine Rd.rd_name0 ?_ | refine Rd.rd_nameS ?_ | refine Rd.rd_fn ?_
  | refine Rd.rd_cb ?_ | refine Rd.rd_cons ?_ | refine Rd.rd_nil ?_ | refine Rd.rd_int ?_ | refine Rd.rd_intB ?_ | refine Rd.rd_abs ?_ | refine Rd.rd_max2 ?_ | refine Rd.rd_min2 ?_
  | refine Rd.rd_call ?_ | refine Rd.rd_ifE ?_ | refine Rd.rd_test ?_ | refine Rd.rd_tB ?_ | refine Rd.rd_blV ?_ | refine Rd.rd_and ?_ | refine Rd.rd_or ?_ | refine Rd.rd_not ?_
  | refine Rd.rd_andV ?_ | refine Rd.rd_orV ?_ | refine Rd.rd_notV ?_ | refine Rd.rd_next ?_ | refine Rd.rd_ret ?_ | refine Rd.rd_drop ?_ | refine Rd.rd_ifS ?_ | refine Rd.rd_nx ?_ | refine Rd.rd_rt ?_ | refine Rd.rd_tMatch ?_ | refine Rd.rd_tCO ?_ | refine Rd.rd_tRevL ?_ | refine Rd.rd_tStar ?_ | refine Rd.rd_joined ?_ | refine Rd.rd_js1 ?_ | refine Rd.rd_js0 ?_ | refine Rd.rd_fmt ?_ | refine Rd.rd_propR ?_ | refine Rd.rd_iZipA ?_ | refine Rd.rd_iEnumT ?_ | refine Rd.rd_iOwn ?_ | (refine' Rd.rd_IET ?ln ?_; (case ln => with_unfolding_all walk_at "at")) | refine Rd.rd_chain ?_ | refine Rd.rd_tPar ?_ | refine Rd.rd_par ?_ | refine Rd.rd_sl ?_ | refine Rd.rd_noPart ?_ | refine Rd.rd_part ?_ | refine Rd.rd_intV ?_ | refine Rd.rd_lc ?_ | (refine' Rd.rd_aug ?vh ?_; (case vh => with_unfolding_all rfl)) | refine Rd.rd_ipI ?_ | refine Rd.rd_for ?_ | (refine' Rd.rd_IT ?ln ?_; (case ln => with_unfolding_all walk_at "at")) | (refine' Rd.rd_IL ?ln ?_; (case ln => with_unfolding_all walk_at "at")) | refine Rd.rd_iTup ?_ | refine Rd.rd_iList ?_ | refine Rd.rd_iRng1 ?_ | refine Rd.rd_iRng2 ?_ | refine Rd.rd_isi (Rd.isi_int Rd.kk_int_int) ?_ | refine Rd.rd_isi (Rd.isi_int Rd.kk_int_bool) ?_ | refine Rd.rd_dget ?_ | refine Rd.rd_din ?_ | refine Rd.rd_dnotin ?_ | refine Rd.rd_dput ?_ | refine Rd.rd_dc ?_ | refine Rd.rd_lc2 ?_ | refine Rd.rd_ltS ?_ | refine Rd.rd_inSg ?_ | refine Rd.rd_iStr ?_ | refine Rd.rd_IS ?_ | refine Rd.rd_prC ?_ | refine Rd.rd_prN ?_ | refine Rd.rd_methR ?_ | refine Rd.rd_cmeth ?_ | refine Rd.rd_fldS ?_ | refine Rd.rd_fld ?_ | (refine' Rd.rd_mkVS ?vh ?_; (case vh => with_unfolding_all rfl)) | (refine' Rd.rd_starT ?ln ?_; (case ln => with_unfolding_all walk_at "at")) | refine Rd.rd_iEnum ?_ | refine Rd.rd_iZip ?_ | (refine' Rd.rd_IE ?ln ?_; (case ln => with_unfolding_all walk_at "at")) | (refine' Rd.rd_IZ ?ln ?lm ?_; (case ln => with_unfolding_all walk_at "at"); (case lm => with_unfolding_all walk_at "at")) | (refine' Rd.rd_gTup ?ln ?lk ?_; (case ln => with_unfolding_all walk_at "at"); (case lk => with_unfolding_all rfl)) | refine Rd.rd_gCons ?_ | refine Rd.rd_gNil ?_ | refine Rd.rd_m1 ?_ | refine Rd.rd_strV ?_ | refine Rd.rd_tXiM ?_ | refine Rd.rd_tXiB ?_ | refine Rd.rd_tXiS ?_ | refine Rd.rd_bm ?_ | refine Rd.rd_bm0 ?_ | refine Rd.rd_isN ?_ | refine Rd.rd_notN ?_ | refine Rd.rd_sub ?_ | refine Rd.rd_un ?_ | refine Rd.rd_U ?_
  | (refine' Rd.rd_eq ?sc ?_; (case sc => with_unfolding_all rfl)) | (refine' Rd.rd_ne ?sc ?_; (case sc => with_unfolding_all rfl))
  | (refine' Rd.rd_I ?cc ?_; (case cc => with_unfolding_all walk_at "rdc"))
  | (refine' Rd.rd_lenL ?ln ?_; (case ln => with_unfolding_all walk_at "at")) | (refine' Rd.rd_lenT ?ln ?_; (case ln => with_unfolding_all walk_at "at"))
  | (refine' Rd.rd_ixL ?ln ?ia ?_; (case ln => with_unfolding_all walk_at "at"); (case ia => with_unfolding_all first | exact Rd.at0 | exact Rd.at1 | exact Rd.at2 | exact Rd.at3 | exact Rd.at4 | rfl)) | (refine' Rd.rd_ixT ?ln ?ia ?_; (case ln => with_unfolding_all walk_at "at"); (case ia => with_unfolding_all first | exact Rd.at0 | exact Rd.at1 | exact Rd.at2 | exact Rd.at3 | exact Rd.at4 | rfl)))
local macro_rules | `(tactic| walk_at "at") => `(tactic| first | assumption | (apply SqL.of; assumption) | (apply SqT.of; assumption) | (apply SqL.of; exact upd_same) | (apply SqT.of; exact upd_same))
local macro_rules | `(tactic| walk_at "rd") => `(tactic| repeat walk_at "rd1")
/-! ### the law -/
abbrev s_law : Stmt := top 37
theorem sc_law : FnScope ["_law_script", "_law_at", "_law_dice_here", "_law_turn", "_law_found"] ["_law_script"] (defScope s_law) := ⟨rfl, rfl, rfl, by decide +kernel, rfl, by decide +kernel, by decide +kernel⟩
def spLaw (K : PySem.W.Frag) (TL : List (Addr × Str)) : Sp := Rd.mkSp (fun (a : Addr × List Int) => [.ref a.1]) fun a H Q _ => SqL K H a.1 (a.2.map V.int) ∧ a.2.length ≤ 63 ∧ LamX.Tabs TL H ∧ ∀ H', Q (.bl true) H'
section
variable {K : PySem.W.Frag} {C IO IN : Addr} {T : List (Addr × Str)} {σ : L2.St} {H : Hp} {Q : VK} {v : V} {vs : List V}
/-- Polynomial(..) is refused -/
theorem told_make {ta : TA} (hT : LamX.Tabs T H) (ha : ∀ H1 (R : List V → Hp → Prop), (∀ vs v H2, Same H1 H2 → vs.length ≤ 1000 → OddB K H2 v → v ∈ vs → (∀ u ∈ vs, (∃ i, u = .int i) ∨ u = v) → R vs H2) → ta σ H1 R) (q : ∀ H', LamX.ExtN H H' → LamX.Tabs T H' → Q (.str "operation") H') :
    LamX.tLam T (TTold K IO IN) (fun E => tCB (Rd.rMake C (Rd.spStar 1 (spPInitX K C IO)) E) ta) σ H Q := by
  refine rd_told hT fun H0 x0 T0 => ?_
  refine Rd.rd_cb (ha _ _ fun vs v H1 s1 hz hv hin hall => ?_)
  have x1 := x0.trans (LamX.ExtN.of s1)
  have T1 := Rd.tabs_same T0 s1
  intro x dx hx hdx hne
  have s0 : Same H1 (upd (upd H1 dx (.own x)) x (.ins C dx [])) := fun b o e => by rw [upd_ne (ne_of_none e hx), upd_ne (ne_of_none e hdx)]; exact e
  refine ⟨[.ref x], vs, rfl, rfl, Rd.small64 (by omega), fun p H2 hp s2 h2 => ?_⟩
  have s02 := s0.trans s2
  refine Rd.rd_sp (x, p) rfl ⟨co_bad (v := v) (SqT.of h2) hz (hv.same s02) hin hall, fun H3 s3 => .inl ⟨rfl, ?_⟩⟩
  exact q H3 (x1.trans (LamX.ExtN.of (s02.trans s3))) (Rd.tabs_same T1 (s02.trans s3))
end
section
variable {P : Program} {w : World} {K : PySem.W.Frag} {mg : Str → Option Value} {base : Heap} {a : Ads} {IO IN fN c Pt : Addr} {TL : List (Addr × Str)}
theorem ok_law (T : PolyC K mg a) (TE : ErrP K mg IO IN fN) (F : Rd.HasC K mg "law" s_law c) (g : Glob mg) (hE : Rd.Has K mg "_law_told" s__law_told) (TB : LamX.TabB base mg c Pt) (mT : (Pt, lamS "law" (defScope s_law)) ∈ TL) (uT : ∀ p ∈ TL, p.1 = Pt → p.2 = lamS "law" (defScope s_law))
    (c_PolynomialX : FnR P w K mg base (L2.CX P w) 4 a.fi (Rd.spStar 1 (spPInitX K a.C IO))) (c__law_dice : Rd.Fn true P w K mg base CX0 1 "_law_dice" (spDice K)) (c__law_right : Rd.Fn true P w K mg base CX0 17 "_law_right" (spRight K TL)) :
    Rd.Fn true P w K mg base CX0 18 "law" (spLaw K TL) := by
  refine F.fn sc_law (fun _ => rfl) (fun _ _ _ _ _ _ us hl => match us, hl with | [_], _ => rfl) fun f A outer s H Q E b hr h => ?_
  obtain ⟨b, ns⟩ := b
  obtain ⟨hS, hl, hT, k⟩ := h
  dsimp only at hS hl
  refine ⟨_, (pss_cons (ps_for PassesOwn.never rfl (pi_range1 (by rfl) g.range (pa_cons (pe_callB (Rd.c_max2 rfl) (by rfl) g.max (by decide +kernel) (pa_cons pe_int (pa_cons (pe_callB (Rd.c_min2 rfl) (by rfl) g.min (by decide +kernel) (pa_cons pe_int (pa_cons (pe_callB Rd.c_len (by rfl) g.len (by decide +kernel) (pa_cons (pv 0) pa_nil)) pa_nil))) pa_nil))) pa_nil)) (pg_name (i := 1) sc_law.nd rfl (Or.inl rfl)) (pss_cons (ps_set (i := 2) sc_law.nd rfl (Or.inl rfl) (Rd.pe_fn c__law_dice (hr.mono (by decide)) (by rfl) (pa_cons (pv 0) (pa_cons (pv 1) pa_nil))))
      (pss_one (ps_for PassesOwn.never rfl (pi_range1 (by rfl) g.range (pa_cons pe_int pa_nil)) (pg_name (i := 3) sc_law.nd rfl (Or.inl rfl)) (pss_one (ps_if (pt_not (pt_val (Rd.pe_fn c__law_right (hr.mono (by decide)) (by rfl) (pa_cons (pv 2) pa_nil)))) (pss_one (ps_ret pe_bl)) pss_nil))))))
      (pss_cons (ps_set (i := 4) sc_law.nd rfl (Or.inl rfl) (Rd.pe_lst (pa_cons (pe_toldK (K := K) rfl (T := TL) (k := 12) hE g TE (by rfl) TB rfl mT uT (hr.mono (by decide)) (LamX.lamS_by (by kernel_rfl)) rfl (fun _ _ _ _ _ => rfl) (fun A outer s H E f c hr2 => (Rd.pe_mk T.mk_ c_PolynomialX (hr2.mono (by decide)) (by rfl) T.mgC (passes_call (takes_of rfl rfl rfl rfl) fun _ _ _ _ h => h) (pa_cons pe_int (pa_cons (pe_un un_neg pe_int) pa_nil))))) pa_nil)))
      (pss_cons (ps_expr (pe_bm PySem.F.plainAttrs_list PySem.F.slot_list_append PySem.F.type_list_append mt_append (pv 4) (pa_cons (pe_toldK (K := K) rfl (T := TL) (k := 12) hE g TE (by rfl) TB rfl mT uT (hr.mono (by decide)) (LamX.lamS_by (by kernel_rfl)) rfl (fun _ _ _ _ _ => rfl) (fun A outer s H E f c hr2 => (Rd.pe_mk T.mk_ c_PolynomialX (hr2.mono (by decide)) (by rfl) T.mgC (passes_call (takes_of rfl rfl rfl rfl) fun _ _ _ _ h => h) (pa_cons (Rd.pe_tup (pa_cons pe_int (pa_cons pe_int pa_nil))) pa_nil)))) pa_nil)))
      (pss_cons (ps_expr (pe_bm PySem.F.plainAttrs_list PySem.F.slot_list_append PySem.F.type_list_append mt_append (pv 4) (pa_cons (pe_toldK (K := K) rfl (T := TL) (k := 12) hE g TE (by rfl) TB rfl mT uT (hr.mono (by decide)) (LamX.lamS_by (by kernel_rfl)) rfl (fun _ _ _ _ _ => rfl) (fun A outer s H E f c hr2 => (Rd.pe_mk T.mk_ c_PolynomialX (hr2.mono (by decide)) (by rfl) T.mgC (passes_call (takes_of rfl rfl rfl rfl) fun _ _ _ _ h => h) (pa_cons pe_bl pa_nil)))) pa_nil)))
      (pss_one (ps_ret (pe_cmpR (op_eqD hr.units) (pv 4) (pe_op op_rep (Rd.pe_lst (pa_cons pe_str pa_nil)) pe_int) (nomark _)))))))), ?_⟩
  try simp only [Rd.noxK, Rd.cxK]
  refine Rd.rd_start [some (V.ref b), none, none, none, none] rfl ?_
  walk_at "rd"
  refine Rd.rd_IR1 (by simp only [List.length_map]; split <;> (try split) <;> omega) (by simp only [List.length_map]; split <;> (try split) <;> omega) ?_
  refine Rd.for_range (fun i σ H' => LamX.ExtN H H' ∧ LamX.Tabs TL H' ∧ ∃ o1 o2 o3, σ = [some (V.ref b), o1, o2, o3, none]) ⟨LamX.ExtN.refl H, hT, _, _, _, rfl⟩ ?_ ?_
  · rintro i σ H1 hi ⟨x1, T1, o1, o2, o3, rfl⟩
    walk_at "rd"
    refine Rd.rd_sp (b, ns, i) (by simp) ⟨Rd.sqL_N x1 hS, fun p H2 n2 s2 D2 => ?_⟩
    walk_at "rd"
    refine Rd.rd_IR1 (by decide) (by decide) ?_
    refine Rd.for_range (fun j σ H' => LamX.ExtN H1 H' ∧ Dice H' p ∧ LamX.Tabs TL H' ∧ ∃ o1 o3, σ = [some (V.ref b), o1, some (V.ref p), o3, none]) ⟨Rd.extN_same s2, D2, Rd.tabs_same T1 s2, _, _, rfl⟩ ?_ ?_
    · rintro j σ H3 hj ⟨x3, D3, T3, o1, o3, rfl⟩
      walk_at "rd"
      refine Rd.rd_sp p rfl ⟨D3, T3, fun H4 k4 T4 => ?_⟩
      walk_at "rd"
      refine Rd.if_f rfl ?_
      walk_at "rd"
      exact ⟨fun b o e n => k4.keep b o (ne_of_none e n2) (x3 b o e n) n, k4.dice, T4, _, _, rfl⟩
    · rintro σ H3 ⟨x3, D3, T3, o1, o3, rfl⟩
      walk_at "rd"
      exact ⟨x1.trans x3, T3, _, _, _, rfl⟩
  · rintro σ H1 ⟨x1, T1, o1, o2, o3, rfl⟩
    clear hS hT x1
    walk_at "rd"
    refine told_make T1 (fun H R q => ?_) fun J1 x1 T1' => ?_
    · walk_at "rd"
      exact q _ (V.int (-1)) H (Same.refl _) (by show 2 ≤ 1000; decide) (.inl ⟨_, rfl, by decide⟩) (by simp) (by intro u hu; simp only [List.mem_cons, List.not_mem_nil, or_false] at hu; rcases hu with rfl | rfl <;> exact .inl ⟨_, rfl⟩)
    walk_at "rd"
    refine Rd.rd_mkLst (by show 1 ≤ sizeLine; decide) fun l G1 n1 s1 h1 => ?_
    have X1 : LamX.ExtN J1 G1 := LamX.ExtN.of s1
    have Y1 := Rd.tabs_same T1' s1
    have nl : ∀ b o, J1 b = some o → (∀ ps, o ≠ .tbl ps) → b ≠ l := fun b o e n => ne_of_none e n1
    walk_at "rd"
    refine ⟨Rd.tyL (SqL.of h1), ?_⟩
    walk_at "rd"
    refine told_make Y1 (fun H R q => ?_) fun J2 x2 T2 => ?_
    · walk_at "rd"
      refine Rd.rd_mkTup (by show 2 ≤ sizeLine; decide) fun p H2 np s2 h2 => ?_
      exact q _ (V.ref p) H2 s2 (by show 1 ≤ 1000; decide) (.inr (.inr (.inr (.inr (.inl ⟨_, _, rfl, SqT.of h2⟩))))) (by simp) (fun u hu => .inr (List.mem_singleton.mp hu))
    walk_at "rd"
    have g2 := x2 _ _ h1 fun ps z => by cases z
    refine Rd.rd_append g2 (by show 1 < sizeLine; decide) ?_
    obtain ⟨_, Y2, h2⟩ := lst_put (H1 := G1) (ys := [(V.str "operation")] ++ [(V.str "operation")]) nl (X1.trans x2) T2 g2
    have X2 : LamX.ExtN J1 (upd J2 l (.lst ([(V.str "operation")] ++ [(V.str "operation")]))) := (lst_put (H1 := G1) (ys := [(V.str "operation")] ++ [(V.str "operation")]) nl (X1.trans x2) T2 g2).1
    generalize upd J2 l (.lst ([(V.str "operation")] ++ [(V.str "operation")])) = G2 at X2 Y2 h2 ⊢
    walk_at "rd"
    refine ⟨Rd.tyL (SqL.of h2), ?_⟩
    walk_at "rd"
    refine told_make Y2 (fun H R q => ?_) fun J3 x3 T3 => ?_
    · walk_at "rd"
      exact q _ (V.bl false) H (Same.refl _) (by show 1 ≤ 1000; decide) (.inr (.inl ⟨_, rfl⟩)) (by simp) (fun u hu => .inr (List.mem_singleton.mp hu))
    walk_at "rd"
    have g3 := x3 _ _ h2 fun ps z => by cases z
    refine Rd.rd_append g3 (by show 2 < sizeLine; decide) ?_
    obtain ⟨_, Y3, h3⟩ := lst_put (H1 := G1) (ys := ([(V.str "operation")] ++ [(V.str "operation")]) ++ [(V.str "operation")]) nl (X2.trans x3) T3 g3
    have X3 : LamX.ExtN J1 (upd J3 l (.lst (([(V.str "operation")] ++ [(V.str "operation")]) ++ [(V.str "operation")]))) := (lst_put (H1 := G1) (ys := ([(V.str "operation")] ++ [(V.str "operation")]) ++ [(V.str "operation")]) nl (X2.trans x3) T3 g3).1
    generalize upd J3 l (.lst (([(V.str "operation")] ++ [(V.str "operation")]) ++ [(V.str "operation")])) = G3 at X3 Y3 h3 ⊢
    walk_at "rd"
    refine Rd.rd_mkLst (by show 1 ≤ sizeLine; decide) fun l4 G4 n4 s4 h4 => ?_
    walk_at "rd"
    refine Rd.rd_rep h4 (by decide) (by decide) (by show 1 ≤ 1000; decide) fun l5 G5 n5 s5 h5 => ?_
    refine Rd.rd_eqD (d := .list (List.replicate 3 (.str "operation"))) (e := .list (List.replicate 3 (.str "operation"))) (.lst (SqL.of ((s4.trans s5) _ _ h3)) (.cons (.str _) (.cons (.str _) (.cons (.str _) .nil)))) (.lst (SqL.of h5) (.cons (.str _) (.cons (.str _) (.cons (.str _) .nil)))) (by decide +kernel) (by decide +kernel) ?_
    rw [show PyData.eqv (.list (List.replicate 3 (.str "operation"))) (.list (List.replicate 3 (.str "operation"))) = true from by decide +kernel]
    exact k _
end
end M
set_option Elab.async false
set_option linter.all false
set_option maxRecDepth 100000
set_option maxHeartbeats 4000000
/-! Hd: a head's Hook: defs by where they stand, and one Bool of one's own over what the names reach. -/
namespace Hd
open PySem PySem.Spec PyProof.Rows L2
def obsM (ex : PySem.W.Frag → Bool) (fn : List He5.DefA) (K : PySem.W.Frag) : He.AlD := (ex K && fn.all fun d => d.ok K, fn.map fun d => He5.fnA K (d.at_ K))
def SaysM (ex : PySem.W.Frag → Bool) (fn : List He5.DefA) (K : PySem.W.Frag) : Prop := obsM ex fn K = He5.valA fn
def obsMG (n : Nat) (ex : PySem.W.Frag → Bool) (fn : List He5.DefA) (g : Addr → Option Obj) : He.AlD := obsM ex fn (He.frG g (He5.asA g n))
def hookM (n : Nat) (ex : PySem.W.Frag → Bool) (fn : List He5.DefA) : PySem.W.Hook where
  α := He.AlD
  obs := fun s => obsMG n ex fn s.heap.get?
  val := fun _ => He5.valA fn
  says := fun _ h => ∃ K : PySem.W.Frag, K.In h ∧ SaysM ex fn K
  of := fun _ _ e => ⟨_, He.frG_in, e⟩
  keeps := fun _ _ _ ⟨K, hK, c⟩ k => ⟨K, PySem.W.Frag.In.keeps hK k, c⟩
theorem obsMG_eq {n : Nat} {ex : PySem.W.Frag → Bool} {fn : List He5.DefA} {g : Addr → Option Obj} {s : Shared} (h : ∀ a, g a = s.heap.get? a) : obsMG n ex fn g = (hookM n ex fn).obs s := by
  have e : g = s.heap.get? := funext h
  rw [e] <;> rfl
section
variable {ex : PySem.W.Frag → Bool} {fn : List He5.DefA} {K : PySem.W.Frag}
theorem SaysM.fact (c : SaysM ex fn K) : ex K = true := (He.ba (show (ex K && fn.all fun d => d.ok K) = true from congrArg (fun z : He.AlD => z.1) c)).1
theorem SaysM.def_ (c : SaysM ex fn K) (i : Nat) {d : He5.DefA} (h : fn[i]? = some d := by rfl) : ∃ fd, L2.FunD K d.name d.qual d.params d.body d.scope (d.dvs K) (d.kws K) (d.at_ K) fd := by
  have c2 := (He.ba (show (ex K && fn.all fun d => d.ok K) = true from congrArg (fun z : He.AlD => z.1) c)).2
  have e : fn.map (fun d => He5.fnA K (d.at_ K)) = fn.map He5.DefA.val := congrArg (fun z : He.AlD => z.2) c
  have e2 : (fn.map fun d => He5.fnA K (d.at_ K))[i]? = (fn.map He5.DefA.val)[i]? := by rw [e]
  rw [List.getElem?_map, List.getElem?_map, h] at e2
  exact He5.DefA.funD (Option.some.inj e2) (List.all_eq_true.mp c2 d (List.mem_of_getElem? h))
end
end Hd
set_option Elab.async false
set_option linter.all false
set_option maxRecDepth 100000
set_option maxHeartbeats 4000000
/-! Ht: a head's Hook that also knows the code objects of some defs and their tables, which are empty. -/
namespace Hd
open PySem PySem.Spec PyProof.Rows L2
def codeAt (K : PySem.W.Frag) (x : Str) : Addr := match Rd.codeOf K (He.ga K x) with
  | .ref c => c
  | _ => 0
def tabAt (K : PySem.W.Frag) (x : Str) : Addr := match K.lookup (codeAt K x) with
  | some ⟨_, _, .fields vs, _⟩ => (match vs.getD 11 Value.none with
    | Value.ref P => P
    | _ => 0)
  | _ => 0
def isS : Value → Bool
  | .str _ _ => true
  | _ => false
def isI : Value → Bool
  | .int _ _ => true
  | _ => false
def isB : Value → Bool
  | .bool _ => true
  | _ => false
theorem isS_ok {v : Value} (h : isS v = true) : ∃ z t, v = .str z t := by cases v <;> first | exact ⟨_, _, rfl⟩ | cases h
theorem isI_ok {v : Value} (h : isI v = true) : ∃ z t, v = .int z t := by cases v <;> first | exact ⟨_, _, rfl⟩ | cases h
theorem isB_ok {v : Value} (h : isB v = true) : ∃ z, v = .bool z := by cases v <;> first | exact ⟨_, rfl⟩ | cases h
def codeB (K : PySem.W.Frag) (x : Str) : Bool := decide (Rd.codeOf K (He.ga K x) = .ref (codeAt K x)) && (match K.lookup (codeAt K x) with
  | some ⟨cls, _, .fields vs, _⟩ => decide (cls = .type "code") && (decide (vs[11]? = some (.ref (tabAt K x))) && (isS (vs.getD 18 .none) && (isI (vs.getD 7 .none) && (isB (vs.getD 9 .none) && (isI (vs.getD 10 .none) && !decide (codeAt K x = tabAt K x))))))
  | _ => false)
theorem codeB_ok {K : PySem.W.Frag} {h : Heap} {x : Str} (X : K.In h) (c : codeB K x = true) : Rd.codeOf K (He.ga K x) = .ref (codeAt K x) ∧ PySem.W.CodeHd h (codeAt K x) (tabAt K x) := by
  obtain ⟨c1, c2⟩ := He.ba c
  refine ⟨of_decide_eq_true c1, ?_⟩
  split at c2
  · rename_i cls dd vs sl hlk
    obtain ⟨e1, c3⟩ := He.ba c2
    obtain ⟨e2, c4⟩ := He.ba c3
    obtain ⟨e3, c5⟩ := He.ba c4
    obtain ⟨e4, c6⟩ := He.ba c5
    obtain ⟨e5, c7⟩ := He.ba c6
    obtain ⟨e6, e7⟩ := He.ba c7
    obtain ⟨f, tf, q3⟩ := isS_ok e3
    obtain ⟨fl, tg, q4⟩ := isI_ok e4
    obtain ⟨b, q5⟩ := isB_ok e5
    obtain ⟨tx, tt, q6⟩ := isI_ok e6
    have q2 := of_decide_eq_true e2
    have q2' : vs.getD 11 .none = .ref (tabAt K x) := by
      rw [Array.getD_eq_getD_getElem?, q2]; rfl
    exact ⟨_, vs, f, tf, fl, tg, b, tx, tt, X _ _ hlk, of_decide_eq_true e1, rfl, q2, q2', q3, q4, q5, q6, of_decide_eq_false (by simpa using e7)⟩
  · cases c2
def tabB (g : Addr → Option Obj) (a : Addr) : Bool := match g a with
  | some ⟨cls, dd, .fields vs, sl⟩ => decide (cls = .none) && (dd.isNone && (vs.toList.isEmpty && sl.toList.isEmpty))
  | _ => false
theorem tabB_ok {g : Addr → Option Obj} {a : Addr} (c : tabB g a = true) : g a = some Rd.tab0 := by
  unfold tabB at c
  split at c
  · rename_i cls dd vs sl e
    obtain ⟨e1, c2⟩ := He.ba c
    obtain ⟨e2, c3⟩ := He.ba c2
    obtain ⟨e3, e4⟩ := He.ba c3
    obtain rfl := of_decide_eq_true e1
    obtain ⟨vs⟩ := vs
    obtain ⟨sl⟩ := sl
    cases dd with
    | some _ => cases e2
    | none =>
      cases vs with
      | cons _ _ => cases e3
      | nil => cases sl with
        | cons _ _ => cases e4
        | nil => exact e
  · cases c
def tabsB (xs : List Str) (K : PySem.W.Frag) (g : Addr → Option Obj) : Bool := xs.all fun x => codeB K x && ((K.lookup (tabAt K x)).isNone && tabB g (tabAt K x))
/-- what the names reach, but for the tables -/
def asT (xs : List Str) (g : Addr → Option Obj) (n : Nat) : List Addr := (He5.asA g n).filter fun a => !((xs.map (tabAt (He.frG g (He5.asA g n)))).contains a)
def obsT (xs : List Str) (n : Nat) (ex : PySem.W.Frag → Bool) (fn : List He5.DefA) (g : Addr → Option Obj) : He.AlD := ((obsM ex fn (He.frG g (asT xs g n))).1 && tabsB xs (He.frG g (asT xs g n)) g, (obsM ex fn (He.frG g (asT xs g n))).2)
/-- what is known of the defs xs -/
def SaysT (xs : List Str) (K : PySem.W.Frag) (h : Heap) : Prop := ∀ x ∈ xs, codeB K x = true ∧ K.lookup (tabAt K x) = none ∧ h.get? (tabAt K x) = some Rd.tab0
def hookT (xs : List Str) (n : Nat) (ex : PySem.W.Frag → Bool) (fn : List He5.DefA) : PySem.W.Hook where
  α := He.AlD
  obs := fun s => obsT xs n ex fn s.heap.get?
  val := fun _ => He5.valA fn
  says := fun _ h => ∃ K : PySem.W.Frag, K.In h ∧ SaysM ex fn K ∧ SaysT xs K h
  of := fun w s e => by
    have e1 : ((obsM ex fn (He.frG s.heap.get? (asT xs s.heap.get? n))).1 && tabsB xs (He.frG s.heap.get? (asT xs s.heap.get? n)) s.heap.get?) = true := (congrArg (fun z : He.AlD => z.1) e).trans rfl
    obtain ⟨a1, a2⟩ := He.ba e1
    refine ⟨He.frG s.heap.get? (asT xs s.heap.get? n), He.frG_in, ?_, fun x hx => ?_⟩
    · show obsM ex fn (He.frG s.heap.get? (asT xs s.heap.get? n)) = He5.valA fn
      have e2 : (obsM ex fn (He.frG s.heap.get? (asT xs s.heap.get? n))).2 = (He5.valA fn).2 := by
        have e3 := congrArg (fun z : He.AlD => z.2) e
        exact e3
      refine Prod.ext ?_ e2
      rw [a1]
      have e4 := congrArg (fun z : He.AlD => z.1) e
      exact e1.symm.trans e4
    · obtain ⟨b1, b2⟩ := He.ba (List.all_eq_true.mp a2 x hx)
      obtain ⟨b3, b4⟩ := He.ba b2
      exact ⟨b1, Option.isNone_iff_eq_none.mp b3, tabB_ok b4⟩
  keeps := fun _ _ _ ⟨K, hK, c, t⟩ k => ⟨K, PySem.W.Frag.In.keeps hK k, c, fun x hx => ⟨(t x hx).1, (t x hx).2.1, k _ _ (t x hx).2.2⟩⟩
theorem obsT_eq {xs : List Str} {n : Nat} {ex : PySem.W.Frag → Bool} {fn : List He5.DefA} {g : Addr → Option Obj} {s : Shared} (h : ∀ a, g a = s.heap.get? a) : obsT xs n ex fn g = (hookT xs n ex fn).obs s := by
  have e : g = s.heap.get? := funext h
  rw [e] <;> rfl
end Hd
set_option Elab.async false
set_option linter.all false
set_option maxRecDepth 100000
set_option maxHeartbeats 0
namespace M
open PySem L2
/-! ### the head: facts by names -/
def dF (x : Str) (st : Stmt) : He5.DefA := ⟨fun K => He.ga K x, x, x, defArgs st, defBody st, defScope st, [], []⟩
def dM (C m qual : Str) (st : Stmt) : He5.DefA := ⟨fun K => He.ma K (He.ga K C) m, m, qual, defArgs st, defBody st, defScope st, [], []⟩
def dC (C m qual : Str) (st : Stmt) : He5.DefA := ⟨fun K => He5.wf K (He.ga K C) "classmethod" m, m, qual, defArgs st, defBody st, defScope st, [], []⟩
section
variable {K : PySem.W.Frag} {h : Heap} {mg : Str → Option Value} {ex : PySem.W.Frag → Bool} {fn : List He5.DefA}
theorem keep_of {x q : Str} {ps : Arguments} {b : List Stmt} {sc : Scope} {ds : List V} {ks : List (Str × V)} {f : Addr} {fd : FuncData} (F : L2.FunD K x q ps b sc ds ks f fd) : PySem.W.keepIn K (.ref f) = true := by
  obtain ⟨oc, od, dV, kV, doc, pm, an, cdv, ct, osl, e, lk, _⟩ := F.ex
  unfold PySem.W.keepIn
  dsimp only
  rw [lk]
theorem has_of (X : K.In h) (G : h.Ns mainGlobals mg) (c : Hd.SaysM ex fn K) (i : Nat) {x : Str} {st : Stmt} (hi : fn[i]? = some (dF x st)) (hg : (He.Fa.glo x).ok K = true) : Rd.Has K mg x st := by
  obtain ⟨fd, F⟩ := c.def_ i hi
  exact ⟨He.ga K x, ⟨fd, F⟩, He.glo_ok X G hg, keep_of F⟩
theorem hasM_of (c : Hd.SaysM ex fn K) (i : Nat) {C m qual : Str} {st : Stmt} (hi : fn[i]? = some (dM C m qual st)) : Rd.HasAt K (He.ma K (He.ga K C) m) m qual st := by
  obtain ⟨fd, F⟩ := c.def_ i hi
  exact ⟨fd, F⟩
theorem hasC_of (c : Hd.SaysM ex fn K) (i : Nat) {C m qual : Str} {st : Stmt} (hi : fn[i]? = some (dC C m qual st)) : Rd.HasAt K (He5.wf K (He.ga K C) "classmethod" m) m qual st := by
  obtain ⟨fd, F⟩ := c.def_ i hi
  exact ⟨fd, F⟩
/-- attributes of the class x are read off it -/
def readB (K : PySem.W.Frag) (x : Str) : Bool := PySem.W.readsIn K (He.ga K x) (.type "type") && He.eqO (PySem.W.specialIn K (.ref (He.ga K x)) "__getattribute__") (some (some (.builtin "type.__getattribute__")))
theorem read_ok {x : Str} (h : readB K x = true) : ClX.CRead K (He.ga K x) (.type "type") := by
  obtain ⟨h1, h2⟩ := He.ba h
  exact ⟨h1, He.eqO_ok h2⟩
/-- x.m is a class method -/
def cmetB (K : PySem.W.Frag) (x m : Str) : Bool := He5.wrapB K (He.ga K x) "classmethod" "classmethod.__get__" m && PySem.W.fnIn K (He5.wf K (He.ga K x) "classmethod" m)
theorem cmet_ok {x m : Str} (h : cmetB K x m = true) : ClX.CMet K (He.ga K x) (.type "type") m (He.ma K (He.ga K x) m) (He5.wf K (He.ga K x) "classmethod" m) := by
  obtain ⟨h1, h2⟩ := He.ba h
  exact He5.cmet_of h1 h2
end
/-! ### the class Polynomial, by names -/
def dP (C m qual : Str) (st : Stmt) : He5.DefA := ⟨fun K => He5.wf K (He.ga K C) "property" m, m, qual, defArgs st, defBody st, defScope st, [], []⟩
def aP (K : PySem.W.Frag) : Ads where
  C := He.ga K "Polynomial"
  fi := He.ma K (He.ga K "Polynomial") "__init__"
  fo := He5.wf K (He.ga K "Polynomial") "classmethod" "of"
  po := He.ma K (He.ga K "Polynomial") "of"
  rc := He.ma K (He.ga K "Polynomial") "reach"
  at_ := He.ma K (He.ga K "Polynomial") "at"
  cl := He.ma K (He.ga K "Polynomial") "__call__"
  ad := He.ma K (He.ga K "Polynomial") "__add__"
  ra := He.ma K (He.ga K "Polynomial") "__radd__"
  mu := He.ma K (He.ga K "Polynomial") "__mul__"
  rm := He.ma K (He.ga K "Polynomial") "__rmul__"
  pw := He.ma K (He.ga K "Polynomial") "__pow__"
  eq := He.ma K (He.ga K "Polynomial") "__eq__"
  st := He.ma K (He.ga K "Polynomial") "__str__"
  pc := He.ma K (He.ga K "Polynomial") "coefficients"
  gc := He5.wf K (He.ga K "Polynomial") "property" "coefficients"
  pd := He.ma K (He.ga K "Polynomial") "degree"
  gg := He5.wf K (He.ga K "Polynomial") "property" "degree"
def propB (K : PySem.W.Frag) (C : Addr) (m : Str) : Bool := He.eqO (PySem.W.findIn K (.ref C) m) (some (some (.ref (He.ma K C m)))) && (He.eqO (PySem.W.specialIn K (.ref (He.ma K C m)) "__get__") (some (some (.builtin "property.__get__"))) && (decide (PySem.W.takesIn K (.ref (He.ma K C m)) = some true) && (match PySem.W.recIn K (He.ma K C m) "property" with
  | some (.ref _ :: _) => true
  | _ => false)))
def lhsB (K : PySem.W.Frag) (C f : Addr) (nm : String) : Bool := PySem.W.selfFirst K C && (He.eqO (PySem.W.findIn K (.ref C) (PySem.dunder nm)) (some (some (.ref f))) && (PySem.W.isFn K (.ref f) && ((PySem.W.findIn K (.type "int") (PySem.dunder nm)).isSome && ((PySem.W.findIn K (.type "int") (PySem.dunderR nm)).isSome && decide (PySem.W.subIn K (.type "int") (.ref C) = some false)))))
def rhsB (K : PySem.W.Frag) (C fr : Addr) (nm : String) : Bool := He.eqO (PySem.W.findIn K (.ref C) (PySem.dunderR nm)) (some (some (.ref fr))) && (PySem.W.isFn K (.ref fr) && decide (PySem.W.subIn K (.ref C) (.type "int") = some false))
def eqB (K : PySem.W.Frag) (C f : Addr) : Bool := He.eqO (PySem.W.findIn K (.ref C) "__eq__") (some (some (.ref f))) && (PySem.W.isFn K (.ref f) && (He.eqO (PySem.W.findIn K (.ref C) "__ne__") (some (some (.builtin "object.__ne__"))) && decide (PySem.W.mroIn K C (.type "object") = some true)))
def callB (K : PySem.W.Frag) (C g : Addr) : Bool := He.eqO (PySem.W.findIn K (.ref C) "__call__") (some (some (.ref g))) && (PySem.W.isFn K (.ref g) && PySem.W.fnIn K g)
def objB (K : PySem.W.Frag) (C : Addr) : Bool := He.eqO (PySem.W.findIn K (.ref C) "__class__") (some (some (.builtin "object.__class__"))) && (He.eqO (PySem.W.specialIn K (.builtin "object.__class__") "__get__") (some (some (.builtin "getset_descriptor.__get__"))) && (decide (PySem.W.takesIn K (.builtin "object.__class__") = some true) && (decide (PySem.W.mroIn K C (.type "object") = some true) && (decide (PySem.W.kitOne K (.ref C) (.ref C) = some true) && decide (PySem.W.kitOne K (.type "int") (.ref C) = some false)))))
def strB (K : PySem.W.Frag) (C f : Addr) : Bool := He.eqO (PySem.W.findIn K (.ref C) "__str__") (some (some (.ref f))) && PySem.W.isFn K (.ref f)
def polyB (K : PySem.W.Frag) : Bool := [readB K "Polynomial", cmetB K "Polynomial" "of", propB K (aP K).C "coefficients", propB K (aP K).C "degree", lhsB K (aP K).C (aP K).ad "add", rhsB K (aP K).C (aP K).ra "add", lhsB K (aP K).C (aP K).mu "mul", rhsB K (aP K).C (aP K).rm "mul", lhsB K (aP K).C (aP K).pw "pow", He.eqO (PySem.W.findIn K (.ref (aP K).C) (PySem.dunderR "pow")) (some none), eqB K (aP K).C (aP K).eq, callB K (aP K).C (aP K).cl, objB K (aP K).C, strB K (aP K).C (aP K).st].all id
def polyFa : List He.Fa := [.glo "Polynomial", .cls "Polynomial", .noat "Polynomial" "own_coefficients", .mkr "Polynomial", .meth "Polynomial" "reach", .meth "Polynomial" "at", .int "MAX_POWER" 20, .int "LONG" (10 ^ 60)]
section
variable {K : PySem.W.Frag} {h : Heap} {mg : Str → Option Value}
theorem prop_ok {C : Addr} {m : Str} (c : propB K C m = true) : PropOf K C m (He.ma K C m) (He5.wf K C "property" m) := by
  obtain ⟨h1, c⟩ := He.ba c
  obtain ⟨h2, c⟩ := He.ba c
  obtain ⟨h3, h4⟩ := He.ba c
  refine ⟨He.eqO_ok h1, He.eqO_ok h2, of_decide_eq_true h3, ?_⟩
  unfold He5.wf
  split at h4
  · rename_i f r e
    exact ⟨r, by rw [e]⟩
  · cases h4
theorem isSome_ex {α : Type} {o : Option α} (h : o.isSome = true) : ∃ x, o = some x := Option.isSome_iff_exists.mp h
theorem lhs_ok {C f : Addr} {nm : String} (c : lhsB K C f nm = true) (r : ∃ rc, PySem.W.findIn K (.ref C) (PySem.dunderR nm) = some rc ∧ (rc = none ∨ ∃ g : Addr, rc = some (.ref g))) : Rd.OwnL K C nm f := by
  obtain ⟨h1, c⟩ := He.ba c
  obtain ⟨h2, c⟩ := He.ba c
  obtain ⟨h3, c⟩ := He.ba c
  obtain ⟨h4, c⟩ := He.ba c
  obtain ⟨h5, h6⟩ := He.ba c
  exact ⟨h1, He.eqO_ok h2, h3, r, isSome_ex h4, isSome_ex h5, of_decide_eq_true h6⟩
theorem rhs_ok {C f fr : Addr} {nm : String} (c0 : lhsB K C f nm = true) (c : rhsB K C fr nm = true) : Rd.OwnOp K C nm f fr := by
  obtain ⟨h1, d⟩ := He.ba c0
  obtain ⟨h2, d⟩ := He.ba d
  obtain ⟨g1, c⟩ := He.ba c
  obtain ⟨g2, g3⟩ := He.ba c
  exact ⟨h1, He.eqO_ok h2, He.eqO_ok g1, g2, of_decide_eq_true g3⟩
theorem lhsr_ok {C f fr : Addr} {nm : String} (c0 : lhsB K C f nm = true) (c : rhsB K C fr nm = true) : Rd.OwnL K C nm f := lhs_ok c0 ⟨_, (rhs_ok c0 c).r, .inr ⟨fr, rfl⟩⟩
theorem eq_ok {C f : Addr} (c : eqB K C f = true) : Rd.OwnEq K C f := by
  obtain ⟨h1, c⟩ := He.ba c
  obtain ⟨h2, c⟩ := He.ba c
  obtain ⟨h3, h4⟩ := He.ba c
  exact ⟨He.eqO_ok h1, h2, He.eqO_ok h3, of_decide_eq_true h4⟩
theorem call_ok {C g : Addr} (c : callB K C g = true) : StX.CallO K C g := by
  obtain ⟨h1, c⟩ := He.ba c
  obtain ⟨h2, h3⟩ := He.ba c
  exact ⟨He.eqO_ok h1, h2, h3⟩
theorem poly_ok (X : K.In h) (G : h.Ns mainGlobals mg) (c : polyB K = true) (f : polyFa.all (fun f => f.ok K) = true) : PolyC K mg (aP K) := by
  have fi : ∀ (i : Nat) {f : He.Fa}, polyFa[i]? = some f → f.ok K = true := fun i {f'} hf => List.all_eq_true.mp f f' (List.mem_of_getElem? hf)
  have b : ∀ {x : Bool}, x ∈ [readB K "Polynomial", cmetB K "Polynomial" "of", propB K (aP K).C "coefficients", propB K (aP K).C "degree", lhsB K (aP K).C (aP K).ad "add", rhsB K (aP K).C (aP K).ra "add", lhsB K (aP K).C (aP K).mu "mul", rhsB K (aP K).C (aP K).rm "mul", lhsB K (aP K).C (aP K).pw "pow", He.eqO (PySem.W.findIn K (.ref (aP K).C) (PySem.dunderR "pow")) (some none), eqB K (aP K).C (aP K).eq, callB K (aP K).C (aP K).cl, objB K (aP K).C, strB K (aP K).C (aP K).st] → x = true := fun {x} hx => List.all_eq_true.mp c x hx
  have at_ : ∀ (i : Nat) {x : Bool}, [readB K "Polynomial", cmetB K "Polynomial" "of", propB K (aP K).C "coefficients", propB K (aP K).C "degree", lhsB K (aP K).C (aP K).ad "add", rhsB K (aP K).C (aP K).ra "add", lhsB K (aP K).C (aP K).mu "mul", rhsB K (aP K).C (aP K).rm "mul", lhsB K (aP K).C (aP K).pw "pow", He.eqO (PySem.W.findIn K (.ref (aP K).C) (PySem.dunderR "pow")) (some none), eqB K (aP K).C (aP K).eq, callB K (aP K).C (aP K).cl, objB K (aP K).C, strB K (aP K).C (aP K).st][i]? = some x → x = true := fun i {x} hx => b (List.mem_of_getElem? hx)
  obtain ⟨o1, o⟩ := He.ba (at_ 12 rfl)
  obtain ⟨o2, o⟩ := He.ba o
  obtain ⟨o3, o⟩ := He.ba o
  obtain ⟨o4, o⟩ := He.ba o
  obtain ⟨o5, o6⟩ := He.ba o
  obtain ⟨s1, s2⟩ := He.ba (at_ 13 rfl)
  exact { mgC := He.glo_ok X G (fi 0 rfl), cl := He.cls_ok (fi 1 rfl), nA := He.noat_ok (fi 2 rfl), mk_ := He.mkr_ok (fi 3 rfl), cr := read_ok (at_ 0 rfl), cm_of := cmet_ok (at_ 1 rfl), m_reach := He.meth_ok (fi 4 rfl), m_at := He.meth_ok (fi 5 rfl), pr_c := prop_ok (at_ 2 rfl), pr_d := prop_ok (at_ 3 rfl), call := call_ok (at_ 11 rfl), la := lhsr_ok (at_ 4 rfl) (at_ 5 rfl), ra := rhs_ok (at_ 4 rfl) (at_ 5 rfl), lm := lhsr_ok (at_ 6 rfl) (at_ 7 rfl), rm := rhs_ok (at_ 6 rfl) (at_ 7 rfl), lp := lhs_ok (at_ 8 rfl) ⟨_, He.eqO_ok (at_ 9 rfl), .inl rfl⟩, eq := eq_ok (at_ 10 rfl), s1 := He.eqO_ok s1, s2 := s2, c1 := He.eqO_ok o1, c2 := He.eqO_ok o2, c3 := of_decide_eq_true o3, c4 := of_decide_eq_true o4, i1 := of_decide_eq_true o5, i2 := of_decide_eq_true o6 }
theorem ints_ok (X : K.In h) (G : h.Ns mainGlobals mg) (f : polyFa.all (fun f => f.ok K) = true) : Ints mg := by
  have fi : ∀ (i : Nat) {f : He.Fa}, polyFa[i]? = some f → f.ok K = true := fun i {f'} hf => List.all_eq_true.mp f f' (List.mem_of_getElem? hf)
  exact ⟨He.int_ok X G (fi 6 rfl), He.int_ok X G (fi 7 rfl)⟩
theorem hasP_of {ex : PySem.W.Frag → Bool} {fn : List He5.DefA} (c : Hd.SaysM ex fn K) (i : Nat) {C m qual : Str} {st : Stmt} (hi : fn[i]? = some (dP C m qual st)) : Rd.HasAt K (He5.wf K (He.ga K C) "property" m) m qual st := by
  obtain ⟨fd, F⟩ := c.def_ i hi
  exact ⟨fd, F⟩
end
def fn : List He5.DefA := [dF "_law_dice" s__law_dice, dF "_law_roll" s__law_roll, dF "_law_one_of" s__law_one_of, dF "_law_coefficients" s__law_coefficients, dF "_law_cut" s__law_cut, dF "_law_told" s__law_told, dF "_law_sums_refused" s__law_sums_refused, dF "_law_numbers_refused" s__law_numbers_refused, dF "_law_right" s__law_right, dF "law" s_law, dF "is_integer" s_is_integer, dF "is_count" s_is_count, dF "require_number" s_require_number, dF "require_coefficients" s_require_coefficients, dF "trimmed" s_trimmed, dF "at_in" s_at_in, dF "sum_in" s_sum_in, dF "product_at" s_product_at, dF "product_in" s_product_in, dF "power_in" s_power_in, dF "inner_in" s_inner_in, dF "least_in" s_least_in, dF "made" s_made, dF "coefficients_of" s_coefficients_of, dM "Polynomial" "__init__" "Polynomial.__init__" s_Polynomial___init__, dC "Polynomial" "of" "Polynomial.of" s_Polynomial_of, dM "Polynomial" "at" "Polynomial.at" s_Polynomial_at, dM "Polynomial" "__call__" "Polynomial.__call__" s_Polynomial___call__, dM "Polynomial" "__add__" "Polynomial.__add__" s_Polynomial___add__, dM "Polynomial" "__radd__" "Polynomial.__radd__" s_Polynomial___radd__, dM "Polynomial" "__mul__" "Polynomial.__mul__" s_Polynomial___mul__, dM "Polynomial" "__rmul__" "Polynomial.__rmul__" s_Polynomial___rmul__, dM "Polynomial" "__pow__" "Polynomial.__pow__" s_Polynomial___pow__, dM "Polynomial" "__getitem__" "Polynomial.__getitem__" s_Polynomial___getitem__, dM "Polynomial" "reach" "Polynomial.reach" s_Polynomial_reach, dP "Polynomial" "coefficients" "Polynomial.coefficients" s_Polynomial_coefficients, dM "InvalidNumber" "__init__" "InvalidNumber.__init__" s_InvalidNumber___init__]
def frees : List He.Fa := [.free "len", .free "int", .free "abs", .free "max", .free "min", .free "range", .free "isinstance", .free "all", .free "tuple", .free "list", .free "sum", .free "str", .free "zip", .free "bool", .free "repr", .free "iter", .free "enumerate"]
def glos : List He.Fa := [.glo "_law_dice", .glo "_law_roll", .glo "_law_one_of", .glo "_law_coefficients", .glo "_law_cut", .glo "_law_told", .glo "_law_sums_refused", .glo "_law_numbers_refused", .glo "_law_right", .glo "law", .glo "is_integer", .glo "is_count", .glo "require_number", .glo "require_coefficients", .glo "trimmed", .glo "at_in", .glo "sum_in", .glo "product_at", .glo "product_in", .glo "power_in", .glo "inner_in", .glo "least_in", .glo "made", .glo "coefficients_of"]
def aD (K : PySem.W.Frag) : AdsD where
  it := He.ma K (He.ga K "Polynomial") "__iter__"
  ln := He.ma K (He.ga K "Polynomial") "__len__"
  gi := He.ma K (He.ga K "Polynomial") "__getitem__"
def polyDB (K : PySem.W.Frag) : Bool := [He.eqO (PySem.W.findIn K (.ref (aP K).C) "__iter__") (some (some (.ref (aD K).it))), PySem.W.isFn K (.ref (aD K).it), He.eqO (PySem.W.findIn K (.ref (aP K).C) "__len__") (some (some (.ref (aD K).ln))), PySem.W.isFn K (.ref (aD K).ln), He.eqO (PySem.W.findIn K (.ref (aP K).C) "__bool__") (some none), He.eqO (PySem.W.findIn K (.ref (aP K).C) "__getitem__") (some (some (.ref (aD K).gi))), PySem.W.isFn K (.ref (aD K).gi), PySem.W.fnIn K (aD K).gi, ["int", "NoneType", "str", "list", "tuple"].all fun T => decide (PySem.W.subIn K (.type T) (.ref (aP K).C) = some false) && decide (PySem.W.kitOne K (.type T) (.ref (aP K).C) = some false)].all id
theorem polyD_ok {K : PySem.W.Frag} (c : polyDB K = true) : PolyD K (aP K).C (aD K) := by
  have at_ : ∀ (i : Nat) {x : Bool}, [He.eqO (PySem.W.findIn K (.ref (aP K).C) "__iter__") (some (some (.ref (aD K).it))), PySem.W.isFn K (.ref (aD K).it), He.eqO (PySem.W.findIn K (.ref (aP K).C) "__len__") (some (some (.ref (aD K).ln))), PySem.W.isFn K (.ref (aD K).ln), He.eqO (PySem.W.findIn K (.ref (aP K).C) "__bool__") (some none), He.eqO (PySem.W.findIn K (.ref (aP K).C) "__getitem__") (some (some (.ref (aD K).gi))), PySem.W.isFn K (.ref (aD K).gi), PySem.W.fnIn K (aD K).gi, ["int", "NoneType", "str", "list", "tuple"].all fun T => decide (PySem.W.subIn K (.type T) (.ref (aP K).C) = some false) && decide (PySem.W.kitOne K (.type T) (.ref (aP K).C) = some false)][i]? = some x → x = true := fun i {x} hx => List.all_eq_true.mp c x (List.mem_of_getElem? hx)
  refine ⟨⟨He.eqO_ok (at_ 0 rfl), at_ 1 rfl⟩, He.eqO_ok (at_ 2 rfl), at_ 3 rfl, He.eqO_ok (at_ 4 rfl), He.eqO_ok (at_ 5 rfl), at_ 6 rfl, at_ 7 rfl, fun T hT => ?_⟩
  obtain ⟨h1, h2⟩ := He.ba (List.all_eq_true.mp (at_ 8 rfl) T hT)
  exact ⟨of_decide_eq_true h1, of_decide_eq_true h2⟩
def fas : List He.Fa := [.glo "InvalidOperation", .exc "InvalidOperation", .exm "InvalidOperation" "InvalidOperation" true, .glo "InvalidNumber", .free "IndexError", .exm "InvalidNumber" "InvalidOperation" false, .exm "InvalidNumber" "InvalidNumber" true]
def fasB (K : PySem.W.Frag) : Bool := fas.all fun f => f.ok K
def xiB (K : PySem.W.Frag) (C : Addr) (bm : List Value) (n : String) : Bool := PySem.W.excInitIn K C bm n && (PySem.W.excOver K C bm && (He.eqO (PySem.W.findIn K (.ref C) "__setattr__") (some (some (.builtin "object.__setattr__"))) && (PySem.W.hasDictIn K C && PySem.W.keepIn K (.ref C))))
theorem xi_ok {K : PySem.W.Frag} {C : Addr} {bm : List Value} {n : String} (h : xiB K C bm n = true) : Rd.XiC K C bm n := by
  obtain ⟨h1, h⟩ := He.ba h
  obtain ⟨h2, h⟩ := He.ba h
  obtain ⟨h3, h⟩ := He.ba h
  obtain ⟨h4, h5⟩ := He.ba h
  exact ⟨h1, h2, He.eqO_ok h3, h4, h5⟩
def vB (K : PySem.W.Frag) (B : String) (i : String) : Bool := match PySem.W.findCls K (.type B) (.type "type") "__init__" with
  | some (.val (.builtin n)) => decide (n = i)
  | _ => false
theorem v_ok {K : PySem.W.Frag} {B i : String} (h : vB K B i = true) : PySem.W.findCls K (.type B) (.type "type") "__init__" = some (.val (.builtin i)) := by
  unfold vB at h
  split at h
  · rename_i n e
    rw [e, of_decide_eq_true h]
  · cases h
def aN (K : PySem.W.Frag) : Addr := He.ga K "InvalidNumber"
def aF (K : PySem.W.Frag) : Addr := He.ma K (aN K) "__init__"
def errL (K : PySem.W.Frag) : List Bool := [xiB K (aN K) ieM8 "IndexError.__new__", He.eqO (PySem.W.findIn K (.ref (aN K)) "__init__") (some (some (.ref (aF K)))), decide (PySem.W.typeIn K (.ref (aF K)) = some (.type "function")), decide (PySem.W.subIn K (.ref (aN K)) (.type "BaseException") = some true), decide (PySem.W.typeIn K (.ref (aN K)) = some (.type "type")), xfB K (aN K), He.eqO (PySem.W.findIn K (.ref (aN K)) "value") (some none), He.eqO (PySem.W.takerIn K (aN K) "value") (some none), vB K "IndexError" "IndexError.__init__"]
def errPB (K : PySem.W.Frag) : Bool := (errL K).all id
def frn1 (K : PySem.W.Frag) (C : Addr) (nm T : String) : Bool := (Rd.fillsB K T nm).isSome && (decide (PySem.W.subIn K (.type T) (.ref C) = some false) && (PySem.W.findIn K (.type T) (PySem.dunderR nm)).isSome)
theorem frn1_ok {K : PySem.W.Frag} {C : Addr} {nm T : String} (h : frn1 K C nm T = true) : Rd.Frn K C nm T := by
  obtain ⟨h1, h⟩ := He.ba h
  obtain ⟨h2, h3⟩ := He.ba h
  exact ⟨Option.isSome_iff_exists.mp h1, of_decide_eq_true h2, Option.isSome_iff_exists.mp h3⟩
def frnB (K : PySem.W.Frag) (C : Addr) : Bool := (oddT.all fun T => frn1 K C "add" T && (frn1 K C "mul" T && decide (PySem.W.kitOne K (.type T) (.ref C) = some false))) && ((["NoneType", "str", "tuple", "list", "dict"].all fun T => decide (Rd.fillsB K T "add" = some false) && decide (Rd.fillsB K T "mul" = some false)) && (decide (PySem.W.subIn K (.ref C) (.type "bool") = some false) && decide (PySem.W.kitOne K (.ref C) (.type "tuple") = some false)))
theorem frn_ok {K : PySem.W.Frag} {C : Addr} (h : frnB K C = true) : FrnP K C := by
  obtain ⟨h1, h⟩ := He.ba h
  obtain ⟨h2, h⟩ := He.ba h
  obtain ⟨h3, h4⟩ := He.ba h
  refine ⟨fun T hT => ?_, fun T hT => ?_, of_decide_eq_true h3, of_decide_eq_true h4⟩
  · obtain ⟨a, b⟩ := He.ba (List.all_eq_true.mp h1 T hT)
    obtain ⟨b, c⟩ := He.ba b
    exact ⟨frn1_ok a, frn1_ok b, of_decide_eq_true c⟩
  · obtain ⟨a, b⟩ := He.ba (List.all_eq_true.mp h2 T hT)
    exact ⟨of_decide_eq_true a, of_decide_eq_true b⟩
def lams : List Str := [("_law_sums_refused" : Str), ("_law_numbers_refused" : Str), ("_law_right" : Str), ("law" : Str)]
def tabsB (K : PySem.W.Frag) : Bool := decide ((lams.map fun x => Hd.tabAt K x).Nodup)
def frnPB (K : PySem.W.Frag) : Bool := frnB K (aP K).C
def ex (K : PySem.W.Frag) : Bool := (glos.all fun f => f.ok K) && ((frees.all fun f => f.ok K) && ((polyFa.all fun f => f.ok K) && (polyB K && [polyDB K, fasB K, errPB K, frnPB K, tabsB K].all id)))
abbrev R : PySem.W.OpenRow := PySem.W.OpenLaw.row PySem.Challenge.rw_loopgrowth_k58_errors_of_polynomials
abbrev hk : PySem.W.Hook := Hd.hookT lams 5 ex fn
def ob (s : PySem.W.SharedT) : He.AlD := Hd.obsT lams 5 ex fn (HandSHeadRun.getT s)
theorem ob_eq (s : PySem.W.SharedT) : ob s = hk.obs s.abs := Hd.obsT_eq (HandSHeadRun.getT_eq s)
def loose : List Str := [("_wall" : Str), ("LoopError" : Str), ("InvalidOperation" : Str), ("InvalidNumber" : Str), ("FIGURES" : Str), ("LONG" : Str), ("is_integer" : Str), ("figures_of" : Str), ("MAX_POWER" : Str), ("is_count" : Str), ("require_number" : Str), ("require_coefficients" : Str), ("trimmed" : Str), ("at_in" : Str), ("sum_in" : Str), ("product_at" : Str), ("product_in" : Str), ("power_in" : Str), ("inner_in" : Str), ("least_in" : Str), ("term_text" : Str), ("Polynomial" : Str), ("made" : Str), ("coefficients_of" : Str), ("_law_dice" : Str), ("_law_roll" : Str), ("_law_one_of" : Str), ("_law_coefficients" : Str), ("_law_cut" : Str), ("_law_told" : Str), ("_law_sums_refused" : Str), ("_law_numbers_refused" : Str), ("_law_right" : Str)]
theorem run (w : World) : HandSHeadRun.RunEq R (PySem.W.view R.prog [37]) hk ob 20000 loose w := by
  intro os
  kernel_rfl
end M
set_option Elab.async false
set_option linter.all false
set_option maxRecDepth 100000
set_option maxHeartbeats 0
namespace M
open PySem L2
abbrev q35 : Program := PySem.W.view R.prog [37]
abbrev dL : DefRec := HandSHeadRun.topDef R.prog 37
theorem h_open : PySem.W.opening R.prog = PySem.W.plainProg R.prog.main.scope.names := by kernel_rfl
theorem h_fence (s : Shared) : fenceModules? R.prog s = some s := by kernel_rfl
theorem h_def : PySem.W.defOf q35 R.name = some (dL, []) := by kernel_rfl
theorem h_the : R.prog.theDef R.name = some (dL.params, dL.body, dL.scope) := by kernel_rfl
theorem h_kw : PySem.W.kwWritten? dL.params.kwonlyargs dL.params.kw_defaults = some [] := by kernel_rfl
theorem h_said : R.wellSaid = true := by decide +kernel
theorem h_ok : (PySem.W.chainsOk q35 && PySem.W.opensWell R.prog && (PySem.W.frees R.toRowW && R.within.isEmpty)) = true := by decide +kernel
theorem h_bare : R.prog.bare := ⟨rfl, rfl, rfl, rfl, rfl, by decide +kernel⟩
theorem h_name : dL.name = ("law" : Str) := by kernel_rfl
theorem h_dfl : dL.params.defaults = [] := by kernel_rfl
theorem h_prom : R.toRowW.promised := by w_witness2
def lamL : List (Str × Str) := [(("_law_sums_refused" : Str), lamS "_law_sums_refused" (defScope s__law_sums_refused)), (("_law_numbers_refused" : Str), lamS "_law_numbers_refused" (defScope s__law_numbers_refused)), (("_law_right" : Str), lamS "_law_right" (defScope s__law_right)), (("law" : Str), lamS "law" (defScope s_law))]
/-- the tables -/
def tabsOf (K : PySem.W.Frag) : List (Addr × Str) := lamL.map fun z => (Hd.tabAt K z.1, z.2)
def codesOf (K : PySem.W.Frag) : List (Addr × Addr) := lams.map fun x => (Hd.codeAt K x, Hd.tabAt K x)
theorem lam_mem {z : Str × Str} (h : z ∈ lamL) : z.1 ∈ lams := by
  have e : lams = lamL.map (·.1) := rfl
  rw [e]
  exact List.mem_map_of_mem h
theorem tabs_u {K : PySem.W.Frag} (nd : (lams.map fun x => Hd.tabAt K x).Nodup) (i : Nat) {x q : Str} (h : lamL[i]? = some (x, q)) : ∀ p ∈ tabsOf K, p.1 = Hd.tabAt K x → p.2 = q := fun p hp e => by
  obtain ⟨z, hz, rfl⟩ := List.mem_map.mp hp
  obtain ⟨j, hj⟩ := List.mem_iff_getElem?.mp hz
  have e1 : (lams.map fun x => Hd.tabAt K x)[j]? = some (Hd.tabAt K z.1) := by
    have e : lams = lamL.map (·.1) := rfl
    rw [e, List.map_map, List.getElem?_map, hj]; rfl
  have e2 : (lams.map fun x => Hd.tabAt K x)[i]? = some (Hd.tabAt K x) := by
    have e : lams = lamL.map (·.1) := rfl
    rw [e, List.map_map, List.getElem?_map, h]; rfl
  have lj : j < (lams.map fun x => Hd.tabAt K x).length := (List.getElem?_eq_some_iff.mp e1).1
  have this : j = i := (List.getElem?_inj lj nd).mp (e1.trans ((congrArg some e).trans e2.symm))
  subst this
  rw [hj] at h
  cases h
  rfl
theorem hasC_ofX {K : PySem.W.Frag} {h : Heap} {mg : Str → Option Value} {x : Str} {st : Stmt} (X : K.In h) (F : Rd.Has K mg x st) (hm : mg x = some (.ref (He.ga K x))) (c : Hd.codeB K x = true) : Rd.HasC K mg x st (Hd.codeAt K x) := by
  obtain ⟨f, F1, F2, F3⟩ := F
  obtain rfl : f = He.ga K x := Value.ref.inj (Option.some.inj (F2.symm.trans hm))
  exact ⟨_, F1, F2, F3, (Hd.codeB_ok X c).1⟩
theorem facts {P : Program} {w : World} {K : PySem.W.Frag} {h : Heap} {mg : Str → Option Value} (X : K.In h) (G : h.Ns mainGlobals mg) (c : Hd.SaysM ex fn K) (t : Hd.SaysT lams K h) (base : Heap) (tb : ∀ p ∈ codesOf K, LamX.TabB base mg p.1 p.2) : Rd.Fn true P w K mg base CX0 18 "law" (spLaw K (tabsOf K)) := by
  obtain ⟨c0, c1⟩ := He.ba c.fact
  obtain ⟨c1, c2⟩ := He.ba c1
  obtain ⟨c2, c3⟩ := He.ba c2
  obtain ⟨c3, c4⟩ := He.ba c3
  have fi : ∀ (i : Nat) {f : He.Fa}, glos[i]? = some f → f.ok K = true := fun i {f} hf => List.all_eq_true.mp c0 f (List.mem_of_getElem? hf)
  have fr : ∀ (i : Nat) {f : He.Fa}, frees[i]? = some f → f.ok K = true := fun i {f} hf => List.all_eq_true.mp c1 f (List.mem_of_getElem? hf)
  have T := poly_ok X G c3 c2
  have D := polyD_ok (List.all_eq_true.mp c4 (polyDB K) (by simp))
  have ws := ints_ok X G c2
  have g : Glob mg := ⟨He.free_ok X G (fr 0 rfl), He.free_ok X G (fr 1 rfl), He.free_ok X G (fr 2 rfl), He.free_ok X G (fr 3 rfl), He.free_ok X G (fr 4 rfl), He.free_ok X G (fr 5 rfl), He.free_ok X G (fr 6 rfl), He.free_ok X G (fr 7 rfl), He.free_ok X G (fr 8 rfl), He.free_ok X G (fr 9 rfl), He.free_ok X G (fr 10 rfl), He.free_ok X G (fr 11 rfl), He.free_ok X G (fr 12 rfl), He.free_ok X G (fr 13 rfl), He.free_ok X G (fr 14 rfl), He.free_ok X G (fr 15 rfl), He.free_ok X G (fr 16 rfl)⟩
  have fx : ∀ (i : Nat) {f : He.Fa}, fas[i]? = some f → f.ok K = true := fun i {f} hf => List.all_eq_true.mp (List.all_eq_true.mp c4 (fasB K) (by simp)) f (List.mem_of_getElem? hf)
  have er : ∀ (i : Nat) {x : Bool}, (errL K)[i]? = some x → x = true := fun i {x} hx => List.all_eq_true.mp (List.all_eq_true.mp c4 (errPB K) (by simp)) x (List.mem_of_getElem? hx)
  have FP : FrnP K (aP K).C := frn_ok (List.all_eq_true.mp c4 (frnPB K) (by simp))
  have ndT : (lams.map fun x => Hd.tabAt K x).Nodup := of_decide_eq_true (List.all_eq_true.mp c4 (tabsB K) (by simp))
  have TE : ErrP K mg (He.ga K "InvalidOperation") (aN K) (aF K) := { p := (He.exc_ok (fx 1 rfl)).1, g := He.glo_ok X G (fx 0 rfl), k := (He.exc_ok (fx 1 rfl)).2.1, b := (He.exc_ok (fx 1 rfl)).2.2.1, t := (He.exc_ok (fx 1 rfl)).2.2.2, x := He.exm_ok (fx 2 rfl), gN := He.glo_ok X G (fx 3 rfl), gI := He.free_ok X G (fx 4 rfl), iN := xi_ok (er 0 rfl), n1 := He.eqO_ok (er 1 rfl), n2 := of_decide_eq_true (er 2 rfl), bN := of_decide_eq_true (er 3 rfl), tN := of_decide_eq_true (er 4 rfl), xf := xfB_ok (er 5 rfl), nf := He.eqO_ok (er 6 rfl), tv := He.eqO_ok (er 7 rfl), v0 := v_ok (er 8 rfl), xNO := He.exm_ok (fx 5 rfl), xNN := He.exm_ok (fx 6 rfl) }
  have C0 := hasC_ofX X (has_of X G c 6 rfl (fi 6 rfl)) (He.glo_ok X G (fi 6 rfl)) (t "_law_sums_refused" (List.mem_of_getElem? (i := 0) rfl)).1
  have B0 := tb (Hd.codeAt K "_law_sums_refused", Hd.tabAt K "_law_sums_refused") (List.mem_of_getElem? (i := 0) rfl)
  have m0 : (Hd.tabAt K "_law_sums_refused", lamS "_law_sums_refused" (defScope s__law_sums_refused)) ∈ tabsOf K := List.mem_of_getElem? (i := 0) rfl
  have u0 : ∀ p ∈ tabsOf K, p.1 = Hd.tabAt K "_law_sums_refused" → p.2 = lamS "_law_sums_refused" (defScope s__law_sums_refused) := tabs_u ndT 0 rfl
  have C1 := hasC_ofX X (has_of X G c 7 rfl (fi 7 rfl)) (He.glo_ok X G (fi 7 rfl)) (t "_law_numbers_refused" (List.mem_of_getElem? (i := 1) rfl)).1
  have B1 := tb (Hd.codeAt K "_law_numbers_refused", Hd.tabAt K "_law_numbers_refused") (List.mem_of_getElem? (i := 1) rfl)
  have m1 : (Hd.tabAt K "_law_numbers_refused", lamS "_law_numbers_refused" (defScope s__law_numbers_refused)) ∈ tabsOf K := List.mem_of_getElem? (i := 1) rfl
  have u1 : ∀ p ∈ tabsOf K, p.1 = Hd.tabAt K "_law_numbers_refused" → p.2 = lamS "_law_numbers_refused" (defScope s__law_numbers_refused) := tabs_u ndT 1 rfl
  have C2 := hasC_ofX X (has_of X G c 8 rfl (fi 8 rfl)) (He.glo_ok X G (fi 8 rfl)) (t "_law_right" (List.mem_of_getElem? (i := 2) rfl)).1
  have B2 := tb (Hd.codeAt K "_law_right", Hd.tabAt K "_law_right") (List.mem_of_getElem? (i := 2) rfl)
  have m2 : (Hd.tabAt K "_law_right", lamS "_law_right" (defScope s__law_right)) ∈ tabsOf K := List.mem_of_getElem? (i := 2) rfl
  have u2 : ∀ p ∈ tabsOf K, p.1 = Hd.tabAt K "_law_right" → p.2 = lamS "_law_right" (defScope s__law_right) := tabs_u ndT 2 rfl
  have C3 := hasC_ofX X (has_of X G c 9 rfl (fi 9 rfl)) (He.glo_ok X G (fi 9 rfl)) (t "law" (List.mem_of_getElem? (i := 3) rfl)).1
  have B3 := tb (Hd.codeAt K "law", Hd.tabAt K "law") (List.mem_of_getElem? (i := 3) rfl)
  have m3 : (Hd.tabAt K "law", lamS "law" (defScope s_law)) ∈ tabsOf K := List.mem_of_getElem? (i := 3) rfl
  have u3 : ∀ p ∈ tabsOf K, p.1 = Hd.tabAt K "law" → p.2 = lamS "law" (defScope s_law) := tabs_u ndT 3 rfl
  have hE := (has_of X G c 5 rfl (fi 5 rfl))
  have p1 : Rd.Fn false P w K mg base CX0 1 "is_integer" (spIsI K) := ok_is_integer (has_of X G c 10 rfl (fi 10 rfl)) g
  have p2 := ok_is_count (has_of X G c 11 rfl (fi 11 rfl)) g p1
  have p4 := ok_require_coefficients (has_of X G c 13 rfl (fi 13 rfl)) g p2
  have p5 : Rd.Fn false P w K mg base CX0 1 "trimmed" (spTrim K) := ok_trimmed (has_of X G c 14 rfl (fi 14 rfl)) g
  have p6 : Rd.Fn false P w K mg base CX0 1 "at_in" (spAtIn K) := ok_at_in (has_of X G c 15 rfl (fi 15 rfl)) g
  have p7 := ok_least_in (has_of X G c 21 rfl (fi 21 rfl)) g p6
  have p8 : Rd.Fn false P w K mg base CX0 1 "sum_in" (spSumIn K) := ok_sum_in (has_of X G c 16 rfl (fi 16 rfl)) g
  have p9 : Rd.Fn false P w K mg base CX0 1 "product_at" (spProdAt K) := ok_product_at (has_of X G c 17 rfl (fi 17 rfl)) g
  have p10 := ok_product_in (has_of X G c 18 rfl (fi 18 rfl)) g p9
  have p11 := ok_power_in (has_of X G c 19 rfl (fi 19 rfl)) g p10
  have p12 := ok_inner_in (has_of X G c 20 rfl (fi 20 rfl)) g p10 p8
  have q1 := ok_pinit T (hasM_of c 24 rfl) g p4 p5
  have q2 := ok_pof T (hasC_of c 25 rfl) g p4 q1
  have p15 : Rd.Fn false P w K mg base CX0 6 "made" (spMade K (aP K).C) := ok_made T (has_of X G c 22 rfl (fi 22 rfl)) q1
  have q10 := ok_ppow T ws (hasM_of c 32 rfl) p2 p11 p15
  have q13 : L2.FnR P w K mg base CX0 1 (aP K).gc (spCoef K (aP K).C) := ok_pcoef T (hasP_of c 35 rfl)
  have x0 : Rd.FnG false P w K mg base CX0 1 (aF K) (Rd.spXr (aN K) "value") := ok_xiN (hasM_of c 36 rfl) g TE
  have x1 : Rd.Fn false P w K mg base (L2.CX P w) 3 "require_number" (spReqNumX K (aN K)) := ok_require_numberX (has_of X G c 12 rfl (fi 12 rfl)) g TE x0 p2
  have x2 : Rd.Fn false P w K mg base (L2.CX P w) 3 "require_coefficients" (spReqCoX K (He.ga K "InvalidOperation")) := ok_require_coefficientsX (has_of X G c 13 rfl (fi 13 rfl)) g TE p2
  have x3 : Rd.Fn false P w K mg base (L2.CX P w) 3 "coefficients_of" (spCoOfX K (aP K).C (He.ga K "InvalidOperation")) := ok_coefficients_ofX T TE (has_of X G c 23 rfl (fi 23 rfl)) g p2
  have y1 := ok_pinitX T (hasM_of c 24 rfl) g x2 p5
  have y2 := ok_pofX T (hasC_of c 25 rfl) g x2 q1
  have y3 := ok_paddX T (hasM_of c 28 rfl) p8 x3 p15
  have y4 := ok_praddX T (hasM_of c 29 rfl) p8 x3 p15
  have y5 := ok_pmulX T (hasM_of c 30 rfl) p10 x3 p15
  have y6 := ok_prmulX T (hasM_of c 31 rfl) p10 x3 p15
  have y7 := ok_patX T TE g (hasM_of c 26 rfl) p12 p15
  have y8 := ok_ppowX T TE ws (hasM_of c 32 rfl) p2 p11 p15
  have y9 := ok_pcallX T g (hasM_of c 27 rfl) x1 p6
  have y10 := ok_preachX T g (hasM_of c 34 rfl) x1 p7
  have y11 := ok_pgetX (gi := (aD K).gi) T g (hasM_of c 33 rfl) x1
  have k1 : Rd.Fn true P w K mg base CX0 1 "_law_dice" (spDice K) := ok_dice (has_of X G c 0 rfl (fi 0 rfl)) g
  have k2 : Rd.Fn true P w K mg base CX0 1 "_law_roll" spRoll := ok_roll (has_of X G c 1 rfl (fi 1 rfl)) g
  have k3 := ok_one_of (has_of X G c 2 rfl (fi 2 rfl)) g k2
  have k4 := ok_coef (has_of X G c 3 rfl (fi 3 rfl)) g k2 k3
  have k5 : Rd.Fn true P w K mg base CX0 1 "_law_cut" (spCut K) := ok_cut (has_of X G c 4 rfl (fi 4 rfl)) g
  have s1 := ok_sumsR T TE FP C0 g hE B0 m0 u0 y3 y4 y5 y6 y7
  have s2 := ok_numsR T TE FP D C1 g hE B1 m1 u1 y9 y11 y10
  have s3 := ok_right T TE FP C2 g hE B2 m2 u2 q2 y2 q13 q10 y8 y7 k2 k3 k4 k5 s1 s2
  exact ok_law T TE C3 g hE B3 m3 u3 y1 k1 s3
theorem h_walk : PySem.W.WalkO q35 loose (PySem.W.XL q35 []) hk.says R.toRowW dL [] (fun f vs => PySem.call f vs) := by
  refine Rd.walk_ofT (l := PySem.Challenge.rw_loopgrowth_k58_errors_of_polynomials) (n := 63) (k := 18) rfl (by decide) h_dfl (Rd.roomG_caller ⟨rfl, by decide, by decide⟩) fun w mg fa h Y G hmg0 => ?_
  obtain ⟨K, KX, c, t⟩ := Y
  have hmg : mg ("law" : PySem.Str) = some (.ref fa) := (congrArg mg h_name).symm.trans hmg0
  refine ⟨K, codesOf K, spLaw K (tabsOf K), KX, fun p hp => ?_, fun H a ns hl hH hS => ⟨(a, ns), rfl, hS, hl, fun p hp => ?_, fun _ => rfl⟩, fun base tb => ?_⟩
  · obtain ⟨x, hx, rfl⟩ := List.mem_map.mp hp
    have q := t x hx
    exact ⟨q.2.2, q.2.1, (Hd.codeB_ok KX q.1).2⟩
  · obtain ⟨z, hz, rfl⟩ := List.mem_map.mp hp
    exact LamX.TabS.nil (hH (Hd.codeAt K z.1, Hd.tabAt K z.1) (List.mem_map_of_mem (lam_mem hz)))
  · obtain ⟨f, F, hf, _⟩ := facts (P := (PySem.Challenge.rw_loopgrowth_k58_errors_of_polynomials).prog) (w := w) KX G c t base tb
    obtain rfl : f = fa := Value.ref.inj (Option.some.inj (hf.symm.trans hmg))
    exact F
theorem h_holds : R.Holds := HandSHeadRun.head_any (r := R) (q := q35) (H := hk) (ob := ob) (M := 20000) (loose := loose) (d := dL) (kwd := []) ob_eq h_open h_fence run h_def h_the h_kw (by rfl) h_said h_ok h_bare h_prom h_walk
end M
open PySem PySem.W PySem.Calls PyProof.Rows
theorem PySem.Challenge.cw_loopgrowth_k58_errors_of_polynomials_holds : PySem.Challenge.rw_loopgrowth_k58_errors_of_polynomials.Holds := by
  w_on; o_law
  exact M.h_holds
#print axioms PySem.Challenge.cw_loopgrowth_k58_errors_of_polynomials_holds
