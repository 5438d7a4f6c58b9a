import PyProof.Rows.All
import Wide.All
import OpenK.AllK
import Wide.FinOn
import HandS.ForMost
import HandS.Defaults
import HandS.Codes
import HandS.More
import HandS.Star
import HandS.IterVal
import HandS.IsInst
import HandS.Wide
import HandS.TupAny
import HandS.Ends
import HandS.HeadEnd
import HandS.RaiseMore
import HandS.Steps
import HandS.Text
import HandS.Iter
import HandS.Zip
import PyProof.ReprRoads
import PyProof.ReprLen
import HandS.TupLe
import KE.KUnpackStar
import PyProof.Rows.MatchSeqLen
import PyProof.RulesMatchSeq
import HandS.Lambda
import HandS.TryMany
import HandS.ExcOwn
import HandS.EndTab
import KE.KOpsOwn
import KE.KFmtOwn
import HandS.Property
import HandS.ClsMeth
import HandS.TupMul
import HandS.Style
import HandS.FStr
import PyProof.SumAny
import KE.GoesMore
import HandS.SetFor
import HandS.SetTxt0
import HandS.Strs
import HandS.SortInts
import HandS.SortOrd
import KE.KSortTup
import HandS.DictComp
import HandS.MakeKwOnly
import KE.KDictPairs
import PyProof.DictUpdate
import PyProof.RowDictHeap
import PyProof.ListCopy
import HandS.ListItems
import HandS.Dict
import KE.SortData
import HandS.DictTup
import HandS.Conv
import KE.KDictCopyH
import KE.GoesEnum
import KE.KDictZip
import KE.KItemsList
import KE.KStateDown
import HandS.Head0
import HandS.Head1
import HandS.Head2
import HandS.HeadHook1
import HandS.HeadHook2
import HandS.HeadNt
import PySem.Challenge.RW_loopgrowth_k06_graphs_made
set_option Elab.async false
set_option linter.all false
set_option maxRecDepth 100000
set_option maxHeartbeats 4000000
/-! Rd: readings of the hand layer answered from the head, one lemma a reading. -/
namespace Rd
open PySem L2
/-! ### named readings of built-in calls -/
def rInt1 : List V → Hp → VK → Prop := fun xs H Q => (∃ i, xs = [.int i] ∧ Q (.int i) H) ∨ ∃ k, xs = [.bl k] ∧ Q (.int (if k then 1 else 0)) H
def rAbs : List V → Hp → VK → Prop := fun xs H Q => ∃ i, xs = [.int i] ∧ Q (.int (if i < 0 then -i else i)) H
def rMax2 : List V → Hp → VK → Prop := fun xs H Q => ∃ i j, xs = [.int i, .int j] ∧ Q (.int (if j > i then j else i)) H
def rMin2 : List V → Hp → VK → Prop := fun xs H Q => ∃ i j, xs = [.int i, .int j] ∧ Q (.int (if j < i then j else i)) H
def rLen (K : PySem.W.Frag) : List V → Hp → VK → Prop := fun xs H Q => ∃ x n, xs = [x] ∧ LenV K x H n ∧ Q (.int n) H
section
variable {X : Cx}
theorem c_int : CallR X (.type "int") rInt1 := call_int1
theorem c_abs : CallR X (.builtin "abs") rAbs := call_abs
theorem c_max2 (hc : X.calm = true) : CallR X (.builtin "max") rMax2 := call_max2 hc
theorem c_min2 (hc : X.calm = true) : CallR X (.builtin "min") rMin2 := call_min2 hc
theorem c_len : CallR X (.builtin "len") (rLen X.K) := call_len
/-- ** of great ints -/
theorem op_powW : OpR X (binaryOp .Pow) (rI (fun i j => 0 ≤ j ∧ (Builtin.Int.intBits i : Int) * j ≤ 2 ^ 27) fun i j => .int (i ^ j.toNat)) :=
  opI fun _ _ _ _ _ _ _ hc q => PyProof.Rows.pow_int hc.1 hc.2 q
end
theorem cxK {CX : CXT} {P : Program} {w : World} {K : PySem.W.Frag} {mg : Str → Option Value} {base : Heap} {N : List Str} {qual : Str} {scope : Scope} {f : Addr} {cd : Value} {A : Around} {outer : List Env} {s : Shared} {H : Hp} {E : XK} :
  (cxOf CX P w K mg base N qual scope f cd A outer s H E).K = K := rfl
theorem noxK {X : Cx} : X.nox.K = X.K := rfl
/-! ### expressions, from the head -/
section
variable {K : PySem.W.Frag} {σ : L2.St} {H : Hp} {Q : VK} {QB : Bool → Hp → Prop} {QA : List V → Hp → Prop} {i : Nat} {v x y : V} {ta tb tc te : TE} {r : R2} {t u tA tB' : TT} {tr : TA} {D : Ends} {s1 s2 : TS} {g : TG}
theorem rd_var (h : σ[i]? = some (some v)) (q : Q v H) : tVar i σ H Q := ⟨v, h, q⟩
theorem rd_c (q : Q v H) : tC v σ H Q := q
theorem rd_op (q : ta σ H fun x H1 => tb σ H1 fun y H2 => r x y H2 Q) : tOp r ta tb σ H Q := q
theorem rd_un {r : V → Hp → VK → Prop} (q : ta σ H fun x H1 => r x H1 Q) : tUn r ta σ H Q := q
theorem rd_I0 {g : Int → Int → V} {a b : Int} (q : Q (g a b) H) : rI0 g (.int a) (.int b) H Q := ⟨a, b, rfl, rfl, q⟩
theorem rd_I {C : Int → Int → Prop} {g : Int → Int → V} {a b : Int} (c : C a b) (q : Q (g a b) H) : rI C g (.int a) (.int b) H Q := ⟨a, b, rfl, rfl, c, q⟩
theorem rd_U {g : Int → V} {a : Int} (q : Q (g a) H) : rU g (.int a) H Q := ⟨a, rfl, q⟩
theorem rd_eq (h : scal x y = true) (q : Q (.bl (decide (x = y))) H) : rEq x y H Q := ⟨h, q⟩
theorem rd_ne (h : scal x y = true) (q : Q (.bl (!decide (x = y))) H) : rNe x y H Q := ⟨h, q⟩
theorem rd_ixL {p : Addr} {xs : List V} {j : Int} (h : SqL K H p xs) (ha : atI xs j = some v) (q : Q v H) : rIxL K (.ref p) (.int j) H Q := ⟨p, xs, j, v, rfl, rfl, h, ha, q⟩
theorem rd_ixT {p : Addr} {xs : List V} {j : Int} (h : SqT K H p xs) (ha : atI xs j = some v) (q : Q v H) : rIxT K (.ref p) (.int j) H Q := ⟨p, xs, j, v, rfl, rfl, h, ha, q⟩
theorem at0 {α : Type} {v0 : α} {r : List α} : atI (v0 :: r) 0 = some v0 := atI_nat (j := 0) rfl
theorem at1 {α : Type} {v0 v1 : α} {r : List α} : atI (v0 :: v1 :: r) 1 = some v1 := atI_nat (j := 1) rfl
theorem at2 {α : Type} {v0 v1 v2 : α} {r : List α} : atI (v0 :: v1 :: v2 :: r) 2 = some v2 := atI_nat (j := 2) rfl
theorem at3 {α : Type} {v0 v1 v2 v3 : α} {r : List α} : atI (v0 :: v1 :: v2 :: v3 :: r) 3 = some v3 := atI_nat (j := 3) rfl
theorem at4 {α : Type} {v0 v1 v2 v3 v4 : α} {r : List α} : atI (v0 :: v1 :: v2 :: v3 :: v4 :: r) 4 = some v4 := atI_nat (j := 4) rfl
theorem ixN_nat {n j : Nat} (h : j < n) : ixN n (j : Int) = some j := by
  unfold ixN
  rw [if_pos (by omega), if_pos (by omega)]; simp
theorem rd_sub {to ti : TE} {t : TSet} {QS : L2.St → Hp → Prop} (q : to σ H fun o H1 => ti σ H1 fun i H2 => t o i v H2 fun H3 => QS σ H3) : gSub to ti t v σ H QS := q
theorem rd_setL {p : Addr} {xs : List V} {k : Nat} {QH : Hp → Prop} (h : H p = some (.lst xs)) (hk : k < xs.length) (q : QH (upd H p (.lst (xs.set k v)))) : rSetL (.ref p) (.int (k : Nat)) v H QH := ⟨p, xs, k, k, rfl, rfl, h, ixN_nat hk, q⟩
theorem rd_cb {r : List V → Hp → VK → Prop} (q : tr σ H fun vs H1 => r vs H1 Q) : tCB r tr σ H Q := q
theorem rd_nil (q : QA [] H) : tNil σ H QA := q
theorem rd_cons (q : ta σ H fun x H1 => tr σ H1 fun xs H2 => QA (x :: xs) H2) : tCons ta tr σ H QA := q
theorem rd_int {a : Int} (q : Q (.int a) H) : rInt1 [.int a] H Q := .inl ⟨a, rfl, q⟩
theorem rd_intB {b : Bool} (q : Q (.int (if b then 1 else 0)) H) : rInt1 [.bl b] H Q := .inr ⟨b, rfl, q⟩
theorem rd_abs {a : Int} (q : Q (.int (if a < 0 then -a else a)) H) : rAbs [.int a] H Q := ⟨a, rfl, q⟩
theorem rd_max2 {a b : Int} (q : Q (.int (if b > a then b else a)) H) : rMax2 [.int a, .int b] H Q := ⟨a, b, rfl, q⟩
theorem rd_min2 {a b : Int} (q : Q (.int (if b < a then b else a)) H) : rMin2 [.int a, .int b] H Q := ⟨a, b, rfl, q⟩
theorem rd_lenL {p : Addr} {xs : List V} (h : SqL K H p xs) (q : Q (.int (xs.length : Nat)) H) : rLen K [.ref p] H Q := ⟨_, _, rfl, .inl ⟨xs, h, rfl⟩, q⟩
theorem rd_lenT {p : Addr} {xs : List V} (h : SqT K H p xs) (q : Q (.int (xs.length : Nat)) H) : rLen K [.ref p] H Q := ⟨_, _, rfl, .inr ⟨xs, h, rfl⟩, q⟩
theorem rd_call {sp : Sp} {dvs : List V} {E : XK} (q : tr σ H fun vs H1 => sp (vs ++ dvs) H1 Q E) : tCall sp dvs E tr σ H Q := q
theorem rd_ifE (q : t σ H fun c H1 => if c = true then ta σ H1 Q else tb σ H1 Q) : tIf t ta tb σ H Q := q
/-! tests -/
theorem rd_test (q : te σ H fun x H' => ∃ k, x = .bl k ∧ QB k H') : tTest te σ H QB := q
theorem rd_tB (q : te σ H fun x H' => ∃ k, x = .bl k ∧ QB k H') : tB te σ H QB := q
theorem rd_bl {b : Bool} (q : QB b H) : ∃ k, V.bl b = .bl k ∧ QB k H := ⟨b, rfl, q⟩
theorem rd_blV {b : Bool} {P : Bool → Prop} (q : P b) : ∃ k, V.bl b = .bl k ∧ P k := ⟨b, rfl, q⟩
theorem rd_and (q : t σ H fun c H1 => if c = true then u σ H1 QB else QB false H1) : tAnd t u σ H QB := q
theorem rd_or (q : t σ H fun c H1 => if c = true then QB true H1 else u σ H1 QB) : tOr t u σ H QB := q
theorem rd_not (q : t σ H fun c H1 => QB (!c) H1) : tNot t σ H QB := q
theorem rd_andV (q : ta σ H fun x H1 => ∃ c, x = .bl c ∧ if c = true then tb σ H1 Q else Q (.bl false) H1) : tAndV ta tb σ H Q := q
theorem rd_orV (q : ta σ H fun x H1 => ∃ c, x = .bl c ∧ if c = true then Q (.bl true) H1 else tb σ H1 Q) : tOrV ta tb σ H Q := q
theorem rd_notV (q : ta σ H fun x H1 => ∃ c, x = .bl c ∧ Q (.bl (!c)) H1) : tNotV ta σ H Q := q
/-! statements -/
theorem rd_seq (q : s1 { nx := s2 D, rt := D.rt, bk := D.bk, ct := D.ct } σ H) : tSeq s1 s2 D σ H := q
theorem rd_asg (q : te σ H fun x H1 => g x σ H1 D.nx) : tAsg te g D σ H := q
theorem rd_name0 {QS : L2.St → Hp → Prop} {z : Option V} (q : QS (some v :: σ) H) : gName 0 v (z :: σ) H QS := q
theorem rd_nameS {QS : L2.St → Hp → Prop} {z : Option V} (q : gName i v σ H fun σ' H' => QS (z :: σ') H') : gName (i + 1) v (z :: σ) H QS := q
theorem rd_next (q : D.nx σ H) : tNext D σ H := q
theorem rd_ret (q : te σ H D.rt) : tRet te D σ H := q
theorem rd_drop (q : te σ H fun _ H1 => D.nx σ H1) : tDrop te D σ H := q
theorem rd_ifS (q : t σ H fun b H1 => if b = true then s1 D σ H1 else s2 D σ H1) : tIfS t s1 s2 D σ H := q
end
/-! ### promises -/
theorem rd_start' {g : TG} {x : V} {QS : L2.St → Hp → Prop} {σ : L2.St} {H : Hp} (σ' : L2.St) (e : σ = σ') (h : g x σ' H QS) : g x σ H QS := by subst e; exact h
theorem rd_start {t : TS} {D : Ends} {σ : L2.St} {H : Hp} (σ' : L2.St) (e : σ = σ') (h : t D σ' H) : t D σ H := by subst e; exact h
/-- a promise by its arguments: a stands for what the arguments tell -/
def mkSp {α : Type} (args : α → List V) (pre : α → Hp → VK → XK → Prop) : Sp := fun vs H Q E => ∃ a : α, vs = args a ∧ pre a H Q E
theorem rd_sp {α : Type} {args : α → List V} {pre : α → Hp → VK → XK → Prop} {vs : List V} {H : Hp} {Q : VK} {E : XK} (a : α) (e : vs = args a) (h : pre a H Q E) : mkSp args pre vs H Q E := ⟨a, e, h⟩
/-- room for k calls; if gd is told, no repr is under way -/
structure RoomG (gd : Bool) (k : Nat) (A : Around) : Prop extends Room k A where
  gs : gd = true → A.guards = some []
theorem RoomG.mono {gd : Bool} {j k : Nat} {A : Around} (r : RoomG gd k A) (h : j ≤ k) : RoomG gd j A := ⟨r.toRoom.mono h, r.gs⟩
theorem RoomG.gd {k : Nat} {A : Around} (r : RoomG true k A) : A.guards = some [] := r.gs rfl
theorem RoomG.any {k : Nat} {A : Around} (r : Room k A) : RoomG false k A := ⟨r, fun e => nomatch e⟩
theorem RoomG.deeper {gd : Bool} {k : Nat} {A : Around} (r : RoomG gd (k + 1) A) (env : Env) : RoomG gd k (A.deeper env) := ⟨r.toRoom.deeper env, r.gs⟩
theorem RoomG.make {gd : Bool} {k : Nat} {A : Around} (r : RoomG gd (k + 1) A) (C : Addr) (us : List Value) (kw : List (Str × Value)) : RoomG gd k (A.under (.builtin "type.__call__" ⟨.ref C :: us, kw⟩)) := by
  refine ⟨r.toRoom.make C us kw, fun q => ?_⟩
  have e := r.gs q
  simpa [Around.under, Code.guards, Code.isGuard, guardIds, pushGuards] using e
/-- a promise by positional values -/
def FnG (gd : Bool) (P : Program) (w : World) (K : PySem.W.Frag) (mg : Str → Option Value) (base : Heap) (CX : CXT) (k : Nat) (f : Addr) (sp : Sp) : Prop :=
  ∀ (A : Around) (outer : List Env) (s : Shared) (H : Hp) (us : List Value) (vs : List V) (Q : VK) (E : XK), RoomG gd k A → Env0 P w K mg base A outer s H → Vals vs us → sp vs H Q E →
    codeAny (model P w) A (.call (.ref f) ⟨us, []⟩) (CR CX outer P w H s Q E) s
/-- the def st at f -/
def HasAt (K : PySem.W.Frag) (f : Addr) (x qual : Str) (st : Stmt) : Prop := ∃ fd, FunD K x qual (defArgs st) (defBody st) (defScope st) [] [] f fd
/-- the module's def x, at any place -/
def Has (K : PySem.W.Frag) (mg : Str → Option Value) (x : Str) (st : Stmt) : Prop := ∃ f, HasAt K f x x st ∧ mg x = some (.ref f) ∧ PySem.W.keepIn K (.ref f) = true
/-- a def's promise, by the module's name x -/
def Fn (gd : Bool) (P : Program) (w : World) (K : PySem.W.Frag) (mg : Str → Option Value) (base : Heap) (CX : CXT) (k : Nat) (x : Str) (sp : Sp) : Prop :=
  ∃ f, FnG gd P w K mg base CX k f sp ∧ mg x = some (.ref f) ∧ PySem.W.keepIn K (.ref f) = true
section
variable {gd : Bool} {P : Program} {w : World} {K : PySem.W.Frag} {mg : Str → Option Value} {base : Heap} {CX : CXT} {k : Nat} {f : Addr} {x qual : Str} {st : Stmt} {N ps : List Str} {sp : Sp}
theorem FnG.mono {j : Nat} (F : FnG gd P w K mg base CX j f sp) (h : j ≤ k) : FnG gd P w K mg base CX k f sp := fun A outer s H us vs Q E hr => F A outer s H us vs Q E (hr.mono h)
theorem FnG.imp {sp' : Sp} (F : FnG gd P w K mg base CX k f sp) (h : ∀ vs H Q E, sp' vs H Q E → sp vs H Q E) : FnG gd P w K mg base CX k f sp' := fun A outer s H us vs Q E hr e0 r hs => F A outer s H us vs Q E hr e0 r (h _ _ _ _ hs)
/-- a def that is called by position and without defaults -/
theorem HasAt.fnX {α : Type} {args : α → List V} {pre : α → Hp → VK → XK → Prop} (h : HasAt K f x qual st) (S : FnScope N ps (defScope st)) (hl : ∀ a, (args a).length = ps.length)
    (hb : ∀ (kV doc pm : Value) (an : Option Addr) (cdv ct : Value) (us : List Value), us.length = ps.length → bindArgs (PySem.W.fnOf x qual (defArgs st) (defBody st) (defScope st) .none kV doc pm an cdv ct) ⟨us, []⟩ = pure (ps.zip us))
    (body : ∀ (cdv : Value) (A : Around) (outer : List Env) (s : Shared) (H : Hp) (Q : VK) (E : XK) (a : α), RoomG gd k (A.deeper (PyProof.Rows.envOfC qual (defScope st) s.heap.objs.size f cdv)) → pre a H Q E →
      ∃ t, PSs (cxOf CX P w K mg base N qual (defScope st) f cdv A outer s H E) (defBody st) t ∧ t { nx := fun _ H' => Q .non H', rt := Q } (start N (args a)) H) :
    FnG gd P w K mg base CX (k + 1) f (mkSp args pre) := by
  obtain ⟨fd, F⟩ := h
  obtain ⟨oc, od, dV, kV, doc, pm, an, cdv, ct, osl, e, lk, hcd, hD, hK⟩ := F.ex
  subst e
  rcases hD with ⟨_, e⟩ | ⟨e, _⟩
  · subst e
    intro A outer s H us vs Q E hr e0 r hsp
    obtain ⟨a, rfl, ha⟩ := hsp
    have hu : us.length = ps.length := by rw [← Vals.length r]; exact hl a
    refine StX.run_bnd lk hcd S hr.toRoom e0 (G := fun xs H2 => xs = args a ∧ H2 = H) (fun A' Ex Q' hq => ?_) fun s2 H2 xs hx hr' => ?_
    · rw [hb kV doc pm an cdv ct us hu]
      exact PySem.wpAny_pure (hq s H _ us e0 Un.refl rfl (fun _ _ z => z) r (hl a) ⟨rfl, rfl⟩)
    · obtain ⟨rfl, rfl⟩ := hx
      exact body cdv A outer s2 H2 Q E a ⟨hr', hr.gs⟩ ha
  · exact absurd rfl e
/-- .. which lets nothing out -/
theorem HasAt.fn {α : Type} {args : α → List V} {pre : α → Hp → VK → XK → Prop} (h : HasAt K f x qual st) (S : FnScope N ps (defScope st)) (hl : ∀ a, (args a).length = ps.length)
    (hb : ∀ (kV doc pm : Value) (an : Option Addr) (cdv ct : Value) (us : List Value), us.length = ps.length → bindArgs (PySem.W.fnOf x qual (defArgs st) (defBody st) (defScope st) .none kV doc pm an cdv ct) ⟨us, []⟩ = pure (ps.zip us))
    (body : ∀ (cdv : Value) (A : Around) (outer : List Env) (s : Shared) (H : Hp) (Q : VK) (E : XK) (a : α), RoomG gd k (A.deeper (PyProof.Rows.envOfC qual (defScope st) s.heap.objs.size f cdv)) → pre a H Q E →
      ∃ t, PSs (cxOf CX0 P w K mg base N qual (defScope st) f cdv A outer s H E).nox (defBody st) t ∧ t { nx := fun _ H' => Q .non H', rt := Q } (start N (args a)) H) :
    FnG gd P w K mg base CX0 (k + 1) f (mkSp args pre) := by
  refine HasAt.fnX h S hl hb fun cdv A outer s H Q E a hr ha => ?_
  obtain ⟨t, h1, h2⟩ := body cdv A outer s H Q E a hr ha
  exact ⟨t, h1.nox, h2⟩
theorem Has.fnX {α : Type} {args : α → List V} {pre : α → Hp → VK → XK → Prop} (h : Has K mg x st) (S : FnScope N ps (defScope st)) (hl : ∀ a, (args a).length = ps.length)
    (hb : ∀ (kV doc pm : Value) (an : Option Addr) (cdv ct : Value) (us : List Value), us.length = ps.length → bindArgs (PySem.W.fnOf x x (defArgs st) (defBody st) (defScope st) .none kV doc pm an cdv ct) ⟨us, []⟩ = pure (ps.zip us))
    (body : ∀ (f : Addr) (cdv : Value) (A : Around) (outer : List Env) (s : Shared) (H : Hp) (Q : VK) (E : XK) (a : α), RoomG gd k (A.deeper (PyProof.Rows.envOfC x (defScope st) s.heap.objs.size f cdv)) → pre a H Q E →
      ∃ t, PSs (cxOf CX P w K mg base N x (defScope st) f cdv A outer s H E) (defBody st) t ∧ t { nx := fun _ H' => Q .non H', rt := Q } (start N (args a)) H) :
    Fn gd P w K mg base CX (k + 1) x (mkSp args pre) := by
  obtain ⟨f, F, hm, hk⟩ := h
  exact ⟨f, F.fnX S hl hb (body f), hm, hk⟩
theorem Has.fn {α : Type} {args : α → List V} {pre : α → Hp → VK → XK → Prop} (h : Has K mg x st) (S : FnScope N ps (defScope st)) (hl : ∀ a, (args a).length = ps.length)
    (hb : ∀ (kV doc pm : Value) (an : Option Addr) (cdv ct : Value) (us : List Value), us.length = ps.length → bindArgs (PySem.W.fnOf x x (defArgs st) (defBody st) (defScope st) .none kV doc pm an cdv ct) ⟨us, []⟩ = pure (ps.zip us))
    (body : ∀ (f : Addr) (cdv : Value) (A : Around) (outer : List Env) (s : Shared) (H : Hp) (Q : VK) (E : XK) (a : α), RoomG gd k (A.deeper (PyProof.Rows.envOfC x (defScope st) s.heap.objs.size f cdv)) → pre a H Q E →
      ∃ t, PSs (cxOf CX0 P w K mg base N x (defScope st) f cdv A outer s H E).nox (defBody st) t ∧ t { nx := fun _ H' => Q .non H', rt := Q } (start N (args a)) H) :
    Fn gd P w K mg base CX0 (k + 1) x (mkSp args pre) := by
  obtain ⟨f, F, hm, hk⟩ := h
  exact ⟨f, F.fn S hl hb (body f), hm, hk⟩
end
section
variable {gd : Bool} {X : Cx} {CX : CXT} {k : Nat} {x : Str} {sp : Sp} {E : XK} {p pos : Pos} {e : Expr} {es : List Expr} {t : TA}
/-- the callee runs -/
theorem run_fnG {pins : List (Addr × Obj)} {σ : L2.St} {H : Hp} {s : Shared} {f : Addr} {Q : VK} {us : List Value} {vs : List V} (F : FnG gd X.prog X.w X.K X.mg X.base CX k f sp) (hr : RoomG gd k X.A) (hx : Passes CX X E) (I : Inv X pins σ H s) (r : Vals vs us) (h : sp vs H Q E) :
    codeAny (model X.prog X.w) X.A (.call (.ref f) ⟨us, []⟩) (fun r s' => match r with | .ok (.ret v) => EP X pins σ Q v s' | .ok _ => False | .error e => X.xe e s') s := by
  refine codeAny_mono (F X.A X.stack s H us vs Q E hr I.env0 r h) fun r s' hq => ?_
  match r, hq with
  | .error e, hq => exact hx pins σ H s e s' I hq
  | .ok (.ret u), hq => exact I.after hq
  | .ok .next, hq => exact False.elim hq
  | .ok .brk, hq => exact False.elim hq
  | .ok .cont, hq => exact False.elim hq
/-- f(..) by position -/
def tFn (sp : Sp) (E : XK) (t : TA) : TE := fun σ H Q => t σ H fun vs H1 => sp vs H1 Q E
theorem pe_fnX (h : Fn gd X.prog X.w X.K X.mg X.base CX k x sp) (hr : RoomG gd k X.A) (hg : Gl X x) (hx : Passes CX X E) (ha : PA X (e :: es) t) (hdb : (x == ("__debug__" : Str)) = false := by decide) (he : starEach (e :: es) X.env = (false, eval e X.env) :: starEach es X.env := by rfl)
    (hpl : (backTo pos (starEach es X.env)).any (·.1) = false := by rfl) : PE X (.Call (.Name x p) (e :: es) [] pos) (tFn sp E t) := by
  obtain ⟨f, F, hm, hk⟩ := h
  refine ⟨fun pins s σ H Q I h => ?_⟩
  refine wpAny_Call_Name_kw (ld_glob I hg hm ?_ hdb)
  refine PySem.W.callWith_K (h₀ := X.base) I.ok.mod.kin hk (thn (ha.run pos pins s σ H _ I h) fun us s1 ⟨vs, H1, I1, r, q⟩ => ⟨I1.kIn, ?_⟩) he hpl
  exact wpAny_call (run_fnG F hr hx I1 r q)
theorem pe_fnX0 (h : Fn gd X.prog X.w X.K X.mg X.base CX k x sp) (hr : RoomG gd k X.A) (hg : Gl X x) (hx : Passes CX X E) (hdb : (x == ("__debug__" : Str)) = false := by decide) : PE X (.Call (.Name x p) [] [] pos) (tFn sp E tNil) := by
  obtain ⟨f, F, hm, hk⟩ := h
  refine ⟨fun pins s σ H Q I h => ?_⟩
  refine wpAny_Call_Name_kw (ld_glob I hg hm ?_ hdb)
  exact PySem.W.callWith_K0 I.kIn hk (wpAny_call (run_fnG (us := []) F hr hx I .nil h))
theorem pe_fn (h : Fn gd X.prog X.w X.K X.mg X.base CX0 k x sp) (hr : RoomG gd k X.A) (hg : Gl X x) (ha : PA X (e :: es) t) (hdb : (x == ("__debug__" : Str)) = false := by decide) (he : starEach (e :: es) X.env = (false, eval e X.env) :: starEach es X.env := by rfl)
    (hpl : (backTo pos (starEach es X.env)).any (·.1) = false := by rfl) : PE X (.Call (.Name x p) (e :: es) [] pos) (tFn sp E0 t) := pe_fnX h hr hg pass0 ha hdb he hpl
theorem pe_fn0 (h : Fn gd X.prog X.w X.K X.mg X.base CX0 k x sp) (hr : RoomG gd k X.A) (hg : Gl X x) (hdb : (x == ("__debug__" : Str)) = false := by decide) : PE X (.Call (.Name x p) [] [] pos) (tFn sp E0 tNil) := pe_fnX0 h hr hg pass0 hdb
theorem rd_fn {σ : L2.St} {H : Hp} {Q : VK} (q : t σ H fun vs H1 => sp vs H1 Q E) : tFn sp E t σ H Q := q
end
/-! ### heaps -/
theorem same_new {H : Hp} {p : Addr} {o : HO} (h : H p = none) : Same H (upd H p o) := fun b u e => by
  rw [upd_ne (ne_of_none e h)]
  exact e
/-- a new object, told by what it is -/
theorem new_of {H : Hp} {o : HO} {Q : V → Hp → Prop} (h : ∀ p H', H p = none → Same H H' → H' p = some o → Q (.ref p) H') : ∀ p, H p = none → Q (.ref p) (upd H p o) := fun p hp => h p _ hp (same_new hp) upd_same
theorem rd_new {n : Nat} {H : Hp} {o : HO} {Q : V → Hp → Prop} (hn : n ≤ sizeLine) (h : ∀ p H', H p = none → Same H H' → H' p = some o → Q (.ref p) H') : n ≤ sizeLine ∧ ∀ p, H p = none → Q (.ref p) (upd H p o) := ⟨hn, new_of h⟩
theorem Same.at {H H' : Hp} (e : Same H H') {b : Addr} {o : HO} (h : H b = some o) : H' b = some o := e b o h
theorem Same.sqT {K : PySem.W.Frag} {H H' : Hp} {a : Addr} {xs : List V} (e : Same H H') (h : SqT K H a xs) : SqT K H' a xs := by
  rcases h with (h | ⟨o, h⟩) | h
  · exact .inl (.inl (e _ _ h))
  · exact .inl (.inr ⟨o, e _ _ h⟩)
  · exact .inr h
/-- a list that is not at p stays -/
theorem sq_upd {K : PySem.W.Frag} {H : Hp} {a p : Addr} {xs : List V} {o : HO} (hne : a ≠ p) (h : SqL K H a xs) : SqL K (upd H p o) a xs := by
  rcases h with (h | ⟨o', h⟩) | h
  · exact .inl (.inl (by rw [upd_ne hne]; exact h))
  · exact .inl (.inr ⟨o', by rw [upd_ne hne]; exact h⟩)
  · exact .inr h
theorem small64 {n : Nat} (h : n ≤ 100000) : n ≤ sizeLine := Nat.le_trans h (by decide)
/-! ### displays: a new tuple, a new list -/
def rMkTup : List V → Hp → VK → Prop := fun xs H Q => xs.length ≤ sizeLine ∧ ∀ p, H p = none → Q (.ref p) (upd H p (.tup xs))
def rMkLst : List V → Hp → VK → Prop := fun xs H Q => xs.length ≤ sizeLine ∧ ∀ p, H p = none → Q (.ref p) (upd H p (.lst xs))
section
variable {X : Cx} {es : List Expr} {t : TA} {k : Nat} {pos : Pos} {H : Hp} {Q : VK} {xs : List V}
theorem pe_tup (h : PA X es t) : PE X (.Tuple es k pos) (tCB rMkTup t) := L2.pe_tup h
theorem pe_lst (h : PA X es t) : PE X (.List es pos) (tCB rMkLst t) := L2.pe_lst h
theorem rd_mkTup (hn : xs.length ≤ sizeLine) (q : ∀ p H', H p = none → Same H H' → H' p = some (.tup xs) → Q (.ref p) H') : rMkTup xs H Q := ⟨hn, fun p hp => q p _ hp (same_new hp) upd_same⟩
theorem rd_mkLst (hn : xs.length ≤ sizeLine) (q : ∀ p H', H p = none → Same H H' → H' p = some (.lst xs) → Q (.ref p) H') : rMkLst xs H Q := ⟨hn, fun p hp => q p _ hp (same_new hp) upd_same⟩
end
/-! ### isinstance -/
/-- isinstance(v, n) for a built-in class n -/
def Isi (K : PySem.W.Frag) (H : Hp) (v : V) (n : String) (b : Bool) : Prop := ∃ t, TyX K H v t ∧ PySem.W.kitOne K t (.type n) = some b
section
variable {K : PySem.W.Frag} {H : Hp} {Q : VK} {v : V} {n : String} {b : Bool} {a : Addr} {xs : List V}
theorem rd_isi (h : Isi K H v n b) (q : Q (.bl b) H) : rIsi K [v, .ty n] H Q := by
  obtain ⟨t, h1, h2⟩ := h
  exact ⟨v, .ty n, t, .type n, b, rfl, .ty n, h1, h2, q⟩
theorem ty_tup (h : SqT K H a xs) : TyX K H (.ref a) (.type "tuple") := by
  rcases h with (h | ⟨o, h⟩) | ⟨o, its, n, h1, h2, _⟩
  · exact .base (.tup h)
  · exact .fTuple h
  · exact .kTuple h1 h2
theorem ty_lst (h : SqL K H a xs) : TyX K H (.ref a) (.type "list") := by
  rcases h with (h | ⟨o, h⟩) | ⟨o, its, n, h1, h2, _⟩
  · exact .base (.lst h)
  · exact .base (.frz h)
  · exact .kList h1 h2
theorem isi_of {t : String} (h : TyX K H v (.type t)) (hk : kitB t n = some b) : Isi K H v n b := ⟨_, h, kit_ty hk⟩
theorem isi_int {i : Int} (hk : kitB "int" n = some b) : Isi K H (.int i) n b := isi_of (.base (.int i)) hk
theorem isi_bl {i : Bool} (hk : kitB "bool" n = some b) : Isi K H (.bl i) n b := isi_of (.base (.bl i)) hk
theorem isi_str {x : Str} (hk : kitB "str" n = some b) : Isi K H (.str x) n b := isi_of (.base (.str x)) hk
theorem isi_non (hk : kitB "NoneType" n = some b) : Isi K H .non n b := isi_of (.base .non) hk
theorem isi_tup (h : SqT K H a xs) (hk : kitB "tuple" n = some b) : Isi K H (.ref a) n b := isi_of (ty_tup h) hk
theorem isi_lst (h : SqL K H a xs) (hk : kitB "list" n = some b) : Isi K H (.ref a) n b := isi_of (ty_lst h) hk
theorem isi_dK {kvs : List (Key × V)} (h : H a = some (.dK kvs)) (hk : kitB "dict" n = some b) : Isi K H (.ref a) n b := isi_of (.base (.dK h)) hk
theorem kk_int_int : kitB "int" "int" = some true := by decide +kernel
theorem kk_int_bool : kitB "int" "bool" = some false := by decide +kernel
theorem kk_bool_int : kitB "bool" "int" = some true := by decide +kernel
theorem kk_bool_bool : kitB "bool" "bool" = some true := by decide +kernel
theorem kk_str_int : kitB "str" "int" = some false := by decide +kernel
theorem kk_none_int : kitB "NoneType" "int" = some false := by decide +kernel
theorem kk_tup_int : kitB "tuple" "int" = some false := by decide +kernel
theorem kk_lst_int : kitB "list" "int" = some false := by decide +kernel
theorem kk_dict_int : kitB "dict" "int" = some false := by decide +kernel
theorem kk_tup_tup : kitB "tuple" "tuple" = some true := by decide +kernel
theorem c_isi {X : Cx} : CallR X (.builtin "isinstance") (rIsi X.K) := call_isi
theorem c_all {X : Cx} (hc : X.calm = true) : CallR X (.builtin "all") (rAll X.K) := cr_all hc
theorem rd_all {bs : List Bool} (h : SqL K H a (bs.map V.bl)) (q : Q (.bl (bs.all id)) H) : rAll K [.ref a] H Q := ⟨a, bs, rfl, h, q⟩
end
/-! ### loops and comprehensions over what stays -/
section
variable {K : PySem.W.Frag} {σ : L2.St} {H : Hp} {Q : VK} {g : TG} {te tl : TE} {tt : TT} {ta : TA} {vs : List Nat} {a : Addr} {xs : List V} {D : Ends} {tb : TS} {wi : TI}
/-- what is walked: value by value -/
def rIT (K : PySem.W.Frag) (x : V) (H : Hp) (R : It → Hp → Prop) : Prop := ∃ a, x = .ref a ∧ (∃ xs, SqT K H a xs) ∧ R (Itt K a) H
def rIL (K : PySem.W.Frag) (x : V) (H : Hp) (R : It → Hp → Prop) : Prop := ∃ a, x = .ref a ∧ (∃ xs, SqL K H a xs) ∧ R (Itl K a) H
def rIR1 (vs : List V) (H : Hp) (R : It → Hp → Prop) : Prop := ∃ j : Int, vs = [.int j] ∧ -(2 ^ 62) ≤ j ∧ j < 2 ^ 62 ∧ R (Itr 0 j.toNat) H
def rIR2 (vs : List V) (H : Hp) (R : It → Hp → Prop) : Prop := ∃ i j : Int, vs = [.int i, .int j] ∧ (-(2 ^ 62) ≤ i ∧ i < 2 ^ 62 ∧ -(2 ^ 62) ≤ j ∧ j < 2 ^ 62) ∧ R (Itr i (j - i).toNat) H
theorem rd_iTup {R : It → Hp → Prop} (q : tl σ H fun x H1 => rIT K x H1 R) : iTup K tl σ H R := q
theorem rd_iList {R : It → Hp → Prop} (q : tl σ H fun x H1 => rIL K x H1 R) : iList K tl σ H R := q
theorem rd_iRng1 {R : It → Hp → Prop} (q : ta σ H fun vs H1 => rIR1 vs H1 R) : iRng1 ta σ H R := q
theorem rd_iRng2 {R : It → Hp → Prop} (q : ta σ H fun vs H1 => rIR2 vs H1 R) : iRng2 ta σ H R := q
theorem rd_IT {R : It → Hp → Prop} (h : SqT K H a xs) (q : R (Itt K a) H) : rIT K (.ref a) H R := ⟨a, rfl, ⟨xs, h⟩, q⟩
theorem rd_IL {R : It → Hp → Prop} (h : SqL K H a xs) (q : R (Itl K a) H) : rIL K (.ref a) H R := ⟨a, rfl, ⟨xs, h⟩, q⟩
theorem rd_IR1 {R : It → Hp → Prop} {j : Int} (h0 : -(2 ^ 62) ≤ j) (h1 : j < 2 ^ 62) (q : R (Itr 0 j.toNat) H) : rIR1 [.int j] H R := ⟨j, rfl, h0, h1, q⟩
theorem rd_IR2 {R : It → Hp → Prop} {i j : Int} (h : -(2 ^ 62) ≤ i ∧ i < 2 ^ 62 ∧ -(2 ^ 62) ≤ j ∧ j < 2 ^ 62) (q : R (Itr i (j - i).toNat) H) : rIR2 [.int i, .int j] H R := ⟨i, j, rfl, h, q⟩
/-- a comprehension's, a loop's turns over J -/
def rLc (g : TG) (tt : TT) (te : TE) (vs : List Nat) (σ : L2.St) (Q : VK) (J : It) (H : Hp) : Prop := ∀ D, H D = none → ∃ W : Nat → Nat → Hp → Prop, (∃ m, W 0 m (upd H D (.lst []))) ∧ ∀ i m H, W i m H →
  (J.stop i H ∧ Q (.ref D) H) ∨ (J.go i H ∧ ∃ Nx : Hp → Prop, (∀ H', Nx H' → ∃ m', m' < m ∧ W (i + 1) m' H') ∧ ∀ x H', J.yld i H x H' → g x (wipe σ vs) H' fun σ2 H2 => wipe σ2 vs = wipe σ vs ∧ tt σ2 H2 fun b H3 =>
    if b = true then te σ2 H3 fun y H4 => ∃ acc, H4 D = some (.lst acc) ∧ acc.length < sizeLine ∧ Nx (upd H4 D (.lst (acc ++ [y]))) else Nx H3)
def rFor (g : TG) (tb : TS) (D : Ends) (σ : L2.St) (J : It) (H : Hp) : Prop := ∃ W : Nat → Nat → L2.St → Hp → Prop, (∃ m, W 0 m σ H) ∧ ∀ i m σ H, W i m σ H →
  (J.stop i H ∧ D.nx σ H) ∨ (J.go i H ∧ ∃ N : L2.St → Hp → Prop, (∀ σ' H', N σ' H' → ∃ m', m' < m ∧ W (i + 1) m' σ' H') ∧ ∀ x H', J.yld i H x H' → g x σ H' fun σ2 H2 => tb { D with nx := N, ct := N, bk := D.nx } σ2 H2)
theorem rd_lc (q : wi σ H fun J H1 => rLc g tt te vs σ Q J H1) : tLc wi g tt te vs σ H Q := q
theorem rd_for (q : wi σ H fun J H1 => rFor g tb D σ J H1) : tFor wi g tb D σ H := q
theorem for_tup (Pv : Nat → L2.St → Hp → Prop) (h0 : Pv 0 σ H) (hl : ∀ i σ H, i ≤ xs.length → Pv i σ H → SqT K H a xs)
    (hs : ∀ i x σ H, xs[i]? = some x → Pv i σ H → g x σ H fun σ2 H2 => tb { nx := Pv (i + 1), rt := D.rt, ct := Pv (i + 1), bk := D.nx } σ2 H2) (hd : ∀ σ H, Pv xs.length σ H → D.nx σ H) : rFor g tb D σ (Itt K a) H := L2.for_tup Pv h0 hl hs hd
theorem for_list (Pv : Nat → L2.St → Hp → Prop) (h0 : Pv 0 σ H) (hl : ∀ i σ H, i ≤ xs.length → Pv i σ H → SqL K H a xs)
    (hs : ∀ i x σ H, xs[i]? = some x → Pv i σ H → g x σ H fun σ2 H2 => tb { nx := Pv (i + 1), rt := D.rt, ct := Pv (i + 1), bk := D.nx } σ2 H2) (hd : ∀ σ H, Pv xs.length σ H → D.nx σ H) : rFor g tb D σ (Itl K a) H := L2.for_list Pv h0 hl hs hd
theorem for_range {lo : Int} {n : Nat} (Pv : Nat → L2.St → Hp → Prop) (h0 : Pv 0 σ H)
    (hs : ∀ i σ H, i < n → Pv i σ H → g (.int (lo + i)) σ H fun σ2 H2 => tb { nx := Pv (i + 1), rt := D.rt, ct := Pv (i + 1), bk := D.nx } σ2 H2) (hd : ∀ σ H, Pv n σ H → D.nx σ H) : rFor g tb D σ (Itr lo n) H := L2.for_range Pv h0 hs hd
/-- what a comprehension makes, item by item, of things that stay: f of each item -/
theorem lc_pure {J : It} (f : V → V) (hz : xs.length ≤ 100000)
    (go : ∀ i H1, i < xs.length → Same H H1 → J.go i H1) (stop : ∀ H1, Same H H1 → J.stop xs.length H1) (yld : ∀ i H1 x H2, i < xs.length → Same H H1 → J.yld i H1 x H2 → H2 = H1 ∧ xs[i]? = some x)
    (step : ∀ x H1 (N : V → Hp → Prop), x ∈ xs → Same H H1 → (∀ H2, Same H1 H2 → N (f x) H2) → g x (wipe σ vs) H1 fun σ2 H2 => wipe σ2 vs = wipe σ vs ∧ te σ2 H2 N)
    (done : ∀ D H', H D = none → Same H H' → H' D = some (.lst (xs.map f)) → Q (.ref D) H') : rLc g tYes te vs σ Q J H := by
  intro D hD
  let Pv : Nat → Hp → Prop := fun i H1 => Same H H1 ∧ H1 D = some (.lst ((xs.take i).map f))
  refine ⟨fun i m H1 => m = xs.length - i ∧ i ≤ xs.length ∧ Pv i H1, ⟨xs.length, by simp, Nat.zero_le _, same_new hD, by rw [upd_same]; rfl⟩, ?_⟩
  rintro i m H1 ⟨rfl, hi, s1, hd1⟩
  by_cases hlt : i < xs.length
  · refine .inr ⟨go i H1 hlt s1, Pv (i + 1), fun H' p' => ⟨xs.length - (i + 1), by omega, rfl, hlt, p'⟩, fun x H' y => ?_⟩
    obtain ⟨rfl, ex⟩ := yld i H1 x H' hlt s1 y
    refine step x H' _ (List.mem_of_getElem? ex) s1 fun H2 s2 => ?_
    have hz2 : ((xs.take i).map f).length < sizeLine := by
      rw [List.length_map, List.length_take]
      exact Nat.lt_of_le_of_lt (Nat.le_trans (Nat.min_le_right _ _) hz) (by decide)
    refine ⟨_, s2 _ _ hd1, hz2, ?_⟩
    refine ⟨fun b o e => ?_, ?_⟩
    · rw [upd_ne (ne_of_none e hD)]
      exact s2 _ _ (s1 _ _ e)
    · rw [upd_same, List.take_add_one, ex, List.map_append]
      rfl
  · have e : i = xs.length := by omega
    subst e
    refine .inl ⟨stop H1 s1, done D H1 hD s1 ?_⟩
    rw [hd1, List.take_length]
/-- .. over a tuple, a list -/
theorem lc_tup (f : V → V) (hz : xs.length ≤ 100000) (hS : SqT K H a xs)
    (step : ∀ x H1 (N : V → Hp → Prop), x ∈ xs → Same H H1 → (∀ H2, Same H1 H2 → N (f x) H2) → g x (wipe σ vs) H1 fun σ2 H2 => wipe σ2 vs = wipe σ vs ∧ te σ2 H2 N)
    (done : ∀ D H', H D = none → Same H H' → H' D = some (.lst (xs.map f)) → Q (.ref D) H') : rLc g tYes te vs σ Q (Itt K a) H := by
  refine lc_pure (xs := xs) f hz (fun i H1 hi s1 => ?_) (fun H1 s1 => ?_) (fun i H1 x H2 hi s1 y => ?_) step done
  · exact ⟨xs, xs[i], Same.sqT s1 hS, by simp [hi]⟩
  · exact ⟨xs, Same.sqT s1 hS, Nat.le_refl _⟩
  · obtain ⟨e, y⟩ := y
    exact ⟨e, y xs (Same.sqT s1 hS)⟩
theorem lc_lst (f : V → V) (hz : xs.length ≤ 100000) (hS : SqL K H a xs)
    (step : ∀ x H1 (N : V → Hp → Prop), x ∈ xs → Same H H1 → (∀ H2, Same H1 H2 → N (f x) H2) → g x (wipe σ vs) H1 fun σ2 H2 => wipe σ2 vs = wipe σ vs ∧ te σ2 H2 N)
    (done : ∀ D H', H D = none → Same H H' → H' D = some (.lst (xs.map f)) → Q (.ref D) H') : rLc g tYes te vs σ Q (Itl K a) H := by
  refine lc_pure (xs := xs) f hz (fun i H1 hi s1 => ?_) (fun H1 s1 => ?_) (fun i H1 x H2 hi s1 y => ?_) step done
  · exact ⟨xs, xs[i], L2.Same.seq s1 hS, by simp [hi]⟩
  · exact ⟨xs, L2.Same.seq s1 hS, Nat.le_refl _⟩
  · obtain ⟨e, y⟩ := y
    exact ⟨e, y xs (L2.Same.seq s1 hS)⟩
end
section
variable {σ : L2.St} {H : Hp} {c : TT} {tb : TS} {D : Ends}
/-- while: W with its measure -/
theorem rd_while (W : Nat → L2.St → Hp → Prop) (m : Nat) (w0 : W m σ H)
    (step : ∀ m σ H, W m σ H → c σ H fun b H1 => if b = true then ∃ N : L2.St → Hp → Prop, (∀ σ' H', N σ' H' → ∃ m', m' < m ∧ W m' σ' H') ∧ tb { nx := N, rt := D.rt, bk := D.nx, ct := N } σ H1 else D.nx σ H1) : tWhile c tb D σ H :=
  ⟨W, ⟨m, w0⟩, step⟩
theorem rd_turn {W : Nat → L2.St → Hp → Prop} {m : Nat} {rt : VK} {bk : L2.St → Hp → Prop} (q : tb { nx := fun σ' H' => ∃ m', m' < m ∧ W m' σ' H', rt := rt, bk := bk, ct := fun σ' H' => ∃ m', m' < m ∧ W m' σ' H' } σ H) :
    ∃ N : L2.St → Hp → Prop, (∀ σ' H', N σ' H' → ∃ m', m' < m ∧ W m' σ' H') ∧ tb { nx := N, rt := rt, bk := bk, ct := N } σ H := ⟨_, fun _ _ h => h, q⟩
theorem rd_aug {i : Nat} {x : V} {te : TE} {ti : TIp} (h : σ[i]? = some (some x)) (q : te σ H fun y H1 => ti x y H1 fun z H2 => D.nx (σ.set i (some z)) H2) : tAug i te ti D σ H := ⟨x, h, q⟩
theorem rd_ipI {f : Int → Int → Int} {Q : VK} {a b : Int} (q : Q (.int (f a b)) H) : ipI f (.int a) (.int b) H Q := ⟨a, b, rfl, rfl, q⟩
theorem rd_slice {X : V → Option Int → Option Int → Hp → VK → Prop} {Q : VK} {x : V} {lo hi : Option Int} (q : X x lo hi H Q) : X x lo hi H Q := q
theorem rd_slA {K : PySem.W.Frag} {a : Addr} {xs : List V} {lo hi : Option Int} {Q : VK} (h : SqT K H a xs) (q1 : HT.sIx xs.length 0 lo = 0 ∧ HT.sIx xs.length xs.length hi = xs.length → Q (.ref a) H)
    (q2 : ¬ (HT.sIx xs.length 0 lo = 0 ∧ HT.sIx xs.length xs.length hi = xs.length) → ∀ p, H p = none → Q (.ref p) (upd H p (.tup (cutV xs lo hi)))) : rSlA K (.ref a) lo hi H Q := ⟨a, xs, rfl, h, q1, q2⟩
/-- a slice, told by what it is -/
theorem rd_cut {K : PySem.W.Frag} {a : Addr} {xs : List V} {lo hi : Option Int} {Q : VK} (h : SqT K H a xs) (q : ∀ p H', Same H H' → SqT K H' p (cutV xs lo hi) → Q (.ref p) H') : rSlA K (.ref a) lo hi H Q := by
  refine rd_slA h (fun e => q a H (Same.refl H) ?_) fun _ p hp => q p _ (same_new hp) (SqT.of upd_same)
  unfold cutV
  rw [e.1, e.2, List.drop_zero, Nat.sub_zero, List.take_length]
  exact h
theorem cut_to (xs : List V) (n : Nat) (h : n ≤ xs.length) : cutV xs none (some (n : Int)) = xs.take n := by
  unfold cutV HT.sIx
  dsimp only
  rw [if_neg (by omega), List.drop_zero]
  congr 1
  omega
theorem rd_nx {n : L2.St → Hp → Prop} {r : VK} {b c : L2.St → Hp → Prop} (q : n σ H) : (Ends.mk n r b c).nx σ H := q
theorem rd_bk {n : L2.St → Hp → Prop} {r : VK} {b c : L2.St → Hp → Prop} (q : b σ H) : (Ends.mk n r b c).bk σ H := q
theorem rd_ct {n : L2.St → Hp → Prop} {r : VK} {b c : L2.St → Hp → Prop} (q : c σ H) : (Ends.mk n r b c).ct σ H := q
theorem rd_rt {n : L2.St → Hp → Prop} {r : VK} {b c : L2.St → Hp → Prop} {v : V} (q : r v H) : (Ends.mk n r b c).rt v H := q
theorem rd_sl {r : V → Option Int → Option Int → Hp → VK → Prop} {ta : TE} {tl th : TO} {Q : VK} (q : ta σ H fun x H1 => tl σ H1 fun lo H2 => th σ H2 fun hi H3 => r x lo hi H3 Q) : tSl r ta tl th σ H Q := q
theorem rd_noPart {Q : Option Int → Hp → Prop} (q : Q none H) : tNoPart σ H Q := q
theorem rd_part {t : TE} {Q : Option Int → Hp → Prop} (q : t σ H fun x H1 => ∃ i, x = .int i ∧ Q (some i) H1) : tPart t σ H Q := q
theorem rd_intV {a : Int} {P : Int → Prop} (q : P a) : ∃ k, V.int a = .int k ∧ P k := ⟨a, rfl, q⟩
end
end Rd
set_option Elab.async false
set_option linter.all false
set_option maxRecDepth 100000
set_option maxHeartbeats 4000000
/-! Rg: the end of a walk whose promises know that no repr is under way. -/
namespace Rd
open PySem PySem.Spec PyProof.Rows L2
theorem roomG_caller {k : Nat} (h : Room k callerA) : RoomG true k callerA := ⟨h, fun _ => rfl⟩
section
variable {P : Program} {w : World} {K : PySem.W.Frag} {mg mb : Str → Option Value} {CX : CXT} {k : Nat} {fa a : Addr} {sp : Sp} {s₁ : Shared} {vs : List Value} {ns : List Int}
/-- the law is called, its script at a being the one thing that is tracked -/
theorem law_at (H : Hp) (KX : K.In s₁.heap) (hns : s₁.heap.Ns mainGlobals mg) (hb : s₁.heap.Ns builtinsNs mb) (hbb : ∀ x : Str, x ≠ "__name__" → mb x = bootBuiltins x) (hlim : s₁.heap.NoLimit) (hg : s₁.gens = #[])
    (ha : s₁.heap.get? a = some { cls := .type "list", data := .seq vs.toArray }) (hr : RoomG true k callerA) (F : ∀ base : Heap, FnG true P w K mg base CX k fa sp) (hok : HOk P w H s₁.heap)
    (only : ∀ b, H b ≠ none → b = a ∧ K.lookup a = none ∧ ∃ o xs, H b = some (.frz o (.lst xs))) (hsp : sp [.ref a] H (fun v _ => v = .bl true) fun _ _ _ => False) (hCX : ∀ e s', ¬ CX [] H s₁ (fun _ _ _ => False) e s') :
    codeAny (model P w) callerA (.call (.ref fa) ⟨[.ref a], []⟩) (fun r s' => r = .ok (.ret (.bool true)) ∧ OldK s₁.heap s'.heap ∧ s'.os = s₁.os ∧ AllBare s'.gens) s₁ := by
  -- what is no list is not tracked
  have free : ∀ {b o es ep}, s₁.heap.get? b = some o → o.data = .dict es ep → H b = none := by
    intro b o es ep e d
    refine Classical.byContradiction fun n => ?_
    rw [(only b n).1, ha] at e
    injection e with e
    rw [← e] at d
    exact nomatch (show Data.seq vs.toArray _ = Data.dict es ep from d)
  have names : ∀ {b m}, s₁.heap.Ns b m → (hidT s₁.heap H).Ns b m := by
    rintro b m ⟨o, es, ep, e, d, r⟩
    exact ⟨o, es, ep, hidT_get e (free e d), d, r⟩
  have kin : K.In (hidT s₁.heap H) := by
    intro b o e
    refine hidT_get (KX b o e) (Classical.byContradiction fun n => ?_)
    obtain ⟨rfl, hk, _⟩ := only b n
    exact nomatch hk.symm.trans e
  obtain ⟨mc, lim1, lim2⟩ := hlim
  have md : Mod K mg (hidT s₁.heap H) := ⟨kin, names hns, ⟨mb, names hb, hbb⟩, mc, names lim1, lim2⟩
  have env : Env0 P w K mg (hidT s₁.heap H) callerA [] s₁ H :=
    { frames := rfl, mod := md, bs := fun b o e => of_hidT e, bsz := Nat.le_of_eq (hidT_size _ _), funs := trivial, frf := fun b hb => absurd (show b ∈ ([] : List Addr) from hb) (by simp), hok := hok, bare := .of_eq hg }
  refine codeAny_mono (F _ callerA [] s₁ H [.ref a] [.ref a] _ _ hr env (.cons rfl .nil) hsp) fun r s' h => ?_
  match r, h with
  | .error e, h => exact (hCX e s' h).elim
  | .ok .next, h => exact False.elim h
  | .ok .brk, h => exact False.elim h
  | .ok .cont, h => exact False.elim h
  | .ok (.ret u), h =>
    obtain ⟨v, H', os, bare, un, hok', rv, q⟩ := h
    have qv : v = .bl true := q
    rw [qv] at rv
    obtain rfl : u = Value.bool true := rv
    refine ⟨rfl, OldK.of_keep fun b o e => ?_, os, bare⟩
    by_cases n : H b = none
    · exact un.keep b o e n (fun z => absurd (show b ∈ ([] : List Addr) from z) (by simp)) (by simp)
    · obtain ⟨_, _, ob, xs, z⟩ := only b n
      obtain ⟨e1, _⟩ := hok b _ z
      obtain ⟨e2, _⟩ := hok' b _ (un.frzs b ob _ z)
      rw [e] at e1
      injection e1 with e1
      rw [e1]
      exact e2
end
theorem walk_ofG {l : PySem.W.OpenLaw} {n k : Nat} {q : Program} {loose : List Str} {XP : (Str → Option Value) → Heap → Prop} {YP : World → Heap → Prop} {d : DefRec} (hn : l.most = some n) (hn2 : n ≤ sizeLine) (hdf : d.params.defaults = []) (hr : RoomG true k callerA)
    (F : ∀ (w : World) (mg : Str → Option Value) (fa : Addr) (h : Heap), YP w h → h.Ns mainGlobals mg → mg d.name = some (.ref fa) → ∃ (K : PySem.W.Frag) (sp : Sp), K.In h ∧
      (∀ (H : Hp) (a : Addr) (ns : List Int), ns.length ≤ n → SqL K H a (ns.map V.int) → sp [.ref a] H (fun v _ => v = .bl true) fun _ _ _ => False) ∧ ∀ base : Heap, FnG true l.prog w K mg base CX0 k fa sp) :
    PySem.W.WalkO q loose XP YP l.row.toRowW d [] (fun f vs => PySem.call f vs) := by
  refine Att.attach_call hn hdf fun w s₀ s₁ mg mb fa o pm cd doc a vs ns G Y ho hd hcd hmg hobj hints hlen hg => ?_
  obtain ⟨K, sp, KX, hsp, hF⟩ := F w mg fa _ Y G.T.g hmg
  have rv := vals_ints hints
  have hl : (ns.map V.int).length ≤ sizeLine := by rw [List.length_map]; exact Nat.le_trans hlen hn2
  cases hk : K.lookup a with
  | some o =>
    have e := (KX a o hk).symm.trans hobj
    injection e with e
    subst e
    exact law_at (fun _ => none) KX G.T.g G.T.b G.T.builtins G.T.nolimit hg hobj hr hF (fun b u z => nomatch (show (none : Option HO) = some u from z)) (fun b z => absurd rfl z)
      (hsp _ a ns hlen (.inr ⟨_, vs.toArray, _, hk, rfl, rfl, rfl, by rw [List.size_toArray, hints.length]; exact Nat.le_trans hlen hn2, by simpa using rv⟩)) fun e s' z => z
  | none =>
    let H : Hp := fun b => if b = a then some (.frz { cls := .type "list", data := .seq vs.toArray } (.lst (ns.map V.int))) else none
    have hA : H a = some (.frz { cls := .type "list", data := .seq vs.toArray } (.lst (ns.map V.int))) := if_pos rfl
    have hN : ∀ {b}, b ≠ a → H b = none := fun h => if_neg h
    refine law_at H KX G.T.g G.T.b G.T.builtins G.T.nolimit hg hobj hr hF (fun b u z => ?_) (fun b z => ?_) (hsp H a ns hlen (.inl (.inr ⟨_, hA⟩))) fun e s' z => z
    · by_cases hb : b = a
      · subst hb
        obtain rfl := Option.some.inj (hA.symm.trans z)
        exact ⟨hobj, hl, vs, _, rv, hobj⟩
      · exact nomatch (hN hb).symm.trans z
    · by_cases hb : b = a
      · subst hb
        exact ⟨rfl, hk, _, _, hA⟩
      · exact absurd (hN hb) z
end Rd
set_option Elab.async false
set_option linter.all false
set_option maxRecDepth 100000
set_option maxHeartbeats 4000000
/-! Rl: lists: made of others, appended to, popped, compared, filtered. -/
namespace Rd
open PySem PySem.Spec PyProof.Rows L2
/-- a module's class or def as a value -/
theorem pe_glr {X : Cx} {x : Str} {a : Addr} {pos : Pos} (hg : Gl X x) (hm : X.mg x = some (.ref a)) (hd : (x == ("__debug__" : Str)) = false := by decide) : PE X (.Name x pos) (tC (.ref a)) := pe_glob (v := .ref a) hg hm rfl hd
/-- a module's number -/
theorem pe_gli {X : Cx} {x : Str} {i : Int} {pos : Pos} (hg : Gl X x) (hm : ∃ t, X.mg x = some (.int i t)) (hd : (x == ("__debug__" : Str)) = false := by decide) : PE X (.Name x pos) (tC (.int i)) := by
  obtain ⟨t, hm⟩ := hm
  exact pe_glob (v := .int i) hg hm ⟨t, rfl⟩ hd
theorem pe_gls {X : Cx} {x z : Str} {pos : Pos} (hg : Gl X x) (hm : ∃ t, X.mg x = some (.str z t)) (hd : (x == ("__debug__" : Str)) = false := by decide) : PE X (.Name x pos) (tC (.str z)) := by
  obtain ⟨t, hm⟩ := hm
  exact pe_glob (v := .str z) hg hm ⟨t, rfl⟩ hd
def rListOf (K : PySem.W.Frag) : List V → Hp → VK → Prop := fun xs H Q => ∃ p ys, xs = [.ref p] ∧ (SqL K H p ys ∨ SqT K H p ys) ∧ ∀ l, H l = none → Q (.ref l) (upd H l (.lst ys))
def rTupleOf (K : PySem.W.Frag) : List V → Hp → VK → Prop := fun xs H Q => ∃ p ys, xs = [.ref p] ∧ ((SqL K H p ys ∧ ∀ l, H l = none → Q (.ref l) (upd H l (.tup ys))) ∨ (SqT K H p ys ∧ Q (.ref p) H))
def rRepI : List V → Hp → VK → Prop := fun xs H Q => ∃ i, xs = [.int i] ∧ i.natAbs.log2 < 1920 ∧ Q (.str (toString i)) H
section
variable {X : Cx} {K : PySem.W.Frag} {H : Hp} {Q : VK} {a : Addr} {xs : List V} {v : V} {σ : L2.St}
theorem c_list : CallR X (.type "list") (rListOf X.K) := call_list_of
theorem c_tuple : CallR X (.type "tuple") (rTupleOf X.K) := call_tuple_of
theorem c_reprI : CallR X (.builtin "repr") rRepI := SkE.call_repr_int
theorem rd_listL (h : SqL K H a xs) (q : ∀ l H', H l = none → Same H H' → H' l = some (.lst xs) → Q (.ref l) H') : rListOf K [.ref a] H Q := ⟨a, xs, rfl, .inl h, fun l hl => q l _ hl (same_new hl) upd_same⟩
theorem rd_listT (h : SqT K H a xs) (q : ∀ l H', H l = none → Same H H' → H' l = some (.lst xs) → Q (.ref l) H') : rListOf K [.ref a] H Q := ⟨a, xs, rfl, .inr h, fun l hl => q l _ hl (same_new hl) upd_same⟩
theorem rd_tupleL (h : SqL K H a xs) (q : ∀ l H', H l = none → Same H H' → H' l = some (.tup xs) → Q (.ref l) H') : rTupleOf K [.ref a] H Q := ⟨a, xs, rfl, .inl ⟨h, fun l hl => q l _ hl (same_new hl) upd_same⟩⟩
theorem rd_tupleT (h : SqT K H a xs) (q : Q (.ref a) H) : rTupleOf K [.ref a] H Q := ⟨a, xs, rfl, .inr ⟨h, q⟩⟩
theorem rd_reprI {i : Int} (h : i.natAbs.log2 < 1920) (q : Q (.str (toString i)) H) : rRepI [.int i] H Q := ⟨i, rfl, h, q⟩
/-! methods of lists -/
theorem rd_bm {T : String} {r : V → List V → Hp → VK → Prop} {to : TE} {t : TA} (q : to σ H fun x H1 => tyV K T x H1 ∧ t σ H1 fun xs H2 => r x xs H2 Q) : tBM K T r to t σ H Q := q
theorem rd_bm0 {T : String} {r : V → List V → Hp → VK → Prop} {to : TE} (q : to σ H fun x H1 => tyV K T x H1 ∧ r x [] H1 Q) : tBM0 K T r to σ H Q := q
theorem tyL (h : SqL K H a xs) : tyV K "list" (.ref a) H := .inl ⟨rfl, _, h⟩
theorem rd_append {y : V} (h : H a = some (.lst xs)) (hz : xs.length < sizeLine) (q : Q .non (upd H a (.lst (xs ++ [y])))) : rAppend (.ref a) [y] H Q := ⟨a, xs, y, rfl, rfl, h, hz, q⟩
theorem rd_pop {y : V} (h : H a = some (.lst xs)) (hy : xs[xs.length - 1]? = some y) (q : Q y (upd H a (.lst xs.dropLast))) : rPop (.ref a) [] H Q := ⟨a, xs, y, rfl, rfl, h, hy, q⟩
theorem rd_cat {b : Addr} {ys : List V} (h1 : H a = some (.lst xs)) (h2 : H b = some (.lst ys)) (hz : xs.length + ys.length ≤ sizeLine) (q : ∀ p H', H p = none → Same H H' → H' p = some (.lst (xs ++ ys)) → Q (.ref p) H') : rCat (.ref a) (.ref b) H Q :=
  ⟨a, b, xs, ys, rfl, rfl, h1, h2, hz, fun p hp => q p _ hp (same_new hp) upd_same⟩
/-! deep data -/
theorem dpI (ns : List Int) : DpAll K H (ns.map V.int) (ns.map PyData.int) := by
  induction ns with
  | nil => exact .nil
  | cons n r ih => exact .cons (.int n) ih
theorem rd_eqD {x y : V} {d e : PyData} (h1 : Dp K H x d) (h2 : Dp K H y e) (s1 : SeqAt.shaped d = true) (s2 : SeqAt.shaped e = true) (q : Q (.bl (PyData.eqv d e)) H) : rEqD K x y H Q := ⟨d, e, h1, h2, s1, s2, q⟩
theorem rd_neD {x y : V} {d e : PyData} (h1 : Dp K H x d) (h2 : Dp K H y e) (s1 : SeqAt.shaped d = true) (s2 : SeqAt.shaped e = true) (q : Q (.bl (!PyData.eqv d e)) H) : rNeD K x y H Q := ⟨d, e, h1, h2, s1, s2, q⟩
theorem canI : ∀ ns : List Int, PyData.canLayAll0 (ns.map PyData.int) = true
  | [] => rfl
  | _ :: r => canI r
theorem depI : ∀ ns : List Int, PyData.depthAll (ns.map PyData.int) = 0
  | [] => rfl
  | _ :: r => by
    show max 0 (PyData.depthAll (r.map PyData.int)) = 0
    rw [depI r]; rfl
theorem shLI (ns : List Int) : SeqAt.shaped (.list (ns.map PyData.int)) = true := by
  unfold SeqAt.shaped
  rw [show PyData.canLay0 (.list (ns.map PyData.int)) = true from canI ns, show PyData.depth (.list (ns.map PyData.int)) = 1 by show PyData.depthAll (ns.map PyData.int) + 1 = 1; rw [depI]]
  rfl
theorem shTI (ns : List Int) : SeqAt.shaped (.tuple (ns.map PyData.int)) = true := by
  unfold SeqAt.shaped
  rw [show PyData.canLay0 (.tuple (ns.map PyData.int)) = true from canI ns, show PyData.depth (.tuple (ns.map PyData.int)) = 1 by show PyData.depthAll (ns.map PyData.int) + 1 = 1; rw [depI]]
  rfl
theorem rd_isN {x : V} (q : Q (.bl (decide (x = .non))) H) : rIsN x .non H Q := ⟨rfl, q⟩
theorem rd_notN {x : V} (q : Q (.bl (!decide (x = .non))) H) : rNotN x .non H Q := ⟨rfl, q⟩
end
/-! ### comprehensions with a test -/
section
variable {K : PySem.W.Frag} {σ : L2.St} {H : Hp} {Q : VK} {g : TG} {te : TE} {tt : TT} {vs : List Nat} {a : Addr} {xs : List V}
theorem lc_filt {J : It} (pr : V → Bool) (f : V → V) (hz : xs.length ≤ 100000)
    (go : ∀ i H1, i < xs.length → Same H H1 → J.go i H1) (stop : ∀ H1, Same H H1 → J.stop xs.length H1) (yld : ∀ i H1 x H2, i < xs.length → Same H H1 → J.yld i H1 x H2 → H2 = H1 ∧ xs[i]? = some x)
    (step : ∀ x H1 (N : Hp → Prop) (M : V → Hp → Prop), x ∈ xs → Same H H1 → (pr x = false → ∀ H2, Same H1 H2 → N H2) → (pr x = true → ∀ H2, Same H1 H2 → M (f x) H2) → g x (wipe σ vs) H1 fun σ2 H2 => wipe σ2 vs = wipe σ vs ∧ tt σ2 H2 fun b H3 => if b = true then te σ2 H3 M else N H3)
    (done : ∀ D H', H D = none → Same H H' → H' D = some (.lst ((xs.filter pr).map f)) → Q (.ref D) H') : rLc g tt te vs σ Q J H := by
  intro D hD
  let Pv : Nat → Hp → Prop := fun i H1 => Same H H1 ∧ H1 D = some (.lst (((xs.take i).filter pr).map f))
  refine ⟨fun i m H1 => m = xs.length - i ∧ i ≤ xs.length ∧ Pv i H1, ⟨xs.length, by simp, Nat.zero_le _, same_new hD, by rw [upd_same]; rfl⟩, ?_⟩
  rintro i m H1 ⟨rfl, hi, s1, hd1⟩
  by_cases hlt : i < xs.length
  · refine .inr ⟨go i H1 hlt s1, Pv (i + 1), fun H' p' => ⟨xs.length - (i + 1), by omega, rfl, hlt, p'⟩, fun x H' y => ?_⟩
    obtain ⟨rfl, ex⟩ := yld i H1 x H' hlt s1 y
    have et : ((xs.take (i + 1)).filter pr).map f = ((xs.take i).filter pr).map f ++ (if pr x = true then [f x] else []) := by
      rw [List.take_add_one, ex, List.filter_append, List.map_append]
      congr 1
      show (([x] : List V).filter pr).map f = _
      by_cases hp : pr x = true
      · rw [if_pos hp, List.filter_cons, if_pos hp]; rfl
      · rw [if_neg hp, List.filter_cons, if_neg hp]; rfl
    refine step x H' _ _ (List.mem_of_getElem? ex) s1 (fun hp H2 s2 => ?_) (fun hp H2 s2 => ?_)
    · refine ⟨s1.trans s2, ?_⟩
      rw [et, if_neg (by rw [hp]; exact Bool.false_ne_true), List.append_nil]
      exact s2 _ _ hd1
    · have hz2 : (((xs.take i).filter pr).map f).length < sizeLine := by
        rw [List.length_map]
        exact Nat.lt_of_le_of_lt (Nat.le_trans (List.length_filter_le _ _) (Nat.le_trans (by rw [List.length_take]; exact Nat.min_le_right _ _) hz)) (by decide)
      refine ⟨_, s2 _ _ hd1, hz2, fun b o e => ?_, ?_⟩
      · rw [upd_ne (ne_of_none e hD)]
        exact s2 _ _ (s1 _ _ e)
      · rw [upd_same, et, if_pos hp]
  · have e : i = xs.length := by omega
    subst e
    refine .inl ⟨stop H1 s1, done D H1 hD s1 ?_⟩
    rw [hd1, List.take_length]
theorem lc_lstP (pr : V → Bool) (f : V → V) (hz : xs.length ≤ 100000) (hS : SqL K H a xs)
    (step : ∀ x H1 (N : Hp → Prop) (M : V → Hp → Prop), x ∈ xs → Same H H1 → (pr x = false → ∀ H2, Same H1 H2 → N H2) → (pr x = true → ∀ H2, Same H1 H2 → M (f x) H2) → g x (wipe σ vs) H1 fun σ2 H2 => wipe σ2 vs = wipe σ vs ∧ tt σ2 H2 fun b H3 => if b = true then te σ2 H3 M else N H3)
    (done : ∀ D H', H D = none → Same H H' → H' D = some (.lst ((xs.filter pr).map f)) → Q (.ref D) H') : rLc g tt te vs σ Q (Itl K a) H := by
  refine lc_filt (xs := xs) pr f hz (fun i H1 hi s1 => ?_) (fun H1 s1 => ?_) (fun i H1 x H2 hi s1 y => ?_) step done
  · exact ⟨xs, xs[i], L2.Same.seq s1 hS, by simp [hi]⟩
  · exact ⟨xs, L2.Same.seq s1 hS, Nat.le_refl _⟩
  · obtain ⟨e, y⟩ := y
    exact ⟨e, y xs (L2.Same.seq s1 hS)⟩
theorem lc_tupP (pr : V → Bool) (f : V → V) (hz : xs.length ≤ 100000) (hS : SqT K H a xs)
    (step : ∀ x H1 (N : Hp → Prop) (M : V → Hp → Prop), x ∈ xs → Same H H1 → (pr x = false → ∀ H2, Same H1 H2 → N H2) → (pr x = true → ∀ H2, Same H1 H2 → M (f x) H2) → g x (wipe σ vs) H1 fun σ2 H2 => wipe σ2 vs = wipe σ vs ∧ tt σ2 H2 fun b H3 => if b = true then te σ2 H3 M else N H3)
    (done : ∀ D H', H D = none → Same H H' → H' D = some (.lst ((xs.filter pr).map f)) → Q (.ref D) H') : rLc g tt te vs σ Q (Itt K a) H := by
  refine lc_filt (xs := xs) pr f hz (fun i H1 hi s1 => ?_) (fun H1 s1 => ?_) (fun i H1 x H2 hi s1 y => ?_) step done
  · exact ⟨xs, xs[i], Same.sqT s1 hS, by simp [hi]⟩
  · exact ⟨xs, Same.sqT s1 hS, Nat.le_refl _⟩
  · obtain ⟨e, y⟩ := y
    exact ⟨e, y xs (Same.sqT s1 hS)⟩
end
end Rd
set_option Elab.async false
set_option linter.all false
set_option maxRecDepth 100000
set_option maxHeartbeats 4000000
/-! Rp: repr of data, enumerate and zip, targets in pairs, join. -/
namespace Rd
open PySem PySem.Spec PyProof.Rows L2
/-! ### repr -/
section
variable {K : PySem.W.Frag} {H : Hp}
mutual
theorem noDict : ∀ (d : PyData) (v : V), Dp K H v d → d.hasDict = false
  | .none, _, _ => rfl
  | .bool _, _, _ => rfl
  | .int _, _, _ => rfl
  | .str _, _, _ => rfl
  | .list ds, _, h => by cases h with | lst _ h => exact noDictAll ds _ h
  | .tuple ds, _, h => by cases h with | tup _ h => exact noDictAll ds _ h
  | .dict _, _, h => nomatch h
theorem noDictAll : ∀ (ds : List PyData) (vs : List V), DpAll K H vs ds → PyData.hasDictAll ds = false
  | [], _, _ => rfl
  | d :: ds, _, h => by
    cases h with
    | cons h1 h2 =>
      show (d.hasDict || PyData.hasDictAll ds) = false
      rw [noDict d _ h1, noDictAll ds _ h2]
      rfl
end
end
def rRepD (K : PySem.W.Frag) : List V → Hp → VK → Prop := fun xs H Q => ∃ a d, xs = [.ref a] ∧ Dp K H (.ref a) d ∧ d.showable = true ∧ d.depth ≤ 60 ∧ d.shown.length ≤ sizeLine ∧ Q (.str d.shown) H
theorem c_reprD {X : Cx} (hg : X.A.guards = some []) (hu : X.A.units + 64 < cLine) : CallR X (.builtin "repr") (rRepD X.K) := by
  intro pins s σ H xs us Q I r h
  obtain ⟨a, d, rfl, hd, hs, hz, hl, q⟩ := h
  cases r with
  | cons rx rr =>
    cases rr
    cases rx
    obtain ⟨as, rd⟩ := Dp.reads I d _ _ hd rfl
    exact repr_of_reads' rd hs (fun e => by rw [noDict d _ hd] at e; cases e) hg (by omega) (fun _ _ e => e) (fun h' u tk hk => ⟨.str _, H, I.kept hk, ⟨_, rfl⟩, q⟩) hl
theorem rd_reprD {K : PySem.W.Frag} {H : Hp} {Q : VK} {a : Addr} {d : PyData} (h : Dp K H (.ref a) d) (hs : d.showable = true) (hz : d.depth ≤ 60) (hl : d.shown.length ≤ sizeLine) (q : Q (.str d.shown) H) : rRepD K [.ref a] H Q := ⟨a, d, rfl, h, hs, hz, hl, q⟩
/-! ### data of tuples -/
mutual
/-- v is the data d, in which there is no list -/
inductive Dt (K : PySem.W.Frag) (H : Hp) : V → PyData → Prop
  | non : Dt K H .non .none
  | bl (b : Bool) : Dt K H (.bl b) (.bool b)
  | int (i : Int) : Dt K H (.int i) (.int i)
  | str (x : Str) : Dt K H (.str x) (.str x)
  | tup {a : Addr} {xs : List V} {ds : List PyData} : SqT K H a xs → DtAll K H xs ds → Dt K H (.ref a) (.tuple ds)
inductive DtAll (K : PySem.W.Frag) (H : Hp) : List V → List PyData → Prop
  | nil : DtAll K H [] []
  | cons {v : V} {vs : List V} {d : PyData} {ds : List PyData} : Dt K H v d → DtAll K H vs ds → DtAll K H (v :: vs) (d :: ds)
end
section
variable {K : PySem.W.Frag} {H H' : Hp}
mutual
theorem Dt.dp : ∀ (d : PyData) (v : V), Dt K H v d → Dp K H v d
  | .none, _, h => by cases h; exact .non
  | .bool _, _, h => by cases h; exact .bl _
  | .int _, _, h => by cases h; exact .int _
  | .str _, _, h => by cases h; exact .str _
  | .list _, _, h => nomatch h
  | .tuple ds, _, h => by cases h with | tup h1 h2 => exact .tup h1 (DtAll.dp ds _ h2)
  | .dict _, _, h => nomatch h
theorem DtAll.dp : ∀ (ds : List PyData) (vs : List V), DtAll K H vs ds → DpAll K H vs ds
  | [], _, h => by cases h; exact .nil
  | d :: ds, _, h => by cases h with | cons h1 h2 => exact .cons (Dt.dp d _ h1) (DtAll.dp ds _ h2)
end
mutual
theorem Dt.mono' (m : ∀ a xs, SqT K H a xs → SqT K H' a xs) : ∀ (d : PyData) (v : V), Dt K H v d → Dt K H' v d
  | .none, _, h => by cases h; exact .non
  | .bool _, _, h => by cases h; exact .bl _
  | .int _, _, h => by cases h; exact .int _
  | .str _, _, h => by cases h; exact .str _
  | .list _, _, h => nomatch h
  | .tuple ds, _, h => by cases h with | tup h1 h2 => exact .tup (m _ _ h1) (DtAll.mono' m ds _ h2)
  | .dict _, _, h => nomatch h
theorem DtAll.mono' (m : ∀ a xs, SqT K H a xs → SqT K H' a xs) : ∀ (ds : List PyData) (vs : List V), DtAll K H vs ds → DtAll K H' vs ds
  | [], _, h => by cases h; exact .nil
  | d :: ds, _, h => by cases h with | cons h1 h2 => exact .cons (Dt.mono' m d _ h1) (DtAll.mono' m ds _ h2)
end
theorem Dt.same {d : PyData} {v : V} (h : Dt K H v d) (s : Same H H') : Dt K H' v d := h.mono' (fun _ _ q => Same.sqT s q)
end
/-- short enough to be shown -/
structure Small (d : PyData) : Prop where
  sh : d.showable = true
  dp : d.depth ≤ 8
  lf : d.leavesShort 300 = true
  wt : d.weight ≤ 300
theorem small_int {i : Int} (h : i.natAbs.log2 < 250) : Small (.int i) := by
  refine ⟨decide_eq_true (by omega), by show 0 ≤ 8; decide, ?_, ?_⟩
  · refine decide_eq_true ?_
    have e := int_text_length_le (k := 250) (by decide) h
    have e2 : (PyData.shown (.int i)).length = (toString i).length := by
      show (Str.ofString (toString i)).length = _
      exact PySem.ofString_length _
    rw [e2]
    omega
  · show (if i == 0 then 0 else i.natAbs.log2 + 1) ≤ 300
    split <;> omega
theorem small_all : ∀ (ds : List PyData), (∀ d ∈ ds, Small d) → PyData.showableAll ds = true ∧ PyData.depthAll ds ≤ 8 ∧ PyData.leavesShortAll 300 ds = true ∧ PyData.weightAll ds ≤ 301 * ds.length
  | [], _ => ⟨rfl, by show 0 ≤ 8; decide, rfl, by show 0 ≤ _; exact Nat.zero_le _⟩
  | d :: ds, h => by
    obtain ⟨h1, h2, h3, h4⟩ := small_all ds fun e he => h e (List.mem_cons_of_mem _ he)
    have hd := h d List.mem_cons_self
    refine ⟨?_, ?_, ?_, ?_⟩
    · show (d.showable && PyData.showableAll ds) = true
      rw [hd.sh, h1]; rfl
    · show max d.depth (PyData.depthAll ds) ≤ 8
      exact Nat.max_le.mpr ⟨hd.dp, h2⟩
    · show (d.leavesShort 300 && PyData.leavesShortAll 300 ds) = true
      rw [hd.lf, h3]; rfl
    · show d.weight + 1 + PyData.weightAll ds ≤ 301 * (ds.length + 1)
      have := hd.wt
      omega
theorem rd_reprL {K : PySem.W.Frag} {H : Hp} {Q : VK} {a : Addr} {ds : List PyData} (h : Dp K H (.ref a) (.list ds)) (hs : ∀ d ∈ ds, Small d) (hn : ds.length ≤ 100) (q : Q (.str (PyData.list ds).shown) H) : rRepD K [.ref a] H Q := by
  obtain ⟨h1, h2, h3, h4⟩ := small_all ds hs
  refine rd_reprD h h1 (show PyData.depthAll ds + 1 ≤ 60 by omega) ?_ q
  have hw : (PyData.list ds).weight ≤ 30100 := Nat.le_trans h4 (by omega)
  have := PyData.shown_le 300 (by decide) (.list ds) h3
  have e := sizeLine_eq
  have h5 : (300 + 2) * (PyData.list ds).weight ≤ 302 * 30100 := Nat.mul_le_mul (Nat.le_refl _) hw
  omega
theorem rd_reprT {K : PySem.W.Frag} {H : Hp} {Q : VK} {a : Addr} {ds : List PyData} (h : Dp K H (.ref a) (.tuple ds)) (hs : ∀ d ∈ ds, Small d) (hn : ds.length ≤ 100) (q : Q (.str (PyData.tuple ds).shown) H) : rRepD K [.ref a] H Q := by
  obtain ⟨h1, h2, h3, h4⟩ := small_all ds hs
  refine rd_reprD h h1 (show PyData.depthAll ds + 1 ≤ 60 by omega) ?_ q
  have hw : (PyData.tuple ds).weight ≤ 30100 := Nat.le_trans h4 (by omega)
  have := PyData.shown_le 300 (by decide) (.tuple ds) h3
  have e := sizeLine_eq
  have h5 : (300 + 2) * (PyData.tuple ds).weight ≤ 302 * 30100 := Nat.mul_le_mul (Nat.le_refl _) hw
  omega
/-! ### pairs as targets -/
section
variable {K : PySem.W.Frag} {σ : L2.St} {H : Hp} {QS : L2.St → Hp → Prop} {t : TGs} {g : TG} {a : Addr} {xs : List V} {v : V} {n : Nat}
theorem rd_gTup (h : SqT K H a xs) (hn : xs.length = n) (q : t xs σ H QS) : gTup K n t (.ref a) σ H QS := ⟨a, xs, rfl, h, hn, q⟩
theorem rd_gCons (q : g v σ H fun σ' H' => t xs σ' H' QS) : gCons g t (v :: xs) σ H QS := ⟨v, xs, rfl, q⟩
theorem rd_gNil (q : QS σ H) : gNil [] σ H QS := ⟨rfl, q⟩
end
/-- a pair as target in a comprehension, where the part K is told -/
theorem pg_tupK {X : Cx} {K : PySem.W.Frag} {es : List Expr} {k : Nat} {t : TGs} {n : Nat} {pos : Pos} (hK : X.K = K) (hc : X.calm = true) (h : PGs X es t) (hn : (assignEach es X.env).length = n := by rfl) (hst : (assignEach es X.env).findIdx? (·.1) = none := by rfl) : PG X (.Tuple es k pos) (gTup K n t) := by
  subst hK
  exact pg_tup hc h hn hst
/-! ### enumerate, zip -/
section
variable {K : PySem.W.Frag} {σ : L2.St} {H : Hp} {Q : VK} {g : TG} {te : TE} {tt : TT} {ta : TA} {vs : List Nat} {a b : Addr} {xs ys : List V} {D : Ends} {tb : TS}
def rIE (K : PySem.W.Frag) (vs : List V) (H : Hp) (R : It → Hp → Prop) : Prop := ∃ a xs, vs = [.ref a] ∧ SqL K H a xs ∧ R (Ite K a) H
def rIZ (K : PySem.W.Frag) (vs : List V) (H : Hp) (R : It → Hp → Prop) : Prop := ∃ a b xs ys, vs = [.ref a, .ref b] ∧ SqL K H a xs ∧ SqL K H b ys ∧ R (Itz K a b) H
theorem rd_iEnum {R : It → Hp → Prop} (q : ta σ H fun vs H1 => rIE K vs H1 R) : iEnum K ta σ H R := q
theorem rd_iZip {R : It → Hp → Prop} (q : ta σ H fun vs H1 => rIZ K vs H1 R) : iZip K ta σ H R := q
theorem rd_IE {R : It → Hp → Prop} (h : SqL K H a xs) (q : R (Ite K a) H) : rIE K [.ref a] H R := ⟨a, xs, rfl, h, q⟩
theorem rd_IZ {R : It → Hp → Prop} (h1 : SqL K H a xs) (h2 : SqL K H b ys) (q : R (Itz K a b) H) : rIZ K [.ref a, .ref b] H R := ⟨a, b, xs, ys, rfl, h1, h2, q⟩
theorem for_enum (Pv : Nat → L2.St → Hp → Prop) (h0 : Pv 0 σ H) (hl : ∀ i σ H, i ≤ xs.length → Pv i σ H → SqL K H a xs)
    (hs : ∀ i x σ H T H', xs[i]? = some x → Pv i σ H → H T = none → Same H H' → H' T = some (.tup [.int (i : Nat), x]) → g (.ref T) σ H' fun σ2 H2 => tb { nx := Pv (i + 1), rt := D.rt, ct := Pv (i + 1), bk := D.nx } σ2 H2)
    (hd : ∀ σ H, Pv xs.length σ H → D.nx σ H) : rFor g tb D σ (Ite K a) H := by
  refine ⟨fun i m σ1 H1 => m = xs.length - i ∧ i ≤ xs.length ∧ Pv i σ1 H1, ⟨_, rfl, Nat.zero_le _, h0⟩, ?_⟩
  rintro i m σ1 H1 ⟨rfl, hi, p⟩
  have hq := hl i σ1 H1 hi p
  by_cases hlt : i < xs.length
  · refine .inr ⟨⟨xs, xs[i], hq, List.getElem?_eq_getElem hlt⟩, Pv (i + 1), fun σ' H' p' => ⟨xs.length - (i + 1), by omega, rfl, hlt, p'⟩, fun v H' y => ?_⟩
    obtain ⟨T, x, rfl, hT, rfl, hx⟩ := y
    exact hs i x σ1 H1 T _ (hx xs hq) p hT (same_new hT) upd_same
  · obtain rfl : i = xs.length := by omega
    exact .inl ⟨⟨xs, hq, Nat.le_refl _⟩, hd σ1 H1 p⟩
/-- a comprehension with a test over what stays: the items are told by zs -/
theorem lc_gen {α : Type} {J : It} (zs : List α) (is : α → V → Hp → Prop) (pr : α → Bool) (f : α → V) (hz : zs.length ≤ 100000)
    (go : ∀ i H1, i < zs.length → Same H H1 → J.go i H1) (stop : ∀ H1, Same H H1 → J.stop zs.length H1) (yld : ∀ i H1 x H2 z, zs[i]? = some z → Same H H1 → J.yld i H1 x H2 → Same H1 H2 ∧ is z x H2)
    (step : ∀ z x H1 (N : Hp → Prop) (M : V → Hp → Prop), z ∈ zs → Same H H1 → is z x H1 → (pr z = false → ∀ H2, Same H1 H2 → N H2) → (pr z = true → ∀ H2, Same H1 H2 → M (f z) H2) →
      g x (wipe σ vs) H1 fun σ2 H2 => wipe σ2 vs = wipe σ vs ∧ tt σ2 H2 fun b H3 => if b = true then te σ2 H3 M else N H3)
    (done : ∀ D H', H D = none → Same H H' → H' D = some (.lst ((zs.filter pr).map f)) → Q (.ref D) H') : rLc g tt te vs σ Q J H := by
  intro D hD
  let Pv : Nat → Hp → Prop := fun i H1 => Same H H1 ∧ H1 D = some (.lst (((zs.take i).filter pr).map f))
  refine ⟨fun i m H1 => m = zs.length - i ∧ i ≤ zs.length ∧ Pv i H1, ⟨zs.length, by simp, Nat.zero_le _, same_new hD, by rw [upd_same]; rfl⟩, ?_⟩
  rintro i m H1 ⟨rfl, hi, s1, hd1⟩
  by_cases hlt : i < zs.length
  · refine .inr ⟨go i H1 hlt s1, Pv (i + 1), fun H' p' => ⟨zs.length - (i + 1), by omega, rfl, hlt, p'⟩, fun x H' y => ?_⟩
    have ez : zs[i]? = some zs[i] := List.getElem?_eq_getElem hlt
    obtain ⟨s2, hx⟩ := yld i H1 x H' _ ez s1 y
    have et : ((zs.take (i + 1)).filter pr).map f = ((zs.take i).filter pr).map f ++ (if pr zs[i] = true then [f zs[i]] else []) := by
      rw [List.take_add_one, ez, List.filter_append, List.map_append]
      congr 1
      show (([zs[i]] : List α).filter pr).map f = _
      by_cases hp : pr zs[i] = true
      · rw [if_pos hp, List.filter_cons, if_pos hp]; rfl
      · rw [if_neg hp, List.filter_cons, if_neg hp]; rfl
    refine step zs[i] x H' _ _ (List.getElem_mem hlt) (s1.trans s2) hx (fun hp H2 s3 => ?_) (fun hp H2 s3 => ?_)
    · refine ⟨(s1.trans s2).trans s3, ?_⟩
      rw [et, if_neg (by rw [hp]; exact Bool.false_ne_true), List.append_nil]
      exact s3 _ _ (s2 _ _ hd1)
    · have hz2 : (((zs.take i).filter pr).map f).length < sizeLine := by
        rw [List.length_map]
        exact Nat.lt_of_le_of_lt (Nat.le_trans (List.length_filter_le _ _) (Nat.le_trans (by rw [List.length_take]; exact Nat.min_le_right _ _) hz)) (by decide)
      refine ⟨_, s3 _ _ (s2 _ _ hd1), hz2, fun b o e => ?_, ?_⟩
      · rw [upd_ne (ne_of_none e hD)]
        exact s3 _ _ (s2 _ _ (s1 _ _ e))
      · rw [upd_same, et, if_pos hp]
  · obtain rfl : i = zs.length := by omega
    refine .inl ⟨stop H1 s1, done D H1 hD s1 ?_⟩
    rw [hd1, List.take_length]
/-- [.. for x, y in zip(..) if ..] -/
theorem lc_zip (hl : xs.length = ys.length) (pr : V × V → Bool) (f : V × V → V) (hz : xs.length ≤ 100000) (h1 : SqL K H a xs) (h2 : SqL K H b ys)
    (step : ∀ (z : V × V) T H1 (N : Hp → Prop) (M : V → Hp → Prop), z ∈ xs.zip ys → Same H H1 → H1 T = some (.tup [z.1, z.2]) → (pr z = false → ∀ H2, Same H1 H2 → N H2) → (pr z = true → ∀ H2, Same H1 H2 → M (f z) H2) →
      g (.ref T) (wipe σ vs) H1 fun σ2 H2 => wipe σ2 vs = wipe σ vs ∧ tt σ2 H2 fun b H3 => if b = true then te σ2 H3 M else N H3)
    (done : ∀ D H', H D = none → Same H H' → H' D = some (.lst (((xs.zip ys).filter pr).map f)) → Q (.ref D) H') : rLc g tt te vs σ Q (Itz K a b) H := by
  have lz : (xs.zip ys).length = xs.length := by rw [List.length_zip]; omega
  refine lc_gen (xs.zip ys) (fun z v H2 => ∃ T, v = .ref T ∧ H2 T = some (.tup [z.1, z.2])) pr f (by omega) (fun i H1 hi s1 => ?_) (fun H1 s1 => ?_) (fun i H1 x H2 z ez s1 y => ?_) (fun z x H1 N M hz' s1 hx hN hM => ?_) done
  · exact ⟨xs, ys, xs[i]'(by omega), ys[i]'(by omega), L2.Same.seq s1 h1, L2.Same.seq s1 h2, List.getElem?_eq_getElem _, List.getElem?_eq_getElem _⟩
  · exact ⟨xs, ys, L2.Same.seq s1 h1, L2.Same.seq s1 h2, .inl (by omega)⟩
  · obtain ⟨T, u, v, rfl, hT, rfl, hu, hv⟩ := y
    have e1 := hu xs (L2.Same.seq s1 h1)
    have e2 := hv ys (L2.Same.seq s1 h2)
    have : (xs.zip ys)[i]? = some (u, v) := by rw [List.getElem?_zip_eq_some]; exact ⟨e1, e2⟩
    rw [this] at ez
    injection ez with ez
    subst ez
    exact ⟨same_new hT, T, rfl, upd_same⟩
  · obtain ⟨T, rfl, hT⟩ := hx
    exact step z T H1 N M hz' s1 hT hN hM
end
section
variable {K : PySem.W.Frag} {σ : L2.St} {H : Hp} {Q : VK} {g : TG} {te : TE} {vs : List Nat}
/-- [.. for i in range(..)] of things that stay -/
theorem lc_rng {lo : Int} {n : Nat} (f : Nat → V) (hz : n ≤ 100000)
    (step : ∀ (i : Nat) H1 (N : V → Hp → Prop), i < n → Same H H1 → (∀ H2, Same H1 H2 → N (f i) H2) → g (.int (lo + i)) (wipe σ vs) H1 fun σ2 H2 => wipe σ2 vs = wipe σ vs ∧ te σ2 H2 N)
    (done : ∀ D H', H D = none → Same H H' → H' D = some (.lst ((List.range n).map f)) → Q (.ref D) H') : rLc g tYes te vs σ Q (Itr lo n) H := by
  refine lc_gen (List.range n) (fun z v _ => z < n ∧ v = .int (lo + z)) (fun _ => true) f (by rw [List.length_range]; exact hz) (fun i H1 hi s1 => ?_) (fun H1 s1 => ?_) (fun i H1 x H2 z ez s1 y => ?_) (fun z x H1 N M hz' s1 hx hN hM => ?_) (fun D H' h1 h2 h3 => ?_)
  · rw [List.length_range] at hi
    exact hi
  · rw [List.length_range]
    exact Nat.le_refl n
  · obtain ⟨rfl, rfl⟩ := y
    obtain ⟨hi, e⟩ := List.getElem?_eq_some_iff.mp ez
    rw [List.getElem_range] at e
    subst e
    rw [List.length_range] at hi
    exact ⟨Same.refl _, hi, rfl⟩
  · obtain ⟨hi, rfl⟩ := hx
    exact step z H1 M hi s1 (hM rfl)
  · refine done D H' h1 h2 ?_
    rw [h3, List.filter_eq_self.mpr fun _ _ => rfl]
end
section
variable {K : PySem.W.Frag} {σ : L2.St} {H : Hp} {Q : VK} {g : TG} {te : TE} {vs : List Nat} {a : Addr}
/-- [.. for x in a list], the items told by zs -/
theorem lc_lstA {α : Type} (zs : List α) (val : α → V) (f : α → V) (hz : zs.length ≤ 100000) (hS : SqL K H a (zs.map val))
    (step : ∀ z H1 (N : V → Hp → Prop), z ∈ zs → Same H H1 → (∀ H2, Same H1 H2 → N (f z) H2) → g (val z) (wipe σ vs) H1 fun σ2 H2 => wipe σ2 vs = wipe σ vs ∧ te σ2 H2 N)
    (done : ∀ D H', H D = none → Same H H' → H' D = some (.lst (zs.map f)) → Q (.ref D) H') : rLc g tYes te vs σ Q (Itl K a) H := by
  refine lc_gen zs (fun z v _ => v = val z) (fun _ => true) f hz (fun i H1 hi s1 => ?_) (fun H1 s1 => ?_) (fun i H1 x H2 z ez s1 y => ?_) (fun z x H1 N M hz' s1 hx hN hM => ?_) (fun D H' h1 h2 h3 => ?_)
  · exact ⟨zs.map val, val zs[i], L2.Same.seq s1 hS, by rw [List.getElem?_map, List.getElem?_eq_getElem hi]; rfl⟩
  · exact ⟨zs.map val, L2.Same.seq s1 hS, by rw [List.length_map]; exact Nat.le_refl _⟩
  · obtain ⟨rfl, y⟩ := y
    have e := y _ (L2.Same.seq s1 hS)
    rw [List.getElem?_map, ez] at e
    exact ⟨Same.refl _, (Option.some.inj e).symm⟩
  · subst hx
    exact step z H1 M hz' s1 (hM rfl)
  · refine done D H' h1 h2 ?_
    rw [h3, List.filter_eq_self.mpr fun _ _ => rfl]
end
section
variable {K : PySem.W.Frag} {σ : L2.St} {H : Hp} {Q : VK} {g : TG} {te : TE} {vs : List Nat}
/-- [.. for i in range(..)], each turn of which may change the heap -/
theorem lc_rngI {lo : Int} {n : Nat} (P : Nat → Addr → List V → Hp → Prop) (h0 : ∀ D, H D = none → P 0 D [] (upd H D (.lst [])))
    (step : ∀ (i : Nat) D acc H1 (N : VK), i < n → H D = none → P i D acc H1 → (∀ y H3, H3 D = some (.lst acc) → acc.length < sizeLine → P (i + 1) D (acc ++ [y]) (upd H3 D (.lst (acc ++ [y]))) → N y H3) →
      g (.int (lo + i)) (wipe σ vs) H1 fun σ2 H2 => wipe σ2 vs = wipe σ vs ∧ te σ2 H2 N)
    (done : ∀ D acc H1, H D = none → P n D acc H1 → Q (.ref D) H1) : rLc g tYes te vs σ Q (Itr lo n) H := by
  intro D hD
  refine ⟨fun i m H1 => m = n - i ∧ i ≤ n ∧ ∃ acc, P i D acc H1, ⟨n, rfl, Nat.zero_le _, [], h0 D hD⟩, ?_⟩
  rintro i m H1 ⟨rfl, hi, acc, p⟩
  by_cases hlt : i < n
  · refine .inr ⟨hlt, fun H2 => ∃ acc, P (i + 1) D acc H2, fun H' p' => ⟨n - (i + 1), by omega, rfl, hlt, p'⟩, fun x H' y => ?_⟩
    obtain ⟨rfl, rfl⟩ := y
    exact step i D acc H' _ hlt hD p fun y H3 h1 h2 h3 => ⟨acc, h1, h2, _, h3⟩
  · obtain rfl : i = n := by omega
    exact .inl ⟨Nat.le_refl _, done D acc H1 hD p⟩
end
/-! bools as data -/
theorem dpB {K : PySem.W.Frag} {H : Hp} (bs : List Bool) : DpAll K H (bs.map V.bl) (bs.map PyData.bool) := by
  induction bs with
  | nil => exact .nil
  | cons n r ih => exact .cons (.bl n) ih
theorem canB : ∀ bs : List Bool, PyData.canLayAll0 (bs.map PyData.bool) = true
  | [] => rfl
  | _ :: r => canB r
theorem depB : ∀ bs : List Bool, PyData.depthAll (bs.map PyData.bool) = 0
  | [] => rfl
  | _ :: r => by
    show max 0 (PyData.depthAll (r.map PyData.bool)) = 0
    rw [depB r]; rfl
theorem shLB (bs : List Bool) : SeqAt.shaped (.list (bs.map PyData.bool)) = true := by
  unfold SeqAt.shaped
  rw [show PyData.canLay0 (.list (bs.map PyData.bool)) = true from canB bs, show PyData.depth (.list (bs.map PyData.bool)) = 1 by show PyData.depthAll (bs.map PyData.bool) + 1 = 1; rw [depB]]
  rfl
theorem eqLB (bs : List Bool) : PyData.eqv (.list (bs.map PyData.bool)) (.list (bs.map PyData.bool)) = true := SeqAt.eqv_refl _ (canB bs)
/-! ### join, sum, in -/
section
variable {K : PySem.W.Frag} {σ : L2.St} {H : Hp} {Q : VK} {a : Addr} {xs : List V} {x y : V}
def rJoin (K : PySem.W.Frag) : V → List V → Hp → VK → Prop := fun x xs H Q => ∃ a p, ∃ ys : List Str, x = .str a ∧ xs = [.ref p] ∧ (SqL K H p (ys.map V.str) ∨ SqT K H p (ys.map V.str)) ∧ (ys.map (·.length)).sum + ys.length * a.length ≤ 16777216 ∧ Q (.str (Txt.join a ys)) H
theorem pe_join {X : Cx} {o e : Expr} {to te : TE} {apos pos : Pos} (ho : PE X o to) (he : PE X e te) (hs : starEach [e] X.env = [(false, eval e X.env)] := by rfl) (hbase : attributeBase o "join" X.env (eval o X.env) = eval o X.env := by rfl) (hline : (apos.endLine == pos.line) = true := by rfl) :
    PE X (.Call (.Attribute o "join" apos) [e] [] pos) (tM1 (rJoin X.K) to te) := L2.pe_join ho he hs hbase hline
theorem rd_m1 {r : V → List V → Hp → VK → Prop} {to te : TE} (q : to σ H fun x H1 => (∃ a, x = .str a) ∧ te σ H1 fun y H2 => r x [y] H2 Q) : tM1 r to te σ H Q := q
theorem rd_strV {z : Str} {P : Prop} (q : P) : (∃ a, V.str z = .str a) ∧ P := ⟨⟨z, rfl⟩, q⟩
theorem rd_joinL {z : Str} {ys : List Str} (h : SqL K H a (ys.map V.str)) (hz : (ys.map (·.length)).sum + ys.length * z.length ≤ 16777216) (q : Q (.str (Txt.join z ys)) H) : rJoin K (.str z) [.ref a] H Q := ⟨z, a, ys, rfl, rfl, .inl h, hz, q⟩
theorem rd_sum {ns : List Int} (h : SqL K H a (ns.map V.int)) (q : Q (.int ns.sum) H) : rSum K [.ref a] H Q := ⟨a, ns, rfl, h, q⟩
theorem rd_inL {neg : Bool} (h : SqL K H a xs) (fx : flatV x = true) (fs : xs.all flatV = true) (q : Q (.bl (if neg then !inV x xs else inV x xs)) H) : rIn K neg x (.ref a) H Q := ⟨a, xs, rfl, .inl h, fx, fs, q⟩
theorem rd_inT {neg : Bool} (h : SqT K H a xs) (fx : flatV x = true) (fs : xs.all flatV = true) (q : Q (.bl (if neg then !inV x xs else inV x xs)) H) : rIn K neg x (.ref a) H Q := ⟨a, xs, rfl, .inr h, fx, fs, q⟩
end
end Rd
set_option Elab.async false
set_option linter.all false
set_option maxRecDepth 100000
set_option maxHeartbeats 4000000
/-! Rm: match over a tuple, a star among targets, tuples compared. -/
namespace Rd
open PySem PySem.Spec PyProof.Rows L2
/-! ### match -/
/-- the cases, the subject being a tuple of the items xs -/
structure PC (X : Cx) (cs : List MatchCase) (t : List V → TS) : Prop where
  run : ∀ (pins : List (Addr × Obj)) (s : Shared) (σ : L2.St) (H : Hp) (D : Ends) (a : Addr) (xs : List V) (first : Bool), Inv X pins σ H s → SqT X.K H a xs → t xs D σ H → wpAny (model X.prog X.w) X.A (matchCases cs X.env (.ref a) first) (SP X pins D) X.xe s
/-- names bound in order -/
structure PNs (X : Cx) (ns : List Str) (g : TGs) : Prop where
  run : ∀ (pins : List (Addr × Obj)) (s : Shared) (σ : L2.St) (H : Hp) (vs : List V) (us : List Value) (Q : L2.St → Hp → Prop), Inv X pins σ H s → Vals vs us → g vs σ H Q → wpAny (model X.prog X.w) X.A (assignInOrder (ns.map fun n => bindName X.env n) us) (fun _ s' => ∃ σ' H', Inv X pins σ' H' s' ∧ Q σ' H') X.xe s
def capsOf (ns : List (Str × Pos)) : List Pattern := ns.map fun n => .MatchAs none (some n.1) n.2
section
variable {X : Cx} {cs : List MatchCase} {body : List Stmt} {tb : TS} {tr : List V → TS} {g : TG} {gs : TGs} {pos : Pos} {e : Expr} {te : TE}
theorem pns_nil : PNs X [] gNil := ⟨fun pins s σ H vs us Q I r h => by
  obtain ⟨rfl, h⟩ := h
  cases r
  exact wpAny_assignInOrder_none ⟨σ, H, I, h⟩⟩
theorem pns_cons {i : Nat} {x : Str} {ns : List Str} (hN : X.N.Nodup) (hi : X.N[i]? = some x) (hx : Loc X.env.scope x) (h2 : PNs X ns gs) (hf : X.fn x = true ∨ X.env.scope.names.lookup x = some .local := by first | exact .inl rfl | exact .inr rfl | assumption) : PNs X (x :: ns) (gCons (gName i) gs) :=
  ⟨fun pins s σ H vs us Q I r h => by
    obtain ⟨v, vr, rfl, h⟩ := h
    cases r with
    | cons r rr =>
      refine wpAny_assignInOrder_more (wpAny_bind (wpAny_holding (wpAny_point (wpAny_bind (store_ok I hN hi hx r (fun s' I' => wpAny_point ?_) hf)))))
      exact h2.run pins s' _ H vr _ Q I' rr h⟩
theorem pc_nil : PC X [] (fun _ => tNext) := ⟨fun pins s σ H D a xs first I hS h => wpAny_matchCases_nil ⟨σ, H, I, h⟩⟩
/-- case [n, ..] -/
def tCaseN (n : Nat) (gs : TGs) (tb : TS) (tr : List V → TS) : List V → TS := fun xs D σ H => (xs.length = n ∧ gs xs σ H fun σ' H' => tb D σ' H') ∨ (xs.length ≠ n ∧ tr xs D σ H)
theorem match_caps {M : Model} {A : Around} {E : Value → Shared → Prop} {s : Shared} {env : Env} : ∀ (ns : List (Str × Pos)) (us : List Value) {Q : Option (List (Str × Value)) → Shared → Prop}, us.length = ns.length → Q (some ((ns.map (·.1)).zip us)) s → wpAny M A (matchEach (capsOf ns) env us) Q E s
  | [], [], Q, _, h => wpAny_matchEach_nil h
  | n :: ns, u :: us, Q, hl, h => by
    refine wpAny_matchEach_cons (p := .MatchAs none (some n.1) n.2) (ps := capsOf ns) (wpAny_matchPattern_Capture ?_) rfl
    refine match_caps ns us (by simpa using hl) ?_
    exact h
theorem pc_names {ns : List (Str × Pos)} {n : Nat} {cpos : Pos} (hc : X.calm = true) (hn : ns.length = n) (hg : PNs X (ns.map (·.1)) gs) (hb : PSs X body tb) (hr : PC X cs tr) (hstar : (capsOf ns).findIdx? (·.isStar) = none := by rfl)
    (hwild : ((capsOf ns).all fun p => p.isWildcard || (p.isStar && p.names.isEmpty)) = false := by rfl) : PC X (⟨.MatchSequence (capsOf ns) cpos, none, body⟩ :: cs) (tCaseN n gs tb tr) :=
  ⟨fun pins s σ H D a xs first I hS h => by
    obtain ⟨its, rv, ht, hz⟩ := I.tuple hS
    have hlen := rv.length
    refine wpAny_matchCases_cons (wpAny_matchPattern_Sequence ?_ hstar hwild)
    obtain ⟨o, ho, hcl, _⟩ := id ht
    refine wpAny_collectionFlag (T := "tuple") (show Shared.TypeIs s (.ref a) "tuple" from ⟨o, ho, hcl⟩) flag_seq_tuple ?_
    rw [if_pos rfl]
    refine pyLen_tuple ht (by rw [List.size_toArray, ← hlen]; have := sizeLine_eq; omega) ?_
    have cl : (capsOf ns).length = n := by unfold capsOf; rw [List.length_map, hn]
    rw [cl]
    rcases h with ⟨hx, h⟩ | ⟨hx, h⟩
    · have sz : its.toArray.size = n := by rw [List.size_toArray, ← hlen, hx]
      rw [if_neg (by rw [sz]; simp)]
      have ht2 : IsTup (⟨s.heap, s.gens, s.drawn, s.toks + 1 + 1, s.os⟩ : Shared).heap a its.toArray := ht
      rw [← sz]
      refine unpackItems_tuple (s := ⟨s.heap, s.gens, s.drawn, s.toks + 1 + 1, s.os⟩) (I.ok.hd hc) ht2 fun h' hk => ?_
      refine match_caps ns _ (by rw [hn]; simpa using sz) ?_
      have I1 : Inv X pins σ H ⟨h', s.gens, s.drawn, s.toks + 1 + 1, s.os⟩ := I.kept (t' := s.toks + 1 + 1) fun b o e => hk b o (Nat.ne_of_lt (Heap.lt_size e)) e
      have ez : ((ns.map (·.1)).zip its).map (fun p => bindName X.env p.1) = (ns.map (·.1)).map fun n => bindName X.env n := by
        have e0 : ((ns.map (·.1)).zip its).map Prod.fst = ns.map (·.1) := List.map_fst_zip (by rw [List.length_map, hn]; have := sz; simp at this; omega)
        rw [← e0, List.map_map, e0]
        rfl
      have ez2 : ((ns.map (·.1)).zip its).map (·.2) = its := List.map_snd_zip (by rw [List.length_map, hn]; have := sz; simp at this; omega)
      show wpAny _ _ (assignInOrder (((ns.map (·.1)).zip its).map fun p => bindName X.env p.1) (((ns.map (·.1)).zip its).map (·.2))) _ _ _
      rw [ez, ez2]
      exact thn (hg.run pins _ σ H xs its _ I1 rv h) fun _ s2 ⟨σ2, H2, I2, q2⟩ => hb.run pins s2 σ2 H2 D I2 q2
    · rw [if_pos (by rw [List.size_toArray, ← hlen]; simp; omega)]
      exact hr.run pins _ σ H D a xs false (I.kept (t' := s.toks + 1 + 1) fun _ _ z => z) hS h⟩
def capNs : List Pattern → List (Str × Pos)
  | .MatchAs none (some n) p :: r => (n, p) :: capNs r
  | _ => []
theorem pc_namesP {ps : List Pattern} {n : Nat} {cpos : Pos} (hp : capsOf (capNs ps) = ps) (hc : X.calm = true) (hn : (capNs ps).length = n) (hg : PNs X ((capNs ps).map (·.1)) gs) (hb : PSs X body tb) (hr : PC X cs tr) (hstar : ps.findIdx? (·.isStar) = none := by rfl)
    (hwild : (ps.all fun p => p.isWildcard || (p.isStar && p.names.isEmpty)) = false := by rfl) : PC X (⟨.MatchSequence ps cpos, none, body⟩ :: cs) (tCaseN n gs tb tr) := by
  have h := pc_names (cpos := cpos) (ns := capNs ps) hc hn hg hb hr (by rw [hp]; exact hstar) (by rw [hp]; exact hwild)
  rwa [hp] at h
/-- case _ -/
theorem pc_wild {wp : Pos} (hb : PSs X body tb) : PC X (⟨.MatchAs none none wp, none, body⟩ :: cs) (fun _ => tb) :=
  ⟨fun pins s σ H D a xs first I hS h => wpAny_matchCases_cons (wpAny_matchPattern_Capture (wpAny_assignInOrder_none (hb.run pins s σ H D I h)))⟩
def tMatch (K : PySem.W.Frag) (te : TE) (t : List V → TS) : TS := fun D σ H => te σ H fun x H1 => ∃ a xs, x = .ref a ∧ SqT K H1 a xs ∧ t xs D σ H1
theorem ps_match (he : PE X e te) (hc : PC X cs tr) : PS X (.Match e cs pos) (tMatch X.K te tr) :=
  ⟨fun pins s σ H D I h => wpAny_Match (thn (he.run pins s σ H _ I h) fun u s1 ⟨x, H1, I1, rx, a, xs, ex, hS, q⟩ => by
    subst ex
    cases rx
    exact hc.run pins s1 σ H1 D a xs true I1 hS q)⟩
end
end Rd
set_option Elab.async false
set_option linter.all false
set_option maxRecDepth 100000
set_option maxHeartbeats 4000000
/-! Rn: defs with a star, a star among targets, tuples compared, several except clauses, lambdas handed to a def. -/
namespace Rd
open PySem PySem.Spec PyProof.Rows L2
/-! ### defs with a star; a def's code object -/
def spStar (n : Nat) (sp : Sp) : Sp := fun vs H Q E => ∃ ws rest, vs = ws ++ rest ∧ ws.length = n ∧ rest.length ≤ sizeLine ∧ ∀ p H', H p = Option.none → Same H H' → H' p = some (.tup rest) → sp (ws ++ [V.ref p]) H' Q E
/-- the code of the function at f -/
def codeOf (K : PySem.W.Frag) (f : Addr) : Value := match K.lookup f with
  | some ⟨_, _, .func fd, _⟩ => fd.code
  | _ => .none
section
variable {gd : Bool} {P : Program} {w : World} {K : PySem.W.Frag} {mg : Str → Option Value} {base : Heap} {CX : CXT} {k : Nat} {f : Addr} {x qual : Str} {st : Stmt} {N ps : List Str} {sp : Sp}
theorem FnG.ofR (F : FnR P w K mg base CX k f sp) : FnG gd P w K mg base CX k f sp := fun A outer s H us vs Q E hr => F A outer s H us vs Q E hr.toRoom
theorem HasAt.starX {α : Type} {args : α → List V} {pre : α → Hp → VK → XK → Prop} {pv : Str} (h : HasAt K f x qual st) (S : FnScope N (ps ++ [pv]) (defScope st)) (hCX : StX.CXUp CX)
    (hb : ∀ (kV doc pm : Value) (an : Option Addr) (cdv ct : Value) (us rest : List Value), us.length = ps.length → bindArgs (PySem.W.fnOf x qual (defArgs st) (defBody st) (defScope st) .none kV doc pm an cdv ct) ⟨us ++ rest, []⟩ = (newTuple rest >>= fun t => pure (ps.zip us ++ [(pv, t)])))
    (body : ∀ (cdv : Value) (A : Around) (outer : List Env) (s : Shared) (H : Hp) (Q : VK) (E : XK) (a : α), RoomG false k (A.deeper (PyProof.Rows.envOfC qual (defScope st) s.heap.objs.size f cdv)) → pre a H Q E →
      ∃ t, PSs (cxOf CX P w K mg base N qual (defScope st) f cdv A outer s H E) (defBody st) t ∧ t { nx := fun _ H' => Q .non H', rt := Q } (start N (args a)) H) :
    FnG gd P w K mg base CX (k + 1) f (spStar ps.length (mkSp args pre)) := by
  obtain ⟨fd, F⟩ := h
  obtain ⟨oc, od, dV, kV, doc, pm, an, cdv, ct, osl, e, lk, hcd, hD, hK⟩ := F.ex
  subst e
  rcases hD with ⟨_, e⟩ | ⟨e, _⟩
  · subst e
    refine FnG.ofR (FnR.imp (StX.fn_star (sp := mkSp args pre) lk hcd S hCX (fun us rest hl => hb kV doc pm an cdv ct us rest hl) fun A outer s H vs Q E hr hs => ?_) fun vs H Q E hs => ?_)
    · obtain ⟨a, rfl, ha⟩ := hs
      exact body cdv A outer s H Q E a (RoomG.any hr) ha
    · obtain ⟨ws, rest, e1, e2, e3, e4⟩ := hs
      exact ⟨ws, rest, e1, e2, e3, fun p hp => e4 p _ hp (same_new hp) upd_same⟩
  · exact absurd rfl e
theorem Has.starX {α : Type} {args : α → List V} {pre : α → Hp → VK → XK → Prop} {pv : Str} (h : Has K mg x st) (S : FnScope N (ps ++ [pv]) (defScope st)) (hCX : StX.CXUp CX)
    (hb : ∀ (kV doc pm : Value) (an : Option Addr) (cdv ct : Value) (us rest : List Value), us.length = ps.length → bindArgs (PySem.W.fnOf x x (defArgs st) (defBody st) (defScope st) .none kV doc pm an cdv ct) ⟨us ++ rest, []⟩ = (newTuple rest >>= fun t => pure (ps.zip us ++ [(pv, t)])))
    (body : ∀ (f : Addr) (cdv : Value) (A : Around) (outer : List Env) (s : Shared) (H : Hp) (Q : VK) (E : XK) (a : α), RoomG false k (A.deeper (PyProof.Rows.envOfC x (defScope st) s.heap.objs.size f cdv)) → pre a H Q E →
      ∃ t, PSs (cxOf CX P w K mg base N x (defScope st) f cdv A outer s H E) (defBody st) t ∧ t { nx := fun _ H' => Q .non H', rt := Q } (start N (args a)) H) :
    Fn gd P w K mg base CX (k + 1) x (spStar ps.length (mkSp args pre)) := by
  obtain ⟨f, F, hm, hk⟩ := h
  exact ⟨f, F.starX S hCX hb (body f), hm, hk⟩
/-- the module's def x, its code object known -/
structure HasC (K : PySem.W.Frag) (mg : Str → Option Value) (x : Str) (st : Stmt) (c : Addr) : Prop where
  ex : ∃ f, HasAt K f x x st ∧ mg x = some (.ref f) ∧ PySem.W.keepIn K (.ref f) = true ∧ codeOf K f = .ref c
theorem HasC.fn {α : Type} {args : α → List V} {pre : α → Hp → VK → XK → Prop} {c : Addr} (h : HasC K mg x st c) (S : FnScope N ps (defScope st)) (hl : ∀ a, (args a).length = ps.length)
    (hb : ∀ (kV doc pm : Value) (an : Option Addr) (cdv ct : Value) (us : List Value), us.length = ps.length → bindArgs (PySem.W.fnOf x x (defArgs st) (defBody st) (defScope st) .none kV doc pm an cdv ct) ⟨us, []⟩ = pure (ps.zip us))
    (body : ∀ (f : Addr) (A : Around) (outer : List Env) (s : Shared) (H : Hp) (Q : VK) (E : XK) (a : α), RoomG gd k (A.deeper (PyProof.Rows.envOfC x (defScope st) s.heap.objs.size f (.ref c))) → pre a H Q E →
      ∃ t, PSs (cxOf CX0 P w K mg base N x (defScope st) f (.ref c) A outer s H E).nox (defBody st) t ∧ t { nx := fun _ H' => Q .non H', rt := Q } (start N (args a)) H) :
    Fn gd P w K mg base CX0 (k + 1) x (mkSp args pre) := by
  obtain ⟨f, ⟨fd, F⟩, hm, hk, hc⟩ := h.ex
  refine ⟨f, ?_, hm, hk⟩
  obtain ⟨oc, od, dV, kV, doc, pm, an, cdv, ct, osl, e, lk, hcd, hD, hK⟩ := F.ex
  subst e
  have ec : cdv = .ref c := by
    unfold codeOf at hc
    rw [lk] at hc
    exact hc
  subst ec
  rcases hD with ⟨_, e⟩ | ⟨e, _⟩
  · subst e
    intro A outer s H us vs Q E hr e0 r hsp
    obtain ⟨a, rfl, ha⟩ := hsp
    have hu : us.length = ps.length := by rw [← Vals.length r]; exact hl a
    refine StX.run_bnd lk hcd S hr.toRoom e0 (G := fun xs H2 => xs = args a ∧ H2 = H) (fun A' Ex Q' hq => ?_) fun s2 H2 xs hx hr' => ?_
    · rw [hb kV doc pm an _ ct us hu]
      exact PySem.wpAny_pure (hq s H _ us e0 Un.refl rfl (fun _ _ z => z) r (hl a) ⟨rfl, rfl⟩)
    · obtain ⟨rfl, rfl⟩ := hx
      obtain ⟨t, h1, h2⟩ := body f A outer s2 _ Q E a ⟨hr', hr.gs⟩ ha
      exact ⟨t, h1.nox, h2⟩
  · exact absurd rfl e
/-- nothing is let out -/
theorem passNo {X : Cx} {P : Program} {w : World} (eP : P = X.prog := by rfl) (ew : w = X.w := by rfl) : Passes (L2.CX P w) X E0 := by
  subst eP ew
  exact passes_call (W := fun _ _ _ _ => False) LamX.takes0 fun _ _ _ _ z => z
end
/-! ### a star among targets -/
section
variable {prog : Program} {w : World} {A : Around} {E : Value → Shared → Prop} {s : Shared}
theorem unpack_star {l : Addr} {items : Array Value} {u : Value} {us : List Value} {Q : List Value → Shared → Prop} (ht : IsTup s.heap l items) (hh : A.handled = none) (ei : items.toList = u :: us) (hz : us.length < sizeLine)
    (h : ∀ (h₂ : Heap) (tk : Nat), (∀ b o, s.heap.get? b = some o → h₂.get? b = some o) → Q [u, .ref h₂.objs.size] { s with heap := h₂.push { cls := .type "list", data := .seq us.toArray }, toks := tk }) : wpAny (model prog w) A (unpackItems (.ref l) 2 (some 1)) Q E s := by
  have hsz : items.size = us.length + 1 := by rw [← Array.length_toList, ei]; rfl
  have old : ∀ {b o}, s.heap.get? b = some o → b ≠ s.heap.objs.size := fun e => Nat.ne_of_lt (Heap.lt_size e)
  have hlt : l ≠ s.heap.objs.size := by obtain ⟨o, ho, _⟩ := ht; exact old ho
  unfold unpackItems
  refine wpAny_bind ?_
  unfold notIterableAtAll
  refine wpAny_bind (wpAny_specialOf ht.typeIs slot_tuple_iter.lookup (wpAny_pure ?_))
  simp only [Bool.false_eq_true, if_false]
  refine wpAny_bind (wpAny_holding (iter_tuple ht (wpAny_bind (wpAny_holding (draw_tuple hlt 1 0 _ _ ⟨_, Heap.get?_push_size _ rfl, rfl, rfl⟩ (ht.push _) (by omega) fun h₁ hi₁ hs₁ => ?_)))))
  have ht₁ : IsTup h₁ l items := (ht.push _).extBut hs₁.extBut hlt
  obtain ⟨oi, hoi, _⟩ := id hi₁
  obtain ⟨ol, hol, _⟩ := id ht₁
  rw [List.drop_zero, ei]
  show wpAny _ _ (if ([u] : List Value).length < 1 then _ else _) _ _ _
  rw [if_neg (by simp)]
  refine wpAny_bind (wpAny_holding (PySem.W.kun_collect (s := { s with heap := h₁ }) (T := "tuple_iterator") (k := 1) (.inr (.inr (.inr rfl))) (Walks.tuple (A := A.in1) hh s.heap.objs.size l hlt items) (fun j u st => st.1.typeIs) (by omega) ⟨hi₁, ht₁⟩ (Heap.lt_size hoi) (Heap.lt_size hol) (fun h₂ tk hk => ?_) (by omega)))
  rw [ei]
  show wpAny _ _ (if us.length < 0 then _ else (newList (us.take (us.length - 0)) >>= fun d => pure ([u] ++ [d] ++ us.drop (us.length - 0)))) _ _ _
  rw [if_neg (by omega), Nat.sub_zero, List.take_length, List.drop_length]
  refine wpAny_bind (wpAny_newList (wpAny_pure ?_) (by omega))
  exact h h₂ tk fun b o e => hk b o (old e) (hs₁.extBut b o (old e) (Heap.get?_push_of_some _ e))
end
def gStarT (K : PySem.W.Frag) (t : TGs) : TG := fun v σ H Q => ∃ a x r, v = .ref a ∧ SqT K H a (x :: r) ∧ ∀ D, H D = none → t [x, .ref D] σ (upd H D (.lst r)) Q
theorem pg_starT {X : Cx} {es : List Expr} {k : Nat} {t : TGs} {pos : Pos} (hc : X.calm = true) (h : PGs X es t) (hn : (assignEach es X.env).length = 2 := by rfl) (hst : (assignEach es X.env).findIdx? (·.1) = some 1 := by rfl) : PG X (.Tuple es k pos) (gStarT X.K t) := by
  refine ⟨fun pins s σ H v u Q I r hw => ?_⟩
  obtain ⟨a, x, rs, e1, hq, hw⟩ := hw
  subst e1
  cases r
  obtain ⟨its, rv, ht, hz⟩ := I.tuple hq
  cases rv with
  | @cons _ u _ us rx rr =>
    rw [assign_Tuple]
    refine wpAny_bind (wpAny_standAt ?_)
    unfold unpack
    rw [hn, hst]
    have hz' : us.length < sizeLine := by
      have e := rr.length
      simp at hz
      omega
    refine wpAny_bind (wpAny_holding (unpack_star (u := u) (us := us) ht (I.ok.hd hc) rfl hz' fun h₂ tk hk => ?_))
    have I1 : Inv X pins σ H { s with heap := h₂, toks := tk } := I.kept hk
    have I2 := I1.lnew (t' := tk) rr (by rw [rr.length]; omega)
    exact h.run pins _ σ _ [x, .ref h₂.objs.size] _ Q I2 (.cons rx (.cons (show RelV (.ref h₂.objs.size) (.ref h₂.objs.size) from rfl) .nil)) (hw _ I1.fresh)
theorem pgs_star {X : Cx} {e : Expr} {es : List Expr} {t : TG} {u : TGs} {p : Pos} (h1 : PG X e t) (h2 : PGs X es u) (hs : (assignEach (.Starred e p :: es) X.env).map (·.2) = assign e X.env :: (assignEach es X.env).map (·.2) := by rfl) : PGs X (.Starred e p :: es) (gCons t u) := by
  refine ⟨fun pins s σ H vs us Q I r h => ?_⟩
  obtain ⟨v, vr, rfl, h⟩ := h
  cases r with
  | cons r rr =>
    rw [hs]
    exact assignInOrder_cons (thn (h1.run pins s σ H _ _ _ I r h) fun _ s1 ⟨σ1, H1, I1, q1⟩ => h2.run pins s1 σ1 H1 _ _ Q I1 rr q1)
theorem rd_gStarT {K : PySem.W.Frag} {t : TGs} {a : Addr} {x : V} {r : List V} {σ : L2.St} {H : Hp} {Q : L2.St → Hp → Prop} (h : SqT K H a (x :: r)) (q : ∀ D H', H D = none → Same H H' → H' D = some (.lst r) → t [x, .ref D] σ H' Q) : gStarT K t (.ref a) σ H Q := ⟨a, x, r, rfl, h, fun D hD => q D _ hD (same_new hD) upd_same⟩
/-! ### readings -/
theorem u0 {gd : Bool} {k : Nat} {A : Around} (hr : RoomG gd k A) : A.units < cLine := Nat.lt_of_le_of_lt (Nat.le_add_right _ _) hr.units
section
variable {K : PySem.W.Frag} {σ : L2.St} {H : Hp} {D : Ends} {te : TE} {t : List V → TS} {a : Addr} {xs : List V} {tr : List V → TS} {tb : TS} {gs : TGs} {ta : TA} {i j n : Nat}
theorem if_t {c : Bool} {A B : Prop} (h : c = true) (q : A) : if c = true then A else B := by rw [if_pos h]; exact q
theorem if_f {c : Bool} {A B : Prop} (h : c = false) (q : B) : if c = true then A else B := by rw [if_neg (by rw [h]; decide)]; exact q
def rMt (K : PySem.W.Frag) (t : List V → TS) (D : Ends) (σ : L2.St) (x : V) (H : Hp) : Prop := ∃ a xs, x = .ref a ∧ SqT K H a xs ∧ t xs D σ H
theorem rd_tMatch (q : te σ H fun x H1 => rMt K t D σ x H1) : tMatch K te t D σ H := q
theorem rd_mt (h : SqT K H a xs) (q : t xs D σ H) : rMt K t D σ (.ref a) H := ⟨a, xs, rfl, h, q⟩
theorem rd_case1 (h : xs.length = n) (q : gs xs σ H fun σ' H' => tb D σ' H') : tCaseN n gs tb tr xs D σ H := .inl ⟨h, q⟩
theorem rd_case0 (h : xs.length ≠ n) (q : tr xs D σ H) : tCaseN n gs tb tr xs D σ H := .inr ⟨h, q⟩
def rPar (i j : Nat) (D : Ends) (σ : L2.St) (vs : List V) (H : Hp) : Prop := ∃ v w, vs = [v, w] ∧ D.nx ((σ.set i (some v)).set j (some w)) H
theorem rd_tPar (q : ta σ H fun vs H1 => rPar i j D σ vs H1) : tPar i j ta D σ H := q
theorem rd_par {v w : V} (q : D.nx ((σ.set i (some v)).set j (some w)) H) : rPar i j D σ [v, w] H := ⟨v, w, rfl, q⟩
theorem rd_dnew {Q : VK} (q : ∀ p H', H p = none → Same H H' → H' p = some (.dK []) → Q (.ref p) H') : tDNewK σ H Q := fun p hp => q p _ hp (same_new hp) upd_same
theorem rd_rep {Q : VK} {l : Addr} {k : Int} (h : H l = some (.lst xs)) (h0 : 0 ≤ k) (h1 : k < 1000) (hz : xs.length ≤ 1000) (q : ∀ p H', H p = none → Same H H' → H' p = some (.lst (List.replicate k.toNat xs).flatten) → Q (.ref p) H') : rRep (.ref l) (.int k) H Q := by
  refine ⟨l, k, xs, rfl, rfl, h, by omega, by omega, ?_, fun p hp => q p _ hp (same_new hp) upd_same⟩
  have h2 : k.toNat ≤ 1000 := by omega
  exact Nat.le_trans (Nat.mul_le_mul hz h2) (by decide)
theorem rd_slL {Q : VK} {lo hi : Option Int} (h : SqL K H a xs) (q : ∀ p H', H p = none → Same H H' → H' p = some (.lst (cutV xs lo hi)) → Q (.ref p) H') : rSlL K (.ref a) lo hi H Q := ⟨a, xs, rfl, h, fun p hp => q p _ hp (same_new hp) upd_same⟩
end
/-! ### tuples compared -/
def ltV : V → V → Bool
  | .int a, .int b => decide (a < b)
  | _, _ => false
def lexLt : List V → List V → Bool
  | [], [] => false
  | [], _ :: _ => true
  | _ :: _, [] => false
  | x :: xs, y :: ys => if x = y then lexLt xs ys else ltV x y
/-- two items: both numbers, or the same text -/
def Cmp2 (x y : V) : Prop := (∃ a b, x = .int a ∧ y = .int b) ∨ ∃ z, x = .str z ∧ y = .str z
theorem lex_of : ∀ (xs ys : List V) (i : Nat) (e r : Nat → Bool), (∀ j x y, xs[j]? = some x → ys[j]? = some y → e (i + j) = decide (x = y) ∧ (x ≠ y → r (i + j) = ltV x y)) →
    Ob.lexAt e r (decide (xs.length < ys.length)) i (min xs.length ys.length) = lexLt xs ys
  | [], [], _, _, _, _ => rfl
  | [], _ :: _, _, _, _, _ => by simp [Ob.lexAt_zero, lexLt]
  | _ :: _, [], _, _, _, _ => by simp [Ob.lexAt_zero, lexLt]
  | x :: xs, y :: ys, i, e, r, h => by
    have h0 := h 0 x y rfl rfl
    rw [Nat.add_zero] at h0
    have ih := lex_of xs ys (i + 1) e r fun j x' y' e1 e2 => by
      have := h (j + 1) x' y' e1 e2
      rwa [show i + (j + 1) = i + 1 + j by omega] at this
    have em : min (x :: xs).length (y :: ys).length = min xs.length ys.length + 1 := by simp only [List.length_cons]; omega
    have ed : decide ((x :: xs).length < (y :: ys).length) = decide (xs.length < ys.length) := by simp
    rw [em, Ob.lexAt_succ, ed, h0.1]
    unfold lexLt
    by_cases q : x = y
    · rw [if_pos (by simp [q]), if_pos q]; exact ih
    · rw [if_neg (by simp [q]), if_neg q]; exact h0.2 q
def rLtT (K : PySem.W.Frag) (up : Bool) : R2 := fun x y H Q => ∃ (a b : Addr) (xs ys : List V), x = .ref a ∧ y = .ref b ∧ SqT K H a xs ∧ SqT K H b ys ∧ (∀ (j : Nat) (x y : V), xs[j]? = some x → ys[j]? = some y → Cmp2 x y) ∧ Q (.bl (if up then lexLt ys xs else lexLt xs ys)) H
theorem vals_at : ∀ {xs : List V} {us : List Value}, Vals xs us → ∀ {j : Nat} {x : V} {u : Value}, xs[j]? = some x → us[j]? = some u → RelV x u
  | _, _, .nil, j, x, u, e, _ => by simp at e
  | _, _, .cons r rr, 0, x, u, e1, e2 => by cases e1; cases e2; exact r
  | _, _, .cons r rr, j + 1, x, u, e1, e2 => vals_at rr e1 e2
section
variable {X : Cx}
theorem eqAt_of {A : Around} {s : Shared} {x y : V} {u v : Value} (c : Cmp2 x y) (r1 : RelV x u) (r2 : RelV y v) : SeqAt.EqAt A s u v (decide (x = y)) := by
  rcases c with ⟨a, b, rfl, rfl⟩ | ⟨z, rfl, rfl⟩
  · obtain ⟨t, rfl⟩ := r1
    obtain ⟨t', rfl⟩ := r2
    have z : (a == b) = decide (V.int a = V.int b) := by
      by_cases q : a = b
      · subst q; simp
      · have : V.int a ≠ V.int b := fun e => q (by injection e)
        simp [q]
    rw [← z]
    exact SeqAt.EqAt.int_int _ _ _ _
  · obtain ⟨t, rfl⟩ := r1
    obtain ⟨t', rfl⟩ := r2
    have z' : (z == z) = decide (V.str z = V.str z) := by simp
    rw [← z']
    exact SeqAt.EqAt.str_str _ _ _ _
theorem op_ltT (hu : X.A.units < cLine) : OpR X (compareOp .Lt) (rLtT X.K false) := by
  intro pins s σ H x y v u Q I rx ry h
  obtain ⟨a, b, xs, ys, rfl, rfl, ha, hb, hc, q⟩ := h
  cases rx
  cases ry
  obtain ⟨its, r1, p1, _⟩ := I.tuple ha
  obtain ⟨its2, r2, p2, _⟩ := I.tuple hb
  have l1 := r1.length
  have l2 := r2.length
  let e : Nat → Bool := fun j => decide (xs[j]? = ys[j]?)
  let r : Nat → Bool := fun j => match xs[j]?, ys[j]? with | some x, some y => ltV x y | _, _ => false
  have R := Ob.RcOp.tuples_lt (A := X.A) (s := s) (e := e) (r := r) p1 p2 hu (fun j h1 h2 => by
    simp at h1 h2
    have x1 : j < xs.length := by omega
    have x2 : j < ys.length := by omega
    have e1 := List.getElem?_eq_getElem x1
    have e2 := List.getElem?_eq_getElem x2
    have ee : e j = decide (xs[j] = ys[j]) := by show decide (xs[j]? = ys[j]?) = _; rw [e1, e2]; simp
    rw [ee]
    exact eqAt_of (hc j _ _ e1 e2) (vals_at r1 e1 (by simp [h1])) (vals_at r2 e2 (by simp [h2]))) (fun j h1 h2 hf => by
    simp at h1 h2
    have x1 : j < xs.length := by omega
    have x2 : j < ys.length := by omega
    have e1 := List.getElem?_eq_getElem x1
    have e2 := List.getElem?_eq_getElem x2
    have er : r j = ltV xs[j] ys[j] := by show (match xs[j]?, ys[j]? with | some x, some y => ltV x y | _, _ => false) = _; rw [e1, e2]
    have ne : xs[j] ≠ ys[j] := fun z => by
      have : e j = true := by show decide (xs[j]? = ys[j]?) = true; rw [e1, e2, z]; simp
      rw [this] at hf; cases hf
    rw [er]
    have v1 := vals_at r1 e1 (u := its[j]) (by simp [h1])
    have v2 := vals_at r2 e2 (u := its2[j]) (by simp [h2])
    rcases hc j _ _ e1 e2 with ⟨m, n, z1, z2⟩ | ⟨z, z1, z2⟩
    · rw [z1] at v1; rw [z2] at v2
      obtain ⟨t, t1⟩ := v1
      obtain ⟨t', t2⟩ := v2
      rw [z1, z2]
      simp only [List.getElem_toArray]
      rw [t1, t2]
      exact Ob.RcOp.lt_int _ _ _ _
    · exact absurd (z1.trans z2.symm) ne)
  have lz : Ob.lexAt e r (decide (its.toArray.size < its2.toArray.size)) 0 (min its.toArray.size its2.toArray.size) = lexLt xs ys := by
    rw [List.size_toArray, List.size_toArray, ← l1, ← l2]
    refine lex_of xs ys 0 e r fun j x y e1 e2 => ?_
    rw [Nat.zero_add]
    refine ⟨by show decide (xs[j]? = ys[j]?) = _; rw [e1, e2]; simp, fun _ => ?_⟩
    show (match xs[j]?, ys[j]? with | some x, some y => ltV x y | _, _ => false) = _
    rw [e1, e2]
  rw [lz] at R
  exact R X.prog X.w X.xe (EP X pins σ Q) ⟨.bl _, H, I, rfl, q⟩
theorem op_gtT (hu : X.A.units < cLine) : OpR X (compareOp .Gt) (rLtT X.K true) := by
  intro pins s σ H x y v u Q I rx ry h
  obtain ⟨a, b, xs, ys, rfl, rfl, ha, hb, hc, q⟩ := h
  cases rx
  cases ry
  obtain ⟨its, r1, p1, _⟩ := I.tuple ha
  obtain ⟨its2, r2, p2, _⟩ := I.tuple hb
  have l1 := r1.length
  have l2 := r2.length
  let e : Nat → Bool := fun j => decide (xs[j]? = ys[j]?)
  let r : Nat → Bool := fun j => match xs[j]?, ys[j]? with | some x, some y => ltV y x | _, _ => false
  have R := Ob.RcOp.tuples_gt (A := X.A) (s := s) (e := e) (r := r) p1 p2 hu (fun j h1 h2 => by
    simp at h1 h2
    have x1 : j < xs.length := by omega
    have x2 : j < ys.length := by omega
    have e1 := List.getElem?_eq_getElem x1
    have e2 := List.getElem?_eq_getElem x2
    have ee : e j = decide (xs[j] = ys[j]) := by show decide (xs[j]? = ys[j]?) = _; rw [e1, e2]; simp
    rw [ee]
    exact eqAt_of (hc j _ _ e1 e2) (vals_at r1 e1 (by simp [h1])) (vals_at r2 e2 (by simp [h2]))) (fun j h1 h2 hf => by
    simp at h1 h2
    have x1 : j < xs.length := by omega
    have x2 : j < ys.length := by omega
    have e1 := List.getElem?_eq_getElem x1
    have e2 := List.getElem?_eq_getElem x2
    have er : r j = ltV ys[j] xs[j] := by show (match xs[j]?, ys[j]? with | some x, some y => ltV y x | _, _ => false) = _; rw [e1, e2]
    have ne : xs[j] ≠ ys[j] := fun z => by
      have : e j = true := by show decide (xs[j]? = ys[j]?) = true; rw [e1, e2, z]; simp
      rw [this] at hf; cases hf
    rw [er]
    have v1 := vals_at r1 e1 (u := its[j]) (by simp [h1])
    have v2 := vals_at r2 e2 (u := its2[j]) (by simp [h2])
    rcases hc j _ _ e1 e2 with ⟨m, n, z1, z2⟩ | ⟨z, z1, z2⟩
    · rw [z1] at v1; rw [z2] at v2
      obtain ⟨t, t1⟩ := v1
      obtain ⟨t', t2⟩ := v2
      rw [z1, z2]
      simp only [List.getElem_toArray]
      rw [t1, t2]
      exact Ob.RcOp.gt_int _ _ _ _
    · exact absurd (z1.trans z2.symm) ne)
  have lz : Ob.lexAt e r (decide (its.toArray.size > its2.toArray.size)) 0 (min its.toArray.size its2.toArray.size) = lexLt ys xs := by
    rw [List.size_toArray, List.size_toArray, ← l1, ← l2, Nat.min_comm]
    refine lex_of ys xs 0 e r fun j x y e1 e2 => ?_
    rw [Nat.zero_add]
    refine ⟨?_, fun _ => ?_⟩
    · show decide (xs[j]? = ys[j]?) = _
      rw [e1, e2]
      by_cases q : x = y
      · simp [q]
      · have q' : ¬ y = x := fun z => q z.symm
        simp [q, q']
    · show (match xs[j]?, ys[j]? with | some x, some y => ltV y x | _, _ => false) = _
      rw [e1, e2]
  rw [lz] at R
  exact R X.prog X.w X.xe (EP X pins σ Q) ⟨.bl _, H, I, rfl, q⟩
end
theorem rd_ltT {K : PySem.W.Frag} {H : Hp} {Q : VK} {a b : Addr} {xs ys : List V} (ha : SqT K H a xs) (hb : SqT K H b ys) (hc : ∀ (j : Nat) (x y : V), xs[j]? = some x → ys[j]? = some y → Cmp2 x y) (q : Q (.bl (lexLt xs ys)) H) : rLtT K false (.ref a) (.ref b) H Q := ⟨a, b, xs, ys, rfl, rfl, ha, hb, hc, q⟩
theorem rd_gtT {K : PySem.W.Frag} {H : Hp} {Q : VK} {a b : Addr} {xs ys : List V} (ha : SqT K H a xs) (hb : SqT K H b ys) (hc : ∀ (j : Nat) (x y : V), xs[j]? = some x → ys[j]? = some y → Cmp2 x y) (q : Q (.bl (lexLt ys xs)) H) : rLtT K true (.ref a) (.ref b) H Q := ⟨a, b, xs, ys, rfl, rfl, ha, hb, hc, q⟩
end Rd
set_option Elab.async false
set_option linter.all false
set_option maxRecDepth 100000
set_option maxHeartbeats 4000000
/-! Ro: except clauses up to the one that takes, a def that tells the error of a lambda, the end with tables of code objects. -/
namespace Rd
open PySem PySem.Spec PyProof.Rows L2
/-! ### except clauses: those behind the last one that is told are never looked at -/
inductive HdsTo (X : Cx) : List ExceptHandler → List (Value × (Addr → Value → Option Addr → TS)) → Prop
  | rest {hds : List ExceptHandler} : HdsTo X hds []
  | next {x : Str} {c : Value} {ts : Addr → Value → Option Addr → TS} {b₀ : Stmt} {suite : List Stmt} {np hp : Pos} {hds : List ExceptHandler} {l : List (Value × (Addr → Value → Option Addr → TS))} (hc : Names X x c)
      (su : ∀ (a : Addr) (oe : Obj) (cls : Value) (d : Option Addr) (pn : List (Addr × Obj)), PSs (X.suite a ((a, oe) :: pn)) (b₀ :: suite) (ts a cls d)) (r : HdsTo X hds l) :
      HdsTo X (.ExceptHandler (some (.Name x np)) none (b₀ :: suite) hp :: hds) ((c, ts) :: l)
abbrev wTo (K : PySem.W.Frag) (D : Ends) (l : List (Value × (Addr → Value → Option Addr → TS))) : WX := wMany K (fun _ _ _ _ => False) D l
section
variable {X : Cx} {body : List Stmt} {h₀ : ExceptHandler} {hds : List ExceptHandler} {l : List (Value × (Addr → Value → Option Addr → TS))} {pos : Pos} {tb : WX → TS}
theorem ps_tryTo (hs : X.stack = X.env :: X.outer) (hf : X.env.frame = some X.env.locals)
    (hb : ∀ (W : WX) (pn : List (Addr × Obj)) (xe : Value → Shared → Prop), Takes (X.tr pn xe) W → PSs (X.tr pn xe) body (tb W)) (hh : HdsTo X (h₀ :: hds) l) :
    PS X (.Try body (h₀ :: hds) [] [] pos) (fun D σ H => tb (wTo X.K D l) D σ H) := by
  refine ⟨fun pins s σ H D I h => ?_⟩
  have ok := I.ok
  have frames : X.A.frames = some (X.env :: X.outer) := by rw [ok.frames, hs]
  -- what the clauses do with e
  let go : Value → Shared → Prop := fun e z => wpAny (model X.prog X.w) X.A (noteFrame e X.env) (fun _ z₂ => wpAny (model X.prog X.w) X.A (setFlight e none) (fun _ z₃ => wpAny (model X.prog X.w) X.A (handleBy e X.env (h₀ :: hds)) (SP X pins D) X.xe z₃) X.xe z₂) X.xe z
  have tk : Takes (X.tr (X.pn ++ pins) go) (wTo X.K D l) := by
    intro u s' xx
    obtain ⟨a, B, sI, pins', σ', H', cls, d, rfl, J', nb, up, sky, na, os, ag, wish⟩ := xx
    have J : Inv X pins σ' H' sI := J'.ofTry ok
    refine Sky.land Zc.steady frames hf (show Sky B (X.env :: X.outer) a (Zc cls d) X.env.locals s'.heap by rw [← hs]; exact sky) fun h3 fl3 up3 => ?_
    have J3 : Inv X pins σ' H' { s' with heap := h3 } := J.landed nb fl3.1 (up.trans up3) os ag
    obtain ⟨oe3, vs3, he3, hz3, hd3⟩ := fl3.there
    have nfr : a ∉ frs (X.env :: X.outer) := fun hm => by
      obtain ⟨_, o', e', hnf⟩ := fl3.2.2.1.mem hm
      obtain rfl : oe3 = o' := Option.some.inj (he3.symm.trans e')
      exact hnf _ hd3
    have nL : a ≠ X.env.locals := fun z => nfr (List.mem_filterMap.mpr ⟨X.env, List.mem_cons_self, by rw [hf, z]⟩)
    have nF : a ∉ X.fs := fun hm => by
      obtain ⟨e, he, q⟩ := List.mem_filterMap.mp hm
      exact nfr (List.mem_filterMap.mpr ⟨e, List.mem_cons_of_mem _ he, q⟩)
    have S3 := J3.suite he3 hd3 na nL nF
    suffices all : ∀ {hds' : List ExceptHandler} {l' : List (Value × (Addr → Value → Option Addr → TS))}, HdsTo X hds' l' → wTo X.K D l' cls d σ' H' → wpAny (model X.prog X.w) X.A (handleBy (.ref a) X.env hds') (SP X pins D) X.xe { s' with heap := h3 } from all hh wish
    intro hds' l' hk
    induction hk with
    | rest => intro z; exact False.elim z
    | @next x c ts b₀ suite np hp hds2 l2 hc su r ih =>
      rintro ⟨b, hb1, yes, no⟩
      refine wpAny_handleBy_cons (codeAny_handlers_test ?_) (by intro q; cases q)
      have isC : PySem.W.Looks (model X.prog X.w) h3 (typeOf (.ref a)) cls := fun A Q E s k q => wpAny_typeOf_ref (k _ _ he3) (by rw [hz3.1]; exact q)
      have isM := PySem.W.exm_one (M := model X.prog X.w) J3.kIn isC hb1
      have name : ∀ {Q : Value → Shared → Prop} {E : Value → Shared → Prop}, Q c { s' with heap := h3 } → wpAny (model X.prog X.w) (X.A.mark (some (.ref a))) (eval (.Name x np) X.env) Q E { s' with heap := h3 } := by
        intro Q E q
        obtain ⟨hg, hdbg, hm | ⟨hm, hv, hnn⟩⟩ := hc
        · exact ld_glob (X := X.suite a ((a, oe3) :: (X.pn ++ pins))) S3 hg hm q hdbg
        · exact ld_blt (X := X.suite a ((a, oe3) :: (X.pn ++ pins))) S3 hg hm hv q hnn hdbg
      refine name (isM.here ?_)
      cases b with
      | false => exact ih (no rfl)
      | true =>
        refine codeAny_handlers_suite (HandSPX.lands_againZ fl3 fun h4 fl4 up4 => ?_)
        have J4 : Inv X pins σ' H' { s' with heap := h4 } := J.landed nb fl4.1 ((up.trans up3).trans up4) os ag
        obtain ⟨oe4, vs4, he4, hz4, hd4⟩ := fl4.there
        refine wpAny_mono ((su a oe4 cls d (X.pn ++ pins)).run [] _ _ H' _ (J4.suite he4 hd4 na nL nF) (yes rfl a na)) (fun f s6 hsp => ?_) (fun _ _ z => False.elim z)
        match f, hsp with
        | .next, ⟨σ6, H6, S6, q6⟩ => exact ⟨σ6, H6, S6.unsuite ok, q6⟩
        | .brk, ⟨σ6, H6, S6, q6⟩ => exact ⟨σ6, H6, S6.unsuite ok, q6⟩
        | .cont, ⟨σ6, H6, S6, q6⟩ => exact ⟨σ6, H6, S6.unsuite ok, q6⟩
        | .ret u, ⟨v6, σ6, H6, S6, r6, q6⟩ => exact ⟨v6, σ6, H6, S6.unsuite ok, r6, q6⟩
  refine wpAny_Try_except (wpAny_mono ((hb (wTo X.K D l) (X.pn ++ pins) go tk).run [] s σ H D (I.toTry _) h) (fun f s1 hsp => ?_) (fun e s1 he => he))
  match f, hsp with
  | .next, ⟨σ', H', J', q⟩ => exact wpAny_execs_nil ⟨σ', H', J'.ofTry ok, q⟩
  | .brk, ⟨σ', H', J', q⟩ => exact ⟨σ', H', J'.ofTry ok, q⟩
  | .cont, ⟨σ', H', J', q⟩ => exact ⟨σ', H', J'.ofTry ok, q⟩
  | .ret u, ⟨v, σ', H', J', r, q⟩ => exact ⟨v, σ', H', J'.ofTry ok, r, q⟩
end
/-! ### a def that tells the error of what it got -/
/-- told: try: a() / except C1: return r1 / except C2: return r2 / .. / return r0, of a call that lets out nothing but a C2 that is no C1 -/
def TErr (C2 : Value) (r2 r0 : Str) : (XK → Hp → VK → Prop) → Hp → VK → Prop := fun tl H Q => tl (fun cls _ H' => cls = C2 ∧ Q (.str r2) H') H fun _ H' => Q (.str r0) H'
section
variable {X : Cx}
theorem err_gives {Ng : List Str} {x a e1 e2 q r0 r1 r2 : Str} {sg : Scope} {g : Addr} {C1 C2 cdg : Value} {j1 j2 j0 : Nat} {hds : List ExceptHandler} {p1 p2 p3 p4 p5 p6 p7 p8 p9 p10 p11 p12 p13 p14 : Pos} (g1 : sg.names.lookup e1 = some .globalImplicit) (g2 : sg.names.lookup e2 = some .globalImplicit) (m1 : X.mg e1 = some C1) (m2 : X.mg e2 = some C2)
    (d1 : (e1 == ("__debug__" : Str)) = false) (d2 : (e2 == ("__debug__" : Str)) = false) (x1 : PySem.W.exmOne X.K C2 C1 = some false) (x2 : PySem.W.exmOne X.K C2 C2 = some true) (h0 : ∀ f : Addr, (L2.start Ng [V.ref f])[0]? = some (some (V.ref f))) :
    LamX.GivesTo X Ng x sg g cdg [.Try [.Expr (.Call (.Name a p1) [] [] p2) p3] (.ExceptHandler (some (.Name e1 p4)) none [.Return (some (.Constant (.str r1) j1 p5)) p6] p7 :: .ExceptHandler (some (.Name e2 p8)) none [.Return (some (.Constant (.str r2) j2 p9)) p10] p11 :: hds) [] [] p12, .Return (some (.Constant (.str r0) j0 p13)) p14] a q (TErr C2 r2 r0) := by
  intro f c' s H Q tl act hc h
  have l1 : Gl (cxOf C8.CX0 X.prog X.w X.K X.mg X.base Ng x sg g cdg X.A X.stack s H C8.E0).nox e1 := g1
  have l2 : Gl (cxOf C8.CX0 X.prog X.w X.K X.mg X.base Ng x sg g cdg X.A X.stack s H C8.E0).nox e2 := g2
  refine ⟨_, pss_cons (ps_tryTo (X := (cxOf C8.CX0 X.prog X.w X.K X.mg X.base Ng x sg g cdg X.A X.stack s H C8.E0).nox) (l := [(C1, fun _ _ _ => tRet (tC (.str r1))), (C2, fun _ _ _ => tRet (tC (.str r2)))])
      (tb := fun W D σ H => ∃ Ech : XK, (∀ cls d σ' H', Ech cls d H' → W cls d σ' H') ∧ σ[0]? = some (some (.ref f)) ∧ H c' = some (LamX.CodeO c' q) ∧ tl Ech H fun _ H' => D.nx σ H')
      rfl rfl (fun W pn xe tk => ?_) (.next ⟨l1, d1, .inl m1⟩ (fun a oe cls d pn => pss_one (ps_ret pe_str)) (.next ⟨l2, d2, .inl m2⟩ (fun a oe cls d pn => pss_one (ps_ret pe_str)) .rest))) (pss_one (ps_ret pe_str)), ?_⟩
  · refine ⟨fun pins s' σ H' D I h' => ?_⟩
    obtain ⟨Ech, hW, h1, h2, h3⟩ := h'
    exact (pss_one (ps_expr (pos := p3) (act W pn xe Ech p1 p2 tk hW))).run pins s' σ H' D I ⟨h1, h2, h3⟩
  · refine ⟨fun cls _ H' => cls = C2 ∧ Q (.str r2) H', fun cls d σ' H' ⟨ec, hq⟩ => ?_, h0 f, hc, h⟩
    subst ec
    exact ⟨false, x1, (fun z => nomatch z), fun _ => ⟨true, x2, fun _ _ _ => hq, fun z => nomatch z⟩⟩
end
theorem rd_lam {T : List (Addr × Str)} {TT : (XK → Hp → VK → Prop) → Hp → VK → Prop} {t : XK → TE} {σ : L2.St} {H : Hp} {Q : VK} (hT : LamX.Tabs T H) (q : ∀ H1, LamX.ExtN H H1 → LamX.Tabs T H1 → TT (fun E H' Q' => t E σ H' Q') H1 Q) : LamX.tLam T TT t σ H Q := ⟨hT, q⟩
theorem rd_err {T : List (Addr × Str)} {C2 : Value} {r2 r0 : Str} {t : XK → TE} {σ : L2.St} {H : Hp} {Q : VK} (hT : LamX.Tabs T H) (q : ∀ H1, LamX.ExtN H H1 → LamX.Tabs T H1 → t (fun cls _ H' => cls = C2 ∧ Q (.str r2) H') σ H1 fun _ H' => Q (.str r0) H') : LamX.tLam T (TErr C2 r2 r0) t σ H Q := ⟨hT, q⟩
/-! ### tables stay -/
theorem tabs_same {T : List (Addr × Str)} {H H' : Hp} (h : LamX.Tabs T H) (s : Same H H') : LamX.Tabs T H' := h.ext s
theorem extN_same {H H' : Hp} (s : Same H H') : LamX.ExtN H H' := LamX.ExtN.of s
theorem sqT_N {K : PySem.W.Frag} {H H' : Hp} {a : Addr} {xs : List V} (e : LamX.ExtN H H') (h : SqT K H a xs) : SqT K H' a xs := by
  rcases h with (h | ⟨o, h⟩) | h
  · exact .inl (.inl (e _ _ h fun ps z => by cases z))
  · exact .inl (.inr ⟨o, e _ _ h fun ps z => by cases z⟩)
  · exact .inr h
theorem sqL_N {K : PySem.W.Frag} {H H' : Hp} {a : Addr} {xs : List V} (e : LamX.ExtN H H') (h : SqL K H a xs) : SqL K H' a xs := by
  rcases h with (h | ⟨o, h⟩) | h
  · exact .inl (.inl (e _ _ h fun ps z => by cases z))
  · exact .inl (.inr ⟨o, e _ _ h fun ps z => by cases z⟩)
  · exact .inr h
/-- a list of one's own is written -/
theorem tabs_keep {T : List (Addr × Str)} {H H' : Hp} {p : Addr} {xs : List V} (h : LamX.Tabs T H) (hp : H p = some (.lst xs)) (k : ∀ b o, b ≠ p → H b = some o → H' b = some o) : LamX.Tabs T H' := by
  intro z hz
  obtain ⟨ps, h1, h2, h3⟩ := h z hz
  refine ⟨ps, k _ _ (ne_of h1 hp (by intro q; cases q)) h1, h2, fun pos cv hc => ?_⟩
  obtain ⟨c, e1, e2⟩ := h3 pos cv hc
  exact ⟨c, e1, k _ _ (ne_of e2 hp (by unfold LamX.CodeO; intro q; cases q)) e2⟩
/-! ### the end -/
section
variable {P : Program} {w : World} {K : PySem.W.Frag} {mg mb : Str → Option Value} {CX : CXT} {k : Nat} {fa a : Addr} {sp : Sp} {s₁ : Shared} {vs : List Value} {ns : List Int} {cs : List (Addr × Addr)}
abbrev tab0 : Obj := { cls := .none, data := .fields #[] }
/-- the law is called; its script at a and the tables of code objects, all empty, may be tracked -/
theorem law_atT (H : Hp) (KX : K.In s₁.heap) (hns : s₁.heap.Ns mainGlobals mg) (hb : s₁.heap.Ns builtinsNs mb) (hbb : ∀ x : Str, x ≠ "__name__" → mb x = bootBuiltins x) (hlim : s₁.heap.NoLimit) (hg : s₁.gens = #[])
    (hT : ∀ p ∈ cs, s₁.heap.get? p.2 = some tab0 ∧ K.lookup p.2 = none ∧ PySem.W.CodeHd s₁.heap p.1 p.2)
    (hbm : ∃ (bm : Addr) (ob : Obj), mg "__builtins__" = some (.ref bm) ∧ bm ≠ builtinsNs ∧ s₁.heap.get? bm = some ob ∧ ob.cls = .type "module" ∧ ob.dict = some builtinsNs ∧ ob.data = .plain)
    (ha : s₁.heap.get? a = some { cls := .type "list", data := .seq vs.toArray }) (hr : RoomG true k callerA) (F : ∀ base : Heap, (∀ p ∈ cs, LamX.TabB base mg p.1 p.2) → FnG true P w K mg base CX k fa sp) (hok : HOk P w H s₁.heap)
    (only : ∀ b, H b ≠ none → (b = a ∧ K.lookup a = none ∧ ∃ o xs, H b = some (.frz o (.lst xs))) ∨ (∃ p ∈ cs, b = p.2 ∧ H b = some (.tbl #[]))) (hsp : sp [.ref a] H (fun v _ => v = .bl true) fun _ _ _ => False) (hCX : ∀ e s', ¬ CX [] H s₁ (fun _ _ _ => False) e s') :
    codeAny (model P w) callerA (.call (.ref fa) ⟨[.ref a], []⟩) (fun r s' => r = .ok (.ret (.bool true)) ∧ OldK s₁.heap s'.heap ∧ s'.os = s₁.os ∧ AllBare s'.gens) s₁ := by
  -- what is neither a list nor an empty record is not tracked
  have free : ∀ {b o}, s₁.heap.get? b = some o → (∀ us n, o.data ≠ .seq us n) → o.data ≠ .fields #[] → H b = none := by
    intro b o e d1 d2
    refine Classical.byContradiction fun n => ?_
    rcases only b n with ⟨rfl, _⟩ | ⟨p, hp, rfl, _⟩
    · obtain rfl := Option.some.inj (ha.symm.trans e)
      exact d1 _ _ rfl
    · obtain rfl := Option.some.inj ((hT p hp).1.symm.trans e)
      exact d2 rfl
  have names : ∀ {b m}, s₁.heap.Ns b m → (hidT s₁.heap H).Ns b m := by
    rintro b m ⟨o, es, ep, e, d, r⟩
    exact ⟨o, es, ep, hidT_get e (free e (fun us n z => nomatch d.symm.trans z) fun z => nomatch d.symm.trans z), d, r⟩
  have kin : K.In (hidT s₁.heap H) := by
    intro b o e
    refine hidT_get (KX b o e) (Classical.byContradiction fun n => ?_)
    rcases only b n with ⟨rfl, hk, _⟩ | ⟨p, hp, rfl, _⟩
    · exact nomatch hk.symm.trans e
    · exact nomatch (hT p hp).2.1.symm.trans e
  obtain ⟨mc, lim1, lim2⟩ := hlim
  have md : Mod K mg (hidT s₁.heap H) := ⟨kin, names hns, ⟨mb, names hb, hbb⟩, mc, names lim1, lim2⟩
  have env : Env0 P w K mg (hidT s₁.heap H) callerA [] s₁ H :=
    { frames := rfl, mod := md, bs := fun b o e => of_hidT e, bsz := Nat.le_of_eq (hidT_size _ _), funs := trivial, frf := fun b hb => absurd (show b ∈ ([] : List Addr) from hb) (by simp), hok := hok, bare := .of_eq hg }
  have TB : ∀ p ∈ cs, LamX.TabB (hidT s₁.heap H) mg p.1 p.2 := by
    intro p hp
    obtain ⟨t1, t2, o, us, file, tf, flags, tg, inF, text, tt, e1, r1, r2, rs⟩ := hT p hp
    obtain ⟨bm, ob, b1, b2, b3, b4, b5, b6⟩ := hbm
    refine ⟨⟨o, us, file, tf, flags, tg, inF, text, tt, hidT_get e1 (free e1 (fun us n z => nomatch r2.symm.trans z) fun z => ?_), r1, r2, rs⟩, ⟨bm, ob, b1, b2, fun q => ?_, fun q => ?_, hidT_get b3 (free b3 (fun us n z => nomatch b6.symm.trans z) fun z => nomatch b6.symm.trans z), b4, b5, b6⟩, fun z => ?_⟩
    · have z' : us = #[] := by have := r2.symm.trans z; injection this
      have r3 := rs.1
      rw [z'] at r3
      simp at r3
    · obtain ⟨o', es, ep, e, d, _⟩ := hns
      rw [← q] at e
      obtain rfl := Option.some.inj (b3.symm.trans e)
      exact nomatch b6.symm.trans d
    · rw [← q] at t1
      obtain rfl := Option.some.inj (b3.symm.trans t1)
      exact nomatch b6
    · obtain ⟨o', es, ep, e, d, _⟩ := hns
      rw [z] at e
      obtain rfl := Option.some.inj (t1.symm.trans e)
      exact nomatch d
  refine codeAny_mono (F _ TB callerA [] s₁ H [.ref a] [.ref a] _ _ hr env (.cons rfl .nil) hsp) fun r s' h => ?_
  match r, h with
  | .error e, h => exact (hCX e s' h).elim
  | .ok .next, h => exact False.elim h
  | .ok .brk, h => exact False.elim h
  | .ok .cont, h => exact False.elim h
  | .ok (.ret u), h =>
    obtain ⟨v, H', os, bare, un, hok', rv, q⟩ := h
    have qv : v = .bl true := q
    rw [qv] at rv
    obtain rfl : u = Value.bool true := rv
    -- each object: it stays, or it is a table that has grown
    have each : ∀ b o, s₁.heap.get? b = some o → s'.heap.get? b = some o ∨ ∃ p ∈ cs, b = p.2 ∧ ∃ more, s'.heap.get? b = some { cls := .none, data := .fields more } := by
      intro b o e
      by_cases n : H b = none
      · exact .inl (un.keep b o e n (fun z => absurd (show b ∈ ([] : List Addr) from z) (by simp)) (by simp))
      · rcases only b n with ⟨_, _, ob, xs, z⟩ | ⟨p, hp, e2, z⟩
        · obtain ⟨e1, _⟩ := hok b _ z
          obtain ⟨e3, _⟩ := hok' b _ (un.frzs b ob _ z)
          rw [e] at e1
          injection e1 with e1
          rw [e1]
          exact .inl e3
        · obtain ⟨more, z2⟩ := un.tbls b #[] z
          exact .inr ⟨p, hp, e2, _, hok' b _ z2⟩
    refine ⟨rfl, ⟨fun b o e => ?_, fun b o e => ?_⟩, os, bare⟩
    · rcases each b o e with z | ⟨p, hp, e2, more, z⟩
      · exact .inl z
      · obtain ⟨t1, _, C⟩ := hT p hp
        subst e2
        obtain rfl := Option.some.inj (t1.symm.trans e)
        exact .inr (.inl ⟨(C.tab t1).isCodeTable, rfl, #[], more, rfl, by rw [Array.empty_append]; exact z⟩)
    · rcases each b o e with z | ⟨_, _, _, _, z⟩
      · exact ⟨_, z⟩
      · exact ⟨_, z⟩
end
theorem walk_ofT {l : PySem.W.OpenLaw} {n k : Nat} {q : Program} {loose : List Str} {XP : (Str → Option Value) → Heap → Prop} {YP : World → Heap → Prop} {d : DefRec} (hn : l.most = some n) (hn2 : n ≤ sizeLine) (hdf : d.params.defaults = []) (hr : RoomG true k callerA)
    (F : ∀ (w : World) (mg : Str → Option Value) (fa : Addr) (h : Heap), YP w h → h.Ns mainGlobals mg → mg d.name = some (.ref fa) → ∃ (K : PySem.W.Frag) (cs : List (Addr × Addr)) (sp : Sp), K.In h ∧
      (∀ p ∈ cs, h.get? p.2 = some tab0 ∧ K.lookup p.2 = none ∧ PySem.W.CodeHd h p.1 p.2) ∧
      (∀ (H : Hp) (a : Addr) (ns : List Int), ns.length ≤ n → (∀ p ∈ cs, H p.2 = some (.tbl #[])) → SqL K H a (ns.map V.int) → sp [.ref a] H (fun v _ => v = .bl true) fun _ _ _ => False) ∧
      ∀ base : Heap, (∀ p ∈ cs, LamX.TabB base mg p.1 p.2) → FnG true l.prog w K mg base CX0 k fa sp) :
    PySem.W.WalkO q loose XP YP l.row.toRowW d [] (fun f vs => PySem.call f vs) := by
  refine Att.attach_call hn hdf fun w s₀ s₁ mg mb fa o pm cd doc a vs ns G Y ho hd hcd hmg hobj hints hlen hg => ?_
  obtain ⟨K, cs, sp, KX, hT, hsp, hF⟩ := F w mg fa _ Y G.T.g hmg
  have rv := vals_ints hints
  have hl : (ns.map V.int).length ≤ sizeLine := by rw [List.length_map]; exact Nat.le_trans hlen hn2
  have aT : ∀ p ∈ cs, p.2 ≠ a := fun p hp z => by
    have t := (hT p hp).1
    rw [z] at t
    exact nomatch congrArg Obj.data (Option.some.inj (hobj.symm.trans t))
  cases hk : K.lookup a with
  | some o =>
    have e := (KX a o hk).symm.trans hobj
    injection e with e
    subst e
    let H : Hp := fun b => if b ∈ cs.map (·.2) then some (.tbl #[]) else none
    have hA : ∀ p ∈ cs, H p.2 = some (.tbl #[]) := fun p hp => if_pos (List.mem_map.mpr ⟨p, hp, rfl⟩)
    have hN : ∀ {b}, b ∉ cs.map (·.2) → H b = none := fun h => if_neg h
    refine law_atT H KX G.T.g G.T.b G.T.builtins G.T.nolimit hg hT G.T.bmain hobj hr hF (fun b u z => ?_) (fun b z => ?_)
      (hsp _ a ns hlen hA (.inr ⟨_, vs.toArray, _, hk, rfl, rfl, rfl, by rw [List.size_toArray, hints.length]; exact Nat.le_trans hlen hn2, by simpa using rv⟩)) fun e s' z => z
    · by_cases hb : b ∈ cs.map (·.2)
      · obtain ⟨p, hp, rfl⟩ := List.mem_map.mp hb
        obtain rfl := Option.some.inj ((hA p hp).symm.trans z)
        exact (hT p hp).1
      · exact nomatch (hN hb).symm.trans z
    · by_cases hb : b ∈ cs.map (·.2)
      · obtain ⟨p, hp, rfl⟩ := List.mem_map.mp hb
        exact .inr ⟨p, hp, rfl, hA p hp⟩
      · exact absurd (hN hb) z
  | none =>
    let H : Hp := fun b => if b = a then some (.frz { cls := .type "list", data := .seq vs.toArray } (.lst (ns.map V.int))) else if b ∈ cs.map (·.2) then some (.tbl #[]) else none
    have hA : H a = some (.frz { cls := .type "list", data := .seq vs.toArray } (.lst (ns.map V.int))) := if_pos rfl
    have hC : ∀ p ∈ cs, H p.2 = some (.tbl #[]) := fun p hp => (if_neg (aT p hp)).trans (if_pos (List.mem_map.mpr ⟨p, hp, rfl⟩))
    have hN : ∀ {b}, b ≠ a → b ∉ cs.map (·.2) → H b = none := fun h h' => (if_neg h).trans (if_neg h')
    refine law_atT H KX G.T.g G.T.b G.T.builtins G.T.nolimit hg hT G.T.bmain hobj hr hF (fun b u z => ?_) (fun b z => ?_) (hsp H a ns hlen hC (.inl (.inr ⟨_, hA⟩))) fun e s' z => z
    · by_cases hb : b = a
      · subst hb
        obtain rfl := Option.some.inj (hA.symm.trans z)
        exact ⟨hobj, hl, vs, _, rv, hobj⟩
      · by_cases hc : b ∈ cs.map (·.2)
        · obtain ⟨p, hp, rfl⟩ := List.mem_map.mp hc
          obtain rfl := Option.some.inj ((hC p hp).symm.trans z)
          exact (hT p hp).1
        · exact nomatch (hN hb hc).symm.trans z
    · by_cases hb : b = a
      · subst hb
        exact .inl ⟨rfl, hk, _, _, hA⟩
      · by_cases hc : b ∈ cs.map (·.2)
        · obtain ⟨p, hp, rfl⟩ := List.mem_map.mp hc
          exact .inr ⟨p, hp, rfl, hC p hp⟩
        · exact absurd (hN hb hc) z
end Rd
set_option Elab.async false
set_option linter.all false
set_option maxRecDepth 100000
set_option maxHeartbeats 4000000
/-! Rq: classes: making instances, properties, own operators. -/
namespace Rd
open PySem PySem.Spec PyProof.Rows L2
theorem FnG.toR {P : Program} {w : World} {K : PySem.W.Frag} {mg : Str → Option Value} {base : Heap} {CX : CXT} {k : Nat} {f : Addr} {sp : Sp} (F : FnG false P w K mg base CX k f sp) : FnR P w K mg base CX k f sp := fun A outer s H us vs Q E hr => F A outer s H us vs Q E (RoomG.any hr)
/-! ### making -/
section
variable {X : Cx} {CX : CXT} {k i : Nat} {f C : Addr} {sp : Sp} {E : XK} {x m : Str} {e o : Expr} {es : List Expr} {te ta : TE} {t : TA} {p pos sp_ apos : Pos}
/-- a new instance of C, by the promise of its __init__ -/
def rMake (C : Addr) (sp : Sp) (E : XK) : List V → Hp → VK → Prop := fun vs H Q => ∀ x dx, H x = Option.none → H dx = Option.none → dx ≠ x → sp (V.ref x :: vs) (upd (upd H dx (.own x)) x (.ins C dx [])) (fun v H2 => v = .non ∧ Q (.ref x) H2) E
theorem pe_mk (M : Mk X.K C f) (F : FnR X.prog X.w X.K X.mg X.base CX k f sp) (hr : Room (k + 1) X.A) (hg : Gl X x) (hm : X.mg x = some (.ref C)) (hx : Passes CX X E) (ha : PA X (e :: es) t) (hdb : (x == ("__debug__" : Str)) = false := by decide)
    (he : starEach (e :: es) X.env = (false, eval e X.env) :: starEach es X.env := by rfl) (hpl : (backTo pos (starEach es X.env)).any (·.1) = false := by rfl) : PE X (.Call (.Name x p) (e :: es) [] pos) (tCB (rMake C sp E) t) := StX.pe_makeR M F hr hg hm hx ha hdb he hpl
theorem pe_mk0 (M : Mk X.K C f) (F : FnR X.prog X.w X.K X.mg X.base CX k f sp) (hr : Room (k + 1) X.A) (hg : Gl X x) (hm : X.mg x = some (.ref C)) (hx : Passes CX X E) (hdb : (x == ("__debug__" : Str)) = false := by decide) : PE X (.Call (.Name x p) [] [] pos) (tCB (rMake C sp E) tNil) := by
  refine ⟨fun pins s σ H Q I h => ?_⟩
  refine wpAny_Call_Name_kw (ld_glob I hg hm ?_ hdb)
  exact PySem.W.callWith_K0 I.kIn M.kp (StX.run_makeR (us := []) M F hr hx I .nil h)
/-- C(*e), C a global -/
def rStar (K : PySem.W.Frag) (r : List V → Hp → VK → Prop) : V → Hp → VK → Prop := fun y H Q => ∃ a xs, y = V.ref a ∧ (SqT K H a xs ∨ SqL K H a xs) ∧ r xs H Q
theorem pe_mkS (M : Mk X.K C f) (F : FnR X.prog X.w X.K X.mg X.base CX k f sp) (hr : Room (k + 1) X.A) (hg : Gl X x) (hm : X.mg x = some (.ref C)) (hx : Passes CX X E) (he : PE X e te) (hd : (x == ("__debug__" : Str)) = false := by decide)
    (hst : starEach [.Starred e sp_] X.env = [(true, eval e X.env)] := by rfl) : PE X (.Call (.Name x p) [.Starred e sp_] [] pos) (tUn (rStar X.K (rMake C sp E)) te) := by
  refine ⟨fun pins s σ H Q I h => ?_⟩
  refine wpAny_Call_Name_kw (ld_glob I hg hm ?_ hd)
  refine PySem.W.callWith_S (h₀ := X.base) I.ok.mod.kin M.kp (thn (he.run pins s σ H _ I h) fun v s1 ⟨y, H1, I1, ry, a, xs, ey, hxs, q⟩ => ?_) hst
  subst ey
  obtain rfl : v = Value.ref a := ry
  exact StX.star_any I1 hxs fun us s2 I2 rv => ⟨I2.kIn, StX.run_makeR M F hr hx I2 rv q⟩
/-- c(*e), c a local name that holds the class -/
def tMkVS (K : PySem.W.Frag) (i : Nat) (C : Addr) (r : List V → Hp → VK → Prop) (te : TE) : TE := fun σ H Q => σ[i]? = some (some (.ref C)) ∧ te σ H fun y H1 => rStar K r y H1 Q
theorem pe_mkVS (M : Mk X.K C f) (F : FnR X.prog X.w X.K X.mg X.base CX k f sp) (hr : Room (k + 1) X.A) (hx : Passes CX X E) (hN : X.N[i]? = some x) (hv : Vis X.env.scope x) (he : PE X e te) (hd : (x == ("__debug__" : Str)) = false := by decide) (hcd : (x == ("__classdict__" : Str)) = false := by decide)
    (hst : starEach [.Starred e sp_] X.env = [(true, eval e X.env)] := by rfl) : PE X (.Call (.Name x p) [.Starred e sp_] [] pos) (tMkVS X.K i C (rMake C sp E) te) := by
  refine ⟨fun pins s σ H Q I h => ?_⟩
  obtain ⟨hs, h⟩ := h
  refine wpAny_Call_Name_kw (thn ((pe_var (pos := p) (i := i) hN hv hd hcd).run pins s σ H (fun v H1 => v = .ref C ∧ H1 = H) I ⟨.ref C, hs, rfl, rfl⟩) fun u s1 ⟨v, H1, I1, r1, ev, eH⟩ => ?_)
  subst ev
  rw [eH] at I1
  cases r1
  refine PySem.W.callWith_S (h₀ := X.base) I.ok.mod.kin M.kp (thn (he.run pins s1 σ H _ I1 h) fun v s2 ⟨y, H2, I2, ry, a, xs, ey, hxs, q⟩ => ?_) hst
  subst ey
  obtain rfl : v = Value.ref a := ry
  exact StX.star_any I2 hxs fun us s3 I3 rv => ⟨I3.kIn, StX.run_makeR M F hr hx I3 rv q⟩
/-! readings -/
abbrev rFld (K : PySem.W.Frag) (f : Str) (x : V) (H1 : Hp) (Q : VK) : Prop := ∃ a C dx fs v, x = .ref a ∧ H1 a = some (.ins C dx fs) ∧ Cls K C ∧ NoAttr K C f ∧ fs.lookup f = some v ∧ Q v H1
variable {σ : L2.St} {H : Hp} {Q : VK}
theorem rd_mkVS {K : PySem.W.Frag} {r : List V → Hp → VK → Prop} (h : σ[i]? = some (some (.ref C))) (q : te σ H fun y H1 => rStar K r y H1 Q) : tMkVS K i C r te σ H Q := ⟨h, q⟩
theorem rd_starT {K : PySem.W.Frag} {r : List V → Hp → VK → Prop} {a : Addr} {xs : List V} (h : SqT K H a xs) (q : r xs H Q) : rStar K r (.ref a) H Q := ⟨a, xs, rfl, .inl h, q⟩
abbrev rMethA (C : Addr) (m : Str) (sp : Sp) (E : XK) (t : TA) (σ : L2.St) (Q : VK) (x : V) (H1 : Hp) : Prop := ∃ a dx fs, x = .ref a ∧ H1 a = some (.ins C dx fs) ∧ fs.lookup m = none ∧ t σ H1 fun vs H2 => sp (x :: vs) H2 Q E
theorem rd_methR (q : ta σ H fun x H1 => rMethA C m sp E t σ Q x H1) : tMethR C m sp E ta t σ H Q := q
theorem rd_cmeth (q : ta σ H fun x H1 => x = .ref C ∧ t σ H1 fun vs H2 => sp (.ref C :: vs) H2 Q E) : ClX.tCMeth C sp E ta t σ H Q := q
theorem rd_fldS {K : PySem.W.Frag} {tv : TE} {f : Str} {D : Ends} (q : tv σ H fun y H1 => ta σ H1 fun x H2 => ∃ a C dx fs, x = .ref a ∧ H2 a = some (.ins C dx fs) ∧ Cls K C ∧ NoAttr K C f ∧ fs.length < 1000 ∧ D.nx σ (upd H2 a (.ins C dx (putF f y fs)))) : sFld K ta tv f D σ H := q
theorem rd_fld {K : PySem.W.Frag} {f : Str} (q : ta σ H fun x H1 => rFld K f x H1 Q) : tFld K ta f σ H Q := q
end
/-- isinstance(x, C) of an own class -/
theorem rd_isiC {K : PySem.W.Frag} {H : Hp} {Q : VK} {v : V} {t : Value} {C : Addr} {b : Bool} (h : TyX K H v t) (hk : PySem.W.kitOne K t (.ref C) = some b) (q : Q (.bl b) H) : rIsi K [v, .ref C] H Q := ⟨v, .ref C, t, .ref C, b, rfl, .own C, h, hk, q⟩
/-! ### properties -/
def tPropR (C : Addr) (sp : Sp) (E : XK) (ta : TE) : TE := fun σ H Q => ta σ H fun x H1 => ∃ a dx fs, x = .ref a ∧ H1 a = some (.ins C dx fs) ∧ sp [.ref a] H1 Q E
abbrev rPropA (C : Addr) (sp : Sp) (E : XK) (Q : VK) (x : V) (H1 : Hp) : Prop := ∃ a dx fs, x = .ref a ∧ H1 a = some (.ins C dx fs) ∧ sp [.ref a] H1 Q E
theorem rd_propR {C : Addr} {sp : Sp} {E : XK} {ta : TE} {σ : L2.St} {H : Hp} {Q : VK} (q : ta σ H fun x H1 => rPropA C sp E Q x H1) : tPropR C sp E ta σ H Q := q
section
variable {X : Cx} {CX : CXT} {k : Nat} {C p g f0 f : Addr} {n : Str} {sp : Sp} {E : XK} {e : Expr} {pos : Pos} {ta : TE}
theorem pe_propR (he : PE X e ta) (c : Cls X.K C) (hp : PropOf X.K C n p g) (F : FnR X.prog X.w X.K X.mg X.base CX k g sp) (hr : Room (k + 1) X.A) (hx : Passes CX X.nox E) (hab : attributeBase e n X.env (eval e X.env) = eval e X.env := by rfl) : PE X (.Attribute e n pos) (tPropR C sp E ta) := by
  refine ⟨fun pins s σ H Q I h => attr_of hab (thn (he.run pins s σ H _ I h) fun u s1 ⟨x, H1, I1, rx, a, dx, fs, ex, ea, q⟩ => ?_)⟩
  subst ex
  obtain rfl : u = Value.ref a := rx
  obtain ⟨mA, O, _, _, _, _⟩ := ins_get I1.hok ea
  obtain ⟨od, J, _⟩ := O.look
  obtain ⟨rest, hrec⟩ := hp.rec_
  have I2 := I1.tok (s1.toks + 1)
  have hc : (PySem.W.clsIn X.K C).isSome = true := by
    obtain ⟨cd, hc, _⟩ := PySem.W.any_some c.hd
    rw [hc] <;> rfl
  refine PySem.W.get_bind I1.kIn J (PySem.W.plainGet_of (c.get n)).1 (PySem.W.findObj_data hc hp.at_ hp.get hp.tak) (PySem.W.plainGet_of (c.get n)).2 (wpAny_call (PySem.W.prop_get (s := { s1 with toks := s1.toks + 1 }) I1.kIn hrec ?_))
  refine codeAny_mono (F X.A.in1 X.stack { s1 with toks := s1.toks + 1 } H1 [.ref a] [.ref a] Q E hr.in1 I2.env0.in1 (.cons rfl .nil) q) fun r s' hq => ?_
  match r, hq with
  | .error er, hq => exact False.elim (hx pins σ H1 { s1 with toks := s1.toks + 1 } er s' (I2.wish _) hq)
  | .ok (.ret u), hq =>
    obtain ⟨v, H', I3, rv, q3⟩ := I2.after hq
    show wpAny _ _ (handedOut u) _ _ _
    rw [PySem.W.handedOut_of (handed_of rv)]
    exact wpAny_pure ⟨v, H', I3, rv, q3⟩
  | .ok .next, hq => exact False.elim hq
  | .ok .brk, hq => exact False.elim hq
  | .ok .cont, hq => exact False.elim hq
/-! ### own operators -/
theorem ins_look {pins : List (Addr × Obj)} {σ : L2.St} {H : Hp} {s : Shared} {a dx : Addr} {fs : List (Str × V)} (I : Inv X pins σ H s) (h : H a = some (.ins C dx fs)) : ∃ ox od, PySem.W.InstAt s.heap a ox C od ∧ ox.data = .plain := StX.insC_at I (.inr ⟨dx, fs, h⟩)
/-- what comes back is an object -/
theorem run_back {pins : List (Addr × Obj)} {σ : L2.St} {H : Hp} {s : Shared} {Q : VK} {us : List Value} {vs : List V} (F : FnR X.prog X.w X.K X.mg X.base CX k f sp) (hr : Room k X.A) (hx : Passes CX X E) (I : Inv X pins σ H s) (r : Vals vs us)
    (h : sp vs H (fun v H' => (∃ p, v = .ref p) ∧ Q v H') E) : wpAny (model X.prog X.w) X.A (call (.ref f) us) (PySem.W.CmpBack (EP X pins σ Q)) X.xe s := by
  refine wpAny_call (codeAny_mono (run_fnR F hr hx I r h) fun r s' hq => ?_)
  match r, hq with
  | .error e, hq => exact hq
  | .ok (.ret u), hq =>
    obtain ⟨v, H', I', rv, ⟨p, rfl⟩, q⟩ := hq
    cases rv
    exact ⟨.ref p, H', I', rfl, q⟩
  | .ok .next, hq => exact hq
  | .ok .brk, hq => exact hq
  | .ok .cont, hq => exact hq
/-- the class C fills the slot nm by its def f -/
structure OwnL (K : PySem.W.Frag) (C : Addr) (nm : String) (f : Addr) : Prop where
  sf : PySem.W.selfFirst K C = true
  l : PySem.W.findIn K (.ref C) (PySem.dunder nm) = some (some (.ref f))
  lf : PySem.W.isFn K (.ref f) = true
  r : ∃ rc, PySem.W.findIn K (.ref C) (dunderR nm) = some rc ∧ (rc = none ∨ ∃ g : Addr, rc = some (.ref g))
  i1 : ∃ o, PySem.W.findIn K (.type "int") (PySem.dunder nm) = some o
  i2 : ∃ o, PySem.W.findIn K (.type "int") (dunderR nm) = some o
  s1 : PySem.W.subIn K (.type "int") (.ref C) = some false
/-- .. and by fr from the right -/
structure OwnOp (K : PySem.W.Frag) (C : Addr) (nm : String) (f fr : Addr) : Prop where
  sf : PySem.W.selfFirst K C = true
  l : PySem.W.findIn K (.ref C) (PySem.dunder nm) = some (some (.ref f))
  r : PySem.W.findIn K (.ref C) (dunderR nm) = some (some (.ref fr))
  rf : PySem.W.isFn K (.ref fr) = true
  s2 : PySem.W.subIn K (.ref C) (.type "int") = some false
def rOwn (C : Addr) (sp : Sp) (E : XK) : R2 := fun x y H Q => (∃ a dx fs, x = .ref a ∧ H a = some (.ins C dx fs)) ∧ ((∃ b dy gs, y = .ref b ∧ H b = some (.ins C dy gs)) ∨ ∃ i, y = .int i) ∧ sp [x, y] H (fun v H' => (∃ p, v = .ref p) ∧ Q v H') E
theorem op_own {op : Operator} (O : OwnL X.K C op.info.2 f) (F : FnR X.prog X.w X.K X.mg X.base CX k f sp) (hr : Room k X.A) (hx : Passes CX X E) : OpR X (binaryOp op) (rOwn C sp E) := by
  intro pins s σ H x y v u Q I rx ry h
  obtain ⟨⟨a, dx, fs, rfl, ha⟩, hy, h⟩ := h
  cases rx
  obtain ⟨m, hF⟩ := I.fr
  obtain ⟨ox, od, J, _⟩ := ins_look I ha
  rcases hy with ⟨b, dy, gs, rfl, hb⟩ | ⟨i, rfl⟩
  · cases ry
    obtain ⟨oy, od', J', _⟩ := ins_look I hb
    exact PySem.W.binop_K hF I.ok.mod.kin J J'.type O.sf O.l O.lf (run_back (vs := [.ref a, .ref b]) F hr hx I (.cons rfl (.cons rfl .nil)) h)
  · obtain ⟨t, rfl⟩ := ry
    obtain ⟨o1, h1⟩ := O.i1
    obtain ⟨o2, h2⟩ := O.i2
    obtain ⟨rc, h3, h4⟩ := O.r
    exact PySem.W.ksp_binT (T := "int") hF I.ok.mod.kin J rfl O.sf O.l O.lf h3 h4 h1 h2 O.s1 (run_back (vs := [.ref a, .int i]) F hr hx I (.cons rfl (.cons ⟨t, rfl⟩ .nil)) h)
end
section
variable {prog : Program} {w : World} {A : Around} {E : Value → Shared → Prop} {s : Shared} {K : PySem.W.Frag} {x C f fr L : Addr} {h₀ : Heap} {m : Str → Option Value} {ox : Obj} {od : Option Obj} {i : Int} {t : Tok}
theorem int_add_dec (hx : s.heap.get? x = some ox) (hd : ox.data = .plain) : wpAny (model prog w) A (call (.builtin "int.__add__") [.int i t, .ref x]) (fun v s' => v = .notImplemented ∧ s' = s) E s := by
  refine wpAny_call_entry PySem.F.slot_int_add (typeIs_int s i t) PySem.F.entry_int_add ?_ (PySem.F.args_int_add_2 _ _)
  unfold Builtin.«int.__add__» Builtin.Int.intBinary
  refine wpAny_bind (m := slotArgs "__add__" 1 _) (wpAny_pure ?_)
  dsimp only
  refine wpAny_bind (m := Builtin.Int.intOfSelf _) (wpAny_bind (wpAny_pure (wpAny_pure ?_)))
  refine wpAny_bind ?_
  show wpAny _ _ (load x >>= fun o => match o.data with | .prim (.int i _) => pure (some i) | _ => pure none) _ _ s
  refine wpAny_bind (wpAny_load hx ?_)
  rw [hd]
  exact wpAny_pure (wpAny_bind (wpAny_rule (wpAny_pure ⟨_, rfl, rfl, rfl⟩)))
theorem int_mul_dec (hx : s.heap.get? x = some ox) (hd : ox.data = .plain) : wpAny (model prog w) A (call (.builtin "int.__mul__") [.int i t, .ref x]) (fun v s' => v = .notImplemented ∧ s' = s) E s := by
  refine wpAny_call_entry PySem.F.slot_int_mul (typeIs_int s i t) PySem.F.entry_int_mul ?_ (PySem.F.args_int_mul_2 _ _)
  unfold Builtin.«int.__mul__» Builtin.Int.intBinary
  refine wpAny_bind (m := slotArgs "__mul__" 1 _) (wpAny_pure ?_)
  dsimp only
  refine wpAny_bind (m := Builtin.Int.intOfSelf _) (wpAny_bind (wpAny_pure (wpAny_pure ?_)))
  refine wpAny_bind ?_
  show wpAny _ _ (load x >>= fun o => match o.data with | .prim (.int i _) => pure (some i) | _ => pure none) _ _ s
  refine wpAny_bind (wpAny_load hx ?_)
  rw [hd]
  exact wpAny_pure (wpAny_bind (wpAny_rule (wpAny_pure ⟨_, rfl, rfl, rfl⟩)))
theorem rbin_K {op : Operator} {id : String} {Q : Value → Shared → Prop} (XK : K.In s.heap) (J : PySem.W.InstAt s.heap x ox C od) (O : OwnOp K C op.info.2 f fr) (fi : fillsNumberSlot (.type "int") op.info.2 = pure true) (slot : Slot "int" (PySem.dunder op.info.2) id)
    (dec : wpAny (model prog w) A (call (.builtin id) [.int i t, .ref x]) (fun v s' => v = .notImplemented ∧ s' = s) E s)
    (h : wpAny (model prog w) A (call (.ref fr) [.ref x, .int i t]) (PySem.W.CmpBack Q) E s) : wpAny (model prog w) A (binaryOp op (.int i t) (.ref x)) Q E s := by
  obtain ⟨cd, rest, hcd, hm⟩ := PySem.W.ksp_first O.sf
  have Ol := O.l
  have Or := O.r
  rcases hi : op.info with ⟨sym, nm'⟩
  rw [hi] at fi slot Ol Or
  dsimp only at fi slot Ol Or
  have two := PySem.W.ksp_try XK J Or O.rf h
  have one : wpAny (model prog w) A (tryMethod (.int i t) (PySem.dunder nm') (.ref x)) (fun r s' => r = none ∧ s' = s) E s :=
    wpAny_tryMethod_declines (typeIs_int s i t) slot (wpAny_mono dec (fun v s' q => ⟨q.1, rfl, q.2⟩) fun _ _ e => e)
  obtain ⟨hh, g, d, tt, os⟩ := s
  have L1 : PySem.W.Looks (model prog w) hh (typeOf (.int i t)) (.type "int") := PySem.W.Looks.of_pure rfl
  have L2 : PySem.W.Looks (model prog w) hh (typeOf (.ref x)) (.ref C) := J.type
  have L3 : PySem.W.Looks (model prog w) hh (fillsNumberSlot (.type "int") nm') true := PySem.W.Looks.of_pure fi
  have L4 : PySem.W.Looks (model prog w) hh (fillsNumberSlot (.ref C) nm') true := PySem.W.fills_K XK hcd hm Ol
  have L5 : PySem.W.Looks (model prog w) hh (isSubtype (.ref C) (.type "int")) false := PySem.W.looks_subIn XK O.s2
  have L6 : PySem.W.Looks (model prog w) hh (numberSlotInPython (.type "int") nm') false := PySem.W.Looks.of_pure rfl
  have hne : (Value.type "int" == Value.ref C) = false := Bool.eq_false_iff.mpr fun q => by cases beq_iff_eq.mp q
  simp only [binaryOp, hi]
  refine wpAny_holding (wpAny_bind ?_)
  unfold binaryOp1
  refine wpAny_bind (L1.at (wpAny_bind (L2.at (wpAny_bind (L3.at ?_)))))
  simp only [hne, Bool.false_eq_true, if_false]
  refine wpAny_bind (L4.at ?_)
  simp only [Bool.and_self, if_true]
  refine wpAny_bind (L5.at ?_)
  simp only [Bool.false_eq_true, if_false, pure_bind, Bool.not_false, Bool.and_self, if_true]
  refine wpAny_bind (L6.at ?_)
  simp only [Bool.false_eq_true, if_false, pure_bind]
  refine wpAny_bind (wpAny_mono one (fun r s' hr' => ?_) fun _ _ e => e)
  obtain ⟨rfl, rfl⟩ := hr'
  refine wpAny_bind (wpAny_mono two (fun r s' hr' => ?_) fun _ _ e => e)
  obtain ⟨v, rfl, hq⟩ := hr'
  exact wpAny_bind (wpAny_rule (wpAny_pure (wpAny_pure hq)))
end
section
variable {X : Cx} {CX : CXT} {k : Nat} {C f fr : Addr} {sp : Sp} {E : XK}
def rOwnR (C : Addr) (sp : Sp) (E : XK) : R2 := fun x y H Q => (∃ i, x = .int i) ∧ (∃ a dx fs, y = .ref a ∧ H a = some (.ins C dx fs)) ∧ sp [y, x] H (fun v H' => (∃ p, v = .ref p) ∧ Q v H') E
theorem op_ownR {op : Operator} {id : String} (O : OwnOp X.K C op.info.2 f fr) (fi : fillsNumberSlot (.type "int") op.info.2 = pure true) (slot : Slot "int" (PySem.dunder op.info.2) id)
    (dec : ∀ {A : Around} {E : Value → Shared → Prop} {s : Shared} {i : Int} {t : Tok} {x : Addr} {ox : Obj}, s.heap.get? x = some ox → ox.data = .plain → wpAny (model X.prog X.w) A (call (.builtin id) [.int i t, .ref x]) (fun v s' => v = .notImplemented ∧ s' = s) E s)
    (F : FnR X.prog X.w X.K X.mg X.base CX k fr sp) (hr : Room k X.A) (hx : Passes CX X E) : OpR X (binaryOp op) (rOwnR C sp E) := by
  intro pins s σ H x y v u Q I rx ry h
  obtain ⟨⟨i, rfl⟩, ⟨a, dx, fs, rfl, ha⟩, h⟩ := h
  obtain ⟨t, rfl⟩ := rx
  cases ry
  obtain ⟨ox, od, J, hd⟩ := ins_look I ha
  exact rbin_K I.kIn J O fi slot (dec J.at_ hd) (run_back (vs := [.ref a, .int i]) F hr hx I (.cons rfl (.cons ⟨t, rfl⟩ .nil)) h)
/-! ### == and != -/
/-- what comes back fits R; A' is where the def runs -/
theorem run_at {pins : List (Addr × Obj)} {σ : L2.St} {H : Hp} {s : Shared} {Q : VK} {us : List Value} {vs : List V} {A' : Around} {R : Value → Shared → Prop} (F : FnR X.prog X.w X.K X.mg X.base CX k f sp) (hr : Room k A') (e0 : Env0 X.prog X.w X.K X.mg X.base A' X.stack s H) (hx : Passes CX X E) (I : Inv X pins σ H s) (r : Vals vs us)
    (h : sp vs H Q E) (hR : ∀ u s', EP X pins σ Q u s' → R u s') : wpAny (model X.prog X.w) A' (call (.ref f) us) R X.xe s := by
  refine wpAny_call (codeAny_mono (F A' X.stack s H us vs Q E hr e0 r h) fun r s' hq => ?_)
  match r, hq with
  | .error e, hq => exact hx pins σ H s e s' I hq
  | .ok (.ret u), hq => exact hR u s' (I.after hq)
  | .ok .next, hq => exact False.elim hq
  | .ok .brk, hq => exact False.elim hq
  | .ok .cont, hq => exact False.elim hq
structure OwnEq (K : PySem.W.Frag) (C f : Addr) : Prop where
  e : PySem.W.findIn K (.ref C) "__eq__" = some (some (.ref f))
  ef : PySem.W.isFn K (.ref f) = true
  n : PySem.W.findIn K (.ref C) "__ne__" = some (some (.builtin "object.__ne__"))
  m : PySem.W.mroIn K C (.type "object") = some true
def rEqO (C : Addr) (sp : Sp) (E : XK) (neg : Bool) : R2 := fun x y H Q => (∃ a dx fs, x = .ref a ∧ H a = some (.ins C dx fs)) ∧ (∃ b dy gs, y = .ref b ∧ H b = some (.ins C dy gs)) ∧ sp [x, y] H (fun v H' => ∃ b, v = .bl b ∧ Q (.bl (b != neg)) H') E
theorem op_eqO (O : OwnEq X.K C f) (F : FnR X.prog X.w X.K X.mg X.base CX k f sp) (hr : Room k X.A) (hx : Passes CX X E) : OpR X (compareOp .Eq) (rEqO C sp E false) := by
  intro pins s σ H x y v u Q I rx ry h
  obtain ⟨⟨a, dx, fs, rfl, ha⟩, ⟨b, dy, gs, rfl, hb⟩, h⟩ := h
  cases rx
  cases ry
  obtain ⟨m, hF⟩ := I.fr
  obtain ⟨ox, od, J, _⟩ := ins_look I ha
  obtain ⟨oy, od', J', _⟩ := ins_look I hb
  refine PySem.W.cmp_K (op := .Eq) (tb := .ref C) (Nat.lt_of_le_of_lt (Nat.le_add_right _ _) hr.units) hF I.ok.mod.kin J J'.type (by simp [PySem.W.notFirst]) O.e O.ef (run_at (vs := [.ref a, .ref b]) F hr I.env0 hx I (.cons rfl (.cons rfl .nil)) h fun u s' hq => ?_)
  obtain ⟨v, H', I', rv, c, rfl, q⟩ := hq
  cases rv
  exact ⟨.bl c, H', I', rfl, by simpa using q⟩
theorem ifBound_B {M : Model} {A : Around} {E : Value → Shared → Prop} {s : Shared} {K : PySem.W.Frag} {x : Addr} {ox : Obj} {od : Option Obj} {name : Str} {id : String} {args : List Value} {Q : Option Value → Shared → Prop} (X : K.In s.heap) (J : PySem.W.InstAt s.heap x ox C od)
    (hs : PySem.W.findIn K (.ref C) name = some (some (.builtin id))) (hb : ∀ self, bindSpecial (.builtin id) self = pure (.builtin id, [self])) (h : wpAny M A (call (.builtin id) (.ref x :: args)) (fun v => Q (some v)) E s) : wpAny M A (callSpecialIfBound? (.ref x) name args) Q E s := by
  simp only [callSpecialIfBound?, bindSpecialIfBound?]
  refine wpAny_holding (wpAny_bind (wpAny_bind (wpAny_bind (J.type.here ((PySem.W.looks_findIn X hs).here ?_)))))
  refine wpAny_bind (wpAny_askSetting (wpAny_ite ?_))
  have last : wpAny M A (call (.builtin id) ([.ref x] ++ args) >>= fun v => pure (some v)) Q E s := wpAny_bind (wpAny_mono h (fun v s' z => wpAny_pure z) fun _ _ z => z)
  split
  · exact wpAny_bind ((PySem.W.Looks.of_pure (hb _)).here (wpAny_pure (by exact last)))
  · exact wpAny_tryCatch (wpAny_bind ((PySem.W.Looks.of_pure (hb _)).here (wpAny_pure (by exact last))))
theorem op_neO (O : OwnEq X.K C f) (F : FnR X.prog X.w X.K X.mg X.base CX k f sp) (hr : Room (k + 1) X.A) (hx : Passes CX X E) : OpR X (compareOp .NotEq) (rEqO C sp E true) := by
  intro pins s σ H x y v u Q I rx ry h
  obtain ⟨⟨a, dx, fs, rfl, ha⟩, ⟨b, dy, gs, rfl, hb⟩, h⟩ := h
  cases rx
  cases ry
  obtain ⟨ox, od, J, _⟩ := ins_look I ha
  obtain ⟨oy, od', J', _⟩ := ins_look I hb
  have un : X.A.units < cLine := Nat.lt_of_le_of_lt (Nat.le_add_right _ _) hr.units
  have un1 : X.A.in1.units < cLine := Nat.lt_of_le_of_lt (Nat.le_add_right _ _) hr.in1.units
  have core : wpAny (model X.prog X.w) X.A (call (.builtin "object.__ne__") [.ref a, .ref b]) (fun v s' => ∃ c, v = .bool c ∧ EP X pins σ Q v s') X.xe s := by
    refine wpAny_call (codeAny_call_builtin PySem.F.slot_object_ne.plain PySem.F.entry_object_ne (PySem.W.check_slot (i := "object.__ne__") (owner := "object") (n := "__ne__") (by decide +kernel) (by decide +kernel) (J.type.andThen (PySem.W.looks_mroIn I.kIn O.m)) (PySem.F.args_object_ne_2 _ _) ?_))
    unfold Builtin.«object.__ne__»
    refine wpAny_bind (m := slotArgs "__ne__" 1 _) (wpAny_pure ?_)
    refine wpAny_bind (m := cRoomFor _ _) (wpAny_cRoomFor un1 ?_)
    refine wpAny_bind (m := callSpecialIfBound? (.ref a) (Str.ofString "__eq__") _) (PySem.W.ifBound_K I.kIn J O.e O.ef (run_at (vs := [.ref a, .ref b]) F hr.in1 I.env0.in1 hx I (.cons rfl (.cons rfl .nil)) h fun u s' hq => ?_))
    obtain ⟨v, H', I', rv, c, rfl, q⟩ := hq
    cases rv
    refine wpAny_bind (m := truthy (.bool c)) (wpAny_pure (wpAny_pure ⟨!c, rfl, .bl (!c), H', I', rfl, ?_⟩))
    cases c <;> exact q
  have one : wpAny (model X.prog X.w) X.A (tryCompare (.ref a) (cmpInfo .NotEq).2.1 (.ref b)) (fun r s' => ∃ v, r = some v ∧ EP X pins σ Q v s') X.xe s := by
    unfold tryCompare
    refine wpAny_bind (ifBound_B I.kIn J O.n PySem.F.slot_object_ne.bind (wpAny_mono core (fun v s' hv => ?_) fun _ _ e => e))
    obtain ⟨c, rfl, q⟩ := hv
    exact wpAny_pure ⟨_, rfl, q⟩
  show wpAny _ _ (richCompare .NotEq (.ref a) (.ref b)) _ _ _
  unfold richCompare
  simp only [oneThing_ref]
  refine wpAny_holding (wpAny_bind (wpAny_cRoomFor un ?_))
  refine wpAny_bind (J.type.here (wpAny_bind (J'.type.here ?_)))
  split
  · rename_i q
    simp at q
  · refine wpAny_bind (wpAny_pure ?_)
    simp only [Bool.false_eq_true, if_false]
    refine wpAny_bind (wpAny_mono one (fun r s' z => ?_) fun _ _ e => e)
    obtain ⟨v, rfl, hq⟩ := z
    exact wpAny_pure hq
/-! ### str -/
def rStrO (C : Addr) (sp : Sp) (E : XK) : List V → Hp → VK → Prop := fun vs H Q => ∃ a dx fs, vs = [.ref a] ∧ H a = some (.ins C dx fs) ∧ sp [.ref a] H (fun v H' => ∃ z, v = .str z ∧ Q (.str z) H') E
theorem rd_strO {σ : L2.St} {H : Hp} {Q : VK} {a dx : Addr} {fs : List (Str × V)} (h : H a = some (.ins C dx fs)) (q : sp [.ref a] H (fun v H' => ∃ z, v = .str z ∧ Q (.str z) H') E) : rStrO C sp E [.ref a] H Q := ⟨a, dx, fs, rfl, h, q⟩
theorem c_strO (hs : PySem.W.findIn X.K (.ref C) "__str__" = some (some (.ref f))) (hf : PySem.W.isFn X.K (.ref f) = true) (F : FnR X.prog X.w X.K X.mg X.base CX k f sp) (hr : Room (k + 2) X.A) (hx : Passes CX X E) : CallR X (.type "str") (rStrO C sp E) := by
  intro pins s σ H xs us Q I r h
  obtain ⟨a, dx, fs, rfl, ha, h⟩ := h
  cases r with
  | cons r1 r2 =>
    cases r2
    cases r1
    obtain ⟨ox, od, J, _⟩ := ins_look I ha
    have un : X.A.in1.in1.units < cLine := Nat.lt_of_le_of_lt (Nat.le_add_right _ _) hr.in1.in1.units
    refine callType_codes (T := "str") (Bi := Builtin.«object.__init__») (Q₁ := fun r s₁ => ∃ y u, r = .str y u ∧ EP X pins σ Q r s₁) PySem.F.called_str (PySem.F.typeCall_str_1 _) PySem.F.entry_object_init ?_ ?_
    · refine codeAny_of_tree ?_
      show wpAny _ X.A.in1.in1 (do checkBuiltinCall "str.__new__" ⟨[.type "str", .ref a], []⟩; again (.builtin "str.__new__" ⟨[.type "str", .ref a], []⟩)) _ _ s
      refine wpAny_bind (wpAny_of_eq (PySem.F.newCall_str_1 _) (wpAny_pure ⟨plainId_quiet (by decide +kernel) _, codeAny_builtin PySem.F.entry_str_new ?_⟩))
      rw [Around.under_plainId (by decide +kernel) _, str_new_tree]
      refine wpAny_bind (wpAny_pure (wpAny_bind (wpAny_of_eq isSubtype_str_str ?_)))
      have key : wpAny (model X.prog X.w) X.A.in1.in1 (PySem.Builtin.Str.strOf (.ref a)) (fun r s₁ => ∃ y u, r = .str y u ∧ EP X pins σ Q r s₁) X.xe s := by
        unfold PySem.Builtin.Str.strOf
        rw [show PySem.Builtin.Str.isExactStr (.ref a) = false from rfl]
        refine wpAny_bind (m := cRoomFor _ _) (wpAny_cRoomFor un ?_)
        refine wpAny_bind (m := callSpecial? (.ref a) (Str.ofString "__str__")) (PySem.W.special_fn I.kIn J hs (beq_iff_eq.mp hf) (run_at (vs := [.ref a]) F hr.in1.in1 I.env0.in1.in1 hx I (.cons rfl .nil) h fun u s' hq => ?_))
        obtain ⟨v, H', I', rv, z, rfl, q⟩ := hq
        obtain ⟨t, rfl⟩ := rv
        exact wpAny_pure ⟨_, _, rfl, .str z, H', I', ⟨t, rfl⟩, q⟩
      exact wpAny_bind (wpAny_mono key (fun r s₁ hr => wpAny_pure hr) fun _ _ y => y)
    · rintro obj s₁ ⟨y, u, rfl, hq⟩
      exact ⟨typeIs_str _ _ _, PySem.F.args_object_init_2 _ _, object_init_meets PySem.F.called_str.init.lookup PySem.F.called_str.made (by decide) X.prog X.w X.A.in1 _ s₁ ⟨typeIs_str _ _ _, rfl, hq⟩⟩
end
end Rd
set_option Elab.async false
set_option linter.all false
set_option maxRecDepth 100000
set_option maxHeartbeats 4000000
/-! Ru: further rules over the hand layer: t[::-1] of a tuple, t * k of a tuple for small k, x *= k. -/
namespace HT
open PySem PySem.Spec PyProof.Rows
section
variable {prog : Program} {w : World} {A : Around} {E : Value → Shared → Prop} {s : Shared}
theorem sliceApplied_back {sl : Addr} {vl vu vs : Value} {n : Nat} {Q : Int × Int × Nat → Shared → Prop} (hs : s.heap.IsSliceOf sl vl vu vs) (pl : IsPart vl none) (pu : IsPart vu none) (ps : IsPart vs (some (-1)))
    (h : Q ((n : Int) - 1, -1, n) s) : wpAny (model prog w) A (Builtin.Slice.sliceApplied (.ref sl) (pure (n : Int))) Q E s := by
  obtain ⟨os, hos, hcs, hds⟩ := id hs
  unfold Builtin.Slice.sliceApplied Builtin.Slice.sliceFields
  refine wpAny_bind (wpAny_bind (wpAny_field hos hds (x := vl) rfl (wpAny_bind (wpAny_field hos hds (x := vu) rfl (wpAny_bind (wpAny_field hos hds (x := vs) rfl (wpAny_pure ?_)))))))
  refine wpAny_bind (slicePart_ ps ?_)
  show wpAny _ _ (if ((-1 : Int) == 0) = true then _ else _) _ _ s
  rw [if_neg (by decide)]
  refine wpAny_bind (slicePart_ pl (wpAny_bind (slicePart_ pu (wpAny_bind (wpAny_pure ?_)))))
  show wpAny _ _ (pure ((n : Int) - 1, (-1 : Int), Builtin.Slice.slicePlaces ((n : Int) - 1) (-1) (-1))) _ _ s
  have e : Builtin.Slice.slicePlaces ((n : Int) - 1) (-1) (-1) = n := by
    unfold Builtin.Slice.slicePlaces
    rw [if_neg (by decide)]
    split
    · rw [show (- -1 : Int) = 1 by decide, Int.ediv_one]; omega
    · omega
  rw [e]
  exact wpAny_pure h
theorem pick_back (xs : Array Value) : ((List.range xs.size).filterMap fun (m : Nat) => xs[(((xs.size : Int) - 1) + (m : Int) * (-1)).toNat]?).toArray = xs.toList.reverse.toArray := by
  have e : (List.range xs.size).filterMap (fun (m : Nat) => xs[(((xs.size : Int) - 1) + (m : Int) * (-1)).toNat]?) = ((List.range xs.size).map fun k => xs.size - 1 - k).filterMap (xs[·]?) := by
    have e2 : ((List.range xs.size).map fun k => xs.size - 1 - k) = (List.range xs.size).map fun (m : Nat) => (((xs.size : Int) - 1) + (m : Int) * (-1)).toNat := by
      refine List.map_congr_left fun m hm => ?_
      have hm' := List.mem_range.mp hm
      omega
    rw [e2, List.filterMap_map] <;> rfl
  rw [e, PySem.W.krv_range, List.filterMap_reverse, PySem.W.krv_all]
theorem getItem_tuple_back {t sl : Addr} {items : Array Value} {vl vu vs : Value} {Q : Value → Shared → Prop} (ht : IsTup s.heap t items) (hs : s.heap.IsSliceOf sl vl vu vs) (pl : IsPart vl none) (pu : IsPart vu none) (ps : IsPart vs (some (-1)))
    (h : Q (.ref s.heap.objs.size) { s with heap := s.heap.push { cls := .type "tuple", data := .seq items.toList.reverse.toArray } })
    (hsz : items.size ≤ sizeLine) : wpAny (model prog w) A (getItem (.ref t) (.ref sl)) Q E s := by
  have htake : sizeOk (.seq items.toList.reverse.toArray) := by
    show items.toList.reverse.toArray.size ≤ sizeLine
    rw [List.size_toArray, List.length_reverse, Array.length_toList]
    exact hsz
  obtain ⟨os, hos, hcs, hds⟩ := id hs
  have hTs : s.TypeIs (.ref sl) "slice" := ⟨os, hos, hcs⟩
  unfold getItem
  try with_reducible refine wpAny_holding ?_
  first | refine wpAny_bind (wpAny_pure ?_) | skip
  refine wpAny_bind (wpAny_sequenceKey ht.typeIs (by decide) ?_)
  refine wpAny_bind (wpAny_callSpecial?_slot (name := Str.ofString "__getitem__") ht.typeIs PyProof.Rows.slot_tuple_getitem
    (wpAny_call_entry PyProof.Rows.slot_tuple_getitem ht.typeIs entry_tuple_getitem ?_ (args_tuple_getitem _ _)))
  show wpAny _ _ (Builtin.Tuple.tupleItemsOf (.ref t) >>= _) _ _ s
  refine wpAny_bind (tupleItemsOf_ ht ?_)
  refine wpAny_bind (wpAny_typeOf hTs ?_)
  rw [if_pos (by decide)]
  refine wpAny_bind (sliceApplied_back hs pl pu ps ?_)
  have hno : ¬ ((((items.size : Int) - 1) == 0 && (-1 : Int) == 1 && items.size == items.size) = true) := by
    intro q
    rw [Bool.and_eq_true, Bool.and_eq_true] at q
    exact absurd (eq_of_beq q.1.2) (by decide)
  show wpAny _ _ (if (((items.size : Int) - 1) == 0 && (-1 : Int) == 1 && items.size == items.size) = true then _ else _) _ _ s
  rw [if_neg hno, pick_back]
  first
    | exact wpAny_bind (m := Builtin.Tuple.tupleExact _) (wpAny_newObj_type (wpAny_pure ⟨_, rfl, wpAny_pure h⟩) htake)
    | exact wpAny_bind (m := Builtin.Tuple.tupleExact _) (wpAny_newObj_type (wpAny_bind (wpAny_pure (wpAny_pure ⟨_, rfl, wpAny_pure h⟩))) htake)
    | exact wpAny_bind (wpAny_bind (m := Builtin.Tuple.tupleExact _) (wpAny_newObj_type (wpAny_pure (wpAny_pure ⟨_, rfl, wpAny_pure h⟩)) htake))
    | exact wpAny_bind (wpAny_bind (m := Builtin.Tuple.tupleExact _) (wpAny_newObj_type (wpAny_pure ⟨_, rfl, wpAny_pure h⟩) htake))
end
end HT
namespace Rd
open PySem PySem.Spec PyProof.Rows L2
section
variable {X : Cx}
def rRevT (K : PySem.W.Frag) : V → Hp → VK → Prop := fun x H Q => ∃ a xs, x = .ref a ∧ SqT K H a xs ∧ ∀ p, H p = none → Q (.ref p) (upd H p (.tup xs.reverse))
theorem pe_rev {e : Expr} {te : TE} {k : Nat} {p1 p2 p3 pos : Pos} (he : PE X e te) : PE X (.Subscript e (.Slice none none (some (.UnaryOp .USub (.Constant (.int 1) k p1) p2)) p3) pos) (tUn (rRevT X.K) te) := by
  refine ⟨fun pins s σ H Q I h => ?_⟩
  refine Subscript_ (thn (he.run pins s σ H _ I h) fun v s1 ⟨x, H1, I1, r1, q1⟩ => ?_)
  obtain ⟨a, xs, ex, hx, q⟩ := q1
  subst ex
  cases r1
  have hst : PO X (some (.UnaryOp .USub (.Constant (.int 1) k p1) p2)) (tPart (tUn (rU fun i => .int (-i)) (tC (.int 1)))) := po_some (pe_un un_neg pe_int)
  refine wpAny_Slice (thn (po_none.run pins s1 σ H1 (fun o H2 => o = none ∧ H2 = H1) I1 ⟨rfl, rfl⟩) fun vl s2 ⟨l, H2, I2, pl, el, e2⟩ => ?_)
  subst el e2
  refine thn (po_none.run pins s2 σ H2 (fun o H3 => o = none ∧ H3 = H2) I2 ⟨rfl, rfl⟩) fun vu s3 ⟨u, H3, I3, pu, eu, e3⟩ => ?_
  subst eu e3
  refine thn (hst.run pins s3 σ H3 (fun o H4 => o = some (-1) ∧ H4 = H3) I3 ⟨1, rfl, -1, rfl, rfl, rfl⟩) fun vs s4 ⟨o, H4, I4, ps, eo, e4⟩ => ?_
  subst eo e4
  have I5 : Inv X pins σ H4 { s4 with heap := s4.heap.push { cls := .type "slice", data := .fields #[vl, vu, vs] } } := I4.kept (t' := s4.toks) fun b ob q => Heap.get?_push_of_some _ q
  obtain ⟨its, r, ht, hz⟩ := I5.tuple hx
  have hlen := r.length
  show wpAny (model X.prog X.w) X.A (subscriptTail e (.Slice none none (some (.UnaryOp .USub (.Constant (.int 1) k p1) p2)) p3) (.ref a) (.ref s4.heap.objs.size)) (EP X pins σ Q) X.xe { s4 with heap := s4.heap.push { cls := .type "slice", data := .fields #[vl, vu, vs] } }
  refine tail_any (ops := [.ref a, .ref s4.heap.objs.size]) ht.typeIs (PyProof.Rows.slot_tuple_getitem.lookup) ?_ (by with_unfolding_all rfl)
  refine HT.getItem_tuple_back ht (Heap.IsSliceOf.new _ vl vu vs) pl pu ps ?_ (by rw [List.size_toArray]; omega)
  refine ⟨.ref _, _, I5.laid (t' := s4.toks) (o := .tup xs.reverse) (fun b ob q => Heap.get?_push_of_some _ q) (Nat.le_refl _) ?_, rfl, q _ (I5.hok.fresh (Nat.le_refl _))⟩
  exact ⟨by rw [List.length_reverse]; exact hz, _, r.reverse, IsTup.new _ _⟩
theorem rd_revT {K : PySem.W.Frag} {H : Hp} {Q : VK} {a : Addr} {xs : List V} (h : SqT K H a xs) (q : ∀ p H', H p = none → Same H H' → H' p = some (.tup xs.reverse) → Q (.ref p) H') : rRevT K (.ref a) H Q :=
  ⟨a, xs, rfl, h, fun p hp => q p _ hp (same_new hp) upd_same⟩
/-! t * k of a tuple -/
theorem tuple_mul1 (l : Addr) (items : Array Value) (n : Nat) (dd : Option Addr) (sl : Array (Option Value)) (u : Tok) :
    Meets (Builtin.«tuple.__mul__» ⟨[.ref l, .int 1 u], []⟩) (fun _ R s => s.heap.get? l = some { cls := .type "tuple", dict := dd, data := .seq items n, slots := sl } ∧ R (.ok (.ret (Value.ref l))) s) :=
  .of_wp fun prog w A R s h => by
    obtain ⟨hp, g, d, tk, os⟩ := s
    obtain ⟨hl, h⟩ := h
    have f1 := AutoSeq1.idx_int
    have c1 : (items.isEmpty || (1 : Int) == 1) = true := by simp
    wp_walk using wpAny_loadPart' hl
    repeat (first
      | (refine wpAny_ite_false (decide_eq_false (by decide)) ?_; wp_walk using wpAny_loadPart' hl)
      | (refine wpAny_ite_true (decide_eq_true (by rw [c1])) ?_; wp_walk using wpAny_loadPart' hl))
    exact ⟨_, rfl, h⟩
theorem tuple_mul0 (l : Addr) (items : Array Value) (hne : items.isEmpty = false) (n : Nat) (dd : Option Addr) (sl : Array (Option Value)) (u : Tok) :
    Meets (Builtin.«tuple.__mul__» ⟨[.ref l, .int 0 u], []⟩) (fun _ R s => s.heap.get? l = some { cls := .type "tuple", dict := dd, data := .seq items n, slots := sl } ∧
      R (.ok (.ret (Value.ref s.heap.objs.size))) { s with heap := s.heap.push { cls := Value.type "tuple", data := Data.seq #[] }, toks := s.toks }) :=
  .of_wp fun prog w A R s h => by
    obtain ⟨hp, g, d, tk, os⟩ := s
    obtain ⟨hl, h⟩ := h
    have f1 := AutoSeq1.idx_int
    have c1 : (items.isEmpty || (0 : Int) == 1) = false := by rw [hne]; rfl
    have c2 : (decide ((0 : Int) ≤ 0) || items.isEmpty) = true := by rfl
    wp_walk using wpAny_loadPart' hl
    repeat (first
      | (refine wpAny_ite_false (decide_eq_false (by decide)) ?_; wp_walk using wpAny_loadPart' hl)
      | (refine wpAny_ite_false (decide_eq_false (by rw [c1]; exact Bool.false_ne_true)) ?_; wp_walk using wpAny_loadPart' hl)
      | (refine wpAny_ite_true (decide_eq_true (by rw [c2])) ?_; wp_walk using wpAny_loadPart' hl)
      | (refine wpAny_ite_false (decide_eq_false (Nat.not_lt.mpr (Nat.zero_le _))) ?_; wp_walk using wpAny_loadPart' hl))
    exact ⟨_, rfl, h⟩
/-- a tuple (not empty) times 0, 1, .. 1000 -/
def rMulT (K : PySem.W.Frag) : R2 := fun x y H Q => ∃ l k xs, x = .ref l ∧ y = .int k ∧ SqT K H l xs ∧ xs ≠ [] ∧ 0 ≤ k ∧ k ≤ 1000 ∧ xs.length ≤ 1000 ∧ (k = 1 → Q (.ref l) H) ∧ (k ≠ 1 → ∀ p, H p = none → Q (.ref p) (upd H p (.tup (List.replicate k.toNat xs).flatten)))
theorem op_mulT : OpR X (binaryOp .Mult) (rMulT X.K) := by
  intro pins s σ H x y v u Q I rx ry h
  obtain ⟨l, k, xs, ex, ey, hT, hne, h1, h2, hz, q1, q2⟩ := h
  by_cases hk : 2 ≤ k
  · exact op_repT pins s σ H x y v u Q I rx ry ⟨l, k, xs, ex, ey, hT, hne, hk, h2, hz, q2 (by omega)⟩
  · subst ex ey
    cases rx
    obtain ⟨t, rfl⟩ := ry
    obtain ⟨its, r, ⟨⟨cls, dd, data, sl⟩, ho, hc, n, hd⟩, hs⟩ := I.tuple hT
    simp only at hc hd
    subst hc hd
    have hle : its.length = xs.length := r.length.symm
    have hn : its ≠ [] := fun e => hne (by
      rw [e] at hle
      exact List.eq_nil_of_length_eq_zero hle.symm)
    have hi : its.toArray.isEmpty = false := by
      cases its with
      | nil => exact absurd rfl hn
      | cons a b => rfl
    rcases (show k = 0 ∨ k = 1 by omega) with e | e
    · subst e
      refine wpAny_binaryOp_repeat_ref (T := "tuple") (U := "int") (by decide) ⟨_, ho, rfl⟩ (fun s' => typeIs_int s' 0 t) noFill_tuple_mul F.fills_int_mul F.slot_int_rmul repeat_tuple F.slot_int_index.lookup
        (call_meets F.slot_int_rmul (typeIs_int s 0 t) F.entry_int_rmul (F.args_int_rmul_2 _ _) (int_rmul_tuple 0 t l its.toArray n dd sl)
          ⟨ho, rfl, ⟨_, ho, rfl⟩, call_meets F.slot_tuple_mul ⟨_, ho, rfl⟩ F.entry_tuple_mul (F.args_tuple_mul_2 _ _) (tuple_mul0 l its.toArray hi n dd sl t) ⟨ho, ?_⟩⟩)
      refine ⟨.ref s.heap.objs.size, _, I.laid (t' := s.toks) (o := .tup []) (fun b ob q => Heap.get?_push_of_some _ q) (Nat.le_refl _) ?_, rfl, q2 (by decide) _ (I.hok.fresh (Nat.le_refl _))⟩
      exact ⟨by show 0 ≤ sizeLine; decide, [], .nil, IsTup.new _ _⟩
    · subst e
      refine wpAny_binaryOp_repeat_ref (T := "tuple") (U := "int") (by decide) ⟨_, ho, rfl⟩ (fun s' => typeIs_int s' 1 t) noFill_tuple_mul F.fills_int_mul F.slot_int_rmul repeat_tuple F.slot_int_index.lookup
        (call_meets F.slot_int_rmul (typeIs_int s 1 t) F.entry_int_rmul (F.args_int_rmul_2 _ _) (int_rmul_tuple 1 t l its.toArray n dd sl)
          ⟨ho, rfl, ⟨_, ho, rfl⟩, call_meets F.slot_tuple_mul ⟨_, ho, rfl⟩ F.entry_tuple_mul (F.args_tuple_mul_2 _ _) (tuple_mul1 l its.toArray n dd sl t) ⟨ho, ?_⟩⟩)
      exact ⟨.ref l, H, I, rfl, q1 rfl⟩
theorem rd_mulT {K : PySem.W.Frag} {H : Hp} {Q : VK} {a : Addr} {k : Int} {xs : List V} (h : SqT K H a xs) (hne : xs ≠ []) (h0 : 0 ≤ k) (h1 : k ≤ 1000) (hz : xs.length ≤ 1000)
    (q : ∀ p H', Same H H' → SqT K H' p (List.replicate k.toNat xs).flatten → Q (.ref p) H') : rMulT K (.ref a) (.int k) H Q := by
  refine ⟨a, k, xs, rfl, rfl, h, hne, h0, h1, hz, fun e => q a H (Same.refl H) ?_, fun _ p hp => q p _ (same_new hp) (SqT.of upd_same)⟩
  subst e
  show SqT K H a (List.replicate 1 xs).flatten
  have e2 : (List.replicate 1 xs).flatten = xs := by simp
  rw [e2]
  exact h
theorem rd_catA {K : PySem.W.Frag} {H : Hp} {Q : VK} {a b : Addr} {xs ys : List V} (h1 : SqT K H a xs) (h2 : SqT K H b ys) (hz : xs.length + ys.length ≤ sizeLine) (q : ∀ p H', Same H H' → SqT K H' p (xs ++ ys) → Q (.ref p) H') : rCatA K (.ref a) (.ref b) H Q := by
  refine ⟨a, b, xs, ys, rfl, rfl, h1, h2, hz, fun e => q b H (Same.refl H) ?_, fun _ e => q a H (Same.refl H) ?_, fun _ _ p hp => q p _ (same_new hp) (SqT.of upd_same)⟩
  · subst e; exact h2
  · subst e; rw [List.append_nil]; exact h1
theorem ip_mul : PIp X .Mult (rI CMul fun i j => .int (i * j)) := fun pins s σ H x y v u Q I r1 r2 h => iop_mul pins s σ H x y v u Q I r1 r2 h
end
end Rd
set_option Elab.async false
set_option linter.all false
set_option maxRecDepth 100000
set_option maxHeartbeats 4000000
/-! Rr: further readings: chained comparisons, filtered ranges, zip of tuples. -/
namespace Rd
open PySem PySem.Spec PyProof.Rows L2
theorem c_lenK {X : Cx} {K : PySem.W.Frag} (hK : X.K = K) : CallR X (.builtin "len") (rLen K) := by subst hK; exact c_len
theorem ix_tupK {X : Cx} {K : PySem.W.Frag} (hK : X.K = K) : IxR X (rIxT K) := by subst hK; exact ix_tup
theorem ix_listK {X : Cx} {K : PySem.W.Frag} (hK : X.K = K) : IxR X (rIxL K) := by subst hK; exact ix_list
def tJoined (ts : List TE) : TE := fun σ H Q => tJs ts Str.empty σ H fun out H1 => Q (.str out) H1
theorem pe_js {X : Cx} {v1 v2 : Expr} {rest : List Expr} {ts : List TE} {pos : Pos} (h : PJ X (v1 :: v2 :: rest) ts) : PE X (.JoinedStr (v1 :: v2 :: rest) pos) (tJoined ts) := pe_joined h
def rStrI : List V → Hp → VK → Prop := fun xs H Q => ∃ i, xs = [.int i] ∧ i.natAbs.log2 < 1920 ∧ Q (.str (toString i)) H
theorem c_strI {X : Cx} : CallR X (.type "str") rStrI := call_str_int
theorem rd_strI {H : Hp} {Q : VK} {i : Int} (h : i.natAbs.log2 < 1920) (q : Q (.str (toString i)) H) : rStrI [.int i] H Q := ⟨i, rfl, h, q⟩
def rJs (ts : List TE) (acc : Str) (σ : L2.St) (Q : Str → Hp → Prop) (x : V) (H : Hp) : Prop := ∃ y : Str, x = .str y ∧ (acc ++ y).length ≤ sizeLine ∧ tJs ts (acc ++ y) σ H Q
theorem rd_joined {ts : List TE} {σ : L2.St} {H : Hp} {Q : VK} (q : tJs ts Str.empty σ H fun out H1 => Q (.str out) H1) : tJoined ts σ H Q := q
theorem rd_js1 {t : TE} {ts : List TE} {acc : Str} {σ : L2.St} {H : Hp} {Q : Str → Hp → Prop} (q : t σ H fun x H1 => rJs ts acc σ Q x H1) : tJs (t :: ts) acc σ H Q := q
theorem rd_js {ts : List TE} {acc y : Str} {σ : L2.St} {H : Hp} {Q : Str → Hp → Prop} (h : (acc ++ y).length ≤ sizeLine) (q : tJs ts (acc ++ y) σ H Q) : rJs ts acc σ Q (.str y) H := ⟨y, rfl, h, q⟩
theorem rd_js0 {acc : Str} {σ : L2.St} {H : Hp} {Q : Str → Hp → Prop} (q : Q acc H) : tJs [] acc σ H Q := q
def rFmt (Q : VK) (x : V) (H : Hp) : Prop := (∃ y : Str, x = .str y ∧ y.length ≤ sizeLine ∧ Q (.str y) H) ∨ ∃ i : Int, x = .int i ∧ i.natAbs.log2 < 1920 ∧ Q (.str (toString i)) H
theorem rd_fmt {te : TE} {σ : L2.St} {H : Hp} {Q : VK} (q : te σ H fun x H1 => rFmt Q x H1) : tFmt te σ H Q := q
theorem rd_fmtS {y : Str} {H : Hp} {Q : VK} (h : y.length ≤ sizeLine) (q : Q (.str y) H) : rFmt Q (.str y) H := .inl ⟨y, rfl, h, q⟩
theorem rd_fmtI {i : Int} {H : Hp} {Q : VK} (h : i.natAbs.log2 < 1920) (q : Q (.str (toString i)) H) : rFmt Q (.int i) H := .inr ⟨i, rfl, h, q⟩
def rRevL (K : PySem.W.Frag) (Q : VK) (x : V) (H : Hp) : Prop := ∃ a xs, x = .ref a ∧ SqL K H a xs ∧ ∀ p, H p = none → Q (.ref p) (upd H p (.lst xs.reverse))
theorem rd_tRevL {K : PySem.W.Frag} {te : TE} {σ : L2.St} {H : Hp} {Q : VK} (q : te σ H fun x H1 => rRevL K Q x H1) : tRevL K te σ H Q := q
theorem rd_revL {K : PySem.W.Frag} {H : Hp} {Q : VK} {a : Addr} {xs : List V} (h : SqL K H a xs) (q : ∀ p H', H p = none → Same H H' → H' p = some (.lst xs.reverse) → Q (.ref p) H') : rRevL K Q (.ref a) H := ⟨a, xs, rfl, h, fun p hp => q p _ hp (same_new hp) upd_same⟩
def rStarA (K : PySem.W.Frag) (t : TA) (σ : L2.St) (QA : List V → Hp → Prop) (x : V) (H : Hp) : Prop := ∃ p xs, x = V.ref p ∧ (SqT K H p xs ∨ SqL K H p xs) ∧ t σ H fun ys H2 => QA (xs ++ ys) H2
theorem rd_tStar {K : PySem.W.Frag} {te : TE} {t : TA} {σ : L2.St} {H : Hp} {QA : List V → Hp → Prop} (q : te σ H fun x H1 => rStarA K t σ QA x H1) : StX.tStar K te t σ H QA := q
theorem rd_starL {K : PySem.W.Frag} {t : TA} {σ : L2.St} {H : Hp} {QA : List V → Hp → Prop} {p : Addr} {xs : List V} (h : SqL K H p xs) (q : t σ H fun ys H2 => QA (xs ++ ys) H2) : rStarA K t σ QA (.ref p) H := ⟨p, xs, rfl, .inr h, q⟩
section
variable {K : PySem.W.Frag} {σ : L2.St} {H : Hp} {Q : VK} {g : TG} {te : TE} {tt : TT} {vs : List Nat} {a b : Addr} {xs ys : List V}
theorem rd_chain {r r' : R2} {ta tb tc : TE} (q : ta σ H fun x H1 => tb σ H1 fun y H2 => r x y H2 fun z H3 => ∃ k, z = .bl k ∧ if k = true then tc σ H3 fun w H4 => r' y w H4 Q else Q (.bl false) H3) : tChain r r' ta tb tc σ H Q := q
theorem lc_rngP {lo : Int} {n : Nat} (pr : Nat → Bool) (f : Nat → V) (hz : n ≤ 100000)
    (step : ∀ (i : Nat) H1 (N : Hp → Prop) (M : V → Hp → Prop), i < n → Same H H1 → (pr i = false → ∀ H2, Same H1 H2 → N H2) → (pr i = true → ∀ H2, Same H1 H2 → M (f i) H2) → g (.int (lo + i)) (wipe σ vs) H1 fun σ2 H2 => wipe σ2 vs = wipe σ vs ∧ tt σ2 H2 fun b H3 => if b = true then te σ2 H3 M else N H3)
    (done : ∀ D H', H D = none → Same H H' → H' D = some (.lst (((List.range n).filter pr).map f)) → Q (.ref D) H') : rLc g tt te vs σ Q (Itr lo n) H := by
  refine lc_gen (List.range n) (fun z v _ => z < n ∧ v = .int (lo + z)) pr f (by rw [List.length_range]; exact hz) (fun i H1 hi s1 => ?_) (fun H1 s1 => ?_) (fun i H1 x H2 z ez s1 y => ?_) (fun z x H1 N M hz' s1 hx hN hM => ?_) done
  · rw [List.length_range] at hi
    exact hi
  · rw [List.length_range]
    exact Nat.le_refl n
  · obtain ⟨rfl, rfl⟩ := y
    obtain ⟨hi, e⟩ := List.getElem?_eq_some_iff.mp ez
    rw [List.getElem_range] at e
    subst e
    rw [List.length_range] at hi
    exact ⟨Same.refl _, hi, rfl⟩
  · obtain ⟨hi, rfl⟩ := hx
    exact step z H1 N M hi s1 hN hM
def rIZT (K : PySem.W.Frag) (vs : List V) (H : Hp) (R : It → Hp → Prop) : Prop := ∃ a b xs ys, vs = [.ref a, .ref b] ∧ ((SqL K H a xs ∧ SqL K H b ys ∧ R (Itz K a b) H) ∨ (SqT K H a xs ∧ SqT K H b ys ∧ R (RZ.ItzT K a b) H))
theorem rd_iZipA {ta : TA} {R : It → Hp → Prop} (q : ta σ H fun vs H1 => rIZT K vs H1 R) : RZ.iZipA K ta σ H R := q
theorem rd_IZT {R : It → Hp → Prop} (h1 : SqT K H a xs) (h2 : SqT K H b ys) (q : R (RZ.ItzT K a b) H) : rIZT K [.ref a, .ref b] H R := ⟨a, b, xs, ys, rfl, .inr ⟨h1, h2, q⟩⟩
theorem lc_zipT (hl : xs.length = ys.length) (f : V × V → V) (hz : xs.length ≤ 100000) (h1 : SqT K H a xs) (h2 : SqT K H b ys)
    (step : ∀ (z : V × V) T H1 (M : V → Hp → Prop), z ∈ xs.zip ys → Same H H1 → H1 T = some (.tup [z.1, z.2]) → (∀ H2, Same H1 H2 → M (f z) H2) → g (.ref T) (wipe σ vs) H1 fun σ2 H2 => wipe σ2 vs = wipe σ vs ∧ te σ2 H2 M)
    (done : ∀ D H', H D = none → Same H H' → H' D = some (.lst ((xs.zip ys).map f)) → Q (.ref D) H') : rLc g tYes te vs σ Q (RZ.ItzT K a b) H := by
  have lz : (xs.zip ys).length = xs.length := by rw [List.length_zip]; omega
  refine lc_gen (xs.zip ys) (fun z v H2 => ∃ T, v = .ref T ∧ H2 T = some (.tup [z.1, z.2])) (fun _ => true) f (by omega) (fun i H1 hi s1 => ?_) (fun H1 s1 => ?_) (fun i H1 x H2 z ez s1 y => ?_) (fun z x H1 N M hz' s1 hx hN hM => ?_) (fun D H' h1 h2 h3 => ?_)
  · exact ⟨xs, ys, xs[i]'(by omega), ys[i]'(by omega), Same.sqT s1 h1, Same.sqT s1 h2, List.getElem?_eq_getElem _, List.getElem?_eq_getElem _⟩
  · exact ⟨xs, ys, Same.sqT s1 h1, Same.sqT s1 h2, .inl (by omega)⟩
  · obtain ⟨T, u, v, rfl, hT, rfl, hu, hv⟩ := y
    have e1 := hu xs (Same.sqT s1 h1)
    have e2 := hv ys (Same.sqT s1 h2)
    have : (xs.zip ys)[i]? = some (u, v) := by rw [List.getElem?_zip_eq_some]; exact ⟨e1, e2⟩
    rw [this] at ez
    injection ez with ez
    subst ez
    exact ⟨same_new hT, T, rfl, upd_same⟩
  · obtain ⟨T, rfl, hT⟩ := hx
    exact step z T H1 M hz' s1 hT (hM rfl)
  · refine done D H' h1 h2 ?_
    rw [h3, List.filter_eq_self.mpr fun _ _ => rfl]
end
end Rd
set_option Elab.async false
set_option linter.all false
set_option maxRecDepth 100000
set_option maxHeartbeats 4000000
/-! Rt: sum of a list of own objects. -/
namespace Rd
open PySem PySem.Spec PyProof.Rows L2
section
variable {X : Cx} {pins : List (Addr × Obj)} {σ : L2.St} {H : Hp} {s : Shared}
/-- b may be pinned beside pins -/
def Fp0 (X : Cx) (pins : List (Addr × Obj)) (b : Addr) : Prop := b ≠ X.env.locals ∧ b ∉ X.fs ∧ (b ∈ X.ex ∨ X.s_0.heap.objs.size ≤ b) ∧ (∀ x c, X.env.cells.lookup x = some c → c ≠ b) ∧ ∀ p ∈ X.pn ++ pins, p.1 ≠ b
theorem fp0_new {b : Addr} (I : Inv X pins σ H s) (hb : s.heap.objs.size ≤ b) : Fp0 X pins b := (I.fpOk (H' := H) hb (I.hok.fresh hb)).2
theorem Fp0.weak {b : Addr} {q : Addr × Obj} (h : Fp0 X (q :: pins) b) : Fp0 X pins b := ⟨h.1, h.2.1, h.2.2.1, h.2.2.2.1, fun p hp => h.2.2.2.2 p (by
  rcases List.mem_append.mp hp with e | e
  · exact List.mem_append_left _ e
  · exact List.mem_append_right _ (List.mem_cons_of_mem _ e))⟩
theorem Fp0.more {b : Addr} {q : Addr × Obj} (h : Fp0 X pins b) (n : q.1 ≠ b) : Fp0 X (q :: pins) b := ⟨h.1, h.2.1, h.2.2.1, h.2.2.2.1, fun p hp => by
  rcases List.mem_append.mp hp with e | e
  · exact h.2.2.2.2 p (List.mem_append_left _ e)
  · rcases List.mem_cons.mp e with e | e
    · rw [e]; exact n
    · exact h.2.2.2.2 p (List.mem_append_right _ e)⟩
theorem repin {b : Addr} {o o' : Obj} {h' : Heap} {t' : Nat} (I : Inv X ((b, o) :: pins) σ H s) (fp : Fp0 X pins b) (k : ∀ c u, c ≠ b → s.heap.get? c = some u → h'.get? c = some u) (ho : h'.get? b = some o') (hc : ∀ v, o'.data ≠ .cell v) :
    Inv X ((b, o') :: pins) σ H { s with heap := h', toks := t' } := by
  have hn := ClX.pin_un I
  have I2 : Inv X pins σ H { s with heap := h', toks := t' } := (ClX.unpin I).turnedL (ch := [b]) (fun c u hb e => k c u (by simpa using hb) e) fun c hb => by
    rw [List.mem_singleton.mp hb]
    exact ⟨hn, fp⟩
  refine I2.pins_of fun p hp => ?_
  rcases List.mem_cons.mp hp with e | e
  · subst e
    exact ⟨ho, hn, fp.1, fp.2.1, hc⟩
  · exact I2.pin p (List.mem_append_right _ e)
theorem swap_pins {p q : Addr × Obj} (I : Inv X (p :: q :: pins) σ H s) : Inv X (q :: p :: pins) σ H s := I.pins_of fun r hr => I.pin r (List.mem_append_right _ (by
  rcases List.mem_cons.mp hr with e | e
  · exact List.mem_cons_of_mem _ (by rw [e]; exact List.mem_cons_self)
  · rcases List.mem_cons.mp e with e | e
    · rw [e]; exact List.mem_cons_self
    · exact List.mem_cons_of_mem _ (List.mem_cons_of_mem _ e)))
/-- the def runs at A', and lets nothing out -/
theorem run_at0 {k : Nat} {f : Addr} {sp : Sp} {Q : VK} {us : List Value} {vs : List V} {A' : Around} {E' : Value → Shared → Prop} {R : Value → Shared → Prop} (F : FnR X.prog X.w X.K X.mg X.base CX0 k f sp) (hr : Room k A') (e0 : Env0 X.prog X.w X.K X.mg X.base A' X.stack s H) (I : Inv X pins σ H s) (r : Vals vs us)
    (h : sp vs H Q E0) (hR : ∀ u s', EP X pins σ Q u s' → R u s') : wpAny (model X.prog X.w) A' (call (.ref f) us) R E' s := by
  refine wpAny_call (codeAny_mono (F A' X.stack s H us vs Q E0 hr e0 r h) fun r s' hq => ?_)
  match r, hq with
  | .error e, hq => exact False.elim hq
  | .ok (.ret u), hq => exact hR u s' (I.after hq)
  | .ok .next, hq => exact False.elim hq
  | .ok .brk, hq => exact False.elim hq
  | .ok .cont, hq => exact False.elim hq
end
/-- total after total, over the items; the list at l stays -/
def AccL (K : PySem.W.Frag) (C : Addr) (spA spR : Sp) (l : Addr) (all : List V) : List V → V → Hp → VK → Prop
  | [], t, H, Q => Q t H
  | x :: r, t, H, Q => (∃ b dy gs, x = .ref b ∧ H b = some (.ins C dy gs)) ∧
    ((t = .int 0 ∧ spR [x, t] H (fun v H' => (∃ p, v = .ref p) ∧ SqL K H' l all ∧ AccL K C spA spR l all r v H' Q) E0) ∨
    ((∃ a dx fs, t = .ref a ∧ H a = some (.ins C dx fs)) ∧ spA [t, x] H (fun v H' => (∃ p, v = .ref p) ∧ SqL K H' l all ∧ AccL K C spA spR l all r v H' Q) E0))
def sObj (u : Value) (c : Nat) : Obj := { cls := .type "list", dict := none, data := .seq #[u] c, slots := #[] }
def iObj (l : Addr) (i : Nat) (o : Obj) : Prop := o.cls = .type "list_iterator" ∧ o.data = .fields #[.ref l, .int i 0]
section
variable {X : Cx} {pins : List (Addr × Obj)} {σ : L2.St} {C f fr l it S : Addr} {spA spR : Sp} {k : Nat} {all : List V} {Q : VK}
theorem sum_loopO (O : OwnL X.K C "add" f) (OR : OwnOp X.K C "add" f fr) (FA : FnR X.prog X.w X.K X.mg X.base CX0 k f spA) (FR : FnR X.prog X.w X.K X.mg X.base CX0 k fr spR) (hr : Room (k + 1) X.A) (hh : X.A.handled = none) (fS : ∀ o, Fp0 X ((it, o) :: pins) S) (fI : ∀ o, Fp0 X ((S, o) :: pins) it) (hne : l ≠ it) :
    ∀ (n i : Nat) (s : Shared) (H : Hp) (t : V) (u : Value) (c : Nat) (st : Int) (oi : Obj), all.length - i = n → i ≤ all.length → Inv X ((S, sObj u c) :: (it, oi) :: pins) σ H s → iObj l i oi → RelV t u → ((t = .int 0 ∧ st = 0) ∨ ∃ p, t = .ref p) → SqL X.K H l all → AccL X.K C spA spR l all (all.drop i) t H Q →
      codeAny (model X.prog X.w) X.A (.builtin "sum.loop" ⟨[.ref it, .ref S, rawInt st, rawInt 0], []⟩) (fun r s' => match r with | .ok (.ret v) => EP X pins σ Q v s' | .ok _ => False | .error e => X.xe e s') s := by
  intro n
  induction n with
  | zero =>
    intro i s H t u c st oi hn hi I ho rt hst hl ha
    obtain rfl : i = all.length := by omega
    rw [List.drop_length] at ha
    obtain ⟨its, rv, hL, _⟩ := I.list hl
    have hsz : its.toArray.size = all.length := by rw [List.size_toArray, rv.length]
    have W := Walks.list (prog := X.prog) (w := X.w) (A := X.A.in1) hh it l hne its.toArray
    have eS := ClX.pin_at I
    have eI := ClX.pin_at (ClX.unpin I)
    refine codeAny_builtin PySem.F.entry_sum_loop ?_
    rw [Around.under_plainId PySem.F.plain_sum_loop _]
    show wpAny _ X.A.in1 (seqItems? (.ref S) >>= _) _ _ s
    refine wpAny_bind (wpAny_seqItems eS rfl ?_)
    show wpAny _ X.A.in1 (tryCatch (pyNext (.ref it)) _ >>= _) _ _ s
    refine wpAny_bind (wpAny_tryCatch (W.done s _ _ ⟨⟨oi, eI, ho.1, by rw [hsz]; exact ho.2⟩, hL.isList⟩ fun h' tk hk => ?_))
    have Ia := ClX.unpin I
    have Ib : Inv X pins σ H { s with heap := h', toks := tk } := (ClX.unpin Ia).turnedL (ch := [it]) (fun c u hb e => hk c u hb e) fun c hb => by
      rw [List.mem_singleton.mp hb]
      exact ⟨ClX.pin_un Ia, (fI (sObj u c)).weak⟩
    rcases hst with ⟨rfl, _⟩ | ⟨p, rfl⟩
    · obtain ⟨tok, rfl⟩ := rt
      exact wpAny_pure ⟨.int 0, H, Ib, ⟨tok, rfl⟩, ha⟩
    · cases rt
      exact wpAny_pure ⟨.ref p, H, Ib, rfl, ha⟩
  | succ n ih =>
    intro i s H t u c st oi hn hi I ho rt hst hl ha
    have hlt : i < all.length := by omega
    obtain ⟨its, rv, hL, _⟩ := I.list hl
    have hsz : its.toArray.size = all.length := by rw [List.size_toArray, rv.length]
    have W := Walks.list (prog := X.prog) (w := X.w) (A := X.A.in1) hh it l hne its.toArray
    have eS := ClX.pin_at I
    have eI := ClX.pin_at (ClX.unpin I)
    rw [List.drop_eq_getElem_cons hlt] at ha
    obtain ⟨⟨b, dy, gs, ex, hb⟩, hcase⟩ := ha
    refine codeAny_builtin PySem.F.entry_sum_loop ?_
    rw [Around.under_plainId PySem.F.plain_sum_loop _]
    show wpAny _ X.A.in1 (seqItems? (.ref S) >>= _) _ _ s
    refine wpAny_bind (wpAny_seqItems eS rfl ?_)
    show wpAny _ X.A.in1 (tryCatch (pyNext (.ref it)) _ >>= _) _ _ s
    refine wpAny_bind (wpAny_tryCatch (W.item i s _ _ (by rw [hsz]; exact hlt) ⟨⟨oi, eI, ho.1, ho.2⟩, hL.isList⟩ fun v h' tk hP hSt hk => ?_))
    have rvx : RelV all[i] v := vals_at rv (List.getElem?_eq_getElem hlt) (by simpa using hP)
    rw [ex] at rvx hcase
    obtain rfl : v = .ref b := rvx
    obtain ⟨⟨oi', eI', c1, c2⟩, _⟩ := hSt
    have I2 : Inv X ((S, sObj u c) :: (it, oi') :: pins) σ H { s with heap := h', toks := tk } :=
      swap_pins (repin (swap_pins I) (fI _) (fun c u hb e => hk c u (by simpa using hb) e) eI' (fun v z => by rw [c2] at z; cases z))
    -- behind the sum
    have rest : ∀ (r : Addr) (H3 : Hp) (s3 : Shared) (nx : Int), Inv X ((S, sObj u c) :: (it, oi') :: pins) σ H3 s3 → SqL X.K H3 l all → AccL X.K C spA spR l all (all.drop (i + 1)) (.ref r) H3 Q →
        wpAny (model X.prog X.w) X.A.in1 (updateSeq S (fun _ => #[.ref r]) >>= fun _ => letGo [u, .ref b] >>= fun _ => updateSeq S (fun _ => #[.ref r]) >>= fun _ => again (.builtin "sum.loop" ⟨[.ref it, .ref S, rawInt nx, rawInt 0], []⟩))
          (fun fin s' => match fin with | .done f => (match (Except.ok f : Result) with | .ok (.ret v) => EP X pins σ Q v s' | .ok _ => False | .error e => X.xe e s') | .again c' => c'.quiet = true ∧ codeAny (model X.prog X.w) X.A c' (fun r s' => match r with | .ok (.ret v) => EP X pins σ Q v s' | .ok _ => False | .error e => X.xe e s') s') X.xe s3 := by
      intro r H3 s3 nx I3 hl3 ha3
      have e3 := ClX.pin_at I3
      refine wpAny_bind (wpAny_updateSeq e3 rfl ?_)
      have I4 := repin (t' := s3.toks) I3 (fS _) (fun c u hb e => (Heap.get?_update_other _ _ (Ne.symm hb)).trans e) (Heap.get?_update_self (Obj.mapSeq fun _ => #[Value.ref r]) e3 rfl) (fun v z => nomatch z)
      refine wpAny_bind (wpAny_letGo ?_)
      have e4 := ClX.pin_at I4
      refine wpAny_bind (wpAny_updateSeq e4 rfl ?_)
      have I5 := repin (t' := s3.toks) I4 (fS _) (fun c u hb e => (Heap.get?_update_other _ _ (Ne.symm hb)).trans e) (Heap.get?_update_self (Obj.mapSeq fun _ => #[Value.ref r]) e4 rfl) (fun v z => nomatch z)
      exact wpAny_pure ⟨plainId_quiet PySem.F.plain_sum_loop _, ih (i + 1) _ H3 (.ref r) (.ref r) _ nx oi' (by omega) (by omega) I5 ⟨c1, c2⟩ rfl (.inr ⟨r, rfl⟩) hl3 ha3⟩
    obtain ⟨ob, od, J, hd⟩ := ins_look I2 hb
    rcases hcase with ⟨rfl, hsp⟩ | ⟨⟨a, dx, fs, rfl, ha'⟩, hsp⟩
    · obtain ⟨tok, rfl⟩ := rt
      obtain rfl : st = 0 := by
        rcases hst with ⟨_, e⟩ | ⟨p, e⟩
        · exact e
        · cases e
      show wpAny _ X.A.in1 (rule "sum.leaves-ints" >>= fun _ => (holding [Value.ref b] (binaryOp .Add (.int 0 tok) (.ref b))).attempt >>= _) _ _ _
      refine wpAny_bind (wpAny_rule (wpAny_bind (wpAny_attempt (wpAny_holding ?_))))
      refine rbin_K (op := .Add) (id := "int.__add__") I2.kIn J OR PySem.F.fills_int_add PySem.F.slot_int_add (int_add_dec J.at_ hd) (run_at0 (vs := [.ref b, .int 0]) FR hr.in1 I2.env0.in1 I2 (.cons rfl (.cons ⟨tok, rfl⟩ .nil)) hsp fun u s' hq => ?_)
      obtain ⟨v, H', I3, rv3, ⟨p, rfl⟩, hl3, ha3⟩ := hq
      cases rv3
      exact rest p H' s' 2 I3 hl3 ha3
    · cases rt
      obtain ⟨oa, od', J', hd'⟩ := ins_look I2 ha'
      obtain ⟨m, hF⟩ := I2.fr
      show wpAny _ X.A.in1 ((holding [Value.ref b] (binaryOp .Add (.ref a) (.ref b))).attempt >>= _) _ _ _
      refine wpAny_bind (wpAny_attempt (wpAny_holding ?_))
      refine PySem.W.binop_K (op := .Add) hF I2.ok.mod.kin J' J.type O.sf O.l O.lf (run_at0 (vs := [.ref a, .ref b]) FA hr.in1 I2.env0.in1 I2 (.cons rfl (.cons rfl .nil)) hsp fun u s' hq => ?_)
      obtain ⟨v, H', I3, rv3, ⟨p, rfl⟩, hl3, ha3⟩ := hq
      cases rv3
      exact rest p H' s' 2 I3 hl3 ha3
/-- sum(l) -/
def rSumO (K : PySem.W.Frag) (C : Addr) (spA spR : Sp) : List V → Hp → VK → Prop := fun vs H Q => ∃ l xs, vs = [.ref l] ∧ SqL K H l xs ∧ AccL K C spA spR l xs xs (.int 0) H Q
theorem c_sumO (O : OwnL X.K C "add" f) (OR : OwnOp X.K C "add" f fr) (FA : FnR X.prog X.w X.K X.mg X.base CX0 k f spA) (FR : FnR X.prog X.w X.K X.mg X.base CX0 k fr spR) (hr : Room (k + 1) X.A) (hc : X.calm = true) : CallR X (.builtin "sum") (rSumO X.K C spA spR) := by
  intro pins s σ H vs us Q I r h
  obtain ⟨l, xs, rfl, hl, ha⟩ := h
  rw [Vals.ref1 r]
  obtain ⟨its, rv, hL, _⟩ := I.list hl
  have hh := I.ok.hd hc
  obtain ⟨ol, hol, _⟩ := id hL.isList
  refine call_function_tree PySem.F.kind_sum PySem.F.plain_sum PySem.F.entry_sum (PySem.F.args_sum1 _) ?_
  unfold Builtin.«sum»
  simp only [List.length_cons, List.length_nil]
  rw [if_neg (by decide)]
  refine wpAny_bind (wpAny_of_eq (show Builtin.Builtins.bindParams "sum" ["start"] 0 { } = pure [none] from rfl) ?_)
  refine wpAny_bind (wpAny_pyIter_list hL.isList ?_)
  refine wpAny_bind (wpAny_mkInt (wpAny_bind (wpAny_pure ?_)))
  simp only [List.forIn_cons, List.forIn_nil]
  refine wpAny_bind (wpAny_bind (wpAny_bind (wpAny_isInstance (T := "int") (b := false) (typeIs_int _ _ _) PySem.sub_int_str ?_)))
  simp only [Bool.false_eq_true, if_false]
  refine wpAny_pure (wpAny_bind (wpAny_bind (wpAny_isInstance (T := "int") (b := false) (typeIs_int _ _ _) PySem.sub_int_bytes ?_)))
  simp only [Bool.false_eq_true, if_false]
  refine wpAny_pure (wpAny_bind (wpAny_bind (wpAny_isInstance (T := "int") (b := false) (typeIs_int _ _ _) PySem.sub_int_bytearray ?_)))
  simp only [Bool.false_eq_true, if_false]
  refine wpAny_pure (wpAny_pure (wpAny_bind (wpAny_newObj_type ?_)))
  have I1 := ClX.pin_new (t' := s.toks + 1) I (fun b u e => Heap.get?_push_of_some (h := s.heap) { cls := .type "list_iterator", data := .fields #[.ref l, .int 0 0] } e) (Nat.le_refl _) (Heap.get?_push_size _ rfl) (fun v z => nomatch z)
  have I2 := ClX.pin_new (t' := s.toks + 1) I1 (fun b u e => Heap.get?_push_of_some (sObj (.int 0 s.toks) 0) e) (Nat.le_refl _) (Heap.get?_push_size _ rfl) (fun v z => nomatch z)
  have fp1 := fp0_new I (Nat.le_refl _)
  have fp2 := fp0_new I1 (Nat.le_refl _)
  have hne : l ≠ s.heap.objs.size := Nat.ne_of_lt (Heap.lt_size hol)
  have hSI : (s.heap.push ({ cls := .type "list_iterator", data := .fields #[.ref l, .int 0 0] } : Obj)).objs.size ≠ s.heap.objs.size := by
    rw [Heap.size_push]; exact Nat.succ_ne_self _
  refine wpAny_pure ⟨plainId_quiet PySem.F.plain_sum_loop _, sum_loopO O OR FA FR hr hh (fun o => ?_) (fun o => ?_) hne xs.length 0 _ H (.int 0) _ 0 0 _ rfl (Nat.zero_le _) I2 ⟨rfl, rfl⟩ ⟨_, rfl⟩ (.inl ⟨rfl, rfl⟩) hl ha⟩
  · exact fp2.weak.more (Ne.symm hSI)
  · exact fp1.more hSI
end
/-! ### an instance called -/
abbrev rCO (C : Addr) (sp : Sp) (E : XK) (t : TA) (σ : L2.St) (Q : VK) (y : V) (H1 : Hp) : Prop := ∃ a, y = .ref a ∧ t σ H1 fun vs H2 => (∃ dx fs, H2 a = some (.ins C dx fs)) ∧ sp (.ref a :: vs) H2 Q E
def tCO (C : Addr) (sp : Sp) (E : XK) (tf : TE) (t : TA) : TE := fun σ H Q => tf σ H fun y H1 => rCO C sp E t σ Q y H1
theorem rd_tCO {C : Addr} {sp : Sp} {E : XK} {tf : TE} {t : TA} {σ : L2.St} {H : Hp} {Q : VK} (q : tf σ H fun y H1 => rCO C sp E t σ Q y H1) : tCO C sp E tf t σ H Q := q
theorem pe_co {X : Cx} {CX : CXT} {k : Nat} {C g : Addr} {sp : Sp} {E : XK} {e fe : Expr} {es : List Expr} {tf : TE} {t : TA} {pos : Pos} (hf : PE X fe tf) (c : StX.CallO X.K C g) (F : FnR X.prog X.w X.K X.mg X.base CX k g sp) (hr : Room k X.A) (hx : Passes CX X E) (ha : PA X (e :: es) t)
    (ht : eval (.Call fe (e :: es) [] pos) X.env = (do callWith pos (← eval fe X.env) [] (backTo pos (starEach (e :: es) X.env)) (backToKw pos (keywordEach [] X.env))) := by rfl)
    (he : starEach (e :: es) X.env = (false, eval e X.env) :: starEach es X.env := by rfl) (hpl : (backTo pos (starEach es X.env)).any (·.1) = false := by rfl) : PE X (.Call fe (e :: es) [] pos) (tCO C sp E tf t) := by
  refine ⟨fun pins s σ H Q I h => Call_ (thn (hf.run pins s σ H _ I h) fun u s1 ⟨y, H1, I1, ry, a, ey, q⟩ => ?_) ht⟩
  subst ey
  obtain rfl : u = Value.ref a := ry
  refine StX.callO_with (thn (ha.run pos pins s1 σ H1 _ I1 q) fun us s2 ⟨vs, H2, I2, r, ⟨dx, fs, hi⟩, q2⟩ => ?_) he hpl
  obtain ⟨ox, od, J, hd⟩ := ins_look I2 hi
  exact ⟨⟨C, ox, od, J, hd⟩, StX.run_callO c F hr hx I2 (.inr ⟨dx, fs, hi⟩) r q2⟩
theorem pe_coN {X : Cx} {CX : CXT} {k : Nat} {C g : Addr} {sp : Sp} {E : XK} {e : Expr} {es : List Expr} {tf : TE} {t : TA} {pos np : Pos} {n : Str} (hf : PE X (.Name n np) tf) (c : StX.CallO X.K C g) (F : FnR X.prog X.w X.K X.mg X.base CX k g sp) (hr : Room k X.A) (hx : Passes CX X E) (ha : PA X (e :: es) t)
    (he : starEach (e :: es) X.env = (false, eval e X.env) :: starEach es X.env := by rfl) (hpl : (backTo pos (starEach es X.env)).any (·.1) = false := by rfl) : PE X (.Call (.Name n np) (e :: es) [] pos) (tCO C sp E tf t) := by
  refine ⟨fun pins s σ H Q I h => wpAny_Call_Name_kw (thn (hf.run pins s σ H _ I h) fun u s1 ⟨y, H1, I1, ry, a, ey, q⟩ => ?_)⟩
  subst ey
  obtain rfl : u = Value.ref a := ry
  refine StX.callO_with (thn (ha.run pos pins s1 σ H1 _ I1 q) fun us s2 ⟨vs, H2, I2, r, ⟨dx, fs, hi⟩, q2⟩ => ?_) he hpl
  obtain ⟨ox, od, J, hd⟩ := ins_look I2 hi
  exact ⟨⟨C, ox, od, J, hd⟩, StX.run_callO c F hr hx I2 (.inr ⟨dx, fs, hi⟩) r q2⟩
end Rd
set_option Elab.async false
set_option linter.all false
set_option maxRecDepth 100000
set_option maxHeartbeats 4000000
/-! Rv: methods of lists inside comprehensions, pop at a place. -/
namespace Rd
open PySem PySem.Spec PyProof.Rows L2
theorem pe_bmK {X : Cx} {K : PySem.W.Frag} {T name id : String} {r : V → List V → Hp → VK → Prop} {o e : Expr} {es : List Expr} {to : TE} {t : TA} {apos cpos : Pos} (hK : X.K = K) (pa : PlainAttrs T) (slot : Slot T name id) (hty : typeOf (.builtin id) = pure (.type "method_descriptor")) (hm : MtM X id r) (ho : PE X o to) (ha : PA X (e :: es) t)
    (hbase : attributeBase o name X.env (eval o X.env) = eval o X.env := by rfl)
    (hfew : ((backTo cpos (starEach (e :: es) X.env)).all (fun x => !x.1) && (backToKw cpos (keywordEach [] X.env)).all (fun x => x.1.isSome)
      && decide ((e :: es).length + ([] : List Keyword).length + (if ([] : List Keyword).isEmpty then 0 else 1) < 30)) = true := by rfl)
    (hline : (apos.endLine == cpos.line) = true := by rfl) (hs : starEach (e :: es) X.env = (false, eval e X.env) :: starEach es X.env := by rfl) (hplain : (backTo cpos (starEach es X.env)).any (·.1) = false := by rfl) :
    PE X (.Call (.Attribute o name apos) (e :: es) [] cpos) (tBM K T r to t) := by
  subst hK
  exact pe_bm pa slot hty hm ho ha hbase hfew hline hs hplain
theorem rd_popAt {H : Hp} {Q : VK} {a : Addr} {xs : List V} {k : Nat} (h : H a = some (.lst xs)) (hk : k < xs.length) (hz : xs.length < 1000000) (q : Q xs[k] (upd H a (.lst (xs.eraseIdx k)))) : rPopAt (.ref a) [.int (k : Nat)] H Q := by
  refine ⟨a, xs, (k : Nat), k, xs[k], rfl, rfl, h, by omega, by omega, ?_, List.getElem?_eq_getElem hk, q⟩
  unfold seqIndex?
  have e : ¬ ((k : Nat) : Int) < 0 := by omega
  simp [e, hk]
end Rd
set_option Elab.async false
set_option linter.all false
set_option maxRecDepth 100000
set_option maxHeartbeats 4000000
/-! Rw: enumerate of a tuple; own __iter__, __len__, __getitem__; bool; == with a foreign value. -/
namespace Rd
open PySem PySem.Spec PyProof.Rows L2
open AutoSeq1 (wpAny_loadPart')
/-! ### enumerate of a tuple -/
section
theorem meets_enumT (t : Addr) (items : Array Value) :
    Meets (Builtin.«enumerate.__new__» ⟨[.type "enumerate", .ref t], []⟩) (fun _ R s => s.heap.IsTuple t items ∧
      R (.ok (.ret (.ref (s.heap.push { cls := .type "tuple_iterator", data := .fields #[.ref t, .int 0 0] }).objs.size)))
        { s with heap := (s.heap.push { cls := .type "tuple_iterator", data := .fields #[.ref t, .int 0 0] }).push { cls := .type "enumerate", data := .fields #[.none, .bool false, .ref s.heap.objs.size, rawInt 0, .none, .none] } }) :=
  .of_wp fun prog w A R s h => by
    obtain ⟨hp, g, d, tk, os⟩ := s
    obtain ⟨hT, h⟩ := h
    have hsub := sub_enumerate
    obtain ⟨⟨c, dct, dt, sl⟩, hl, hc, n, hd⟩ := id hT
    replace hc : c = .type "tuple" := hc
    subst hc
    wp_walk using wpAny_loadPart' hl
    refine wpAny_stack_any fun st => wpAny_pure ?_
    split
    · rename_i c _ _ _ _ _
      cases (c == Value.type "enumerate")
      · wp_walk using wpAny_loadPart' hl, wpAny_pyIter_tuple hT
        exact ⟨_, rfl, h⟩
      · wp_walk using wpAny_loadPart' hl, wpAny_pyIter_tuple hT
        exact ⟨_, rfl, h⟩
    · wp_walk using wpAny_loadPart' hl, wpAny_pyIter_tuple hT
      exact ⟨_, rfl, h⟩
variable {prog : Program} {w : World} {A : Around} {E : Value → Shared → Prop} {s : Shared}
theorem call_enumT {t : Addr} {items : Array Value} {Q : Value → Shared → Prop} (hT : s.heap.IsTuple t items)
    (h : ∀ h', IsEnum h' (s.heap.objs.size + 1) s.heap.objs.size 0 .none → h'.IsTupleIter s.heap.objs.size t 0 → h'.objs.size = s.heap.objs.size + 2 →
      (∀ b o, s.heap.get? b = some o → h'.get? b = some o) → Q (.ref (s.heap.objs.size + 1)) { s with heap := h' }) :
    wpAny (model prog w) A (call (.type "enumerate") [.ref t]) Q E s := by
  refine callType_new PySem.F.called_enumerate (by decide) (PySem.F.typeCall_enumerate_1 _) (PySem.F.newCall_enumerate_1 _) (fun obj => PySem.F.args_object_init_2 obj _) PySem.F.entry_enumerate_new (meets_enumT t items) ⟨hT, ?_⟩
  have hz : (s.heap.push { cls := .type "tuple_iterator", data := .fields #[.ref t, .int 0 0] }).objs.size = s.heap.objs.size + 1 := Heap.size_push ..
  have he := Heap.get?_push_size (s.heap.push { cls := .type "tuple_iterator", data := .fields #[.ref t, .int 0 0] }) (o := { cls := .type "enumerate", data := .fields #[.none, .bool false, .ref s.heap.objs.size, rawInt 0, .none, .none] }) rfl
  rw [hz] at he
  show _ ∧ _
  rw [hz]
  exact ⟨⟨_, he, rfl⟩, h _ he ⟨_, Heap.get?_push_of_some _ (Heap.get?_push_size _ rfl), rfl, rfl⟩ (by rw [Heap.size_push, hz]) fun b o x => Heap.get?_push_of_some _ (Heap.get?_push_of_some _ x)⟩
end
/-- the tuple at a, each item with its number in a new pair -/
def IteT (K : PySem.W.Frag) (a : Addr) : It :=
  ⟨fun i H => ∃ (xs : List V) (x : V), SqT K H a xs ∧ xs[i]? = some x, fun i H v H' => ∃ T x, v = .ref T ∧ H T = none ∧ H' = upd H T (.tup [.int (i : Nat), x]) ∧ ∀ xs, SqT K H a xs → xs[i]? = some x, fun i H => ∃ xs : List V, SqT K H a xs ∧ xs.length = i⟩
theorem turn_enumT {P : Program} {w : World} {K : PySem.W.Frag} {elts : List Expr} {kk : Nat} {tpos : Pos} (a e it : Addr) (hai : a ≠ it) (hea : e ≠ a) :
    Turn P w K (.Tuple elts kk tpos) (IteT K a) [e, it] e (fun i h => (∃ old, IsEnum h e it ((i : Nat) : Int) old) ∧ h.IsTupleIter it a i ∧ e ≠ it) where
  mem := by simp
  obj := fun i h st b hb => by
    obtain ⟨⟨old, he⟩, ⟨o, ho, hc, hd⟩, _⟩ := st
    have e' : b = e ∨ b = it := by simpa using hb
    rcases e' with z | z
    · rw [z]; exact ⟨_, he, fun v q => nomatch q⟩
    · rw [z]; exact ⟨o, ho, fun v q => by rw [hd] at q; cases q⟩
  keep := fun i h h' st k => let ⟨⟨old, he⟩, hi, hne⟩ := st; ⟨⟨old, k e (by simp) _ he⟩, hi.at fun o q => k it (by simp) o q, hne⟩
  item := by
    intro X hP hw hK hc i pins s σ H E I hf st hg
    subst hP hw hK
    obtain ⟨⟨old, he⟩, hit, hne⟩ := st
    obtain ⟨xs, x, hq, hx⟩ := hg
    obtain ⟨its, rv, p, hz⟩ := I.tuple hq
    obtain ⟨u, hu, ru⟩ := rv.get hx
    have hel : e < s.heap.objs.size := Heap.lt_size he
    have hil : it < s.heap.objs.size := by obtain ⟨_, q, _⟩ := hit; exact Heap.lt_size q
    have hi : i < its.toArray.size := by
      have := (List.getElem?_eq_some_iff.mp hu).1
      simpa using this
    have dr : Draws X.prog X.w X.A.in1 it [it, a] its.toArray.size (fun i v => its.toArray[i]? = some v) (fun i h => h.IsTupleIter it a i ∧ h.IsTuple a its.toArray) := Draws.tuple (show X.A.in1.handled = none from I.ok.hd hc) it a hai its.toArray
    refine wpAny_pyNext_enum_itemD dr he ⟨hit, p⟩ hi hne (by simp [hne, hea]) fun y h' tk hy ho hst hT hsz hk => ?_
    obtain rfl : y = u := by
      have hu' : its.toArray[i]? = some u := by simpa using hu
      exact Option.some.inj (hy.symm.trans hu')
    refine ⟨_, rfl, wpAny_letOwnedTupleGo_enum (s := { s with heap := h', toks := tk + 1 }) ho fun h'' he' sb => ?_⟩
    have hT2 : h''.get? s.heap.objs.size = some { cls := .type "tuple", data := .seq #[.int i tk, y] } := (sb.2 _ (Nat.ne_of_gt hel)).trans hT
    have new : ObjOk X.prog X.w (upd H s.heap.objs.size (.tup [.int (i : Nat), x])) h'' s.heap.objs.size (.tup [.int (i : Nat), x]) :=
      ⟨by show 2 ≤ sizeLine; decide, [.int i tk, y], .cons ⟨_, rfl⟩ (.cons ru .nil), ⟨_, hT2, rfl, _, rfl⟩⟩
    have I1 : Inv X pins σ (upd H s.heap.objs.size (.tup [.int (i : Nat), x])) { s with heap := h'', toks := tk + 1 } :=
      I.turnedNew (ch := [e, it]) (fun b ob hb q => (sb.2 b (fun z => hb (by simp [z]))).trans (hk b ob (fun z => hb (by simp [z])) (fun z => hb (by simp [z])) q)) hf (Nat.le_refl _) new
    refine ⟨.ref s.heap.objs.size, _, I1, rfl, ⟨_, x, rfl, I.hok.fresh (Nat.le_refl _), rfl, fun ys hy => by rw [I.tuple_inj hy hq]; exact hx⟩, ⟨⟨y, ?_⟩, hst.1.at fun o q => (sb.2 it (Ne.symm hne)).trans q, hne⟩, fun b hb => ?_⟩
    · have e1 : ((i + 1 : Nat) : Int) = (i : Int) + 1 := by omega
      rw [e1]; exact he'
    · have hb' : b < s.heap.objs.size := by
        have e' : b = e ∨ b = it := by simpa using hb
        rcases e' with z | z
        · rw [z]; exact hel
        · rw [z]; exact hil
      rw [upd_ne (Nat.ne_of_lt hb')]
      exact (hf b hb).1
  done := by
    intro X hP hw hK hc i pins s σ H E I hf st hg
    subst hP hw hK
    obtain ⟨⟨old, he⟩, hit, hne⟩ := st
    obtain ⟨xs, hq, hx⟩ := hg
    obtain ⟨its, rv, p, hz⟩ := I.tuple hq
    obtain ⟨f0, f1, f2, f3, f4, f5⟩ := hf it (by simp)
    have hl := rv.length
    have e1 : i = its.toArray.size := by simp; omega
    subst e1
    have dr : Draws X.prog X.w X.A.in1 it [it, a] its.toArray.size (fun i v => its.toArray[i]? = some v) (fun i h => h.IsTupleIter it a i ∧ h.IsTuple a its.toArray) := Draws.tuple (show X.A.in1.handled = none from I.ok.hd hc) it a hai its.toArray
    exact wpAny_pyNext_enum_endD dr he ⟨hit, p⟩ fun h' eb => ⟨rfl, I.turned (t' := s.toks) (fun b o hb q => eb b o hb q) f0 f1 f3 f4 f5⟩
  self := fun A i s Q E st h => let ⟨⟨_, he⟩, _⟩ := st; wpAny_pyIter_enum he h
def rIET (K : PySem.W.Frag) (vs : List V) (H : Hp) (R : It → Hp → Prop) : Prop := ∃ a xs, vs = [.ref a] ∧ SqT K H a xs ∧ R (IteT K a) H
def iEnumT (K : PySem.W.Frag) (ta : TA) : TI := fun σ H R => ta σ H fun vs H1 => rIET K vs H1 R
theorem pi_enumT {X : Cx} {e : Expr} {ta : TA} {p pos tpos : Pos} {elts : List Expr} {kk : Nat} (hg : Gl X "enumerate") (hm : X.mg "enumerate" = none) (ha : PA X [e] ta) (hs : starEach [e] X.env = [(false, eval e X.env)] := by rfl) :
    PI X (.Tuple elts kk tpos) (.Call (.Name "enumerate" p) [e] [] pos) (iEnumT X.K ta) := by
  refine ⟨fun pins s σ H R I h => ?_⟩
  refine Call_ (ld_blt I hg hm boot_enumerate (PyProof.Rows.callWith_type1 (thn (ha.run pos pins s σ H _ I h) fun us s1 ⟨vs, H1, I1, r1, q1⟩ => ?_) hs rfl))
  obtain ⟨a, xs, ex, hq, q⟩ := q1
  subst ex
  cases r1 with
  | cons r rr =>
    cases rr
    cases r
    obtain ⟨its, rv, p', hz⟩ := I1.tuple hq
    have hal : a < s1.heap.objs.size := by obtain ⟨_, q, _⟩ := id p'; exact Heap.lt_size q
    refine call_enumT (show s1.heap.IsTuple a its.toArray from p') fun h' he hit hsz hk => wpAny_pyIter_enum he ?_
    have I2 : Inv X pins σ H1 { s1 with heap := h' } := I1.kept (t' := s1.toks) hk
    refine ⟨s1.heap.objs.size + 1, [s1.heap.objs.size + 1, s1.heap.objs.size], _, _, H1, rfl, I2, turn_enumT a (s1.heap.objs.size + 1) s1.heap.objs.size (Nat.ne_of_lt hal) (Nat.ne_of_gt (Nat.lt_succ_of_lt hal)), ⟨⟨.none, he⟩, hit, Nat.succ_ne_self _⟩, fun b hb => ?_, q⟩
    have e' : b = s1.heap.objs.size + 1 ∨ b = s1.heap.objs.size := by simpa using hb
    have hle : s1.heap.objs.size ≤ b := by
      rcases e' with z | z
      · rw [z]; exact Nat.le_add_right _ _
      · rw [z]; exact Nat.le_refl _
    exact I1.fpOk hle (I1.hok.fresh hle)
section
variable {K : PySem.W.Frag} {σ : L2.St} {H : Hp} {g : TG} {tb : TS} {D : Ends} {a : Addr} {xs : List V} {ta : TA}
theorem rd_iEnumT {R : It → Hp → Prop} (q : ta σ H fun vs H1 => rIET K vs H1 R) : iEnumT K ta σ H R := q
theorem rd_IET {R : It → Hp → Prop} (h : SqT K H a xs) (q : R (IteT K a) H) : rIET K [.ref a] H R := ⟨a, xs, rfl, h, q⟩
theorem for_enumT (Pv : Nat → L2.St → Hp → Prop) (h0 : Pv 0 σ H) (hl : ∀ i σ H, i ≤ xs.length → Pv i σ H → SqT K H a xs)
    (hs : ∀ (i : Nat) (x : V) (T : Addr) (σ : L2.St) (H H' : Hp), xs[i]? = some x → Pv i σ H → H T = none → Same H H' → H' T = some (.tup [.int (i : Nat), x]) → (∀ b, b ≠ T → H' b = H b) → g (.ref T) σ H' fun σ2 H2 => tb { nx := Pv (i + 1), rt := D.rt, ct := Pv (i + 1), bk := D.nx } σ2 H2) (hd : ∀ σ H, Pv xs.length σ H → D.nx σ H) : rFor g tb D σ (IteT K a) H := by
  refine ⟨fun i m σ H => m = xs.length - i ∧ i ≤ xs.length ∧ Pv i σ H, ⟨xs.length, rfl, Nat.zero_le _, h0⟩, ?_⟩
  rintro i m σ H ⟨rfl, hi, p⟩
  have hq := hl i σ H hi p
  by_cases hlt : i < xs.length
  · refine .inr ⟨⟨xs, xs[i], hq, by simp [hlt]⟩, fun σ' H' => Pv (i + 1) σ' H', fun σ' H' p' => ⟨xs.length - (i + 1), by omega, rfl, hlt, p'⟩, fun v H' y => ?_⟩
    obtain ⟨T, x, rfl, hT, rfl, hx⟩ := y
    exact hs i x T σ H _ (hx xs hq) p hT (same_new hT) upd_same fun b hb => upd_ne hb
  · obtain rfl : i = xs.length := by omega
    exact .inl ⟨⟨xs, hq, rfl⟩, hd σ H p⟩
end
end Rd
set_option Elab.async false
set_option linter.all false
set_option maxRecDepth 100000
set_option maxHeartbeats 4000000
/-! Ry: own __iter__, __len__, __getitem__; bool; == and != with a foreign value. -/
namespace Rd
open PySem PySem.Spec PyProof.Rows L2
/-! ### the same base, with free room up to n -/
def padB (b : Heap) (n : Nat) : Heap := ⟨b.objs ++ Array.replicate (n - b.objs.size) { cls := .none, data := .freed }, b.life⟩
theorem padB_get (b : Heap) (n : Nat) (a : Addr) : (padB b n).get? a = b.get? a := by
  unfold padB Heap.get?
  dsimp only
  by_cases h : a < b.objs.size
  · rw [Array.getElem?_append_left h]
  · have h' := Nat.le_of_not_lt h
    rw [Array.getElem?_append_right h', Array.getElem?_replicate, Array.getElem?_eq_none h']
    by_cases c : a - b.objs.size < n - b.objs.size
    · rw [if_pos c]
    · rw [if_neg c]
theorem padB_size {b : Heap} {n : Nat} (h : b.objs.size ≤ n) : (padB b n).objs.size = n := by
  unfold padB
  simp only [Array.size_append, Array.size_replicate]
  omega
theorem env0_pad {P : Program} {w : World} {K : PySem.W.Frag} {mg : Str → Option Value} {base : Heap} {A : Around} {outer : List Env} {s : Shared} {H : Hp} (e : Env0 P w K mg base A outer s H) : Env0 P w K mg (padB base s.heap.objs.size) A outer s H := by
  have up : ∀ b o, base.get? b = some o → (padB base s.heap.objs.size).get? b = some o := fun b o h => by rw [padB_get]; exact h
  have fun_ : ∀ l : List Env, s.heap.FunFrames base l → s.heap.FunFrames (padB base s.heap.objs.size) l := by
    intro l
    induction l with
    | nil => exact fun _ => trivial
    | cons env rest ih =>
      rintro ⟨h1, ⟨L, o, h2, h3, h4⟩, h5⟩
      exact ⟨h1, ⟨L, o, h2, by rw [padB_get]; exact h3, h4⟩, ih h5⟩
  obtain ⟨mb, m1, m2⟩ := e.mod.blt
  obtain ⟨mc, n1, n2⟩ := e.mod.nolimit
  exact ⟨e.frames, ⟨e.mod.kin.keeps up, e.mod.glob.keeps up, ⟨mb, m1.keeps up, m2⟩, ⟨mc, n1.keeps up, n2⟩⟩, fun b o h => by rw [padB_get] at h; exact e.bs b o h, by rw [padB_size e.bsz]; exact Nat.le_refl _, fun_ _ e.funs, e.frf, e.hok, e.bare⟩
/-! ### iter of a tuple -/
def ItT (t it : Addr) : HO := .ext fun h => h.get? it = some { cls := .type "tuple_iterator", data := .fields #[.ref t, .int 0 0] }
section
variable {prog : Program} {w : World} {A : Around} {E : Value → Shared → Prop} {s : Shared}
theorem call_iterT {t : Addr} {items : Array Value} {Q : Value → Shared → Prop} (hl : s.heap.IsTuple t items) (h : Q (.ref s.heap.objs.size) { s with heap := s.heap.push { cls := .type "tuple_iterator", data := .fields #[.ref t, .int 0 0] } }) : wpAny (model prog w) A (call (.builtin "iter") [.ref t]) Q E s := by
  refine Calls.call_function_entry (by decide +kernel) (by decide +kernel) PySem.W.kdk_entry_iter (PySem.W.kdk_args_iter _) ?_
  unfold Builtin.«iter»
  refine wpAny_bind (m := someArgs "iter" 1 2 _) (wpAny_of_eq (a := [Value.ref t]) (by first | rfl | kernel_rfl!) ?_)
  show wpAny _ _ (pyIter (.ref t) >>= _) _ _ _
  exact wpAny_bind (wpAny_pyIter_tuple hl (wpAny_pure ⟨_, rfl, h⟩))
end
def rIterT (K : PySem.W.Frag) (n : Nat) : List V → Hp → VK → Prop := fun xs H Q => ∃ (t : Addr) (zs : List V), xs = [.ref t] ∧ SqT K H t zs ∧ ∀ it, H it = none → n ≤ it → Q (.ref it) (upd H it (ItT t it))
theorem c_iterT {X : Cx} : CallR X (.builtin "iter") (rIterT X.K X.base.objs.size) := by
  intro pins s σ H xs us Q I r h
  obtain ⟨t, zs, rfl, hq, q⟩ := h
  obtain ⟨u, rfl, ru⟩ := vals1 r
  cases ru
  obtain ⟨its, rv, pl, hz⟩ := I.tuple hq
  refine call_iterT (show s.heap.IsTuple t its.toArray from pl) ?_
  have e : (s.heap.push { cls := .type "tuple_iterator", data := .fields #[.ref t, .int 0 0] }).get? s.heap.objs.size = some { cls := .type "tuple_iterator", data := .fields #[.ref t, .int 0 0] } := Heap.get?_push_size _ rfl
  exact ⟨.ref s.heap.objs.size, _, I.laid (t' := s.toks) (fun b u e => Heap.get?_push_of_some _ e) (Nat.le_refl _) (o := ItT t s.heap.objs.size) ⟨e, ⟨_, e⟩, fun h1 h2 q k => k _ q⟩, rfl, q _ (I.hok.fresh (Nat.le_refl _)) (Nat.le_trans I.ok.bsz I.sz)⟩
theorem rd_iterT {K : PySem.W.Frag} {n : Nat} {H : Hp} {Q : VK} {t : Addr} {zs : List V} (h : SqT K H t zs) (q : ∀ it, H it = none → n ≤ it → Q (.ref it) (upd H it (ItT t it))) : rIterT K n [.ref t] H Q := ⟨t, zs, rfl, h, q⟩
/-! ### an instance that is walked: its __iter__ gives an iterator of a tuple -/
structure OwnIt (K : PySem.W.Frag) (C f : Addr) : Prop where
  it : PySem.W.findIn K (.ref C) "__iter__" = some (some (.ref f))
  fn : PySem.W.isFn K (.ref f) = true
def rIO (K : PySem.W.Frag) (C : Addr) (sp : Nat → Sp) (R : It → Hp → Prop) (v : V) (H : Hp) : Prop := ∃ x, v = .ref x ∧ (∃ dx fs, H x = some (.ins C dx fs)) ∧ ∀ n, sp n [.ref x] H (fun u H2 => ∃ it p, u = .ref it ∧ n ≤ it ∧ H2 it = some (ItT p it) ∧ R (Itt K p) (ItX.dropH H2 it)) E0
def iOwn (K : PySem.W.Frag) (C : Addr) (sp : Nat → Sp) (te : TE) : TI := fun σ H R => te σ H fun v H1 => rIO K C sp R v H1
theorem pi_own {X : Cx} {tg e : Expr} {te : TE} {C f : Addr} {k : Nat} {sp : Nat → Sp} (he : PE X e te) (O : OwnIt X.K C f) (F : ∀ base : Heap, FnR X.prog X.w X.K X.mg base CX0 k f (sp base.objs.size)) (hr : Room k X.A) : PI X tg e (iOwn X.K C sp te) := by
  refine ⟨fun pins s σ H R I h => ?_⟩
  refine thn (he.run pins s σ H _ I h) fun u s1 ⟨v, H1, I1, rv, x, ev, ⟨dx, fs, hx⟩, q⟩ => ?_
  subst ev
  cases rv
  obtain ⟨ox, od, J, _⟩ := ins_look I1 hx
  obtain ⟨m, hF⟩ := I1.fr
  refine PySem.W.owit_iter hF I1.ok.mod.kin J O.it O.fn ?_
  refine wpAny_call (codeAny_mono (F (padB X.base s1.heap.objs.size) X.A X.stack s1 H1 [.ref x] [.ref x] _ E0 hr (env0_pad I1.env0) (.cons rfl .nil) (q _)) fun r s' hq => ?_)
  match r, hq with
  | .error e, hq => exact False.elim hq
  | .ok (.ret u), hq =>
    obtain ⟨v, H2, I2, rv, it, p, rfl, hn, hi, q⟩ := I1.after hq
    cases rv
    have eo : s'.heap.get? it = some { cls := .type "tuple_iterator", data := .fields #[.ref p, .int 0 0] } := (I2.hok it _ hi).1
    have st : s'.heap.IsTupleIter it p 0 := ⟨_, eo, rfl, rfl⟩
    show PySem.W.OwitIt _ _ _ _ _ _
    unfold PySem.W.OwitIt
    refine wpAny_specialOf st.typeIs PySem.F.slot_tuple_iterator_next.lookup ?_
    have hi' := hi
    unfold ItT at hi'
    rw [padB_size (Nat.le_trans I1.ok.bsz I1.sz)] at hn
    refine ⟨it, [it], _, _, ItX.dropH H2 it, rfl, ItX.inv_drop I2 hi', turn_tuple p it, st, fun b hb => ?_, q⟩
    have e : b = it := by simpa using hb
    rw [e]
    exact ItX.inv_fp I2 hi (Nat.le_trans I1.sz hn)
  | .ok .next, hq => exact False.elim hq
  | .ok .brk, hq => exact False.elim hq
  | .ok .cont, hq => exact False.elim hq
theorem rd_iOwn {K : PySem.W.Frag} {C : Addr} {sp : Nat → Sp} {te : TE} {σ : L2.St} {H : Hp} {R : It → Hp → Prop} (q : te σ H fun v H1 => rIO K C sp R v H1) : iOwn K C sp te σ H R := q
/-! ### len, bool, [] -/
section
variable {X : Cx} {CX : CXT} {k : Nat} {C f : Addr} {sp : Sp} {E : XK}
def rLenO (C : Addr) (sp : Sp) (E : XK) : List V → Hp → VK → Prop := fun vs H Q => ∃ a dx fs, vs = [.ref a] ∧ H a = some (.ins C dx fs) ∧ sp [.ref a] H (fun v H' => ∃ n : Nat, v = .int n ∧ n < 2 ^ 62 ∧ Q (.int n) H') E
theorem c_lenO (hs : PySem.W.findIn X.K (.ref C) "__len__" = some (some (.ref f))) (hf : PySem.W.isFn X.K (.ref f) = true) (F : FnR X.prog X.w X.K X.mg X.base CX k f sp) (hr : Room (k + 1) X.A) (hx : Passes CX X E) : CallR X (.builtin "len") (rLenO C sp E) := by
  intro pins s σ H xs us Q I r h
  obtain ⟨a, dx, fs, rfl, ha, h⟩ := h
  obtain ⟨u, rfl, ru⟩ := vals1 r
  cases ru
  obtain ⟨m, hF⟩ := I.fr
  obtain ⟨ox, od, J, _⟩ := ins_look I ha
  refine PySem.W.len_K hF I.ok.mod.kin J hs hf (run_at (vs := [.ref a]) F hr.in1 I.env0.in1 hx I (.cons rfl .nil) h fun u s' hq => ?_)
  obtain ⟨v, H', I', rv, n, rfl, hn, q⟩ := hq
  obtain ⟨t, rfl⟩ := rv
  exact ⟨⟨by omega, by omega⟩, .int n, H', I'.kept (t' := s'.toks + 1) (fun b o e => e), ⟨_, rfl⟩, q⟩
def rIxO (C : Addr) (sp : Sp) (E : XK) : R2 := fun x y H Q => ∃ a dx fs, x = .ref a ∧ H a = some (.ins C dx fs) ∧ sp [x, y] H Q E
theorem pe_ixO {a b : Expr} {ta tb : TE} {pos : Pos} (hs : PySem.W.findIn X.K (.ref C) "__getitem__" = some (some (.ref f))) (hf : PySem.W.isFn X.K (.ref f) = true) (hi : PySem.W.fnIn X.K f = true) (F : FnR X.prog X.w X.K X.mg X.base CX k f sp) (hr : Room (k + 1) X.A) (hx : Passes CX X E) (ha : PE X a ta) (hb : PE X b tb)
    (hsl : ∀ v u, subscripted b true v u = runValue (.builtin "lifetime.subscript" ⟨[v, u], []⟩)) : PE X (.Subscript a b pos) (tOp (rIxO C sp E) ta tb) := by
  refine ⟨fun pins s σ H Q I h => ?_⟩
  refine Subscript_ (binT ha hb I h fun v u s2 x y H2 I2 rx ry q => ?_)
  obtain ⟨c, dx, fs, rfl, hc, q⟩ := q
  cases rx
  obtain ⟨m, hF⟩ := I2.fr
  obtain ⟨ox, od, J, _⟩ := ins_look I2 hc
  exact PySem.W.sub_K hF I2.ok.mod.kin J hs hi hf (run_at (vs := [.ref c, y]) F hr.in1 I2.env0.in1 hx I2 (.cons rfl (.cons ry .nil)) q fun u s' hq => hq) (hsl _ _)
def rBoolO (C : Addr) (sp : Sp) (E : XK) : List V → Hp → VK → Prop := fun vs H Q => ∃ a dx fs, vs = [.ref a] ∧ H a = some (.ins C dx fs) ∧ sp [.ref a] H (fun v H' => ∃ n : Nat, v = .int n ∧ n < 2 ^ 62 ∧ Q (.bl (decide (n ≠ 0))) H') E
theorem c_boolO (hb : PySem.W.findIn X.K (.ref C) "__bool__" = some none) (hs : PySem.W.findIn X.K (.ref C) "__len__" = some (some (.ref f))) (hf : PySem.W.isFn X.K (.ref f) = true) (F : FnR X.prog X.w X.K X.mg X.base CX k f sp) (hr : Room (k + 3) X.A) (hx : Passes CX X E) : CallR X (.type "bool") (rBoolO C sp E) := by
  intro pins s σ H xs us Q I r h
  obtain ⟨a, dx, fs, rfl, ha, h⟩ := h
  obtain ⟨u, rfl, ru⟩ := vals1 r
  cases ru
  obtain ⟨ox, od, J, _⟩ := ins_look I ha
  refine callType_codes (T := "bool") (Bi := Builtin.«object.__init__») (Q₁ := fun r s₁ => ∃ b, r = .bool b ∧ EP X pins σ Q r s₁) PySem.F.called_bool (PySem.F.typeCall_bool_1 _) PySem.F.entry_object_init ?_ ?_
  · refine codeAny_of_tree ?_
    show wpAny _ X.A.in1.in1 (do checkBuiltinCall "bool.__new__" ⟨[.type "bool", .ref a], []⟩; again (.builtin "bool.__new__" ⟨[.type "bool", .ref a], []⟩)) _ _ s
    refine wpAny_bind (wpAny_of_eq (PySem.F.newCall_bool_1 _) (wpAny_pure ⟨plainId_quiet (by decide +kernel) _, codeAny_builtin PySem.F.entry_bool_new ?_⟩))
    rw [Around.under_plainId (by decide +kernel) _]
    have key : wpAny (model X.prog X.w) X.A.in1.in1 (truthy (.ref a)) (fun b s₁ => EP X pins σ Q (.bool b) s₁) X.xe s := by
      unfold truthy
      refine wpAny_bind (m := callSpecial? (.ref a) (Str.ofString "__bool__")) (wpAny_bind (wpAny_bind (J.type.here ((PySem.W.looks_findIn I.kIn hb).here (wpAny_pure ?_)))))
      refine wpAny_bind (wpAny_bind (J.type.here ((PySem.W.looks_findIn I.kIn hs).here ?_)))
      show wpAny _ _ (runValue (.builtin "len" ⟨[.ref a], []⟩) >>= _) _ _ _
      refine wpAny_bind (wpAny_runValue (codeAny_builtin entry_len ?_))
      rw [Around.under_plainId (by decide +kernel) _]
      unfold Builtin.«len»
      refine wpAny_bind (m := oneArg "len" _) (wpAny_pure ?_)
      refine wpAny_bind (m := callSpecial? (.ref a) (Str.ofString "__len__")) (PySem.W.special_fn I.kIn J hs (beq_iff_eq.mp hf) (run_at (vs := [.ref a]) F hr.in1.in1.in1 I.env0.in1.in1.in1 hx I (.cons rfl .nil) h fun u s' hq => ?_))
      obtain ⟨v, H', I', rv, n, rfl, hn, q⟩ := hq
      obtain ⟨t, rfl⟩ := rv
      refine wpAny_bind (wpAny_holding (wpAny_pure ?_))
      refine wpAny_bind (wpAny_letGo ?_)
      show wpAny _ _ (if (n : Int) < 0 then _ else _) _ _ _
      rw [if_neg (by omega)]
      show wpAny _ _ (if (n : Int) ≥ 2 ^ 63 then _ else _) _ _ _
      rw [if_neg (by omega)]
      refine wpAny_bind (wpAny_mkInt (wpAny_pure ?_))
      refine wpAny_pure ⟨.bl (decide (n ≠ 0)), H', I'.kept (t' := s'.toks + 1) (fun b o e => e), ?_, q⟩
      show Value.bool _ = Value.bool _
      congr 1
      cases n
      · simp
      · simp
        omega
    unfold Builtin.«bool.__new__»
    have f1 := PySem.F.conv_sub_bool
    refine wpAny_bind (m := isType (.type "bool")) (wpAny_pure ?_)
    refine wpAny_bind (m := isSubtype (.type "bool") (.type "bool")) (wpAny_of_eq f1 ?_)
    refine wpAny_bind (m := someArgs "bool" 0 1 _) (wpAny_pure ?_)
    refine wpAny_bind (m := truthy (.ref a)) (wpAny_mono key (fun b s₁ hb => wpAny_pure ?_) fun _ _ y => y)
    exact ⟨_, rfl, hb⟩
  · rintro obj s₁ ⟨b, rfl, hq⟩
    exact ⟨rfl, PySem.F.args_object_init_2 _ _, object_init_meets PySem.F.called_bool.init.lookup PySem.F.called_bool.made (by decide) X.prog X.w X.A.in1 _ s₁ ⟨rfl, rfl, hq⟩⟩
end
/-! ### == and != with a foreign value -/
section
variable {X : Cx} {CX : CXT} {k : Nat} {K : PySem.W.Frag} {C f : Addr} {sp : Sp} {E : XK}
def rEqF (K : PySem.W.Frag) (C : Addr) (sp : Sp) (E : XK) (neg : Bool) : R2 := fun x y H Q => (∃ a dx fs, x = .ref a ∧ H a = some (.ins C dx fs)) ∧ (∃ tb, TyX K H y tb ∧ PySem.W.subIn K tb (.ref C) = some false) ∧ sp [x, y] H (fun v H' => ∃ b, v = .bl b ∧ Q (.bl (if neg then !b else b)) H') E
theorem op_eqF (hK : X.K = K) (O : OwnEq K C f) (F : FnR X.prog X.w X.K X.mg X.base CX k f sp) (hr : Room k X.A) (hx : Passes CX X E) : OpR X (compareOp .Eq) (rEqF K C sp E false) := by
  subst hK
  intro pins s σ H x y v u Q I rx ry h
  obtain ⟨⟨a, dx, fs, rfl, ha⟩, ⟨tb, ty, hsub⟩, h⟩ := h
  cases rx
  obtain ⟨m, hF⟩ := I.fr
  obtain ⟨ox, od, J, _⟩ := ins_look I ha
  obtain ⟨P, kx, hP, _⟩ := kit_of I ry ty
  refine PySem.W.cmp_K (op := .Eq) (Nat.lt_of_le_of_lt (Nat.le_add_right _ _) hr.units) hF I.ok.mod.kin J (kx.ty _ _ I.kIn hP) (by simp [PySem.W.notFirst, hsub]) O.e O.ef (run_at (vs := [.ref a, y]) F hr I.env0 hx I (.cons rfl (.cons ry .nil)) h fun u s' hq => ?_)
  obtain ⟨v, H', I', rv, c, rfl, q⟩ := hq
  cases rv
  exact ⟨.bl c, H', I', rfl, q⟩
theorem op_neF (hK : X.K = K) (O : OwnEq K C f) (F : FnR X.prog X.w X.K X.mg X.base CX k f sp) (hr : Room (k + 1) X.A) (hx : Passes CX X E) : OpR X (compareOp .NotEq) (rEqF K C sp E true) := by
  subst hK
  intro pins s σ H x y v u Q I rx ry h
  obtain ⟨⟨a, dx, fs, rfl, ha⟩, ⟨tb, ty, hsub⟩, h⟩ := h
  cases rx
  obtain ⟨ox, od, J, _⟩ := ins_look I ha
  obtain ⟨P, kx, hP, _⟩ := kit_of I ry ty
  have un : X.A.units < cLine := Nat.lt_of_le_of_lt (Nat.le_add_right _ _) hr.units
  have un1 : X.A.in1.units < cLine := Nat.lt_of_le_of_lt (Nat.le_add_right _ _) hr.in1.units
  have core : wpAny (model X.prog X.w) X.A (call (.builtin "object.__ne__") [.ref a, u]) (fun v s' => ∃ c, v = .bool c ∧ EP X pins σ Q v s') X.xe s := by
    refine wpAny_call (codeAny_call_builtin PySem.F.slot_object_ne.plain PySem.F.entry_object_ne (PySem.W.check_slot (i := "object.__ne__") (owner := "object") (n := "__ne__") (by decide +kernel) (by decide +kernel) (J.type.andThen (PySem.W.looks_mroIn I.kIn O.m)) (PySem.F.args_object_ne_2 _ _) ?_))
    unfold Builtin.«object.__ne__»
    refine wpAny_bind (m := slotArgs "__ne__" 1 _) (wpAny_pure ?_)
    refine wpAny_bind (m := cRoomFor _ _) (wpAny_cRoomFor un1 ?_)
    refine wpAny_bind (m := callSpecialIfBound? (.ref a) (Str.ofString "__eq__") _) (PySem.W.ifBound_K I.kIn J O.e O.ef (run_at (vs := [.ref a, y]) F hr.in1 I.env0.in1 hx I (.cons rfl (.cons ry .nil)) h fun u s' hq => ?_))
    obtain ⟨v, H', I', rv, c, rfl, q⟩ := hq
    cases rv
    refine wpAny_bind (m := truthy (.bool c)) (wpAny_pure (wpAny_pure ⟨!c, rfl, .bl (!c), H', I', rfl, ?_⟩))
    cases c <;> exact q
  have one : wpAny (model X.prog X.w) X.A (tryCompare (.ref a) (cmpInfo .NotEq).2.1 u) (fun r s' => ∃ v, r = some v ∧ EP X pins σ Q v s') X.xe s := by
    unfold tryCompare
    refine wpAny_bind (ifBound_B I.kIn J O.n PySem.F.slot_object_ne.bind (wpAny_mono core (fun v s' hv => ?_) fun _ _ e => e))
    obtain ⟨c, rfl, q⟩ := hv
    exact wpAny_pure ⟨_, rfl, q⟩
  show wpAny _ _ (richCompare .NotEq (.ref a) u) _ _ _
  unfold richCompare
  simp only [oneThing_ref]
  refine wpAny_holding (wpAny_bind (wpAny_cRoomFor un ?_))
  refine wpAny_bind (J.type.here (wpAny_bind ((kx.ty _ _ I.kIn hP).here ?_)))
  split
  · refine wpAny_bind ((PySem.W.looks_subIn I.kIn hsub).here ?_)
    simp only [Bool.false_eq_true, if_false]
    refine wpAny_bind (wpAny_mono one (fun r s' z => ?_) fun _ _ e => e)
    obtain ⟨v, rfl, hq⟩ := z
    exact wpAny_pure hq
  · refine wpAny_bind (wpAny_pure ?_)
    simp only [Bool.false_eq_true, if_false]
    refine wpAny_bind (wpAny_mono one (fun r s' z => ?_) fun _ _ e => e)
    obtain ⟨v, rfl, hq⟩ := z
    exact wpAny_pure hq
end
end Rd
set_option Elab.async false
set_option linter.all false
set_option maxRecDepth 100000
set_option maxHeartbeats 4000000
/-! Rs: sets of texts: made of a tuple or a list, their number, sorted. -/
namespace Rd
open PySem PySem.Spec PySem.Froz PyProof.Rows L2
def txOf (e : Int × Value) : Str := match e.2 with | .str k _ => k | _ => Str.empty
/-- the set of the texts l at a, which can be walked -/
def SetS (P : Program) (w : World) (h : Heap) (a : Addr) (l : List Str) : Prop := ∃ D : SD, h.get? a = some (Froz.sObj "set" D) ∧ TxOk P w D l ∧ (D.1.toList.map txOf).Perm l ∧ l.Nodup ∧ Ris D.2.2.place.toList ∧ (w.params.followText "set-order" = true ∨ D.2.2.led = true)
section
variable {P : Program} {w : World} {h h' : Heap} {a : Addr} {l : List Str}
theorem SetS.at (R : SetS P w h a l) (k : ∀ o, h.get? a = some o → h'.get? a = some o) : SetS P w h' a l := by
  obtain ⟨D, ho, r⟩ := R
  exact ⟨D, k _ ho, r⟩
theorem addTx_facts {x : Int} {v : Value} {D : SD} (r : Ris D.2.2.place.toList) : (addTx x v D).1.toList.Perm (D.1.push (x, v)).toList ∧ Ris (addTx x v D).2.2.place.toList ∧ (addTx x v D).2.2.led = D.2.2.led := by
  have p1 := layNew_perm D.2.2 D.1 x v
  have r1 := layNew_ris D.2.2 D.1 x v r
  have l1 := layNew_led D.2.2 D.1 x v
  unfold addTx tailTx
  generalize layNew D.2.2 D.1 x v = Z at p1 r1 l1 ⊢
  obtain ⟨e1, t1, wd, gv⟩ := Z
  dsimp only at p1 r1 l1 ⊢
  have r2 : Ris (if t1.plain = true then { t1 with plain := false } else t1).place.toList := by split <;> exact r1
  have l2 : (if t1.plain = true then { t1 with plain := false } else t1).led = D.2.2.led := by split <;> exact l1
  generalize (if t1.plain = true then { t1 with plain := false } else t1) = t2 at r2 l2 ⊢
  split
  · exact ⟨(relayAll_perm t2 e1 _).trans p1, relayAll_ris t2 e1 _, (relayAll_led t2 e1 _).trans l2⟩
  · exact ⟨p1, r2, l2⟩
end
section
variable {P : Program} {w : World} {A : Around} {E : Value → Shared → Prop} {s : Shared} {a : Addr} {l : List Str}
/-- a text is put in -/
def putT (l : List Str) (k : Str) : List Str := if k ∈ l then l else l ++ [k]
theorem setS_add {k : Str} {u : Tok} {Q : Bool → Shared → Prop} (R : SetS P w s.heap a l) (room : l.length + 1 < scanBound) (hQ : ∀ (b : Bool) h2, Heap.SameBut a s.heap h2 → SetS P w h2 a (putT l k) → Q b { s with heap := h2 }) :
    wpAny (model P w) A (setAddHashed a (.str k u) (hashStr w k)) Q E s := by
  obtain ⟨D, ho, F, pm, nd, hr, hl⟩ := id R
  by_cases hk : k ∈ l
  · have el : ElemsOf (strKind P w) D.1.toList := F.el
    have sz : D.1.size = l.length := F.sz
    unfold setAddHashed setAddHashedIn
    refine wpAny_holding (wpAny_bind (wpAny_setState_of (es := D.1) (ep := D.2.1) (t := D.2.2) ho rfl F.fit ?_))
    dsimp only
    rw [byScan_of (knd := strKind P w) rfl (by omega) el]
    simp only [↓reduceIte]
    unfold setAddByScan
    refine wpAny_bind (wpAny_bind (wpAny_rule (wpAny_bind (wpAny_setScan_of (knd := strKind P w) (k := k) (is_str k u) ho rfl F.fit el ?_))))
    cases hf : List.findIdx? (fun e => (strKind P w).is k e.2) D.1.toList with
    | none =>
      obtain ⟨e, he, q⟩ := (F.mem k).mp hk
      have := List.findIdx?_eq_none_iff.mp hf e he
      rw [q] at this
      cases this
    | some j =>
      dsimp only
      refine wpAny_pure (wpAny_pure ?_)
      have := hQ false s.heap (Heap.SameBut.refl a s.heap) (by unfold putT; rw [if_pos hk]; exact R)
      exact this
  · refine add_x ho F hk room (hQ true _ (Heap.SameBut.update _ _ _) ?_)
    obtain ⟨p1, r1, l1⟩ := addTx_facts (x := hashStr w k) (v := .str k u) hr
    have F1 := add_ok (k := k) u F
    have e1 : putT l k = l ++ [k] := by unfold putT; rw [if_neg hk]
    rw [e1]
    have pl : (k :: l).Perm (l ++ [k]) := (List.perm_append_singleton k l).symm
    refine ⟨_, get_upd _ ho rfl, ⟨F1.el, fun z => (pl.mem_iff.symm.trans (F1.mem z)), by rw [F1.sz, pl.length_eq], F1.fit⟩, ?_, pl.nodup_iff.mp (List.nodup_cons.mpr ⟨hk, nd⟩), r1, hl.imp id fun z => l1.trans z⟩
    have p2 := p1.map txOf
    rw [Array.toList_push, List.map_append] at p2
    exact p2.trans (pm.append_right _)
/-- without repeats, in the order of their first places -/
def dedT (xs : List Str) : List Str := xs.foldl putT []
theorem dedT_snoc (xs : List Str) (k : Str) : dedT (xs ++ [k]) = putT (dedT xs) k := by unfold dedT; rw [List.foldl_append]; rfl
theorem mem_putT {xs : List Str} {k z : Str} : z ∈ putT xs k ↔ z ∈ xs ∨ z = k := by
  unfold putT
  by_cases h : k ∈ xs
  · rw [if_pos h]
    exact ⟨.inl, fun q => q.elim id fun e => e ▸ h⟩
  · rw [if_neg h, List.mem_append, List.mem_singleton]
theorem len_putT (xs : List Str) (k : Str) : (putT xs k).length ≤ xs.length + 1 := by
  unfold putT
  split
  · omega
  · rw [List.length_append]; exact Nat.le_refl _
theorem mem_fold : ∀ (xs acc : List Str) (z : Str), z ∈ xs.foldl putT acc ↔ z ∈ acc ∨ z ∈ xs
  | [], acc, z => by simp
  | k :: xs, acc, z => by
    rw [List.foldl_cons, mem_fold xs, mem_putT, List.mem_cons, or_assoc]
theorem mem_dedT {xs : List Str} {z : Str} : z ∈ dedT xs ↔ z ∈ xs := by
  unfold dedT
  rw [mem_fold]
  simp
theorem len_fold : ∀ (xs acc : List Str), (xs.foldl putT acc).length ≤ acc.length + xs.length
  | [], acc => by simp
  | k :: xs, acc => by
    rw [List.foldl_cons, List.length_cons]
    have := len_fold xs (putT acc k)
    have := len_putT acc k
    omega
theorem len_dedT (xs : List Str) : (dedT xs).length ≤ xs.length := by
  have := len_fold xs []
  unfold dedT
  simpa using this
theorem nodup_putT {xs : List Str} {k : Str} (h : xs.Nodup) : (putT xs k).Nodup := by
  unfold putT
  split
  · exact h
  · rename_i q
    exact (List.perm_append_singleton k xs).nodup_iff.mpr (List.nodup_cons.mpr ⟨q, h⟩)
theorem nodup_fold : ∀ (xs acc : List Str), acc.Nodup → (xs.foldl putT acc).Nodup
  | [], _, h => h
  | k :: xs, acc, h => nodup_fold xs _ (nodup_putT h)
theorem nodup_dedT (xs : List Str) : (dedT xs).Nodup := nodup_fold xs [] List.nodup_nil
theorem fold_new : ∀ (xs acc : List Str), (acc ++ xs).Nodup → xs.foldl putT acc = acc ++ xs
  | [], acc, _ => by simp
  | k :: xs, acc, h => by
    have hk : k ∉ acc := fun q => by
      have := List.nodup_append.mp h
      exact this.2.2 k q k List.mem_cons_self rfl
    rw [List.foldl_cons]
    have e : putT acc k = acc ++ [k] := by unfold putT; rw [if_neg hk]
    rw [e, fold_new xs _ (by rw [List.append_assoc]; exact h), List.append_assoc]
    rfl
theorem dedT_nodup {xs : List Str} (h : xs.Nodup) : dedT xs = xs := by
  have := fold_new xs [] (by simpa using h)
  simpa [dedT] using this
theorem dedT_lt {xs : List Str} (h : ¬ xs.Nodup) : (dedT xs).length < xs.length := by
  suffices q : ∀ (xs acc : List Str), acc.Nodup → ¬ (acc ++ xs).Nodup → (xs.foldl putT acc).length < acc.length + xs.length by
    have := q xs [] List.nodup_nil (by simpa using h)
    simpa [dedT] using this
  intro xs
  induction xs with
  | nil => intro acc h1 h2; exact absurd (by simpa using h1) h2
  | cons k xs ih =>
    intro acc h1 h2
    rw [List.foldl_cons, List.length_cons]
    by_cases hk : k ∈ acc
    · have e : putT acc k = acc := by unfold putT; rw [if_pos hk]
      rw [e]
      have := len_fold xs acc
      omega
    · have e : putT acc k = acc ++ [k] := by unfold putT; rw [if_neg hk]
      rw [e]
      have := ih (acc ++ [k]) (by rw [← e]; exact nodup_putT h1) (by rw [List.append_assoc]; exact h2)
      rw [List.length_append] at this
      simp only [List.length_singleton] at this
      omega
abbrev set0 (w : World) : Obj := { cls := .type "set", dict := none, data := .set #[] 0 (.fresh 0 0 (!w.params.followText "set-order")) }
theorem setS_new {h : Heap} (ho : h.get? a = some (set0 w)) : SetS P w h a [] :=
  ⟨(#[], 0, _), ho, TxOk.nil rfl, List.Perm.refl _, List.nodup_nil, List.Pairwise.nil, by
    show _ ∨ (!w.params.followText "set-order") = true
    cases w.params.followText "set-order" <;> simp⟩
/-- the texts of an iterator are put in, one by one -/
theorem set_update_txt {I : Addr} {fp wr : List Addr} {G : Array GenState → Array GenState → Prop} {Pv : Nat → Value → Prop} {St : Nat → Shared → Prop} {R : Result → Shared → Prop} (ns : List Str) (S : Addr)
    (W : WalksS P w A.in1 I fp wr G ns.length Pv St) (hSf : S ∉ fp) (hb : ns.length + 1 < scanBound) (hval : ∀ i v, Pv i v → ∃ k t, ns[i]? = some k ∧ v = .str k t)
    (hR : ∀ s0 s2, Moved (S :: wr) G s0 s2 → s0 = s → SetS P w s2.heap S (dedT ns) → R (.ok (.ret .none)) s2) :
    St 0 s → SetS P w s.heap S [] → codeAny (model P w) A (.builtin "set.update.loop" ⟨[.ref S, .ref I], []⟩) R s := by
  have hSw : S ∉ wr := fun q => hSf (W.sub _ q)
  have sub : ∀ b ∈ wr, b ∈ S :: wr := fun b q => List.mem_cons_of_mem _ q
  suffices all : ∀ (m i : Nat) (s1 : Shared), ns.length - i = m → i ≤ ns.length → St i s1 → SetS P w s1.heap S (dedT (ns.take i)) → (∀ s2, Moved (S :: wr) G s1 s2 → SetS P w s2.heap S (dedT ns) → R (.ok (.ret .none)) s2) →
      codeAny (model P w) A (.builtin "set.update.loop" ⟨[.ref S, .ref I], []⟩) R s1 from
    fun h0 h1 => all _ 0 s rfl (Nat.zero_le _) h0 h1 fun s2 m2 r2 => hR s s2 m2 rfl r2
  intro m
  induction m with
  | zero =>
    intro i s1 em hi hst hS hR
    obtain rfl : i = ns.length := by omega
    refine codeAny_builtin F.entry_set_update_loop ?_
    rw [Around.under_plainId F.plain_set_update_loop _]
    show wpAny _ A.in1 (pyNext (.ref I) >>= _) _ _ s1
    refine wpAny_bind (W.done s1 _ _ hst fun s2 hm => ?_)
    show wpAny _ A.in1 (ret Value.none) _ _ s2
    rw [List.take_length] at hS
    exact wpAny_pure (hR s2 (hm.mono sub) (hS.at fun o e => hm.heap S o hSw e))
  | succ m ih =>
    intro i s1 em hi hst hS hR
    have hlt : i < ns.length := by omega
    refine codeAny_builtin F.entry_set_update_loop ?_
    rw [Around.under_plainId F.plain_set_update_loop _]
    show wpAny _ A.in1 (pyNext (.ref I) >>= _) _ _ s1
    refine wpAny_bind (W.item i s1 _ _ hlt hst fun v s2 hP hst2 hm => ?_)
    obtain ⟨z, t, hz, rfl⟩ := hval i v hP
    have hS2 := hS.at (h' := s2.heap) fun o e => hm.heap S o hSw e
    show wpAny _ A.in1 (holding [Value.str z t] (setAdd S (.str z t)) >>= _) _ _ s2
    refine wpAny_bind (wpAny_holding ?_)
    unfold setAdd
    refine wpAny_holding (wpAny_bind ((strKind P w).pyHash (k := z) (is_str z t) ?_))
    have hlen := len_dedT (ns.take i)
    rw [List.length_take] at hlen
    refine setS_add (s := { s2 with toks := s2.toks + 1 }) hS2 (by omega) fun b h2 hsb hS3 => ?_
    rw [← dedT_snoc] at hS3
    have et : ns.take (i + 1) = ns.take i ++ [z] := by rw [List.take_add_one, hz]; rfl
    rw [← et] at hS3
    refine wpAny_pure ⟨plainId_quiet F.plain_set_update_loop _, ih (i + 1) _ (by omega) hlt (W.frame _ s2 _ _ hst2 (Nat.le_succ _) fun c hc o e => ?_) hS3 fun s3 hm3 hS4 => ?_⟩
    · rw [hsb.2 c fun q => hSf (q ▸ hc)]
      exact e
    · refine hR s3 (Moved.trans W.gtrans ((hm.mono sub).then_heap (Nat.le_succ _) fun c o hc e => ?_) hm3) hS4
      rw [hsb.2 c fun q => hc (q ▸ List.mem_cons_self)]
      exact e
set_option maxHeartbeats 16000000 in
/-- set(v), v a tuple or a list of texts -/
theorem call_set_txt {v : Addr} {items : Array Value} {T : String} (ns : List Str) {Q : Value → Shared → Prop} (hh : A.handled = none) (hT : (T = "tuple" ∧ s.heap.IsTuple v items) ∨ (T = "list" ∧ s.heap.IsList v items))
    (hval : ∀ (i : Nat) (x : Value), items[i]? = some x → ∃ k t, ns[i]? = some k ∧ x = .str k t) (hsz : items.size = ns.length) (hb : ns.length + 1 < scanBound)
    (hQ : ∀ (h2 : Heap) (tk : Nat), SetS P w h2 s.heap.objs.size (dedT ns) → (∀ b o, s.heap.get? b = some o → h2.get? b = some o) → Q (.ref s.heap.objs.size) { s with heap := h2, toks := tk }) :
    wpAny (model P w) A (call (.type "set") [.ref v]) Q E s := by
  obtain ⟨c, tl, hmro⟩ := F.called_set.mro
  have hmade := F.called_set.made
  have hsub := F.called_set.sub
  refine wpAny_call (codeAny_of_tree ?_)
  show wpAny _ _ (callAny (.type "set") _) _ _ _
  refine wpAny_pure ⟨Code.quiet_builtin _ (by decide +kernel), codeAny_builtin F.entry_type_call ?_⟩
  rw [Around.under_plain (weight_type_call_type "set" [.ref v] []) rfl]
  have n1 := F.called_set.notType
  have n2 := F.called_set.canCreate
  have n3 := F.typeCall_set_1 (.ref v)
  repeat (any_goals (first | assumption | wp_step))
  refine codeAny_mono (code_set_led1 (.ref v) (E := E) (Q₁ := fun obj s1 => obj = .ref s.heap.objs.size ∧ s1 = { s with heap := s.heap.push (set0 w) }) ⟨rfl, rfl⟩) fun r s1 hr => ?_
  match r, hr with
  | .error e, hr => exact hr
  | .ok .next, hr => exact hr.elim
  | .ok .brk, hr => exact hr.elim
  | .ok .cont, hr => exact hr.elim
  | .ok (.ret obj), hr =>
    obtain ⟨rfl, rfl⟩ := hr
    have hS : (s.heap.push (set0 w)).get? s.heap.objs.size = some (set0 w) := Heap.get?_push_size _ rfl
    have hTy : Shared.TypeIs { s with heap := s.heap.push (set0 w) } (.ref s.heap.objs.size) "set" := ⟨_, hS, rfl⟩
    have i1 := F.called_set.init.lookup
    have i2 := F.called_set.init.bind (.ref s.heap.objs.size)
    repeat (any_goals (first | assumption | wp_step))
    refine codeAny_mono (codeAny_call_builtin (R := wants (fun r s2 => r = .none ∧ ∃ h2 tk, s2 = { s with heap := h2, toks := tk } ∧ SetS P w h2 s.heap.objs.size (dedT ns) ∧ ∀ b o, s.heap.get? b = some o → h2.get? b = some o) E) F.called_set.init.plain F.entry_set_init (check_set_init_1 hTy ?_)) fun r2 s2 hr2 => ?_
    · have hz1 : (s.heap.push (set0 w)).objs.size = s.heap.objs.size + 1 := Heap.size_push ..
      have h3 : A.in1.in1.in1.handled = none := by simp [hh]
      have fin : ∀ {I : Addr} {G : Array GenState → Array GenState → Prop} {s0 s2 : Shared} {wr : List Addr}, Moved (s.heap.objs.size :: wr) G s0 s2 → (∀ b ∈ wr, s.heap.objs.size ≤ b) → (G = fun a b => b = a) → SetS P w s2.heap s.heap.objs.size (dedT ns) → (∀ b o, s.heap.get? b = some o → s0.heap.get? b = some o) → s0.gens = s.gens → s0.drawn = s.drawn → s0.os = s.os →
          ∃ h2 tk, s2 = { s with heap := h2, toks := tk } ∧ SetS P w h2 s.heap.objs.size (dedT ns) ∧ ∀ b o, s.heap.get? b = some o → h2.get? b = some o := by
        intro I G s0 s2 wr hm hwr hG r2 k0 g0 d0 o0
        obtain ⟨h2, g2, d2, tk2, os2⟩ := s2
        subst hG
        have eg : g2 = s0.gens := hm.gens
        have ed : d2 = s0.drawn := hm.drawn
        have eo : os2 = s0.os := hm.os
        refine ⟨h2, tk2, ?_, r2, fun b o e => hm.heap b o (fun z => ?_) (k0 b o e)⟩
        · rw [eg, ed, eo, g0, d0, o0]
        · have hb0 : b < s.heap.objs.size := Heap.lt_size e
          rcases List.mem_cons.mp z with q | q
          · exact absurd hb0 (by rw [q]; exact Nat.lt_irrefl _)
          · exact absurd hb0 (Nat.not_lt_of_le (hwr b q))
      rcases hT with ⟨rfl, hl⟩ | ⟨rfl, hl⟩
      · obtain ⟨ol, hol, hcl, nl, hdl⟩ := hl
        obtain ⟨ocls, odict, odata, oslots⟩ := ol
        simp only at hcl hdl
        subst hcl; subst hdl
        have hol1 := Heap.get?_push_of_some (set0 w) hol
        have q1 := F.sub_tuple_set
        have q2 := F.sub_tuple_frozenset
        have q3 : (Value.type "tuple" == Value.type "dict") = false := by decide
        have hl1 : (s.heap.push (set0 w)).IsTuple v items := ⟨_, hol1, rfl, nl, rfl⟩
        unfold Builtin.«set.__init__» noKeywords Builtin.Frozenset.updateFrom
        generalize hPI : pyIter = PI
        wp_walk
        subst hPI
        have hlS : v < s.heap.objs.size := Heap.lt_size hol
        have nI : v ≠ (s.heap.push (set0 w)).objs.size := by rw [hz1]; exact Nat.ne_of_lt (Nat.lt_succ_of_lt hlS)
        refine wpAny_pyIter_tuple hl1 (wpAny_bind (wpAny_runValue ?_))
        have W := (Walks.tuple (prog := P) (w := w) h3 _ v nI items).toS
        rw [hsz] at W
        refine set_update_txt ns s.heap.objs.size W ?_ hb hval (fun s0 s2 hm e0 r2 => ?_) ⟨⟨_, Heap.get?_push_size _ rfl, rfl, rfl⟩, hl1.push _⟩ (setS_new (Heap.get?_push_of_some _ hS))
        · rw [hz1]
          simp only [List.mem_cons, List.mem_singleton, List.not_mem_nil, or_false, not_or]
          exact ⟨Nat.ne_of_lt (Nat.lt_succ_self _), Nat.ne_of_gt hlS⟩
        · subst e0
          show wpAny _ _ _ _ _ _
          refine wpAny_pure ?_
          show wpAny _ _ (ret Value.none) _ _ _
          refine wpAny_pure ⟨rfl, fin (I := v) hm (fun b q => ?_) rfl r2 (fun b o e => Heap.get?_push_of_some _ (Heap.get?_push_of_some _ e)) rfl rfl rfl⟩
          rw [List.mem_singleton.mp q, hz1]
          exact Nat.le_succ _
      · obtain ⟨ol, hol, hcl, nl, hdl⟩ := hl
        obtain ⟨ocls, odict, odata, oslots⟩ := ol
        simp only at hcl hdl
        subst hcl; subst hdl
        have hol1 := Heap.get?_push_of_some (set0 w) hol
        have q1 := F.sub_list_set
        have q2 := F.sub_list_frozenset
        have q3 : (Value.type "list" == Value.type "dict") = false := by decide
        have hl1 : (s.heap.push (set0 w)).IsList v items := ⟨_, hol1, rfl, nl, rfl⟩
        unfold Builtin.«set.__init__» noKeywords Builtin.Frozenset.updateFrom
        generalize hPI : pyIter = PI
        wp_walk
        subst hPI
        have hlS : v < s.heap.objs.size := Heap.lt_size hol
        have nI : v ≠ (s.heap.push (set0 w)).objs.size := by rw [hz1]; exact Nat.ne_of_lt (Nat.lt_succ_of_lt hlS)
        refine wpAny_pyIter_list hl1 (wpAny_bind (wpAny_runValue ?_))
        have W := (Walks.list (prog := P) (w := w) h3 _ v nI items).toS
        rw [hsz] at W
        refine set_update_txt ns s.heap.objs.size W ?_ hb hval (fun s0 s2 hm e0 r2 => ?_) ⟨⟨_, Heap.get?_push_size _ rfl, rfl, rfl⟩, hl1.push _⟩ (setS_new (Heap.get?_push_of_some _ hS))
        · rw [hz1]
          simp only [List.mem_cons, List.mem_singleton, List.not_mem_nil, or_false, not_or]
          exact ⟨Nat.ne_of_lt (Nat.lt_succ_self _), Nat.ne_of_gt hlS⟩
        · subst e0
          show wpAny _ _ _ _ _ _
          refine wpAny_pure ?_
          show wpAny _ _ (ret Value.none) _ _ _
          refine wpAny_pure ⟨rfl, fin (I := v) hm (fun b q => ?_) rfl r2 (fun b o e => Heap.get?_push_of_some _ (Heap.get?_push_of_some _ e)) rfl rfl rfl⟩
          rw [List.mem_singleton.mp q, hz1]
          exact Nat.le_succ _
    · match r2, hr2 with
      | .error e, hr2 => exact hr2
      | .ok .next, hr2 => exact hr2.elim
      | .ok .brk, hr2 => exact hr2.elim
      | .ok .cont, hr2 => exact hr2.elim
      | .ok (.ret r), hr2 =>
        obtain ⟨rfl, h2, tk, rfl, r3, k3⟩ := hr2
        repeat (any_goals (first | assumption | wp_step))
        exact hQ _ _ r3 k3
end
end Rd
set_option Elab.async false
set_option linter.all false
set_option maxRecDepth 100000
set_option maxHeartbeats 4000000
/-! Rk: sorted of texts (of a list, a tuple, a set) and of tuples that begin with different texts. -/
namespace Rd
open PySem PySem.Spec PySem.Froz PyProof.Rows L2 SrtO
/-- the order of texts -/
def lts (x y : Str) : Bool := decide (x.cps.toList < y.cps.toList)
theorem lts_asym {x y : Str} (h : lts x y = true) : lts y x = false := by
  unfold lts at *
  rw [decide_eq_true_eq] at h
  rw [decide_eq_false_iff_not]
  exact fun q => List.lt_irrefl _ (List.lt_trans h q)
theorem lts_trans {x y z : Str} (h1 : lts x y = true) (h2 : lts y z = true) : lts x z = true := by
  unfold lts at *
  rw [decide_eq_true_eq] at *
  exact List.lt_trans h1 h2
theorem lts_irrefl (x : Str) : lts x x = false := by
  unfold lts
  rw [decide_eq_false_iff_not]
  exact List.lt_irrefl _
theorem lts_total {x y : Str} (h1 : lts x y = false) (h2 : lts y x = false) : x = y := by
  unfold lts at *
  rw [decide_eq_false_iff_not] at *
  have e := List.le_antisymm (List.not_lt.mp h2) (List.not_lt.mp h1)
  cases x
  cases y
  congr 1
  exact Array.toList_inj.mp e
theorem lts_ntr {x y z : Str} (h1 : lts y x = false) (h2 : lts z y = false) : lts z x = false := by
  unfold lts at *
  rw [decide_eq_false_iff_not] at *
  exact List.not_lt.mpr (List.le_trans (List.not_lt.mp h1) (List.not_lt.mp h2))
theorem swo_key (k : Value → Str) : Swo fun v u => lts (k v) (k u) := ⟨fun _ _ h => lts_asym h, fun _ _ _ h1 h2 => lts_ntr h1 h2⟩
/-- rising texts, without repeats -/
def Asc (l : List Str) : Prop := l.Pairwise fun x y => lts x y = true
theorem asc_of {l : List Str} (h : l.Pairwise fun x y => lts y x = false) (nd : l.Nodup) : Asc l := by
  unfold Asc
  have := List.pairwise_and_iff.mpr ⟨h, nd⟩
  refine this.imp fun {x y} ⟨q1, q2⟩ => ?_
  cases q : lts x y with
  | true => rfl
  | false => exact absurd (lts_total q q1) q2
theorem Asc.nodup {l : List Str} (h : Asc l) : l.Nodup := h.imp fun {x y} q e => by
  rw [e, lts_irrefl] at q
  cases q
theorem Asc.eq : ∀ {l m : List Str}, Asc l → Asc m → (∀ z, z ∈ l ↔ z ∈ m) → l = m
  | [], [], _, _, _ => rfl
  | [], y :: _, _, _, h => nomatch (h y).mpr List.mem_cons_self
  | x :: _, [], _, _, h => nomatch (h x).mp List.mem_cons_self
  | x :: l, y :: m, h1, h2, h => by
    obtain ⟨a1, b1⟩ := List.pairwise_cons.mp h1
    obtain ⟨a2, b2⟩ := List.pairwise_cons.mp h2
    have e : x = y := by
      rcases List.mem_cons.mp ((h x).mp List.mem_cons_self) with q | q
      · exact q
      · rcases List.mem_cons.mp ((h y).mpr List.mem_cons_self) with q' | q'
        · exact q'.symm
        · have z1 := a2 x q
          have z2 := a1 y q'
          rw [lts_asym z1] at z2
          cases z2
    subst e
    have hx : ∀ {r : List Str}, (∀ z ∈ r, lts x z = true) → x ∉ r := fun q m => by
      have := q x m
      rw [lts_irrefl] at this
      cases this
    rw [Asc.eq b1 b2 fun z => ⟨fun hz => ?_, fun hz => ?_⟩]
    · rcases List.mem_cons.mp ((h z).mp (List.mem_cons_of_mem _ hz)) with q | q
      · exact absurd hz (q ▸ hx a1)
      · exact q
    · rcases List.mem_cons.mp ((h z).mpr (List.mem_cons_of_mem _ hz)) with q | q
      · exact absurd hz (q ▸ hx a2)
      · exact q
theorem Asc.perm_eq {l m : List Str} (h1 : Asc l) (h2 : Asc m) (p : l.Perm m) : l = m := h1.eq h2 fun z => p.mem_iff
/-! ### sorted, whatever is gathered -/
section
variable {P : Program} {w : World} {A : Around} {E : Value → Shared → Prop} {s : Shared}
/-- the items of a list or a tuple, gathered; the heap has grown -/
theorem collect_seqZ {Q : List Value → Shared → Prop} (v : Addr) {T : String} {o : Obj} {items : Array Value} {n : Nat} (hT : T = "list" ∨ T = "tuple") (ho : s.heap.get? v = some o) (hc : o.cls = .type T) (hd : o.data = .seq items n) (hz : items.size ≤ sizeLine)
    (hQ : ∀ h2 : Heap, (∀ b u, s.heap.get? b = some u → h2.get? b = some u) → s.heap.objs.size ≤ h2.objs.size → Q items.toList { s with heap := h2 }) : wpAny (model P w) A (collect (.ref v)) Q E s := by
  let l0 : Obj := { cls := .type "list", data := .seq ([] : List Value).toArray }
  have g0 : (s.heap.push l0).get? s.heap.objs.size = some l0 := Heap.get?_push_size _ rfl
  have g1 := Heap.get?_update_self (Obj.mapSeq (· ++ items)) g0 rfl
  have done : wpAny (model P w) A (load s.heap.objs.size >>= fun o => match o.data with
      | Data.seq xs _ => pure xs.toList
      | _ => unsupported "internal:collect") Q E { s with heap := (s.heap.push l0).update s.heap.objs.size (Obj.mapSeq (· ++ items)) } := by
    refine wpAny_bind (wpAny_load g1 (wpAny_pure ?_))
    have e : ((#[] : Array Value) ++ items).toList = items.toList := by simp
    show Q ((#[] : Array Value) ++ items).toList _
    rw [e]
    refine hQ _ (fun b u q => (Heap.get?_update_other _ _ (Nat.ne_of_gt (Heap.lt_size q))).trans (Heap.get?_push_of_some _ q)) ?_
    rw [Heap.size_update, Heap.size_push]
    exact Nat.le_succ _
  unfold collect
  refine wpAny_bind (wpAny_runValue (codeAny_builtin F.entry_proto_collect ?_))
  rw [Around.under_plainId F.plain_proto_collect _]
  show wpAny _ A.in1 (newList [] >>= fun l => again (.builtin "list.__iadd__" ⟨[l, .ref v], []⟩)) _ _ s
  refine wpAny_bind (wpAny_newObj_type (wpAny_pure ⟨plainId_quiet F.plain_list_iadd _, codeAny_builtin F.entry_list_iadd ?_⟩))
  rw [Around.under_plainId F.plain_list_iadd _]
  refine wpAny_mono (wpAny_extend_seq (hsz := hz) (A := A) (R := fun r s2 => r = .ok (.ret (.ref s.heap.objs.size)) ∧ s2 = { s with heap := (s.heap.push l0).update s.heap.objs.size (Obj.mapSeq (· ++ items)) }) (s := { s with heap := s.heap.push l0 }) _ v _ 0 hT g0 (Heap.get?_push_of_some _ ho) hc hd ⟨rfl, rfl⟩) (fun fin s2 q => ?_) (fun e s2 q => absurd q.1 (by simp))
  match fin, q with
  | .done f, ⟨e, e2⟩ =>
    cases e
    subst e2
    exact done
  | .again c, q =>
    refine ⟨q.1, codeAny_mono q.2 fun r s3 hr => ?_⟩
    obtain ⟨rfl, rfl⟩ := hr
    exact done
theorem sorted_src {v : Value} {C : List Value → Prop} {ltv : Value → Value → Bool} {Q : Value → Shared → Prop} (O : Swo ltv)
    (hcol : wpAny (model P w) A.in1 (collect v) (fun vs s1 => C vs ∧ (∀ b o, s.heap.get? b = some o → s1.heap.get? b = some o) ∧ s.heap.objs.size ≤ s1.heap.objs.size ∧ s1.gens = s.gens ∧ s1.os = s.os) E s) (hz : ∀ vs, C vs → vs.length ≤ sizeLine)
    (hS : ∀ vs, C vs → 2 ≤ vs.length → ∀ (s1 : Shared) (a : Addr), s1.heap.get? a = some (seqObj "list" vs.toArray 0) → (∀ b o, s.heap.get? b = some o → s1.heap.get? b = some o) → SortableO P w A.in1.in1 s1 a vs ltv)
    (hQ : ∀ vs out s2 p n, C vs → Srtd ltv out → Stb ltv out vs → (∀ b o, s.heap.get? b = some o → s2.heap.get? b = some o) → s.heap.objs.size ≤ p → s2.heap.get? p = some (seqObj "list" out.toArray n) → s2.gens = s.gens → s2.os = s.os → Q (.ref p) s2) :
    wpAny (model P w) A (call (.builtin "sorted") [v]) Q E s := by
  refine Calls.call_function_entry kind_sorted plain_sorted entry_sorted (args_sorted1 _) ?_
  unfold Builtin.«sorted»
  refine wpAny_bind (m := checkCount "sorted" 1 1 _) (wpAny_pure ?_)
  refine wpAny_bind (wpAny_mono hcol (fun vs s1 ⟨c, k1, z1, g1, o1⟩ => ?_) fun _ _ z => z)
  refine wpAny_bind (wpAny_newList ?_ (hz vs c))
  have hoL : (s1.heap.push (seqObj "list" vs.toArray 0)).get? s1.heap.objs.size = some (seqObj "list" vs.toArray 0) := Heap.get?_push_size _ rfl
  have keep : ∀ b o, s.heap.get? b = some o → (s1.heap.push (seqObj "list" vs.toArray 0)).get? b = some o := fun b o q => Heap.get?_push_of_some _ (k1 b o q)
  refine wpAny_bind (wpAny_holding (wpAny_call_entry slot_list_sort ⟨_, hoL, rfl⟩ entry_list_sort (list_sort_ord (s := { s1 with heap := s1.heap.push (seqObj "list" vs.toArray 0) }) O hoL (hz vs c) (fun h2 => hS vs c h2 { s1 with heap := s1.heap.push (seqObj "list" vs.toArray 0) } _ hoL keep) fun out hs hb => ⟨_, rfl, ?_⟩) (args_list_sort _)))
  obtain ⟨n, hn⟩ := sortedHeap_at (vs := vs) (out := out.toArray) hoL
  refine wpAny_pure ⟨_, rfl, hQ vs out _ s1.heap.objs.size n c hs hb (fun b o e => ?_) z1 hn g1 o1⟩
  have q := k1 b o e
  have lt := Heap.lt_size q
  show (sortedHeap (s1.heap.push (seqObj "list" vs.toArray 0)) s1.heap.objs.size vs out.toArray).get? b = some o
  rw [sortedHeap_old (Nat.ne_of_lt lt) (by rw [size_push']; exact Nat.lt_succ_of_lt lt)]
  exact Heap.get?_push_of_some _ q
/-! ### texts -/
def kS (v : Value) : Str := match v with | .str x _ => x | _ => Str.empty
theorem strs_mem : ∀ {vs : List Value} {ss : List Str}, StrsAre vs ss → ∀ v ∈ vs, ∃ t, v = .str (kS v) t
  | _, _, .nil, _, h => nomatch h
  | _, _, .cons x t r, v, h => by
    rcases List.mem_cons.mp h with e | e
    · exact ⟨t, by rw [e]; rfl⟩
    · exact strs_mem r v e
theorem kS_strs : ∀ {vs : List Value} {ss : List Str}, StrsAre vs ss → vs.map kS = ss
  | _, _, .nil => rfl
  | _, _, .cons x t r => by rw [List.map_cons, kS_strs r]; rfl
theorem strs_of_mem : ∀ {vs : List Value}, (∀ v ∈ vs, ∃ t, v = .str (kS v) t) → StrsAre vs (vs.map kS)
  | [], _ => .nil
  | v :: r, h => by
    obtain ⟨t, e⟩ := h v List.mem_cons_self
    rw [List.map_cons]
    have q := StrsAre.cons (kS v) t (strs_of_mem fun u hu => h u (List.mem_cons_of_mem _ hu))
    rw [← e] at q
    exact q
theorem strs_sortable {a : Addr} {vs : List Value} {ss : List Str} (hS : StrsAre vs ss) (h2 : 2 ≤ vs.length) : SortableO P w A s a vs fun v u => lts (kS v) (kS u) := by
  intro h1 _
  refine ⟨oneType', fun Q E hq => ?_, fun p q hm hm' => ?_⟩
  · match vs, hS, h2 with
    | v1 :: v2 :: rest, hS, _ =>
      rw [keyKind_strs hS]
      exact wpAny_pure hq
    | [], _, h => exact absurd h (by decide)
    | [v], _, h => exact absurd h (by simp)
  · obtain ⟨t, e⟩ := strs_mem hS _ hm
    obtain ⟨u, e'⟩ := strs_mem hS _ hm'
    show wpAny (model P w) A (keyLt' oneType' p.1 q.1) (fun r s2 => s2 = _ ∧ r = lts (kS p.1) (kS q.1)) (fun _ _ => False) _
    rw [e, e', keyLt'_oneType]
    exact oneLt_str ⟨rfl, rfl⟩
/-! ### tuples, by their first items, which are different texts -/
/-- v is a tuple that begins with the text k v -/
def TupK (h : Heap) (k : Value → Str) (v : Value) : Prop := ∃ a o t n, ∃ xs : Array Value, v = .ref a ∧ h.get? a = some o ∧ o.cls = .type "tuple" ∧ o.data = .seq xs n ∧ xs[0]? = some (.str (k v) t)
theorem katTups_of {h : Heap} {k : Value → Str} : ∀ {vs : List Value}, (∀ v ∈ vs, TupK h k v) → ∃ fs, PySem.W.KatTups h vs fs ∧ fs.length = vs.length ∧ ∀ f ∈ fs, ∃ x t, f = .str x t
  | [], _ => ⟨[], PySem.W.KatTups.nil, rfl, fun _ z => nomatch z⟩
  | v :: r, hv => by
    obtain ⟨fs, k1, k2, k3⟩ := katTups_of (vs := r) fun u hu => hv u (List.mem_cons_of_mem _ hu)
    obtain ⟨a, o, t, n, xs, e, h1, h2, h3, h4⟩ := hv v List.mem_cons_self
    refine ⟨.str (k v) t :: fs, ?_, by rw [List.length_cons, List.length_cons, k2], fun f hf => ?_⟩
    · have q := PySem.W.KatTups.cons h1 h2 h3 h4 k1
      rw [← e] at q
      exact q
    · rcases List.mem_cons.mp hf with z | z
      · exact ⟨_, _, z⟩
      · exact k3 f z
theorem kat_self {b fin : Bool} {Q : Bool → Shared → Prop} : ∀ (l : List Value) (i : Nat), Q fin s → PySem.W.KatLex P w A b fin Q (l.zip l) i s
  | [], _, h => PySem.W.kat_nil h
  | v :: r, i, h => PySem.W.kat_cons (SeqAt.EqAt.same v P w _ _ (PySem.W.kat_yes (kat_self r (i + 1) h)))
theorem tups_sortable {a : Addr} {vs : List Value} {k : Value → Str} (hv : ∀ v ∈ vs, TupK s.heap k v) (inj : ∀ v ∈ vs, ∀ u ∈ vs, k v = k u → v = u) (ha : ∀ o, s.heap.get? a = some o → o.cls ≠ .type "tuple") (h2 : 2 ≤ vs.length) :
    SortableO P w A s a vs fun v u => lts (k v) (k u) := by
  intro h1 keep
  have hv1 : ∀ v ∈ vs, TupK h1 k v := fun v hm => by
    obtain ⟨b, o, t, n, xs, e, q1, q2, q3⟩ := hv v hm
    exact ⟨b, o, t, n, xs, e, keep b o (fun z => by subst z; exact ha o q1 q2) q1, q2, q3⟩
  obtain ⟨fs, f1, f2, f3⟩ := katTups_of hv1
  refine ⟨tuples' true, fun Q E hq => ?_, fun p q hm hm' => ?_⟩
  · refine PySem.W.kat_kind (T := .type "str") f1 (by omega) (fun f hf => ?_) (by rfl) ?_
    · obtain ⟨x, t, rfl⟩ := f3 f hf
      exact PySem.W.Looks.now
    · have e : (Value.type "str" != Value.type "tuple") = true := by first | decide +kernel | rfl | decide
      rw [e]
      exact hq
  · show wpAny (model P w) A (keyLt' (tuples' true) p.1 q.1) (fun r s2 => s2 = _ ∧ r = lts (k p.1) (k q.1)) (fun _ _ => False) _
    have hm : p.1 ∈ vs := hm
    have hm' : q.1 ∈ vs := hm'
    obtain ⟨x, ox, t, n, xs, ex, gx, cx, dx, fx⟩ := hv1 _ hm
    by_cases e : p.1 = q.1
    · rw [← e, lts_irrefl, ex]
      refine PySem.W.kat_lt gx dx gx dx (kat_self _ 0 ⟨rfl, ?_⟩)
      exact decide_eq_false (Nat.lt_irrefl _)
    · obtain ⟨y, oy, u, m, ys, ey, gy, cy, dy, fy⟩ := hv1 _ hm'
      have hne : ¬ k p.1 = k q.1 := fun z => e (inj _ hm _ hm' z)
      generalize k p.1 = kp at fx hne ⊢
      generalize k q.1 = kq at fy hne ⊢
      rw [ex, ey]
      refine PySem.W.kat_lt gx dx gy dy ?_
      obtain ⟨r1, e1⟩ : ∃ r, xs.toList = .str kp t :: r := by
        cases hh : xs.toList with
        | nil =>
          rw [← Array.getElem?_toList, hh] at fx
          cases fx
        | cons z r =>
          rw [← Array.getElem?_toList, hh] at fx
          exact ⟨r, by rw [Option.some.inj fx]⟩
      obtain ⟨r2, e2⟩ : ∃ r, ys.toList = .str kq u :: r := by
        cases hh : ys.toList with
        | nil =>
          rw [← Array.getElem?_toList, hh] at fy
          cases fy
        | cons z r =>
          rw [← Array.getElem?_toList, hh] at fy
          exact ⟨r, by rw [Option.some.inj fy]⟩
      rw [e1, e2, List.zip_cons_cons]
      refine PySem.W.kat_cons (SeqAt.EqAt.str_str kp t kq u P w _ _ ?_)
      have eb : (kp == kq) = false := beq_eq_false_iff_ne.mpr hne
      rw [eb]
      exact PySem.W.kat_no (oneLt_str ⟨rfl, rfl⟩)
end
/-! ### over the layer -/
/-- the set of the texts l at a -/
def SetL (P : Program) (w : World) (a : Addr) (l : List Str) : HO := .ext fun h => SetS P w h a l
section
variable {X : Cx}
theorem setL_new {P : Program} {w : World} {H : Hp} {h : Heap} {a : Addr} {l : List Str} (R : SetS P w h a l) : ObjOk P w H h a (SetL P w a l) := ⟨R, let ⟨_, ho, _⟩ := R; ⟨_, ho⟩, fun _ _ r k => r.at k⟩
theorem setL_get {pins : List (Addr × Obj)} {σ : L2.St} {H : Hp} {s : Shared} {a : Addr} {l : List Str} (I : Inv X pins σ H s) (ha : H a = some (SetL X.prog X.w a l)) : SetS X.prog X.w s.heap a l := (I.hok a _ ha).1
theorem strs_get : ∀ {xs : List Str} {its : List Value}, Vals (xs.map V.str) its → ∀ (i : Nat) (x : Value), its[i]? = some x → ∃ k t, xs[i]? = some k ∧ x = .str k t
  | [], [], .nil, i, x, h => by simp at h
  | k :: xs, _ :: _, .cons r t, 0, x, h => by
    obtain ⟨tk, e⟩ := r
    exact ⟨k, tk, rfl, by rw [← Option.some.inj h, e]⟩
  | k :: xs, _ :: _, .cons r t, i + 1, x, h => by
    obtain ⟨k', t', e1, e2⟩ := strs_get t i x h
    exact ⟨k', t', e1, e2⟩
theorem strsAre_vals : ∀ {ys : List Str} {us : List Value}, Vals (ys.map V.str) us → StrsAre us ys
  | [], _, .nil => .nil
  | y :: ys, _, .cons r t => by
    obtain ⟨k, rfl⟩ := r
    exact .cons y k (strsAre_vals t)
/-- a list or a tuple of texts -/
def TxtSeq (K : PySem.W.Frag) (H : Hp) (a : Addr) (xs : List Str) : Prop := SqT K H a (xs.map V.str) ∨ SqL K H a (xs.map V.str)
/-- set(xs) of texts -/
def rSetT (K : PySem.W.Frag) (P : Program) (w : World) : List V → Hp → VK → Prop := fun vs H Q => ∃ (a : Addr) (xs : List Str), vs = [.ref a] ∧ TxtSeq K H a xs ∧ xs.length < 1000 ∧ ∀ p, H p = none → Q (.ref p) (upd H p (SetL P w p (dedT xs)))
theorem c_setT (hc : X.calm = true) : CallR X (.type "set") (rSetT X.K X.prog X.w) := by
  intro pins s σ H vs us Q I r h
  obtain ⟨a, xs, rfl, hs, hl, q⟩ := h
  rw [Vals.ref1 r]
  have hb : xs.length + 1 < scanBound := Nat.lt_of_lt_of_le (Nat.succ_lt_succ hl) (by decide)
  have fin : ∀ (h2 : Heap) (tk : Nat), SetS X.prog X.w h2 s.heap.objs.size (dedT xs) → (∀ b o, s.heap.get? b = some o → h2.get? b = some o) → EP X pins σ Q (.ref s.heap.objs.size) { s with heap := h2, toks := tk } := fun h2 tk R k =>
    ⟨.ref _, upd H s.heap.objs.size (SetL X.prog X.w s.heap.objs.size (dedT xs)), I.laid (t' := tk) k (Nat.le_refl _) (setL_new R), rfl, q _ (I.hok.fresh (Nat.le_refl _))⟩
  rcases hs with hs | hs
  · obtain ⟨its, rv, hp, _⟩ := I.tuple hs
    have hz : its.length = xs.length := by rw [← rv.length, List.length_map]
    exact call_set_txt xs (I.ok.hd hc) (.inl ⟨rfl, hp⟩) (fun i x hx => strs_get rv i x (by simpa using hx)) (by simpa using hz) hb fin
  · obtain ⟨its, rv, hp, _⟩ := I.list hs
    have hz : its.length = xs.length := by rw [← rv.length, List.length_map]
    exact call_set_txt xs (I.ok.hd hc) (.inr ⟨rfl, hp.isList⟩) (fun i x hx => strs_get rv i x (by simpa using hx)) (by simpa using hz) hb fin
theorem rd_setT {K : PySem.W.Frag} {P : Program} {w : World} {H : Hp} {Q : VK} {a : Addr} {xs : List Str} (h : TxtSeq K H a xs) (hl : xs.length < 1000) (q : ∀ p H', H p = none → Same H H' → H' p = some (SetL P w p (dedT xs)) → Q (.ref p) H') : rSetT K P w [.ref a] H Q := ⟨a, xs, rfl, h, hl, fun p hp => q p _ hp (same_new hp) upd_same⟩
/-- len of a set of texts -/
def rLenSt (P : Program) (w : World) : List V → Hp → VK → Prop := fun vs H Q => ∃ (a : Addr) (l : List Str), vs = [.ref a] ∧ H a = some (SetL P w a l) ∧ l.length < 2 ^ 62 ∧ Q (.int (l.length : Nat)) H
theorem c_lenSt : CallR X (.builtin "len") (rLenSt X.prog X.w) := by
  intro pins s σ H vs us Q I r h
  obtain ⟨a, l, rfl, ha, hl, q⟩ := h
  rw [Vals.ref1 r]
  obtain ⟨D, ho, F, _⟩ := setL_get I ha
  have e : D.1.size = l.length := F.sz
  exact call_len_set (es := D.1) (ep := D.2.1) (t := D.2.2) ho ⟨rfl, rfl, rfl⟩ rfl F.fit (by rw [e]; omega) ⟨.int (l.length : Nat), H, I.tok _, ⟨_, by rw [e]⟩, q⟩
theorem rd_lenSt {P : Program} {w : World} {H : Hp} {Q : VK} {a : Addr} {l : List Str} (h : H a = some (SetL P w a l)) (hl : l.length < 2 ^ 62) (q : Q (.int (l.length : Nat)) H) : rLenSt P w [.ref a] H Q := ⟨a, l, rfl, h, hl, q⟩
theorem shared_eq {s s2 : Shared} (o : s2.os = s.os) : s2 = { s with heap := s2.heap, gens := s2.gens, drawn := s2.drawn, toks := s2.toks } := by
  cases s2
  cases s
  cases o
  rfl
/-- a new list at p in a later state -/
theorem laid_late {pins : List (Addr × Obj)} {σ : L2.St} {H : Hp} {s s2 : Shared} {p : Addr} {zs : List V} {out : List Value} {n : Nat} {Q : VK} (I : Inv X pins σ H s) (k : ∀ b o, s.heap.get? b = some o → s2.heap.get? b = some o) (hp : s.heap.objs.size ≤ p)
    (hg : s2.heap.get? p = some (seqObj "list" out.toArray n)) (rv : Vals zs out) (hz : zs.length ≤ sizeLine) (g : s2.gens = s.gens) (o : s2.os = s.os) (q : H p = none → Q (.ref p) (upd H p (.lst zs))) : EP X pins σ Q (.ref p) s2 := by
  have hn : H p = none := I.hok.fresh hp
  have J : Inv X pins σ (upd H p (.lst zs)) { s with heap := s2.heap, gens := s2.gens, drawn := s2.drawn, toks := s2.toks } :=
    I.call (ch := []) (Un.laid k hp hn) (I.hok.laid k hp ⟨hz, out, n, rv, hg⟩) (by rw [g]; exact I.bare) (fun _ z => nomatch z)
  rw [shared_eq o]
  exact ⟨.ref p, _, J, rfl, q hn⟩
theorem vals_strs : ∀ {us : List Value} {ys : List Str}, StrsAre us ys → Vals (ys.map V.str) us
  | _, _, .nil => .nil
  | _, _, .cons y t r => .cons ⟨t, rfl⟩ (vals_strs r)
/-- sorted of texts -/
def rSortT (K : PySem.W.Frag) (P : Program) (w : World) : List V → Hp → VK → Prop := fun vs H Q => ∃ (a : Addr) (xs : List Str), vs = [.ref a] ∧ (TxtSeq K H a xs ∨ H a = some (SetL P w a xs)) ∧ xs.length < 1000 ∧
  ∀ (ys : List Str) (p : Addr), ys.Perm xs → ys.Pairwise (fun x y => lts y x = false) → H p = none → Q (.ref p) (upd H p (.lst (ys.map V.str)))
theorem c_sortT (hc : X.calm = true) : CallR X (.builtin "sorted") (rSortT X.K X.prog X.w) := by
  intro pins s σ H vs us Q I r h
  obtain ⟨a, xs, rfl, hs, hl, q⟩ := h
  rw [Vals.ref1 r]
  refine sorted_src (C := fun vs => StrsAre vs (vs.map kS) ∧ (vs.map kS).Perm xs) (swo_key kS) ?_ (fun vs c => ?_) (fun vs c h2 s1 b _ _ => strs_sortable c.1 h2) fun vs out s2 p n c hs hb k hp hg g o => ?_
  · rcases hs with (hs | hs) | hs
    · obtain ⟨its, rv, ⟨oo, ho, hcl, nn, hd⟩, hz⟩ := I.tuple hs
      have st := strsAre_vals rv
      refine collect_seqZ (T := "tuple") a (.inr rfl) ho hcl hd (by simpa [← rv.length] using hz) fun h2 k kz => ?_
      refine ⟨?_, k, ?_, rfl, rfl⟩
      · rw [show its.toArray.toList = its by simp, kS_strs st]
        exact ⟨st, List.Perm.refl _⟩
      · exact kz
    · obtain ⟨its, rv, ⟨oo, nn, ho, hcl, _, hd⟩, hz⟩ := I.list hs
      have st := strsAre_vals rv
      refine collect_seqZ (T := "list") a (.inl rfl) ho hcl hd (by simpa [← rv.length] using hz) fun h2 k kz => ?_
      refine ⟨?_, k, ?_, rfl, rfl⟩
      · rw [show its.toArray.toList = its by simp, kS_strs st]
        exact ⟨st, List.Perm.refl _⟩
      · exact kz
    · obtain ⟨D, ho, F, pm, nd, hr, hled⟩ := setL_get I hs
      have hsz : D.1.size = xs.length := F.sz
      refine collect_set (a := a) (es := D.1) (ep := D.2.1) (t := D.2.2) (I.ok.hd hc) ⟨_, ho, rfl, rfl⟩ F.fit (by rw [hsz]; exact Nat.lt_of_lt_of_le hl (by decide)) hr hled fun s1 out k z g o pm2 => ?_
      have hm : ∀ v ∈ out, ∃ t, v = .str (kS v) t := fun v hv => by
        obtain ⟨e, he, rfl⟩ := List.mem_map.mp (pm2.mem_iff.mp hv)
        obtain ⟨⟨k0, q1, _⟩, _⟩ := F.el e he
        obtain ⟨t, ev⟩ := Value.isStrOf_shape (x := k0) (v := e.2) q1
        exact ⟨t, by rw [ev]; rfl⟩
      refine ⟨⟨strs_of_mem hm, ?_⟩, k, z, g, o⟩
      have e1 : D.1.toList.map txOf = (D.1.toList.map (·.2)).map kS := by rw [List.map_map]; rfl
      rw [e1] at pm
      exact (pm2.map kS).trans pm
  · have := c.2.length_eq
    rw [List.length_map] at this
    rw [this]
    exact small64 (by omega)
  · have hm : ∀ v ∈ out, ∃ t, v = .str (kS v) t := fun v hv => strs_mem c.1 v (hb.perm.mem_iff.mp hv)
    have st := strs_of_mem hm
    have pm : (out.map kS).Perm xs := (hb.perm.map kS).trans c.2
    refine laid_late I k hp hg (vals_strs st) ?_ g o (q _ p pm (List.pairwise_map.mpr hs))
    rw [List.length_map, pm.length_eq]
    exact small64 (by omega)
theorem rd_sortT {K : PySem.W.Frag} {P : Program} {w : World} {H : Hp} {Q : VK} {a : Addr} {xs : List Str} (h : TxtSeq K H a xs ∨ H a = some (SetL P w a xs)) (hl : xs.length < 1000) (q : ∀ (ys : List Str) (p : Addr) (H' : Hp), ys.Perm xs → ys.Pairwise (fun x y => lts y x = false) → H p = none → Same H H' → H' p = some (.lst (ys.map V.str)) → Q (.ref p) H') : rSortT K P w [.ref a] H Q :=
  ⟨a, xs, rfl, h, hl, fun ys p h1 h2 hp => q ys p _ h1 h2 hp (same_new hp) upd_same⟩
/-- sorted of tuples that begin with different texts: zs the texts and the tuples -/
def rSortK (K : PySem.W.Frag) : List V → Hp → VK → Prop := fun vs H Q => ∃ (a : Addr) (zs : List (Str × Addr)), vs = [.ref a] ∧ (SqT K H a (zs.map fun z => .ref z.2) ∨ SqL K H a (zs.map fun z => .ref z.2)) ∧ zs.length < 1000 ∧ (∀ z ∈ zs, ∃ r, SqT K H z.2 (.str z.1 :: r)) ∧ (zs.map (·.1)).Nodup ∧
  ∀ (ys : List (Str × Addr)) (p : Addr), ys.Perm zs → Asc (ys.map (·.1)) → H p = none → Q (.ref p) (upd H p (.lst (ys.map fun z => .ref z.2)))
theorem vals_refs : ∀ {zs : List (Str × Addr)} {us : List Value}, Vals (zs.map fun z => .ref z.2) us → us = zs.map fun z => .ref z.2
  | [], _, .nil => rfl
  | z :: zs, _, .cons r t => by
    have e : _ = Value.ref z.2 := r
    rw [List.map_cons, e, vals_refs t]
theorem refs_vals : ∀ (zs : List (Str × Addr)), Vals (zs.map fun z => V.ref z.2) (zs.map fun z => Value.ref z.2)
  | [] => .nil
  | z :: zs => .cons rfl (refs_vals zs)
theorem c_sortK : CallR X (.builtin "sorted") (rSortK X.K) := by
  intro pins s σ H vs us Q I r h
  obtain ⟨a, zs, rfl, hs, hl, ht, nd, q⟩ := h
  rw [Vals.ref1 r]
  -- the text of a tuple
  let k : Value → Str := fun v => match v with
    | .ref b => ((zs.find? fun z => decide (z.2 = b)).map (·.1)).getD Str.empty
    | _ => Str.empty
  have same : ∀ z ∈ zs, ∀ y ∈ zs, z.2 = y.2 → z = y := fun z hz y hy e => by
    obtain ⟨r1, h1⟩ := ht z hz
    obtain ⟨r2, h2⟩ := ht y hy
    rw [e] at h1
    have e1 := I.tuple_inj h1 h2
    injection e1 with e2
    injection e2 with e2
    exact Prod.ext e2 e
  have hk : ∀ z ∈ zs, k (.ref z.2) = z.1 := fun z hz => by
    show ((zs.find? fun y => decide (y.2 = z.2)).map (·.1)).getD Str.empty = z.1
    cases hf : zs.find? fun y => decide (y.2 = z.2) with
    | none =>
      have := List.find?_eq_none.mp hf z hz
      simp at this
    | some y =>
      have hy := List.mem_of_find?_eq_some hf
      have e := List.find?_some hf
      rw [same y hy z hz (of_decide_eq_true e)]
      rfl
  have injK : ∀ {l : List (Str × Addr)}, (l.map (·.1)).Nodup → ∀ z ∈ l, ∀ y ∈ l, z.1 = y.1 → z = y := by
    intro l
    induction l with
    | nil => intro _ z hz; exact nomatch hz
    | cons u l ih =>
      intro nd z hz y hy e
      rw [List.map_cons] at nd
      obtain ⟨n1, n2⟩ := List.nodup_cons.mp nd
      rcases List.mem_cons.mp hz with z1 | z1
      · rcases List.mem_cons.mp hy with z2 | z2
        · rw [z1, z2]
        · exact absurd (List.mem_map.mpr ⟨y, z2, by rw [← e, z1]⟩) n1
      · rcases List.mem_cons.mp hy with z2 | z2
        · exact absurd (List.mem_map.mpr ⟨z, z1, by rw [e, z2]⟩) n1
        · exact ih n2 z z1 y z2 e
  have tup : ∀ v ∈ zs.map (fun z => Value.ref z.2), TupK s.heap k v := fun v hv => by
    obtain ⟨z, hz, rfl⟩ := List.mem_map.mp hv
    obtain ⟨r1, h1⟩ := ht z hz
    obtain ⟨its, rv, ⟨o, ho, hcl, n, hd⟩, _⟩ := I.tuple h1
    cases rv with
    | cons rx rr =>
      obtain ⟨t, e⟩ := rx
      refine ⟨z.2, o, t, n, _, rfl, ho, hcl, hd, ?_⟩
      rw [hk z hz, e]
      rfl
  have inj : ∀ v ∈ zs.map (fun z => Value.ref z.2), ∀ u ∈ zs.map (fun z => Value.ref z.2), k v = k u → v = u := fun v hv u hu e => by
    obtain ⟨z, hz, rfl⟩ := List.mem_map.mp hv
    obtain ⟨y, hy, rfl⟩ := List.mem_map.mp hu
    rw [hk z hz, hk y hy] at e
    rw [injK nd z hz y hy e]
  refine sorted_src (C := fun vs => vs = zs.map fun z => Value.ref z.2) (swo_key k) ?_ (fun vs c => ?_) (fun vs c h2 s1 b hb kp => ?_) fun vs out s2 p n c hs hb kp hp hg g o => ?_
  · rcases hs with hs | hs
    · obtain ⟨its, rv, ⟨oo, ho, hcl, nn, hd⟩, hz⟩ := I.tuple hs
      refine collect_seqZ (T := "tuple") a (.inr rfl) ho hcl hd (by simpa [← rv.length] using hz) fun h2 k kz => ?_
      refine ⟨?_, k, kz, rfl, rfl⟩
      rw [vals_refs rv]
    · obtain ⟨its, rv, ⟨oo, nn, ho, hcl, _, hd⟩, hz⟩ := I.list hs
      refine collect_seqZ (T := "list") a (.inl rfl) ho hcl hd (by simpa [← rv.length] using hz) fun h2 k kz => ?_
      refine ⟨?_, k, kz, rfl, rfl⟩
      rw [vals_refs rv]
  · rw [c, List.length_map]
    exact small64 (by omega)
  · subst c
    refine tups_sortable (fun v hv => ?_) inj (fun o e hcl => ?_) h2
    · obtain ⟨b', o, t, n, xs, e, q1, q2⟩ := tup v hv
      exact ⟨b', o, t, n, xs, e, kp _ _ q1, q2⟩
    · rw [hb] at e
      rw [← Option.some.inj e] at hcl
      have z : Value.type "list" = Value.type "tuple" := hcl
      injection z with z
      exact absurd z (by decide)
  · subst c
    have mem : ∀ v ∈ out, ∃ z ∈ zs, v = .ref z.2 := fun v hv => by
      obtain ⟨z, hz, e⟩ := List.mem_map.mp (hb.perm.mem_iff.mp hv)
      exact ⟨z, hz, e.symm⟩
    -- the pairs behind
    have pull : ∀ {l : List Value} {m : List (Str × Addr)}, l.Perm (m.map fun z => Value.ref z.2) → ∃ ys : List (Str × Addr), ys.Perm m ∧ l = ys.map fun z => Value.ref z.2 := by
      intro l m hp
      generalize hM : (m.map fun z => Value.ref z.2) = M at hp
      have : ∀ {l M : List Value}, l.Perm M → ∀ m : List (Str × Addr), (m.map fun z => Value.ref z.2) = M → ∃ ys : List (Str × Addr), ys.Perm m ∧ l = ys.map fun z => Value.ref z.2 := by
        intro l M hp
        induction hp with
        | nil =>
          intro m hm
          rw [List.map_eq_nil_iff.mp hm]
          exact ⟨[], List.Perm.refl _, rfl⟩
        | cons x p ih =>
          intro m hm
          match m, hm with
          | y :: m, hm =>
            rw [List.map_cons] at hm
            injection hm with h1 h2
            obtain ⟨ys, p1, e1⟩ := ih m h2
            exact ⟨y :: ys, p1.cons y, by rw [List.map_cons, e1, h1]⟩
        | swap x y l =>
          intro m hm
          match m, hm with
          | a :: b :: m, hm =>
            rw [List.map_cons, List.map_cons] at hm
            injection hm with h1 h2
            injection h2 with h2 h3
            exact ⟨b :: a :: m, List.Perm.swap _ _ _, by rw [List.map_cons, List.map_cons, h1, h2, h3]⟩
        | trans p1 p2 ih1 ih2 =>
          intro m hm
          obtain ⟨ys, q1, e1⟩ := ih2 m hm
          obtain ⟨xs, q2, e2⟩ := ih1 ys e1.symm
          exact ⟨xs, q2.trans q1, e2⟩
      exact this hp m hM
    obtain ⟨ys, py, ey⟩ := pull hb.perm
    have hks : ∀ z ∈ ys, k (.ref z.2) = z.1 := fun z hz => hk z (py.mem_iff.mp hz)
    have asc : Asc (ys.map (·.1)) := by
      refine asc_of ?_ ((py.map (·.1)).nodup_iff.mpr nd)
      rw [ey] at hs
      have h1 := List.pairwise_map.mp hs
      refine List.pairwise_map.mpr ?_
      refine List.Pairwise.imp_of_mem ?_ h1
      intro x y hx hy q
      have q : lts (k (.ref y.2)) (k (.ref x.2)) = false := q
      rw [hks x hx, hks y hy] at q
      exact q
    subst ey
    refine laid_late I kp hp hg (refs_vals ys) ?_ g o (q ys p py asc)
    rw [List.length_map, py.length_eq]
    exact small64 (by omega)
theorem rd_sortK {K : PySem.W.Frag} {H : Hp} {Q : VK} {a : Addr} {zs : List (Str × Addr)} (h : SqT K H a (zs.map fun z => .ref z.2) ∨ SqL K H a (zs.map fun z => .ref z.2)) (hl : zs.length < 1000) (ht : ∀ z ∈ zs, ∃ r, SqT K H z.2 (.str z.1 :: r)) (nd : (zs.map (·.1)).Nodup)
    (q : ∀ (ys : List (Str × Addr)) (p : Addr) (H' : Hp), ys.Perm zs → Asc (ys.map (·.1)) → H p = none → Same H H' → H' p = some (.lst (ys.map fun z => .ref z.2)) → Q (.ref p) H') : rSortK K [.ref a] H Q := ⟨a, zs, rfl, h, hl, ht, nd, fun ys p h1 h2 hp => q ys p _ h1 h2 hp (same_new hp) upd_same⟩
end
end Rd
set_option Elab.async false
set_option linter.all false
set_option maxRecDepth 100000
set_option maxHeartbeats 4000000
/-! Rj: tuples whose object is known to have no dict, dicts made of pairs, updated, shown; a class called with a star and a keyword. -/
namespace Rd
open PySem PySem.Spec PyProof.Rows L2
/-! ### tuples without a dict of their own -/
def SqF (H : Hp) (a : Addr) (xs : List V) : Prop := ∃ o : Obj, o.dict = none ∧ H a = some (.frz o (.tup xs))
theorem SqF.sq {K : PySem.W.Frag} {H : Hp} {a : Addr} {xs : List V} (h : SqF H a xs) : SqT K H a xs := let ⟨o, _, e⟩ := h; .inl (.inr ⟨o, e⟩)
theorem SqF.same {H H' : Hp} {a : Addr} {xs : List V} (h : SqF H a xs) (s : Same H H') : SqF H' a xs := let ⟨o, d, e⟩ := h; ⟨o, d, s _ _ e⟩
def rMkTupF : List V → Hp → VK → Prop := fun xs H Q => xs.length ≤ sizeLine ∧ ∀ (p : Addr) (o : Obj), H p = none → o.dict = none → Q (.ref p) (upd H p (.frz o (.tup xs)))
section
variable {X : Cx} {es : List Expr} {t : TA} {k : Nat} {pos : Pos} {H : Hp} {Q : VK} {xs : List V} {K : PySem.W.Frag} {a : Addr}
theorem pe_tupF (h : PA X es t) : PE X (.Tuple es k pos) (tCB rMkTupF t) := by
  refine ⟨fun pins s σ H Q I hq => ?_⟩
  refine wpAny_Tuple_spliced (thn (h.run pos pins s σ H _ I hq) fun us s1 ⟨xs, H1, I1, r, z, q⟩ => ⟨by rw [← r.length]; exact z, ?_⟩)
  refine ⟨.ref s1.heap.objs.size, upd H1 s1.heap.objs.size (.frz { cls := .type "tuple", data := .seq us.toArray } (.tup xs)), I1.laid (t' := s1.toks) (fun b u e => Heap.get?_push_of_some _ e) (Nat.le_refl _) ?_, rfl, q _ _ (I1.hok.fresh (Nat.le_refl _)) rfl⟩
  exact ⟨Heap.get?_push_size _ rfl, z, us, r, ⟨_, Heap.get?_push_size _ rfl, rfl, _, rfl⟩⟩
theorem rd_mkTupF (hn : xs.length ≤ sizeLine) (q : ∀ p H', H p = none → Same H H' → SqF H' p xs → Q (.ref p) H') : rMkTupF xs H Q := ⟨hn, fun p o hp ho => q p _ hp (same_new hp) ⟨o, ho, upd_same⟩⟩
def rTupleF (K : PySem.W.Frag) : List V → Hp → VK → Prop := fun xs H Q => ∃ p ys, xs = [.ref p] ∧ SqL K H p ys ∧ ∀ (l : Addr) (o : Obj), H l = none → o.dict = none → Q (.ref l) (upd H l (.frz o (.tup ys)))
theorem c_tupleF : CallR X (.type "tuple") (rTupleF X.K) := by
  intro pins s σ H xs us Q I r h
  obtain ⟨p, ys, rfl, hq, q⟩ := h
  rw [Vals.ref1 r]
  obtain ⟨its, rv, pl, hz⟩ := I.list hq
  have hlen := rv.length
  refine call_tuple_list pl.isList (fun h2 kp => ?_) (by simp only [List.size_toArray] <;> omega)
  have I1 : L2.Inv X pins σ H { s with heap := h2 } := I.kept (t' := s.toks) kp
  refine ⟨.ref h2.objs.size, _, I1.laid (t' := s.toks) (o := .frz { cls := .type "tuple", data := .seq its.toArray } (.tup ys)) (fun b o e => Heap.get?_push_of_some _ e) (Nat.le_refl _) ?_, rfl, q _ _ (I1.hok.fresh (Nat.le_refl _)) rfl⟩
  exact ⟨Heap.get?_push_size _ rfl, hz, its, rv, IsTup.new _ _⟩
theorem rd_tupleF (h : SqL K H a xs) (q : ∀ l H', H l = none → Same H H' → SqF H' l xs → Q (.ref l) H') : rTupleF K [.ref a] H Q := ⟨a, xs, rfl, h, fun l o hl ho => q l _ hl (same_new hl) ⟨o, ho, upd_same⟩⟩
/-- a list display whose place is not that of sys.modules -/
def rMkLstN : List V → Hp → VK → Prop := fun xs H Q => xs.length ≤ sizeLine ∧ ∀ p : Addr, H p = none → p ≠ sysModules → Q (.ref p) (upd H p (.lst xs))
theorem pe_lstN (h : PA X es t) : PE X (.List es pos) (tCB rMkLstN t) := by
  refine ⟨fun pins s σ H Q I hq => ?_⟩
  refine wpAny_List_spliced (thn (h.run pos pins s σ H _ I hq) fun us s1 ⟨xs, H1, I1, r, z, q⟩ => ⟨by rw [← r.length]; exact z, ?_⟩)
  exact ⟨.ref s1.heap.objs.size, upd H1 s1.heap.objs.size (.lst xs), I1.laid (t' := s1.toks) (fun b u e => Heap.get?_push_of_some _ e) (Nat.le_refl _) ⟨z, us, 0, r, Heap.get?_push_size _ rfl⟩, rfl, q _ (I1.hok.fresh (Nat.le_refl _)) (Nat.ne_of_gt I1.big)⟩
theorem rd_mkLstN (hn : xs.length ≤ sizeLine) (q : ∀ p H', H p = none → p ≠ sysModules → Same H H' → H' p = some (.lst xs) → Q (.ref p) H') : rMkLstN xs H Q := ⟨hn, fun p hp np => q p _ hp np (same_new hp) upd_same⟩
end
/-! ### dicts -/
section
variable {X : Cx} {H : Hp} {Q : VK} {K : PySem.W.Frag} {a b : Addr} {kvs more : List (Key × V)} {σ : L2.St}
/-- a.update(b) -/
def rUpd : V → List V → Hp → VK → Prop := fun x xs H Q => ∃ (a b : Addr) (kvs more : List (Key × V)), x = .ref a ∧ xs = [.ref b] ∧ a ≠ b ∧ H a = some (.dK kvs) ∧ H b = some (.dK more) ∧ kvs.length + more.length ≤ sizeLine ∧ Q .non (upd H a (.dK (mergeK kvs more)))
theorem mt_upd : MtR X "dict.update" rUpd := by
  intro pins s σ H x xs v us Q I rx rxs h
  obtain ⟨a, b, kvs, more, rfl, rfl, hne, ha, hb, hz, q⟩ := h
  cases rx
  obtain ⟨u, rfl, ru⟩ := vals1 rxs
  cases ru
  obtain ⟨z1, s1, vs, rel, dd⟩ := dk_of I.hok ha
  obtain ⟨z2, s2, ws, rel2, dd2⟩ := dk_of I.hok hb
  have hl : (mergeK kvs more).length ≤ sizeLine := Nat.le_trans (length_mergeK more kvs) hz
  refine call_meetsIn F.slot_dict_update dd.typeIs F.entry_dict_update (F.args_dict_update_2 _ _) (meets_dict_update (mixKind X.prog X.w) a b hne s2) ⟨vs, ws, dd, dd2, by rw [← rel.length, ← rel2.length]; exact hz, fun h2 d1 d2 sb => ?_⟩
  have he : ∃ o, h2.get? a = some o := let ⟨o, _, _, e, _⟩ := d1; ⟨o, e⟩
  exact ⟨.non, _, I.write (e := a) (t' := s.toks) (o := .dK (mergeK kvs more)) (by rw [ha]; trivial) (.inl rfl) (fun c o hc e => (sb.2 c hc).trans e) he (dk_new hl s1 (KV.merge rel2 rel) d1), rfl, q⟩
theorem rd_upd (hne : a ≠ b) (ha : H a = some (.dK kvs)) (hb : H b = some (.dK more)) (hz : kvs.length + more.length ≤ sizeLine) (q : Q .non (upd H a (.dK (mergeK kvs more)))) : rUpd (.ref a) [.ref b] H Q := ⟨a, b, kvs, more, rfl, rfl, hne, ha, hb, hz, q⟩
theorem tyD (h : H a = some (.dK kvs)) : tyV K "dict" (.ref a) H := .inr (.inr (.inl ⟨rfl, .inl ⟨kvs, h⟩⟩))
/-- dict(t), t a tuple of pairs -/
def rDictT (K : PySem.W.Frag) : List V → Hp → VK → Prop := fun xs H Q => ∃ (a : Addr) (ps : List Addr) (kvs : List (Key × V)), xs = [.ref a] ∧ SqF H a (ps.map V.ref) ∧ Paired (fun p kv => SqT K H p [kV kv.1, kv.2]) ps kvs ∧ ∀ p, H p = none → Q (.ref p) (upd H p (.dK (mergeK [] kvs)))
theorem c_dictT (hc : X.calm = true) : CallR X (.type "dict") (rDictT X.K) := by
  intro pins s σ H xs us Q I r h
  obtain ⟨a, ps, kvs, rfl, ⟨o, hd, ho⟩, hp, q⟩ := h
  rw [Vals.ref1 r]
  obtain ⟨g1, hz, its, rv, ⟨o2, g2, hcl, n, hdat⟩⟩ := I.hok a _ ho
  rw [g1] at g2
  cases g2
  have ei := refs_at rv
  subst ei
  obtain ⟨prs, rel, hl, hpr⟩ := pairs_of I hp
  have hlen : ps.length = kvs.length := hp.length
  -- the pairs, by their keys and values
  have hpr2 : ∀ (j : Nat) (q : Key × Value), prs[j]? = some q → ∃ b u, ps[j]? = some b ∧ IsTup s.heap b #[u, q.2] ∧ (mixKind X.prog X.w).is q.1 u = true := fun j q e => hpr j q e
  have key : ∀ l : List (Key × Value), ∀ m : List Addr, l.length = m.length → (∀ (j : Nat) (q : Key × Value), l[j]? = some q → ∃ b u, m[j]? = some b ∧ IsTup s.heap b #[u, q.2] ∧ (mixKind X.prog X.w).is q.1 u = true) →
      ∃ us : List Value, us.length = l.length ∧ ∀ (j : Nat) (q : Key × Value), l[j]? = some q → ∃ b u, m[j]? = some b ∧ us[j]? = some u ∧ IsTup s.heap b #[u, q.2] ∧ (mixKind X.prog X.w).is q.1 u = true := by
    intro l
    induction l with
    | nil => intro m _ _; exact ⟨[], rfl, fun j q e => by simp at e⟩
    | cons z l ih =>
      intro m hm h
      match m, hm with
      | b :: m, hm =>
        obtain ⟨us, l1, l2⟩ := ih m (by simpa using hm) fun j q e => by
          obtain ⟨b', u, e1, e2, e3⟩ := h (j + 1) q e
          exact ⟨b', u, e1, e2, e3⟩
        obtain ⟨b', u, e1, e2, e3⟩ := h 0 z rfl
        refine ⟨u :: us, by rw [List.length_cons, List.length_cons, l1], fun j q e => ?_⟩
        cases j with
        | zero =>
          obtain rfl := Option.some.inj e
          exact ⟨b', u, e1, rfl, e2, e3⟩
        | succ j => exact l2 j q e
  obtain ⟨us, hul, hus⟩ := key prs ps hl hpr2
  let Ts : Nat → Addr := fun j => ps.getD j 0
  let PS : List (Value × Value) := us.zip (prs.map (·.2))
  have hPS : PS.length = ps.length := by
    show (us.zip (prs.map (·.2))).length = _
    rw [List.length_zip, List.length_map, hul, hl]
    simp
  have atPS : ∀ (j : Nat) (k v : Value), PS[j]? = some (k, v) → ∃ (q : Key × Value) (b : Addr), prs[j]? = some q ∧ ps[j]? = some b ∧ IsTup s.heap b #[k, v] ∧ (mixKind X.prog X.w).is q.1 k = true ∧ q.2 = v := fun j k v e => by
    obtain ⟨e1, e2⟩ := List.getElem?_zip_eq_some.mp e
    rw [List.getElem?_map] at e2
    obtain ⟨q, e3, e4⟩ := Option.map_eq_some_iff.mp e2
    obtain ⟨b, u, f1, f2, f3, f4⟩ := hus j q e3
    rw [f2] at e1
    cases e1
    rw [e4] at f3
    exact ⟨q, b, e3, f1, f3, f4, e4⟩
  have pit : PairItems s.heap (ps.map Value.ref).toArray Ts PS := by
    refine ⟨by rw [List.size_toArray, List.length_map, hPS], fun j k v e => ?_⟩
    obtain ⟨q, b, _, f1, f3, _⟩ := atPS j k v e
    have et : Ts j = b := by
      show ps.getD j 0 = b
      rw [List.getD_eq_getElem?_getD, f1]
      rfl
    rw [et]
    exact ⟨by simp [f1], .inl f3⟩
  have hzp : ps.length ≤ sizeLine := by simpa using hz
  refine PySem.call_dict_pairs (knd := mixKind X.prog X.w) (kvs := prs) (PairArg.tuple a (ps.map Value.ref).toArray Ts PS) (I.ok.hd hc) ⟨⟨o, n, g1, hcl, hd, hdat⟩, pit⟩ ⟨by rw [hPS, hl], fun j k v e => ?_⟩ (by rw [hPS]; exact hzp) fun h2 tk d2 kp => ?_
  · obtain ⟨q, b, f0, _, _, f4, f5⟩ := atPS j k v e
    exact ⟨q.1, by rw [f0, ← f5], f4⟩
  · have hm : (s.heap.objs.size == sysModules) = false := beq_eq_false_iff_ne.mpr (Nat.ne_of_gt I.big)
    have hlm : (mergeK [] kvs).length ≤ sizeLine := by
      refine Nat.le_trans (length_mergeK kvs []) ?_
      rw [List.length_nil, Nat.zero_add, ← hlen]
      exact hzp
    exact ⟨.ref s.heap.objs.size, _, I.laid (t' := tk) (o := .dK (mergeK [] kvs)) (fun b o e => kp b o (fun z => nomatch z) e) (Nat.le_refl _) (show ObjOk X.prog X.w _ _ _ (.dK (mergeK [] kvs)) from ⟨hlm, hm, merged [] prs, KV.merge rel .nil, d2⟩), rfl, q _ (I.hok.fresh (Nat.le_refl _))⟩
theorem rd_dictT {ps : List Addr} (h : SqF H a (ps.map V.ref)) (hp : Paired (fun p kv => SqT K H p [kV kv.1, kv.2]) ps kvs) (q : ∀ p H', H p = none → Same H H' → H' p = some (.dK (mergeK [] kvs)) → Q (.ref p) H') : rDictT K [.ref a] H Q := ⟨a, ps, kvs, rfl, h, hp, fun p hp => q p _ hp (same_new hp) upd_same⟩
/-- dict(l), l a list of pairs -/
def rDictL (K : PySem.W.Frag) : List V → Hp → VK → Prop := fun xs H Q => ∃ (a : Addr) (ps : List Addr) (kvs : List (Key × V)), xs = [.ref a] ∧ SqL K H a (ps.map V.ref) ∧ Paired (fun p kv => SqT K H p [kV kv.1, kv.2]) ps kvs ∧ ∀ p, H p = none → Q (.ref p) (upd H p (.dK (mergeK [] kvs)))
theorem c_dictL (hc : X.calm = true) : CallR X (.type "dict") (rDictL X.K) := call_dictP hc
theorem rd_dictL {ps : List Addr} (h : SqL K H a (ps.map V.ref)) (hp : Paired (fun p kv => SqT K H p [kV kv.1, kv.2]) ps kvs) (q : ∀ p H', H p = none → Same H H' → H' p = some (.dK (mergeK [] kvs)) → Q (.ref p) H') : rDictL K [.ref a] H Q := ⟨a, ps, kvs, rfl, h, hp, fun p hp => q p _ hp (same_new hp) upd_same⟩
/-- len(d) -/
def rLenD : List V → Hp → VK → Prop := fun xs H Q => ∃ (a : Addr) (kvs : List (Key × V)), xs = [.ref a] ∧ L2.Rd H a (.dK kvs) ∧ Q (.int (kvs.length : Nat)) H
theorem c_lenD : CallR X (.builtin "len") rLenD := by
  intro pins s σ H xs us Q I r h
  obtain ⟨a, kvs, rfl, ha, q⟩ := h
  rw [Vals.ref1 r]
  exact d_len I ha fun t s2 I2 => ⟨.int (kvs.length : Nat), H, I2, ⟨t, rfl⟩, q⟩
theorem rd_lenD (h : H a = some (.dK kvs)) (q : Q (.int (kvs.length : Nat)) H) : rLenD [.ref a] H Q := ⟨a, kvs, rfl, .inl h, q⟩
/-- sorted(d), keys texts -/
def rSortD : List V → Hp → VK → Prop := fun xs H Q => ∃ (a : Addr) (kvs : List (Key × V)) (ks : List Str), xs = [.ref a] ∧ L2.Rd H a (.dK kvs) ∧ kvs.map (·.1) = ks.map Sum.inr ∧ ks.length < 64 ∧
    ∀ ys p, ys.Perm ks → sortedS ys = true → H p = none → Q (.ref p) (upd H p (.lst (ys.map V.str)))
theorem c_sortD (hc : X.calm = true) : CallR X (.builtin "sorted") rSortD := call_sortedD hc
theorem rising_pw : ∀ (l : List Str) (x : Str), risingS x l = true → (x :: l).Pairwise fun a b => lts b a = false
  | [], x, _ => List.pairwise_singleton _ _
  | y :: l, x, h => by
    unfold risingS at h
    rw [Bool.and_eq_true] at h
    have ih := rising_pw l y h.2
    have e1 : lts y x = false := by
      have e0 := h.1
      rw [Bool.not_eq_true', ltCps_eq] at e0
      exact e0
    refine List.pairwise_cons.mpr ⟨fun z hz => ?_, ih⟩
    rcases List.mem_cons.mp hz with q | q
    · rw [q]; exact e1
    · exact lts_ntr e1 ((List.pairwise_cons.mp ih).1 z q)
theorem sortedS_pw {l : List Str} (h : sortedS l = true) : l.Pairwise fun a b => lts b a = false := by
  cases l with
  | nil => exact List.Pairwise.nil
  | cons x l => exact rising_pw l x h
theorem rd_sortD {ks : List Str} (h : H a = some (.dK kvs)) (hk : kvs.map (·.1) = ks.map Sum.inr) (hl : ks.length < 64) (nd : ks.Nodup) (q : ∀ (ys : List Str) (p : Addr) (H' : Hp), ys.Perm ks → Asc ys → H p = none → Same H H' → H' p = some (.lst (ys.map V.str)) → Q (.ref p) H') : rSortD [.ref a] H Q :=
  ⟨a, kvs, ks, rfl, .inl h, hk, hl, fun ys p h1 h2 hp => q ys p _ h1 (asc_of (sortedS_pw h2) (h1.nodup_iff.mpr nd)) hp (same_new hp) upd_same⟩
/-! readings of what the layer has -/
theorem rd_dget {td ty : TE} (q : td σ H fun x H1 => ty σ H1 fun y H2 => ∃ a v, x = .ref a ∧ DGet H2 a y (some v) ∧ Q v H2) : tDGet td ty σ H Q := q
theorem rd_din {td ty : TE} (q : ty σ H fun y H1 => td σ H1 fun x H2 => ∃ a o, x = .ref a ∧ DGet H2 a y o ∧ Q (.bl o.isSome) H2) : tDIn ty td σ H Q := q
theorem rd_dnotin {td ty : TE} (q : ty σ H fun y H1 => td σ H1 fun x H2 => ∃ a o, x = .ref a ∧ DGet H2 a y o ∧ Q (.bl (!o.isSome)) H2) : tDNotIn ty td σ H Q := q
theorem rd_dput {td ty tv : TE} {D : Ends} (q : tv σ H fun v H1 => td σ H1 fun x H2 => ty σ H2 fun y H3 => ∃ a H4, x = .ref a ∧ DPut H3 a y v H4 ∧ D.nx σ H4) : sDPut td ty tv D σ H := q
theorem dg_s {x : Str} (h : H a = some (.dK kvs)) : DGet H a (.str x) (valV kvs (Sum.inr x)) := DGet.k (k := Sum.inr x) h
theorem dp_s {x : Str} {v : V} (h : H a = some (.dK kvs)) (hl : kvs.length < sizeLine) : DPut H a (.str x) v (upd H a (.dK (putK kvs (Sum.inr x) v))) := DPut.k (k := Sum.inr x) h hl
end
/-! ### repr of data with dicts -/
mutual
/-- v is the data d: dicts, lists (not at the place of sys.modules), and data of tuples -/
inductive Dz (K : PySem.W.Frag) (H : Hp) : V → PyData → Prop
  | base {v : V} {d : PyData} : Dt K H v d → Dz K H v d
  | dic {a : Addr} {kvs : List (Key × V)} {ds : List PyData} : H a = some (.dK kvs) → DzAll K H (kvs.map (·.2)) ds → Dz K H (.ref a) (.dict ((kvs.map fun kv => match kv.1 with | .inl i => PyData.int i | .inr x => PyData.str x).zip ds))
  | lst {a : Addr} {xs : List V} {ds : List PyData} : SqL K H a xs → a ≠ sysModules → DzAll K H xs ds → Dz K H (.ref a) (.list ds)
inductive DzAll (K : PySem.W.Frag) (H : Hp) : List V → List PyData → Prop
  | nil : DzAll K H [] []
  | cons {v : V} {vs : List V} {d : PyData} {ds : List PyData} : Dz K H v d → DzAll K H vs ds → DzAll K H (v :: vs) (d :: ds)
end
section
variable {X : Cx} {pins : List (Addr × Obj)} {σ : L2.St} {H : Hp} {s : Shared}
mutual
theorem Dt.reads0 (I : L2.Inv X pins σ H s) : ∀ (d : PyData) (v : V) (u : Value), Dt X.K H v d → RelV v u → Reads s.heap u d []
  | .none, _, _, h, r => by cases h; cases r; exact Reads.none
  | .bool b, _, _, h, r => by cases h; cases r; exact Reads.bool b
  | .int i, _, _, h, r => by cases h; obtain ⟨t, rfl⟩ := r; exact Reads.int i t
  | .str x, _, _, h, r => by cases h; obtain ⟨t, rfl⟩ := r; exact Reads.str x t
  | .list _, _, _, h, _ => nomatch h
  | .dict _, _, _, h, _ => nomatch h
  | .tuple ds, _, _, h, r => by
    cases h with
    | tup h1 h2 =>
      cases r
      obtain ⟨its, rv, ⟨o, ho, hc, n, hd⟩, _⟩ := I.tuple h1
      exact Reads.tuple ho hc hd (by simpa using DtAll.reads0 I ds _ _ h2 rv)
theorem DtAll.reads0 (I : L2.Inv X pins σ H s) : ∀ (ds : List PyData) (vs : List V) (us : List Value), DtAll X.K H vs ds → Vals vs us → ReadsAll s.heap us ds []
  | [], _, _, h, r => by cases h; cases r; exact ReadsAll.nil
  | d :: ds, _, _, h, r => by
    cases h with
    | cons h1 h2 =>
      cases r with
      | cons r1 r2 => exact ReadsAll.cons (Dt.reads0 I d _ _ h1 r1) (DtAll.reads0 I ds _ _ h2 r2)
end
def encK (k : Key) : PyData := match k with | .inl i => .int i | .inr x => .str x
theorem reads_key {h : Heap} {P : Program} {w : World} (k : Key) (u : Value) (q : (mixKind P w).is k u = true) : Reads h u (encK k) [] := by
  rcases keyIs_shape q with ⟨i, t, e1, e2⟩ | ⟨x, t, e1, e2⟩
  · rw [e1, e2]
    exact Reads.int i t
  · rw [e1, e2]
    exact Reads.str x t
theorem pairsRead_of {h : Heap} : ∀ {kvs : List (Key × V)} {vs : List (Key × Value)} {ds : List PyData} {as : List Addr}, KV kvs vs → ReadsAll h (vs.map (·.2)) ds as → PyProof.V.PairsRead h encK vs ((kvs.map fun kv => encK kv.1).zip ds) as
  | [], _, _, _, .nil, r => by
    cases r
    exact PyProof.V.PairsRead.nil
  | (k, v) :: kvs, (k', u) :: vs, ds, as, .cons r1 r2, r => by
    obtain ⟨e, _⟩ := r1
    dsimp only at e
    subst e
    rw [List.map_cons] at r
    cases r with
    | cons q1 q2 => exact PyProof.V.PairsRead.cons q1 (pairsRead_of r2 q2)
theorem kv_vals : ∀ {kvs : List (Key × V)} {vs : List (Key × Value)}, KV kvs vs → Vals (kvs.map (·.2)) (vs.map (·.2))
  | _, _, .nil => .nil
  | _, _, .cons r t => .cons r.2 (kv_vals t)
mutual
theorem Dz.reads (I : L2.Inv X pins σ H s) : ∀ {d : PyData} {v : V} {u : Value}, Dz X.K H v d → RelV v u → ∃ as, Reads s.heap u d as ∧ sysModules ∉ as
  | _, _, _, .base h, r => ⟨[], Dt.reads0 I _ _ _ h r, fun z => nomatch z⟩
  | _, _, _, .lst h1 hn h2, r => by
    cases r
    obtain ⟨its, rv, ⟨o, n, ho, hc, _, hd⟩, _⟩ := I.list h1
    obtain ⟨as, q1, q2⟩ := DzAll.reads I h2 rv
    exact ⟨_, Reads.list ho hc hd (by simpa using q1), fun z => by
      rcases List.mem_cons.mp z with e | e
      · exact hn e.symm
      · exact q2 e⟩
  | _, _, _, .dic h1 h2, r => by
    cases r
    obtain ⟨_, hm, vs, rel, dd⟩ := dk_of I.hok h1
    obtain ⟨as, q1, q2⟩ := DzAll.reads I h2 (kv_vals rel)
    have hp := pairsRead_of rel q1
    refine ⟨_, PyProof.V.reads_dictOf (knd := mixKind X.prog X.w) (enc := encK) (fun k u q => reads_key k u q) dd hp, fun z => ?_⟩
    rcases List.mem_cons.mp z with e | e
    · rw [← e] at hm
      simp at hm
    · exact q2 e
theorem DzAll.reads (I : L2.Inv X pins σ H s) : ∀ {ds : List PyData} {vs : List V} {us : List Value}, DzAll X.K H vs ds → Vals vs us → ∃ as, ReadsAll s.heap us ds as ∧ sysModules ∉ as
  | _, _, _, .nil, .nil => ⟨[], ReadsAll.nil, fun z => nomatch z⟩
  | _, _, _, .cons h1 h2, .cons r1 r2 => by
    obtain ⟨as, q1, q2⟩ := Dz.reads I h1 r1
    obtain ⟨bs, q3, q4⟩ := DzAll.reads I h2 r2
    exact ⟨_, ReadsAll.cons q1 q3, fun z => (List.mem_append.mp z).elim q2 q4⟩
end
end
def rRepZ (K : PySem.W.Frag) : List V → Hp → VK → Prop := fun xs H Q => ∃ a d, xs = [.ref a] ∧ Dz K H (.ref a) d ∧ d.showable = true ∧ d.depth ≤ 60 ∧ d.shown.length ≤ sizeLine ∧ Q (.str d.shown) H
theorem c_reprZ {X : Cx} (hg : X.A.guards = some []) (hu : X.A.units + 64 < cLine) : CallR X (.builtin "repr") (rRepZ X.K) := by
  intro pins s σ H xs us Q I r h
  obtain ⟨a, d, rfl, hd, hs, hz, hl, q⟩ := h
  rw [Vals.ref1 r]
  obtain ⟨as, rd, nm⟩ := Dz.reads I hd rfl
  exact repr_of_reads' rd hs (fun _ => nm) hg (by omega) (fun _ _ e => e) (fun h' u tk hk => ⟨.str _, H, I.kept hk, ⟨_, rfl⟩, q⟩) hl
theorem rd_reprZ {K : PySem.W.Frag} {H : Hp} {Q : VK} {a : Addr} {d : PyData} (h : Dz K H (.ref a) d) (hs : d.showable = true) (hz : d.depth ≤ 60) (hl : d.shown.length ≤ sizeLine) (q : Q (.str d.shown) H) : rRepZ K [.ref a] H Q := ⟨a, d, rfl, h, hs, hz, hl, q⟩
end Rd
set_option Elab.async false
set_option linter.all false
set_option maxRecDepth 100000
set_option maxHeartbeats 4000000
/-! Rh: a class whose __init__ takes two values, a star and one keyword; defs with a default that is not used. -/
namespace Rd
open PySem PySem.Spec PyProof.Rows L2
/-- a promise of calls with positional values and the keyword kw: its value ahead of the others -/
def FnK (P : Program) (w : World) (K : PySem.W.Frag) (mg : Str → Option Value) (base : Heap) (CX : CXT) (k : Nat) (f : Addr) (kw : Str) (sp : Sp) : Prop :=
  ∀ (A : Around) (outer : List Env) (s : Shared) (H : Hp) (us : List Value) (vs : List V) (Q : VK) (E : XK) (u : Value) (v : V), Room k A → Env0 P w K mg base A outer s H → Vals vs us → RelV v u → sp (v :: vs) H Q E →
    codeAny (model P w) A (.call (.ref f) ⟨us, [(kw, u)]⟩) (CR CX outer P w H s Q E) s
/-- two values, the keyword's, the tuple of the rest -/
def spStarK (sp : Sp) : Sp := fun vs H Q E => ∃ v a b rest, vs = v :: a :: b :: rest ∧ rest.length ≤ sizeLine ∧ ∀ p H', H p = none → Same H H' → H' p = some (.tup rest) → sp [a, b, v, .ref p] H' Q E
section
variable {P : Program} {w : World} {K : PySem.W.Frag} {mg : Str → Option Value} {base : Heap} {CX : CXT} {k : Nat} {f : Addr} {x qual : Str} {st : Stmt} {N : List Str} {p1 p2 kw pv : Str}
theorem HasAt.starK {sp : Sp} (h : HasAt K f x qual st) (S : FnScope N [p1, p2, kw, pv] (defScope st)) (hCX : StX.CXUp CX)
    (hb : ∀ (kV doc pm : Value) (an : Option Addr) (cdv ct a b u : Value) (rest : List Value), bindArgs (PySem.W.fnOf x qual (defArgs st) (defBody st) (defScope st) .none kV doc pm an cdv ct) ⟨a :: b :: rest, [(kw, u)]⟩ = (newTuple rest >>= fun t => pure [(p1, a), (p2, b), (kw, u), (pv, t)]))
    (body : ∀ (cdv : Value) (A : Around) (outer : List Env) (s : Shared) (H : Hp) (Q : VK) (E : XK) (vs : List V), Room k (A.deeper (PyProof.Rows.envOfC qual (defScope st) s.heap.objs.size f cdv)) → sp vs H Q E →
      ∃ t, PSs (cxOf CX P w K mg base N qual (defScope st) f cdv A outer s H E) (defBody st) t ∧ t { nx := fun _ H' => Q .non H', rt := Q } (start N vs) H) :
    FnK P w K mg base CX (k + 1) f kw (spStarK sp) := by
  obtain ⟨fd, F⟩ := h
  obtain ⟨oc, od, dV, kV, doc, pm, an, cdv, ct, osl, e, lk, hcd, hD, hK⟩ := F.ex
  subst e
  rcases hD with ⟨_, e⟩ | ⟨e, _⟩
  · subst e
    intro A outer s H us vs Q E u v hr e0 r rv hsp
    obtain ⟨v', a, b, rest, ev, hz, hq⟩ := hsp
    obtain ⟨rfl, rfl⟩ := List.cons.inj ev
    match us, r with
    | ua :: ub :: ur, .cons ra (.cons rb rr) =>
      have hn : H s.heap.objs.size = none := e0.hok.fresh (Nat.le_refl _)
      have hl2 : ur.length ≤ sizeLine := by rw [← rr.length]; exact hz
      refine StX.run_bnd lk hcd S hr e0 (G := fun xs H2 => ∃ p, H p = none ∧ xs = [a, b, v, V.ref p] ∧ H2 = upd H p (.tup rest)) (fun A2 Ex Q2 hq2 => ?_) fun s2 H2 xs ⟨p, hp, ex, eH⟩ hr2 => ?_
      · rw [hb kV doc pm an cdv ct ua ub u ur]
        refine wpAny_bind (wpAny_newTuple (wpAny_pure ?_) hl2)
        have new : ObjOk P w (upd H s.heap.objs.size (.tup rest)) (s.heap.push ({ cls := .type "tuple", data := .seq ur.toArray } : Obj)) s.heap.objs.size (.tup rest) := ⟨hz, ur, rr, ⟨_, Heap.get?_push_size _ rfl, rfl, _, rfl⟩⟩
        have un := StX.un_laid (fs := frs outer) (s := s) (o := ({ cls := .type "tuple", data := .seq ur.toArray } : Obj)) (u := .tup rest) hn
        exact hq2 _ _ [a, b, v, V.ref s.heap.objs.size] [ua, ub, u, Value.ref s.heap.objs.size] (StX.env0_laid e0 new) un rfl (fun e s' => hCX outer s H _ _ E e s' un (fun c o q => Heap.get?_push_of_some _ q) rfl) (.cons ra (.cons rb (.cons rv (.cons rfl .nil)))) rfl ⟨_, hn, rfl, rfl⟩
      · subst ex eH
        exact body cdv A outer s2 _ Q E _ hr2 (hq p _ hp (same_new hp) upd_same)
  · exact absurd rfl e
end
end Rd
namespace Rd
open PySem PySem.Spec PyProof.Rows L2
section
variable {P : Program} {w : World} {K : PySem.W.Frag} {mg : Str → Option Value} {base : Heap} {CX : CXT} {k : Nat} {f : Addr} {x qual : Str} {st : Stmt} {N : List Str} {p1 p2 kw pv : Str}
/-- the def st at f, with a default of its keyword -/
def HasAtK (K : PySem.W.Frag) (f : Addr) (x qual : Str) (st : Stmt) (kw : Str) (dv : V) : Prop := ∃ fd, FunD K x qual (defArgs st) (defBody st) (defScope st) [] [(kw, dv)] f fd
theorem HasAtK.at {dv : V} (h : HasAtK K f x qual st kw dv) : HasAt K f x qual st := by
  obtain ⟨fd, ⟨oc, od, dV, kV, doc, pm, an, cdv, ct, osl, e, lk, hcd, hD, hK⟩, kp⟩ := h
  exact ⟨fd, ⟨oc, od, dV, kV, doc, pm, an, cdv, ct, osl, e, lk, hcd, hD, .inl rfl⟩, kp⟩
/-- the keyword is left out -/
def spStarD (dv : V) (sp : Sp) : Sp := fun vs H Q E => ∃ a b rest, vs = a :: b :: rest ∧ rest.length ≤ sizeLine ∧ ∀ p H', H p = none → Same H H' → H' p = some (.tup rest) → sp [a, b, dv, .ref p] H' Q E
theorem HasAtK.starD {sp : Sp} {dv : V} (h : HasAtK K f x qual st kw dv) (S : FnScope N [p1, p2, kw, pv] (defScope st)) (hCX : StX.CXUp CX)
    (hb : ∀ (D : Addr) (doc pm : Value) (an : Option Addr) (cdv ct a b : Value) (rest : List Value), ∃ (β γ : Type) (k1 : Option Value → Sem β) (k2 : β → Sem γ) (k3 : γ → Sem (List (Str × Value))) (c : Value → β), bindArgs (PySem.W.fnOf x qual (defArgs st) (defBody st) (defScope st) .none (.ref D) doc pm an cdv ct) ⟨a :: b :: rest, []⟩ = (((nsGet D kw >>= k1) >>= k2) >>= k3) ∧ (∀ u, k1 (some u) = pure (c u)) ∧ ∀ u, (k2 (c u) >>= k3) = (newTuple rest >>= fun t => pure [(p1, a), (p2, b), (kw, u), (pv, t)]))
    (body : ∀ (cdv : Value) (A : Around) (outer : List Env) (s : Shared) (H : Hp) (Q : VK) (E : XK) (vs : List V), Room k (A.deeper (PyProof.Rows.envOfC qual (defScope st) s.heap.objs.size f cdv)) → sp vs H Q E →
      ∃ t, PSs (cxOf CX P w K mg base N qual (defScope st) f cdv A outer s H E) (defBody st) t ∧ t { nx := fun _ H' => Q .non H', rt := Q } (start N vs) H) :
    FnR P w K mg base CX (k + 1) f (spStarD dv sp) := by
  obtain ⟨fd, F⟩ := h
  obtain ⟨oc, od, dV, kV, doc, pm, an, cdv, ct, osl, e, lk, hcd, hD, hK⟩ := F.ex
  subst e
  rcases hD with ⟨_, e⟩ | ⟨e, _⟩
  · subst e
    rcases hK with e | ⟨D, e, hq0⟩
    · exact nomatch e
    subst e
    obtain ⟨u, hu, ru⟩ := hq0 (kw, dv) List.mem_cons_self
    intro A outer s H us vs Q E hr e0 r hsp
    obtain ⟨a, b, rest, ev, hz, hq⟩ := hsp
    subst ev
    match us, r with
    | ua :: ub :: ur, .cons ra (.cons rb rr) =>
      have hn : H s.heap.objs.size = none := e0.hok.fresh (Nat.le_refl _)
      have hl2 : ur.length ≤ sizeLine := by rw [← rr.length]; exact hz
      have KX : K.In s.heap := e0.mod.kin.keeps fun b o e => (e0.bs b o e).1
      refine StX.run_bnd lk hcd S hr e0 (G := fun xs H2 => ∃ p, H p = none ∧ xs = [a, b, dv, V.ref p] ∧ H2 = upd H p (.tup rest)) (fun A2 Ex Q2 hq2 => ?_) fun s2 H2 xs ⟨p, hp, ex, eH⟩ hr2 => ?_
      · obtain ⟨β, γ, k1, k2, k3, c, e1, e2, e3⟩ := hb D doc pm an cdv ct ua ub ur
        rw [e1, bind_assoc]
        refine wpAny_bind (((PySem.W.looks_nsIn KX hu).andThen (PySem.W.Looks.of_pure (e2 u))).here ?_)
        rw [e3 u]
        refine wpAny_bind (wpAny_newTuple (wpAny_pure ?_) hl2)
        have new : ObjOk P w (upd H s.heap.objs.size (.tup rest)) (s.heap.push ({ cls := .type "tuple", data := .seq ur.toArray } : Obj)) s.heap.objs.size (.tup rest) := ⟨hz, ur, rr, ⟨_, Heap.get?_push_size _ rfl, rfl, _, rfl⟩⟩
        have un := StX.un_laid (fs := frs outer) (s := s) (o := ({ cls := .type "tuple", data := .seq ur.toArray } : Obj)) (u := .tup rest) hn
        exact hq2 _ _ [a, b, dv, V.ref s.heap.objs.size] [ua, ub, u, Value.ref s.heap.objs.size] (StX.env0_laid e0 new) un rfl (fun e s' => hCX outer s H _ _ E e s' un (fun c o q => Heap.get?_push_of_some _ q) rfl) (.cons ra (.cons rb (.cons ru (.cons rfl .nil)))) rfl ⟨_, hn, rfl, rfl⟩
      · subst ex eH
        exact body cdv A outer s2 _ Q E _ hr2 (hq p _ hp (same_new hp) upd_same)
  · exact absurd rfl e
end
end Rd
namespace Rd
open PySem PySem.Spec PyProof.Rows L2
section
variable {P : Program} {w : World} {K : PySem.W.Frag} {mg : Str → Option Value} {base : Heap} {CX : CXT} {k : Nat} {f : Addr} {x qual : Str} {st : Stmt} {N : List Str} {p1 p2 kw pv : Str}
/-- a def with defaults, all of which are given -/
def HasAtD (K : PySem.W.Frag) (f : Addr) (x qual : Str) (st : Stmt) : Prop := ∃ dv fd, FunD K x qual (defArgs st) (defBody st) (defScope st) [dv] [] f fd
theorem HasAtD.fn {α : Type} {args : α → List V} {pre : α → Hp → VK → XK → Prop} {gd : Bool} {ps : List Str} (h : HasAtD K f x qual st) (S : FnScope N ps (defScope st)) (hl : ∀ a, (args a).length = ps.length)
    (hb : ∀ (T : Addr) (kV doc pm : Value) (an : Option Addr) (cdv ct : Value) (us : List Value), us.length = ps.length → ∃ k : Option (Array Value) → Sem (List (Str × Value)), bindArgs (PySem.W.fnOf x qual (defArgs st) (defBody st) (defScope st) (.ref T) kV doc pm an cdv ct) ⟨us, []⟩ = (seqItems? (.ref T) >>= k) ∧ ∀ its, its.size = 1 → k (some its) = pure (ps.zip us))
    (body : ∀ (cdv : Value) (A : Around) (outer : List Env) (s : Shared) (H : Hp) (Q : VK) (E : XK) (a : α), RoomG gd k (A.deeper (PyProof.Rows.envOfC qual (defScope st) s.heap.objs.size f cdv)) → pre a H Q E →
      ∃ t, PSs (cxOf CX0 P w K mg base N qual (defScope st) f cdv A outer s H E).nox (defBody st) t ∧ t { nx := fun _ H' => Q .non H', rt := Q } (start N (args a)) H) :
    FnG gd P w K mg base CX0 (k + 1) f (mkSp args pre) := by
  obtain ⟨dv, fd, F⟩ := h
  obtain ⟨oc, od, dV, kV, doc, pm, an, cdv, ct, osl, e, lk, hcd, hD, hK⟩ := F.ex
  subst e
  rcases hD with ⟨e, _⟩ | ⟨_, T, o, its, n, e, lT, oT, rT⟩
  · exact nomatch e
  subst e
  intro A outer s H us vs Q E hr e0 r hsp
  obtain ⟨a, rfl, ha⟩ := hsp
  have hu : us.length = ps.length := by rw [← Vals.length r]; exact hl a
  have KX : K.In s.heap := e0.mod.kin.keeps fun b o e => (e0.bs b o e).1
  refine StX.run_bnd lk hcd S hr.toRoom e0 (G := fun xs H2 => xs = args a ∧ H2 = H) (fun A2 Ex Q2 hq => ?_) fun s2 H2 xs hx hr2 => ?_
  · obtain ⟨kk, e1, e2⟩ := hb T kV doc pm an cdv ct us hu
    have L : PySem.W.Looks (model P w) s.heap (bindArgs (PySem.W.fnOf x qual (defArgs st) (defBody st) (defScope st) (.ref T) kV doc pm an cdv ct) ⟨us, []⟩) (ps.zip us) := by
      rw [e1]
      exact looks_items KX lT oT (by rw [e2 _ (by rw [List.size_toArray, ← rT.length]; rfl)]; exact .now)
    exact L.here (hq s H _ us e0 Un.refl rfl (fun _ _ z => z) r (hl a) ⟨rfl, rfl⟩)
  · obtain ⟨rfl, rfl⟩ := hx
    obtain ⟨t, q1, q2⟩ := body cdv A outer s2 H2 Q E a ⟨hr2, hr.gs⟩ ha
    exact ⟨t, q1.nox, q2⟩
end
end Rd
namespace Rd
open PySem PySem.Spec PyProof.Rows L2
/-! ### c(e, *xs, kw = v), c a local name that holds the class -/
section
variable {M : Model} {A : Around} {Ex : Value → Shared → Prop} {s : Shared}
theorem ks_callK {f : Value} {first : List Value} {pos : Pos} {Q : Value → Shared → Prop} {Pr : Heap → Prop} {args : List (Bool × Sem Value)} {kws : List (Option Str × Sem Value)} (hst : args.any (·.1) = true)
    (hk : ∀ h, Pr h → ∃ k, (k = Keeper.frame ∨ k = Keeper.machine ∨ k = Keeper.boundFrame) ∧ PySem.W.Looks M h (keeperOf f) k)
    (h : wpAny M A (evalArgs f true args kws) (fun a s1 => Pr s1.heap ∧ wpAny M A (call f (first ++ a.pos) a.kw) Q Ex s1) Ex s) : wpAny M A (callWith pos f first args kws) Q Ex s := by
  unfold callWith
  refine wpAny_bind (wpAny_holding (wpAny_mono h (fun a s1 q => wpAny_bind (wpAny_standAt ?_)) fun _ _ z => z))
  obtain ⟨k, hk2, L⟩ := hk _ q.1
  simp only [hst, Bool.true_or]
  refine wpAny_bind (L.here ?_)
  have tail : ∀ {t : Sem Value}, wpAny M A t Q Ex s1 → wpAny M A (t >>= fun r => holding [r] point >>= fun _ => pure r) Q Ex s1 := fun ht => wpAny_bind (wpAny_mono ht (fun r s2 hr => wpAny_bind (wpAny_holding (wpAny_point (wpAny_pure hr)))) fun _ _ z => z)
  have marked (mk : Value) : wpAny M A (callMarked mk f (first ++ a.pos) a.kw) Q Ex s1 := by
    unfold callMarked
    exact Calls.wpAny_keep q.2
  rcases hk2 with rfl | rfl | rfl <;> dsimp only <;> first | exact tail (marked _) | exact tail (wpAny_operating q.2)
end
end Rd
namespace Rd
open PySem PySem.Spec PyProof.Rows L2
def oneV (R : V → Hp → Prop) : List V → Hp → Prop
  | [v], H => R v H
  | _, _ => False
theorem oneV_inv {R : V → Hp → Prop} : ∀ {zs : List V} {H : Hp}, oneV R zs H → ∃ v, zs = [v] ∧ R v H
  | [v], _, h => ⟨v, rfl, h⟩
  | [], _, h => h.elim
  | _ :: _ :: _, _, h => h.elim
def rMkSK (K : PySem.W.Frag) (C : Addr) (sp : Sp) (E : XK) (tk : TE) (σ : L2.St) (Q : VK) (vs : List V) (H : Hp) : Prop := tk σ H fun v H1 => ∀ x dx, H1 x = none → H1 dx = none → dx ≠ x → sp (v :: V.ref x :: vs) (upd (upd H1 dx (.own x)) x (.ins C dx [])) (fun v H2 => v = .non ∧ Q (.ref x) H2) E
def tMkSK (K : PySem.W.Frag) (i : Nat) (C : Addr) (sp : Sp) (E : XK) (t : TA) (tk : TE) : TE := fun σ H Q => σ[i]? = some (some (.ref C)) ∧ t σ H fun vs H1 => rMkSK K C sp E tk σ Q vs H1
section
variable {X : Cx} {CX : CXT} {k i : Nat} {f C : Addr} {sp : Sp} {E : XK} {x kw : Str} {e e2 e3 : Expr} {es : List Expr} {te tk : TE} {t : TA} {p pos sp_ kpos : Pos}
theorem run_makeSK {pins : List (Addr × Obj)} {σ : L2.St} {H : Hp} {s : Shared} {Q : VK} {us : List Value} {vs : List V} {u : Value} {v : V} (M : Mk X.K C f) (F : FnK X.prog X.w X.K X.mg X.base CX k f kw sp) (hr : Room (k + 1) X.A) (hx : Passes CX X E) (I : L2.Inv X pins σ H s) (r : Vals vs us) (rv : RelV v u)
    (h : ∀ x dx, H x = none → H dx = none → dx ≠ x → sp (v :: V.ref x :: vs) (upd (upd H dx (.own x)) x (.ins C dx [])) (fun v H2 => v = .non ∧ Q (.ref x) H2) E) :
    wpAny (model X.prog X.w) X.A (call (.ref C) us [(kw, u)]) (EP X pins σ Q) X.xe s := by
  have hq := h (s.heap.objs.size + 1) s.heap.objs.size (I.hok.fresh (Nat.le_succ _)) (I.hok.fresh (Nat.le_refl _)) (Nat.ne_of_lt (Nat.lt_succ_self _))
  have I2 := Inv.made (C := C) I
  have r2 : Vals (V.ref (s.heap.objs.size + 1) :: vs) (Value.ref (s.heap.objs.size + 1) :: us) := .cons rfl r
  refine wpAny_call (make_map (f := f) I.kIn M.makes M.init (beq_iff_eq.mp M.fn) (codeAny_mono (F _ X.stack _ _ (Value.ref (s.heap.objs.size + 1) :: us) _ _ E u v (hr.make C us [(kw, u)]) (I2.env0.make C us [(kw, u)]) r2 rv hq) fun r s2 hq2 => ?_))
  match r, hq2 with
  | .error e, hq2 => exact hx pins σ _ _ e s2 I2 hq2
  | .ok .next, hq2 => exact False.elim hq2
  | .ok .brk, hq2 => exact False.elim hq2
  | .ok .cont, hq2 => exact False.elim hq2
  | .ok (.ret z), hq2 =>
    obtain ⟨v3, H3, I3, rv3, ev, q3⟩ := I2.after hq2
    subst ev
    exact ⟨rv3, ⟨V.ref (s.heap.objs.size + 1), H3, I3, rfl, q3⟩⟩
theorem rd_mkSK {K : PySem.W.Frag} {σ : L2.St} {H : Hp} {Q : VK} (h : σ[i]? = some (some (.ref C))) (q : t σ H fun vs H1 => rMkSK K C sp E tk σ Q vs H1) : tMkSK K i C sp E t tk σ H Q := ⟨h, q⟩
theorem pe_mkSK (M : Mk X.K C f) (F : FnK X.prog X.w X.K X.mg X.base CX k f kw sp) (hr : Room (k + 1) X.A) (hx : Passes CX X E) (hN : X.N[i]? = some x) (hv : Vis X.env.scope x) (ha : PA X [e, .Starred e2 sp_] t) (hk : PE X e3 tk) (hd : (x == ("__debug__" : Str)) = false := by decide) (hcd : (x == ("__classdict__" : Str)) = false := by decide)
    (he : starEach [e, .Starred e2 sp_] X.env = (false, eval e X.env) :: starEach [.Starred e2 sp_] X.env := by rfl) (hst : (backTo pos (starEach [e, .Starred e2 sp_] X.env)).any (·.1) = true := by rfl) (hall : (backToKw pos (keywordEach [⟨some kw, e3, kpos⟩] X.env)).all (·.1.isSome) = true := by rfl)
    (hks : (backToKw pos (keywordEach [⟨some kw, e3, kpos⟩] X.env)).filterMap (·.1) = [kw] := by rfl) : PE X (.Call (.Name x p) [e, .Starred e2 sp_] [⟨some kw, e3, kpos⟩] pos) (tMkSK X.K i C sp E t tk) := by
  refine ⟨fun pins s σ H Q I h => ?_⟩
  obtain ⟨hs, h⟩ := h
  refine wpAny_Call_Name_kw (thn ((pe_var (pos := p) (i := i) hN hv hd hcd).run pins s σ H (fun v H1 => v = .ref C ∧ H1 = H) I ⟨.ref C, hs, rfl, rfl⟩) fun u s1 ⟨v, H1, I1, r1, ev, eH⟩ => ?_)
  subst ev
  rw [eH] at I1
  cases r1
  refine ks_callK hst (PySem.W.keeps_K M.kp) (evalArgs_kw2 hall (thn (ha.run pos pins s1 σ H _ I1 h) fun us s2 ⟨vs, H2, I2, r, q⟩ => ?_) he)
  have q' : tCons tk tNil σ H2 (oneV fun v H3 => ∀ x dx, H3 x = none → H3 dx = none → dx ≠ x → sp (v :: V.ref x :: vs) (upd (upd H3 dx (.own x)) x (.ins C dx [])) (fun v H2 => v = .non ∧ Q (.ref x) H2) E) := q
  refine thn ((pk_cons hk pk_nil).run pos pins s2 σ H2 _ I2 q') fun ws s3 ⟨zs, H3, I3, rz, q3⟩ => ⟨I3.kIn, ?_⟩
  obtain ⟨v, rfl, q3⟩ := oneV_inv q3
  obtain ⟨u, rfl, ru⟩ := vals1 rz
  rw [hks]
  exact run_makeSK M F hr hx I3 r ru q3
end
end Rd
set_option Elab.async false
set_option linter.all false
set_option maxRecDepth 100000
set_option maxHeartbeats 4000000
/-! Ri: dict comprehensions, comprehensions over texts and over two sources, order of texts, a sign in a text. -/
namespace Rd
open PySem PySem.Spec PyProof.Rows L2
section
variable {X : Cx}
theorem sw_trueD {kx vx : Expr} {gs : List Comprehension} {scope : Scope} {pos py : Pos} {y : Str} {l : Nat} {env : Env} (hk : env.scope.kind = .function) (hy : env.scope.names.lookup y = some .local) (hl : (py.line == pos.line) = true)
    (ha : (scope.names.any fun (n, k) => n == y && (k == .local || k == .cell)) = false) : swapsWith (.DictComp kx vx gs scope pos) (some (.Name y py)) l env = pure true := by
  have ky : env.kindOf y = some .local := hy
  have hb : env.blockKind = .function := by unfold Env.blockKind; rw [hk]; rfl
  unfold swapsWith
  simp only [hb, ky, ha]
  have e : (py.line == (Expr.DictComp kx vx gs scope pos).pos.line) = true := hl
  rw [e]
  rfl
/-- y = {k: v for ..} -/
theorem ps_setDc {i : Nat} {y : Str} {py : Pos} {kx vx tg iter : Expr} {ifs : List Expr} {scope : Scope} {own : List (Str × Nat)} {pos spos : Pos} {wi : TI} {g : TG} {tt : TT} {tk tv : TE} (hc : X.calm = true) (hN : X.N.Nodup) (hy : X.N[i]? = some y) (hyl : X.env.scope.names.lookup y = some .local)
    (hsw : swapsWith (.DictComp kx vx [⟨tg, iter, ifs, 0⟩] scope pos) (some (.Name y py)) spos.line X.env = pure true) (hi : PI X tg iter wi) (ok : BlkOk X.N X.env.scope scope own)
    (hg : ∀ (s : Shared) (H : Hp) (C : Addr) (cl : List (Str × Addr)) (fp : List Addr), PG (X.blk s H scope (compEnvC scope cl C X.env) fp) tg g) (ht : ∀ (s : Shared) (H : Hp) (C : Addr) (cl : List (Str × Addr)) (fp : List Addr), PTs (X.blk s H scope (compEnvC scope cl C X.env) fp) ifs tt)
    (hk : ∀ (s : Shared) (H : Hp) (C : Addr) (cl : List (Str × Addr)) (fp : List Addr), PE (X.blk s H scope (compEnvC scope cl C X.env) fp) kx tk)
    (he : ∀ (s : Shared) (H : Hp) (C : Addr) (cl : List (Str × Addr)) (fp : List Addr), PE (X.blk s H scope (compEnvC scope cl C X.env) fp) vx tv) (hs : ∀ x, foldedSetIterable iter X.env x = pure x := by intro _; rfl) :
    PS X (.Assign [.Name y py] (.DictComp kx vx [⟨tg, iter, ifs, 0⟩] scope pos) spos) (tAsg (tDc wi g tt tk tv (own.map (·.2))) (gName i)) := by
  refine ⟨fun pins s σ H D I h => ?_⟩
  rw [exec_Assign_Name_used _ _ _ _ hsw]
  refine wpAny_bind (wpAny_standAt (wpAny_bind ?_))
  show wpAny _ X.A (do let _ ← comprehension (.DictComp kx vx [⟨tg, iter, ifs, 0⟩] scope pos) scope X.env (firstIterPos [⟨tg, iter, ifs, 0⟩] pos) newDict false (eval iter X.env) (some (assign (.Name y py) X.env))) _ _ s
  have h : tDc wi g tt tk tv (own.map (·.2)) σ H (fun x H1 => gName i x σ H1 D.nx) := h
  refine wpAny_bind (thn (dc_core (Qf := fun _ s2 => SP X pins D .next s2) hc hN I hi ok hg ht hk he hs h fun L C s2 m H2 I2 q hn f => ?_) fun _ s2 hq => wpAny_pure (wpAny_pure hq))
  show wpAny _ _ (assign (.Name y py) X.env (.ref L)) _ _ _
  refine wpAny_assign_Name (store_ok2 (v := V.ref L) I2 hN hy (.inl hyl) rfl (fun s3 I3 ⟨a, sb, ha⟩ => ?_) (.inr hyl))
  obtain ⟨f0, f1, f2, f3, f4, f5⟩ := f
  have haC : C ≠ a := by
    rcases ha with z | z
    · rw [z]; exact f1
    · exact fun e => f4 y a z e.symm
  exact ⟨m, hn.sameBut sb haC, fun h3 sb3 => ⟨_, H2, I3.turned (t' := s3.toks) (fun b o hb e => (sb3.2 b hb).trans e) f0 f1 f3 f4 f5, q⟩⟩
end
/-! readings -/
section
variable {K : PySem.W.Frag} {σ : L2.St} {H : Hp} {Q : VK} {g : TG} {tt : TT} {tk tv te : TE} {vs : List Nat} {a : Addr} {xs : List V} {wi : TI}
def rDc (g : TG) (tt : TT) (tk tv : TE) (vs : List Nat) (σ : L2.St) (Q : VK) (J : It) (H1 : Hp) : Prop := ∀ D, H1 D = none → ∃ W : Nat → Nat → Hp → Prop, (∃ m, W 0 m (upd H1 D (.dK []))) ∧ ∀ i m H, W i m H →
  (J.stop i H ∧ Q (.ref D) H) ∨ (J.go i H ∧ ∃ Nx : Hp → Prop, (∀ H', Nx H' → ∃ m', m' < m ∧ W (i + 1) m' H') ∧ ∀ x H', J.yld i H x H' → g x (wipe σ vs) H' fun σ2 H2 => wipe σ2 vs = wipe σ vs ∧ tt σ2 H2 fun b H3 =>
    if b = true then tk σ2 H3 fun y H4 => tv σ2 H4 fun z H5 => ∃ kvs k, y = kV k ∧ H5 D = some (.dK kvs) ∧ kvs.length < sizeLine ∧ Nx (upd H5 D (.dK (putK kvs k z))) else Nx H3)
theorem rd_dc (q : wi σ H fun J H1 => rDc g tt tk tv vs σ Q J H1) : tDc wi g tt tk tv vs σ H Q := q
theorem putK_new' {kvs : List (Key × V)} {k : Key} {v : V} (h : k ∉ kvs.map (·.1)) : putK kvs k v = kvs ++ [(k, v)] := by
  refine putK_new v ?_
  cases e : valV kvs k with
  | none => rfl
  | some w =>
    have : (kvs.any fun kv => decide (kv.1 = k)) = true := by rw [valV_any, e]; rfl
    obtain ⟨kv, hm, hk⟩ := List.any_eq_true.mp this
    exact absurd (List.mem_map.mpr ⟨kv, hm, of_decide_eq_true hk⟩) h
/-- {k: v for x in a tuple}: kf x is the key, vf x the value -/
theorem dc_tup' (kf : V → Key) (vf : V → V) (hz : xs.length ≤ 100000) (hS : SqT K H a xs)
    (step : ∀ x H1 (N : V → V → Hp → Prop), x ∈ xs → Same H H1 → (∀ H2, Same H1 H2 → N (kV (kf x)) (vf x) H2) → g x (wipe σ vs) H1 fun σ2 H2 => wipe σ2 vs = wipe σ vs ∧ tk σ2 H2 fun y H4 => tv σ2 H4 fun z H5 => N y z H5)
    (done : ∀ D H', H D = none → Same H H' → H' D = some (.dK (mergeK [] (xs.map fun x => (kf x, vf x)))) → Q (.ref D) H') : rDc g tYes tk tv vs σ Q (Itt K a) H := by
  intro D hD
  let m : Nat → List (Key × V) := fun i => mergeK [] ((xs.take i).map fun x => (kf x, vf x))
  let Pv : Nat → Hp → Prop := fun i H1 => Same H H1 ∧ H1 D = some (.dK (m i))
  refine ⟨fun i n H1 => n = xs.length - i ∧ i ≤ xs.length ∧ Pv i H1, ⟨xs.length, by simp, Nat.zero_le _, same_new hD, by rw [upd_same]; rfl⟩, ?_⟩
  rintro i n H1 ⟨rfl, hi, s1, hd1⟩
  have hq : SqT K H1 a xs := Same.sqT s1 hS
  by_cases hlt : i < xs.length
  · refine .inr ⟨⟨xs, xs[i], hq, by simp [hlt]⟩, Pv (i + 1), fun H' p' => ⟨xs.length - (i + 1), by omega, rfl, hlt, p'⟩, fun x H' y => ?_⟩
    obtain ⟨rfl, hy⟩ := y
    have ex := hy xs hq
    refine step x H' _ (List.mem_of_getElem? ex) s1 fun H2 s2 => ?_
    have hl : (m i).length < sizeLine := by
      refine Nat.lt_of_le_of_lt (length_mergeK _ _) ?_
      rw [List.length_nil, Nat.zero_add, List.length_map, List.length_take]
      exact Nat.lt_of_le_of_lt (Nat.le_trans (Nat.min_le_right _ _) hz) (by decide)
    refine ⟨m i, kf x, rfl, s2 _ _ hd1, hl, fun b o e => ?_, ?_⟩
    · rw [upd_ne (ne_of_none e hD)]
      exact s2 _ _ (s1 _ _ e)
    · rw [upd_same]
      show some (HO.dK (putK (mergeK [] ((xs.take i).map fun x => (kf x, vf x))) (kf x) (vf x))) = some (HO.dK (mergeK [] ((xs.take (i + 1)).map fun x => (kf x, vf x))))
      rw [List.take_add_one, ex, List.map_append]
      unfold mergeK
      rw [List.foldl_append]
      rfl
  · obtain rfl : i = xs.length := by omega
    refine .inl ⟨⟨xs, hq, Nat.le_refl _⟩, done D H1 hD s1 ?_⟩
    rw [hd1]
    show some (HO.dK (mergeK [] ((xs.take xs.length).map fun x => (kf x, vf x)))) = _
    rw [List.take_length]
/-- different keys: the pairs themselves -/
theorem merge_nodup : ∀ (ps acc : List (Key × V)), ((acc ++ ps).map (·.1)).Nodup → mergeK acc ps = acc ++ ps
  | [], acc, _ => by simp [mergeK]
  | p :: ps, acc, h => by
    have hk : p.1 ∉ acc.map (·.1) := fun q => by
      rw [List.map_append, List.map_cons] at h
      exact (List.nodup_append.mp h).2.2 _ q _ List.mem_cons_self rfl
    have e : mergeK acc (p :: ps) = mergeK (acc ++ [p]) ps := by
      show mergeK (putK acc p.1 p.2) ps = _
      rw [putK_new' hk]
    rw [e, merge_nodup ps _ (by rw [List.append_assoc]; exact h), List.append_assoc]
    rfl
def rLtS : R2 := fun x y H Q => ∃ i j, x = .str i ∧ y = .str j ∧ Q (.bl (decide (i.cps.toList < j.cps.toList))) H
theorem op_ltS {X : Cx} : OpR X (compareOp .Lt) rLtS := op_lt_str
theorem rd_ltS {x y : Str} (q : Q (.bl (lts x y)) H) : rLtS (.str x) (.str y) H Q := ⟨x, y, rfl, rfl, q⟩
def rInSg : R2 := fun x y H Q => ∃ (c : Nat) (z : Str), x = .str ⟨#[c]⟩ ∧ y = .str z ∧ Q (.bl (decide (c ∈ z.cps.toList))) H
theorem op_inSg {X : Cx} : OpR X (compareOp .In) rInSg := op_in_sign
theorem rd_inSg {c : Nat} {z : Str} (q : Q (.bl (decide (c ∈ z.cps.toList))) H) : rInSg (.str ⟨#[c]⟩) (.str z) H Q := ⟨c, z, rfl, rfl, q⟩
theorem c_any {X : Cx} (hc : X.calm = true) : CallR X (.builtin "any") (rAny X.K) := cr_any hc
theorem rd_any {bs : List Bool} (h : SqL K H a (bs.map V.bl)) (q : Q (.bl (bs.any id)) H) : rAny K [.ref a] H Q := ⟨a, bs, rfl, h, q⟩
theorem rd_iStr {R : It → Hp → Prop} {te : TE} (q : te σ H fun v H1 => ∃ x, v = .str x ∧ R (Its x) H1) : iStr te σ H R := q
theorem rd_IS {x : Str} {R : It → Hp → Prop} (q : R (Its x) H) : ∃ y, V.str x = .str y ∧ R (Its y) H := ⟨x, rfl, q⟩
/-- [.. for c in a text] -/
theorem lc_str {x : Str} (f : Nat → V) (hz : x.cps.size ≤ 100000)
    (step : ∀ c H1 (N : V → Hp → Prop), c ∈ x.cps.toList → Same H H1 → (∀ H2, Same H1 H2 → N (f c) H2) → g (.str ⟨#[c]⟩) (wipe σ vs) H1 fun σ2 H2 => wipe σ2 vs = wipe σ vs ∧ te σ2 H2 N)
    (done : ∀ D H', H D = none → Same H H' → H' D = some (.lst (x.cps.toList.map f)) → Q (.ref D) H') : rLc g tYes te vs σ Q (Its x) H := by
  refine lc_gen x.cps.toList (fun c v _ => v = .str ⟨#[c]⟩) (fun _ => true) f (by simpa using hz) (fun i H1 hi s1 => ?_) (fun H1 s1 => ?_) (fun i H1 v H2 c ec s1 y => ?_) (fun c v H1 N M hc s1 hv hN hM => ?_) (fun D H' h1 h2 h3 => ?_)
  · exact by simpa [Its] using hi
  · exact by simp [Its]
  · have y' := y
    simp only [Its] at y'
    obtain ⟨e, c', h1, h2⟩ := y'
    have : x.cps.toList[i]? = some c' := by simpa using h1
    rw [this] at ec
    cases ec
    exact ⟨by rw [e]; exact Same.refl _, h2⟩
  · subst hv
    exact step c H1 M hc s1 (hM rfl)
  · refine done D H' h1 h2 ?_
    rw [h3, List.filter_eq_self.mpr fun _ _ => rfl]
/-- [.. for x, y in zip(..)] of two tuples, as long as the shorter one goes -/
theorem lc_zipM {b : Addr} {ys : List V} (f : V × V → V) (hz : xs.length ≤ 100000) (h1 : SqT K H a xs) (h2 : SqT K H b ys)
    (step : ∀ (z : V × V) T H1 (M : V → Hp → Prop), z ∈ xs.zip ys → Same H H1 → H1 T = some (.tup [z.1, z.2]) → (∀ H2, Same H1 H2 → M (f z) H2) → g (.ref T) (wipe σ vs) H1 fun σ2 H2 => wipe σ2 vs = wipe σ vs ∧ te σ2 H2 M)
    (done : ∀ D H', H D = none → Same H H' → H' D = some (.lst ((xs.zip ys).map f)) → Q (.ref D) H') : rLc g tYes te vs σ Q (RZ.ItzT K a b) H := by
  have lz : (xs.zip ys).length = min xs.length ys.length := List.length_zip
  refine lc_gen (xs.zip ys) (fun z v H2 => ∃ T, v = .ref T ∧ H2 T = some (.tup [z.1, z.2])) (fun _ => true) f (by omega) (fun i H1 hi s1 => ?_) (fun H1 s1 => ?_) (fun i H1 x H2 z ez s1 y => ?_) (fun z x H1 N M hz' s1 hx hN hM => ?_) (fun D H' q1 q2 q3 => ?_)
  · exact ⟨xs, ys, xs[i]'(by omega), ys[i]'(by omega), Same.sqT s1 h1, Same.sqT s1 h2, List.getElem?_eq_getElem _, List.getElem?_eq_getElem _⟩
  · exact ⟨xs, ys, Same.sqT s1 h1, Same.sqT s1 h2, by rw [lz]; omega⟩
  · obtain ⟨T, u, v, rfl, hT, rfl, hu, hv⟩ := y
    have e1 := hu xs (Same.sqT s1 h1)
    have e2 := hv ys (Same.sqT s1 h2)
    have e3 : (xs.zip ys)[i]? = some (u, v) := by rw [List.getElem?_zip_eq_some]; exact ⟨e1, e2⟩
    rw [e3] at ez
    injection ez with ez
    subst ez
    exact ⟨same_new hT, T, rfl, upd_same⟩
  · obtain ⟨T, rfl, hT⟩ := hx
    exact step z T H1 M hz' s1 hT (hM rfl)
  · refine done D H' q1 q2 ?_
    rw [q3, List.filter_eq_self.mpr fun _ _ => rfl]
theorem op_inK {X : Cx} (hK : X.K = K) : OpR X (compareOp .In) (rIn K false) := by subst hK; exact op_in_seq
theorem op_notInK {X : Cx} (hK : X.K = K) : OpR X (compareOp .NotIn) (rIn K true) := by subst hK; exact op_notIn_seq
theorem pi_tupK {X : Cx} {tg e : Expr} {tl : TE} (hK : X.K = K) (he : PE X e tl) : PI X tg e (iTup K tl) := by subst hK; exact pi_tup he
theorem inV_strs (x : Str) : ∀ ys : List Str, inV (.str x) (ys.map V.str) = decide (x ∈ ys)
  | [] => rfl
  | y :: ys => by
    have e : inV (.str x) ((y :: ys).map V.str) = (eqV (.str y) (.str x) || inV (.str x) (ys.map V.str)) := rfl
    rw [e, inV_strs x ys]
    have e2 : eqV (.str y) (.str x) = decide (y = x) := rfl
    rw [e2, Bool.eq_iff_iff]
    simp only [Bool.or_eq_true, decide_eq_true_eq, List.mem_cons]
    exact or_congr_left eq_comm
theorem rd_inTx {neg : Bool} {x : Str} {ys : List Str} (h : SqT K H a (ys.map V.str) ∨ SqL K H a (ys.map V.str)) (q : Q (.bl (if neg then !decide (x ∈ ys) else decide (x ∈ ys))) H) : rIn K neg (.str x) (.ref a) H Q := by
  rw [← inV_strs x ys] at q
  exact ⟨a, _, rfl, h.symm, rfl, by rw [List.all_map]; exact List.all_eq_true.mpr fun _ _ => rfl, q⟩
def rLc2 (g : TG) (tt : TT) (wi1 : TI) (g1 : TG) (tt1 : TT) (te : TE) (vs vs1 : List Nat) (σ : L2.St) (Q : VK) (J : It) (H1 : Hp) : Prop := ∀ D, H1 D = none → ∃ W : Nat → Nat → Hp → Prop, (∃ m, W 0 m (upd H1 D (.lst []))) ∧ ∀ i m H, W i m H →
  (J.stop i H ∧ Q (.ref D) H) ∨ (J.go i H ∧ ∃ Nx : Hp → Prop, (∀ H', Nx H' → ∃ m', m' < m ∧ W (i + 1) m' H') ∧ ∀ x H', J.yld i H x H' → g x (wipe σ vs) H' fun σ2 H2 => wipe σ2 vs = wipe σ vs ∧ tt σ2 H2 fun b H3 =>
    if b = true then wi1 σ2 H3 fun J1 H4 => ∃ W1 : Nat → Nat → Hp → Prop, (∃ m, W1 0 m H4) ∧ ∀ j k H, W1 j k H →
      (J1.stop j H ∧ Nx H) ∨ (J1.go j H ∧ ∃ Nx1 : Hp → Prop, (∀ H', Nx1 H' → ∃ k', k' < k ∧ W1 (j + 1) k' H') ∧ ∀ x H', J1.yld j H x H' → g1 x (wipe σ2 vs1) H' fun σ3 H5 => wipe σ3 vs1 = wipe σ2 vs1 ∧ tt1 σ3 H5 fun b H6 =>
        if b = true then te σ3 H6 fun y H7 => ∃ acc, H7 D = some (.lst acc) ∧ acc.length < sizeLine ∧ Nx1 (upd H7 D (.lst (acc ++ [y]))) else Nx1 H6)
    else Nx H3)
theorem rd_lc2 {wi1 : TI} {g1 : TG} {tt1 : TT} {vs1 : List Nat} (q : wi σ H fun J H1 => rLc2 g tt wi1 g1 tt1 te vs vs1 σ Q J H1) : tLc2 wi g tt wi1 g1 tt1 te vs vs1 σ H Q := q
/-- [.. for x in a tuple for y in a tuple], all of it True -/
theorem lc2_true {wi1 : TI} {g1 : TG} {vs1 : List Nat} (hz : xs.length ≤ 1000) (hS : SqT K H a xs)
    (step : ∀ x H1 (M : L2.St → It → Hp → Prop), x ∈ xs → Same H H1 → (∀ σ2 c ys, SqT K H c ys → ys.length ≤ 100 → (∀ y H5 (N : V → Hp → Prop), y ∈ ys → Same H H5 → (∀ H6, Same H5 H6 → N (.bl true) H6) → g1 y (wipe σ2 vs1) H5 fun σ3 H6 => wipe σ3 vs1 = wipe σ2 vs1 ∧ te σ3 H6 N) → M σ2 (Itt K c) H1) →
      g x (wipe σ vs) H1 fun σ2 H2 => wipe σ2 vs = wipe σ vs ∧ wi1 σ2 H2 fun J H3 => M σ2 J H3)
    (done : ∀ (D : Addr) (H' : Hp) (bs : List Bool), H D = none → Same H H' → H' D = some (.lst (bs.map V.bl)) → bs.all id = true → Q (.ref D) H') : rLc2 g tYes wi1 g1 tYes te vs vs1 σ Q (Itt K a) H := by
  intro D hD
  let Pv : Nat → Nat → Hp → Prop := fun i j H1 => Same H H1 ∧ ∃ bs : List Bool, H1 D = some (.lst (bs.map V.bl)) ∧ bs.all id = true ∧ bs.length ≤ i * 100 + j
  refine ⟨fun i m H1 => m = xs.length - i ∧ i ≤ xs.length ∧ Pv i 0 H1, ⟨xs.length, rfl, Nat.zero_le _, same_new hD, [], upd_same, rfl, Nat.zero_le _⟩, ?_⟩
  rintro i m H1 ⟨rfl, hi, s1, bs, hb1, hb2, hb3⟩
  have hq : SqT K H1 a xs := Same.sqT s1 hS
  by_cases hlt : i < xs.length
  · refine .inr ⟨⟨xs, xs[i], hq, by simp [hlt]⟩, Pv (i + 1) 0, fun H' p' => ⟨xs.length - (i + 1), by omega, rfl, hlt, p'⟩, fun x H' y => ?_⟩
    obtain ⟨rfl, hy⟩ := y
    refine step x H' _ (List.mem_of_getElem? (hy xs hq)) s1 fun σ2 c ys hc hn inn => ?_
    refine ⟨fun j k H2 => k = ys.length - j ∧ j ≤ ys.length ∧ Pv i j H2, ⟨ys.length, rfl, Nat.zero_le _, s1, bs, hb1, hb2, hb3⟩, ?_⟩
    rintro j k H2 ⟨rfl, hj, s2, cs, hc1, hc2, hc3⟩
    have hq2 : SqT K H2 c ys := Same.sqT s2 hc
    by_cases hjt : j < ys.length
    · refine .inr ⟨⟨ys, ys[j], hq2, by simp [hjt]⟩, Pv i (j + 1), fun H3 p3 => ⟨ys.length - (j + 1), by omega, rfl, hjt, p3⟩, fun z H3 y2 => ?_⟩
      obtain ⟨rfl, hy2⟩ := y2
      refine inn z H3 _ (List.mem_of_getElem? (hy2 ys hq2)) s2 fun H4 s4 => ?_
      refine ⟨_, s4 _ _ hc1, ?_, fun b o e => ?_, cs ++ [true], ?_, ?_, ?_⟩
      · rw [List.length_map]
        have e := sizeLine_eq
        omega
      · rw [upd_ne (ne_of_none e hD)]
        exact s4 _ _ (s2 _ _ e)
      · rw [upd_same, List.map_append]
        rfl
      · rw [List.all_append, hc2]
        rfl
      · rw [List.length_append]
        show cs.length + 1 ≤ _
        omega
    · obtain rfl : j = ys.length := by omega
      exact .inl ⟨⟨ys, hq2, Nat.le_refl _⟩, s2, cs, hc1, hc2, by omega⟩
  · obtain rfl : i = xs.length := by omega
    exact .inl ⟨⟨xs, hq, Nat.le_refl _⟩, done D H1 bs hD s1 hb1 hb2⟩
/-- [.. for x in a tuple, a list] by an invariant -/
theorem lc_invI {J : It} {n : Nat} (val : Nat → V → Prop) (P : Nat → Addr → List V → Hp → Prop) (go : ∀ i D acc H1, i < n → P i D acc H1 → J.go i H1) (stop : ∀ D acc H1, P n D acc H1 → J.stop n H1) (yld : ∀ i D acc H1 x H2, P i D acc H1 → J.yld i H1 x H2 → H2 = H1 ∧ val i x) (h0 : ∀ D, H D = none → P 0 D [] (upd H D (.lst [])))
    (step : ∀ (i : Nat) x D acc H1 (N : VK), i < n → val i x → H D = none → P i D acc H1 → (∀ y H3, H3 D = some (.lst acc) → acc.length < sizeLine → P (i + 1) D (acc ++ [y]) (upd H3 D (.lst (acc ++ [y]))) → N y H3) →
      g x (wipe σ vs) H1 fun σ2 H2 => wipe σ2 vs = wipe σ vs ∧ te σ2 H2 N)
    (done : ∀ D acc H1, H D = none → P n D acc H1 → Q (.ref D) H1) : rLc g tYes te vs σ Q J H := by
  intro D hD
  refine ⟨fun i m H1 => m = n - i ∧ i ≤ n ∧ ∃ acc, P i D acc H1, ⟨n, rfl, Nat.zero_le _, [], h0 D hD⟩, ?_⟩
  rintro i m H1 ⟨rfl, hi, acc, p⟩
  by_cases hlt : i < n
  · refine .inr ⟨go i D acc H1 hlt p, fun H2 => ∃ acc, P (i + 1) D acc H2, fun H' p' => ⟨n - (i + 1), by omega, rfl, hlt, p'⟩, fun x H' y => ?_⟩
    obtain ⟨rfl, hx⟩ := yld i D acc H1 x H' p y
    exact step i x D acc H' _ hlt hx hD p fun y H3 h1 h2 h3 => ⟨acc, h1, h2, _, h3⟩
  · obtain rfl : i = n := by omega
    exact .inl ⟨stop D acc H1 p, done D acc H1 hD p⟩
theorem lc_tupI (P : Nat → Addr → List V → Hp → Prop) (hl : ∀ i D acc H1, P i D acc H1 → SqT K H1 a xs) (h0 : ∀ D, H D = none → P 0 D [] (upd H D (.lst [])))
    (step : ∀ (i : Nat) x D acc H1 (N : VK), xs[i]? = some x → H D = none → P i D acc H1 → (∀ y H3, H3 D = some (.lst acc) → acc.length < sizeLine → P (i + 1) D (acc ++ [y]) (upd H3 D (.lst (acc ++ [y]))) → N y H3) →
      g x (wipe σ vs) H1 fun σ2 H2 => wipe σ2 vs = wipe σ vs ∧ te σ2 H2 N)
    (done : ∀ D acc H1, H D = none → P xs.length D acc H1 → Q (.ref D) H1) : rLc g tYes te vs σ Q (Itt K a) H := by
  refine lc_invI (n := xs.length) (fun i x => xs[i]? = some x) P (fun i D acc H1 hi p => ⟨xs, xs[i], hl i D acc H1 p, by simp [hi]⟩) (fun D acc H1 p => ⟨xs, hl _ D acc H1 p, Nat.le_refl _⟩) (fun i D acc H1 x H2 p y => ?_) h0 (fun i x D acc H1 N _ => step i x D acc H1 N) done
  exact ⟨y.1, y.2 xs (hl i D acc H1 p)⟩
theorem lc_lstI (P : Nat → Addr → List V → Hp → Prop) (hl : ∀ i D acc H1, P i D acc H1 → SqL K H1 a xs) (h0 : ∀ D, H D = none → P 0 D [] (upd H D (.lst [])))
    (step : ∀ (i : Nat) x D acc H1 (N : VK), xs[i]? = some x → H D = none → P i D acc H1 → (∀ y H3, H3 D = some (.lst acc) → acc.length < sizeLine → P (i + 1) D (acc ++ [y]) (upd H3 D (.lst (acc ++ [y]))) → N y H3) →
      g x (wipe σ vs) H1 fun σ2 H2 => wipe σ2 vs = wipe σ vs ∧ te σ2 H2 N)
    (done : ∀ D acc H1, H D = none → P xs.length D acc H1 → Q (.ref D) H1) : rLc g tYes te vs σ Q (Itl K a) H := by
  refine lc_invI (n := xs.length) (fun i x => xs[i]? = some x) P (fun i D acc H1 hi p => ⟨xs, xs[i], hl i D acc H1 p, by simp [hi]⟩) (fun D acc H1 p => ⟨xs, hl _ D acc H1 p, Nat.le_refl _⟩) (fun i D acc H1 x H2 p y => ?_) h0 (fun i x D acc H1 N _ => step i x D acc H1 N) done
  exact ⟨y.1, y.2 xs (hl i D acc H1 p)⟩
/-- a dict display -/
theorem rd_disp {trs : List (TE × TE)} (q : ∀ p, H p = none → tPairs trs σ (upd H p (.dK [])) fun ps H2 => H2 p = some (.dK []) ∧ ∃ kvs : List (Key × V), ps = kvs.map (fun kv => (kV kv.1, kv.2)) ∧ kvs.length ≤ 15 ∧ Q (.ref p) (upd H2 p (.dK (mergeK [] kvs)))) : tDisp trs σ H Q := q
theorem rd_prC {trs : List (TE × TE)} {QP : List (V × V) → Hp → Prop} (q : tk σ H fun x H1 => tv σ H1 fun y H2 => tPairs trs σ H2 fun ps H3 => QP ((x, y) :: ps) H3) : tPairs ((tk, tv) :: trs) σ H QP := q
theorem rd_prN {QP : List (V × V) → Hp → Prop} (q : QP [] H) : tPairs [] σ H QP := q
end
end Rd
set_option Elab.async false
set_option linter.all false
set_option maxRecDepth 100000
set_option maxHeartbeats 4000000
/-! Rz: xs.extend(a tuple). -/
namespace Rd
open PySem PySem.Spec PyProof.Rows L2
theorem extend_seq (l b : Addr) (items items2 : Array Value) (n : Nat) (hz : items.size + items2.size ≤ sizeLine) :
    Meets (Builtin.«list.extend» ⟨[.ref l, .ref b], []⟩) (fun _ R s => s.heap.get? l = some { cls := .type "list", dict := none, data := .seq items n, slots := #[] } ∧ (∃ o n2, s.heap.get? b = some o ∧ o.cls = .type "tuple" ∧ o.data = .seq items2 n2) ∧ R (.ok (.ret Value.none)) { s with heap := s.heap.update l (Obj.mapSeq fun x => x ++ items2) }) := by
  intro P w A R s ⟨hS, ⟨o, n2, ho, hc, hd⟩, hR⟩
  show wpAny _ A.in1 (Builtin.List.listExtendWith (.ref l) (.ref b) .none) _ _ s
  unfold Builtin.List.listExtendWith
  refine wpAny_bind (wpAny_typeOf ⟨o, ho, hc⟩ ?_)
  have h1 : (Builtin.List.listSameRef (.ref l) (.ref b) || Value.type "tuple" == Value.type "list" || Value.type "tuple" == Value.type "tuple") = true := by simp
  simp only [h1, if_true]
  refine wpAny_bind ?_
  unfold Builtin.List.listItems
  refine wpAny_bind (wpAny_seqItems ho hd (wpAny_pure ?_))
  refine wpAny_bind ?_
  refine wpAny_bind (wpAny_seqItems hS rfl (wpAny_pure ?_))
  have h2 : (!items.isEmpty && Builtin.List.listTooLong (items.size + items2.size)) = false := by
    rw [notLongL hz, Bool.and_false]
  simp only [h2]
  show wpAny _ A.in1 (updateSeq l (· ++ items2) >>= fun _ => ret .none) _ _ s
  refine wpAny_bind (wpAny_updateSeq hS rfl ?_ (hz := by omega) (_hz' := by rw [Array.size_append]; omega))
  exact wpAny_pure hR
def rExtT (K : PySem.W.Frag) : V → List V → Hp → VK → Prop := fun x vs H Q => ∃ l b xs zs, x = .ref l ∧ vs = [.ref b] ∧ H l = some (.lst xs) ∧ SqT K H b zs ∧ xs.length + zs.length ≤ sizeLine ∧ Q .non (upd H l (.lst (xs ++ zs)))
section
variable {X : Cx}
theorem mt_extT : MtR X "list.extend" (rExtT X.K) := by
  intro pins s σ H x vs v us Q I rx rv h
  obtain ⟨l, b, xs, zs, rfl, rfl, hH, hB, hz, q⟩ := h
  cases rx
  obtain ⟨u, rfl, ru⟩ := vals1 rv
  cases ru
  obtain ⟨z, its, n, r, e⟩ := I.hok l _ hH
  obtain ⟨its2, r2, ⟨o2, g2, hc2, n2, hd2⟩, z2⟩ := I.tuple hB
  have l1 := r.length
  have l2 := r2.length
  refine call_meets F.slot_list_extend ⟨_, e, rfl⟩ F.entry_list_extend (F.args_list_extend_2 _ _)
    (extend_seq l b its.toArray its2.toArray n (by rw [List.size_toArray, List.size_toArray]; omega)) ⟨e, ⟨o2, n2, g2, hc2, hd2⟩, ?_⟩
  refine ⟨.non, _, I.lset (its' := its ++ its2) hH e (by simp) (r.append r2) ?_, rfl, q⟩
  rw [List.length_append]
  omega
theorem rd_extT {K : PySem.W.Frag} {H : Hp} {Q : VK} {l b : Addr} {xs zs : List V} (h : H l = some (.lst xs)) (hb : SqT K H b zs) (hz : xs.length + zs.length ≤ sizeLine) (q : Q .non (upd H l (.lst (xs ++ zs)))) : rExtT K (.ref l) [.ref b] H Q := ⟨l, b, xs, zs, rfl, rfl, h, hb, hz, q⟩
end
end Rd
set_option Elab.async false
set_option linter.all false
set_option maxRecDepth 100000
set_option maxHeartbeats 4000000
/-! Rb: a list or a tuple alike, d.get, d[k] += e, d.values(), list(d.items()), a keyword default of a module's def. -/
namespace Rd
open PySem PySem.Spec PyProof.Rows L2
/-! ### a list or a tuple -/
def SqS (K : PySem.W.Frag) (H : Hp) (a : Addr) (xs : List V) : Prop := SqL K H a xs ∨ SqT K H a xs
def rIxS (K : PySem.W.Frag) : R2 := fun x y H Q => rIxL K x y H Q ∨ rIxT K x y H Q
theorem ix_seq {X : Cx} : IxR X (rIxS X.K) := fun value slice pins s σ H x y v u Q I rx ry h hs => h.elim (fun h => ix_list value slice pins s σ H x y v u Q I rx ry h hs) fun h => ix_tup value slice pins s σ H x y v u Q I rx ry h hs
theorem ix_seqK {X : Cx} {K : PySem.W.Frag} (hK : X.K = K) : IxR X (rIxS K) := by subst hK; exact ix_seq
section
variable {K : PySem.W.Frag} {H H' : Hp} {Q : VK} {a : Addr} {xs : List V} {v : V} {j : Int}
theorem SqS.same (s : Same H H') (h : SqS K H a xs) : SqS K H' a xs := h.imp (fun h => L2.Same.seq s h) fun h => Same.sqT s h
theorem rd_ixS (h : SqS K H a xs) (ha : atI xs j = some v) (q : Q v H) : rIxS K (.ref a) (.int j) H Q := h.imp (fun h => rd_ixL h ha q) fun h => rd_ixT h ha q
theorem rd_lenS2 (h : SqS K H a xs) (q : Q (.int (xs.length : Nat)) H) : rLen K [.ref a] H Q := h.elim (fun h => rd_lenL h q) fun h => rd_lenT h q
theorem rd_listS (h : SqS K H a xs) (q : ∀ l H', H l = none → Same H H' → H' l = some (.lst xs) → Q (.ref l) H') : rListOf K [.ref a] H Q := h.elim (fun h => rd_listL h q) fun h => rd_listT h q
end
theorem c_isiK {X : Cx} {K : PySem.W.Frag} (hK : X.K = K) : CallR X (.builtin "isinstance") (rIsi K) := by subst hK; exact c_isi
theorem pe_fldK {X : Cx} {K : PySem.W.Frag} {e : Expr} {ta : TE} {f : Str} {pos : Pos} (hK : X.K = K) (he : PE X e ta) (hb : attributeBase e f X.env (eval e X.env) = eval e X.env) : PE X (.Attribute e f pos) (tFld K ta f) := by subst hK; exact pe_fld he hb
/-! ### dicts -/
/-- e, a dict that is locked from here on -/
def tFrz (t : TE) : TE := fun σ H Q => t σ H fun x H1 => ∃ d kvs, x = .ref d ∧ H1 d = some (.dK kvs) ∧ ∀ o, Q x (upd H1 d (.frz o (.dK kvs)))
section
variable {X : Cx} {e : Expr} {t td ty tx tv : TE} {σ : L2.St} {H : Hp} {Q : VK} {a : Addr} {kvs : List (Key × V)}
theorem pe_frz (h : PE X e t) : PE X e (tFrz t) := by
  refine ⟨fun pins s σ H Q I hw => ?_⟩
  refine thn (h.run pins s σ H _ I hw) fun v s1 ⟨x, H1, I1, r, d, kvs, ex, hd, q⟩ => ?_
  obtain ⟨od, I2⟩ := I1.lock hd trivial
  exact ⟨x, _, I2, r, q od⟩
theorem rd_frz (q : t σ H fun x H1 => ∃ d kvs, x = .ref d ∧ H1 d = some (.dK kvs) ∧ ∀ o, Q x (upd H1 d (.frz o (.dK kvs)))) : tFrz t σ H Q := q
theorem rd_vals {R : It → Hp → Prop} (q : td σ H fun x H1 => ∃ d o kvs, x = .ref d ∧ H1 d = some (.frz o (.dK kvs)) ∧ R (Itd d o kvs) H1) : iVals td σ H R := q
/-- d.get(k, x) -/
def rGet (ty tx : TE) (σ : L2.St) (Q : VK) (x : V) (H1 : Hp) : Prop := ∃ a, x = .ref a ∧ IsD H1 a ∧ ty σ H1 fun y H2 => tx σ H2 fun z H3 => ∃ o, DGet H3 a y o ∧ Q (o.getD z) H3
theorem rd_get2 (q : td σ H fun x H1 => rGet ty tx σ Q x H1) : tDGet2 td ty tx σ H Q := q
def rGetE (a : Addr) (y z : V) (H : Hp) (Q : VK) : Prop := ∃ o, DGet H a y o ∧ Q (o.getD z) H
theorem rd_getA (h : L2.Rd H a (.dK kvs)) (q : ty σ H fun y H2 => tx σ H2 fun z H3 => rGetE a y z H3 Q) : rGet ty tx σ Q (.ref a) H := ⟨a, rfl, .inl ⟨kvs, h⟩, q⟩
theorem rd_getE {x : Str} {z : V} (h : L2.Rd H a (.dK kvs)) (q : Q ((valV kvs (Sum.inr x : Key)).getD z) H) : rGetE a (.str x) z H Q := ⟨_, .inl ⟨kvs, Sum.inr x, h, rfl, rfl⟩, q⟩
theorem pe_get2 {o f k : Expr} {apos cpos : Pos} (hu : X.A.units + 1 < cLine) (ho : PE X o td) (he : PE X k ty) (hf : PE X f tx) (hbase : attributeBase o "get" X.env (eval o X.env) = eval o X.env := by rfl) (hline : (apos.endLine == cpos.line) = true := by rfl) (ht : backTo cpos (starEach [k, f] X.env) = [(false, eval k X.env), (false, eval f X.env)] := by rfl)
    (hfew : ((backTo cpos (starEach [k, f] X.env)).all (fun x => !x.1) && (backToKw cpos (keywordEach [] X.env)).all (fun x => x.1.isSome) && decide (([k, f] : List Expr).length + ([] : List Keyword).length + (if ([] : List Keyword).isEmpty then 0 else 1) < 30)) = true := by rfl) : PE X (.Call (.Attribute o "get" apos) [k, f] [] cpos) (tDGet2 td ty tx) :=
  pe_dget2 hu ho he hf ⟨hbase, hfew, hline, ht⟩
/-- d[k] op= e -/
theorem rd_daug {rd : V → V → Hp → VK → Prop} {D : Ends} (q : td σ H fun x H1 => ty σ H1 fun y H2 => ∃ a v, x = .ref a ∧ DGet H2 a y (some v) ∧
  tv σ H2 fun y2 H3 => rd v y2 H3 fun z H4 => ∃ H5, DPut H4 a y z H5 ∧ D.nx σ H5) : sDAug td ty tv rd D σ H := q
/-- list(d.items()) -/
theorem rd_items (q : td σ H fun x H1 => LiI.rItemsL x H1 Q) : LiI.tListItems td σ H Q := q
theorem rd_itemsL (h : H a = some (.dK kvs)) (q : ∀ H' p (ts : List Addr), Same H H' → H p = none → H' p = some (.lst (ts.map V.ref)) → Paired (fun (t : Addr) (q : Key × V) => H' t = some (.tup [kV q.1, q.2])) ts kvs → Q (.ref p) H') : LiI.rItemsL (.ref a) H Q := ⟨a, kvs, rfl, h, fun H' p ts s hp _ _ h1 h2 => q H' p ts s hp h1 h2⟩
end
/-! ### a module's def with one keyword default -/
def HasKw (K : PySem.W.Frag) (mg : Str → Option Value) (x : Str) (st : Stmt) (kw : Str) (dv : V) : Prop := ∃ f fd, FunD K x x (defArgs st) (defBody st) (defScope st) [] [(kw, dv)] f fd ∧ mg x = some (.ref f) ∧ PySem.W.keepIn K (.ref f) = true
/-- its promise: n positional values, then the keyword's -/
def FnKw (P : Program) (w : World) (K : PySem.W.Frag) (mg : Str → Option Value) (base : Heap) (k : Nat) (x kw : Str) (ps : List Str) (dv : V) (sp : Sp) : Prop :=
  ∃ f fd, FnOk P w K mg base CX0 k f fd ps sp ∧ mg x = some (.ref f) ∧ PySem.W.keepIn K (.ref f) = true ∧ (∃ ds, Vals [dv] ds ∧ Binds K fd ps ds) ∧ KBn K fd ps (ps.length - 1) [kw] (fun us ws => us ++ ws) (fun vs zs => vs ++ zs)
section
variable {P : Program} {w : World} {K : PySem.W.Frag} {mg : Str → Option Value} {base : Heap} {k : Nat} {x kw : Str} {st : Stmt} {N ps : List Str} {dv : V}
theorem HasKw.fn {α : Type} {args : α → List V} {pre : α → Hp → VK → XK → Prop} (h : HasKw K mg x st kw dv) (S : FnScope N ps (defScope st)) (hl : ∀ a, (args a).length = ps.length) (hn : 1 ≤ ps.length)
    (hb0 : ∀ (D : Addr) (doc pm : Value) (an : Option Addr) (cdv ct : Value) (us ks : List Value), us.length = ps.length - 1 → ks.length = 1 → KwChain D (([(kw, dv)].map (·.1)).zip ks) (bindArgs (PySem.W.fnOf x x (defArgs st) (defBody st) (defScope st) .none (.ref D) doc pm an cdv ct) ⟨us, []⟩) (ps.zip (us ++ ks)))
    (hb1 : ∀ (kV doc pm : Value) (an : Option Addr) (cdv ct : Value) (us ws : List Value), us.length = ps.length - 1 → ws.length = 1 → bindArgs (PySem.W.fnOf x x (defArgs st) (defBody st) (defScope st) .none kV doc pm an cdv ct) ⟨us, [kw].zip ws⟩ = pure (ps.zip (us ++ ws)))
    (body : ∀ (f : Addr) (cdv : Value) (A : Around) (outer : List Env) (s : Shared) (H : Hp) (Q : VK) (E : XK) (a : α), Room k (A.deeper (PyProof.Rows.envOfC x (defScope st) s.heap.objs.size f cdv)) → pre a H Q E →
      ∃ t, PSs (cxOf CX0 P w K mg base N x (defScope st) f cdv A outer s H E).nox (defBody st) t ∧ t { nx := fun _ H' => Q .non H', rt := Q } (start N (args a)) H) :
    FnKw P w K mg base (k + 1) x kw ps dv (mkSp args pre) := by
  obtain ⟨f, fd, F, hm, hk⟩ := h
  refine ⟨f, fd, F.ok S (fun vs H Q E hsp => by obtain ⟨a, rfl, _⟩ := hsp; exact hl a) fun cdv A outer s H vs Q E hr hsp => ?_, hm, hk, ?_, ?_⟩
  · obtain ⟨a, rfl, ha⟩ := hsp
    obtain ⟨t, q1, q2⟩ := body f cdv A outer s H Q E a hr ha
    exact ⟨t, q1.nox, q2⟩
  · exact F.binds0 (ps.length - 1) (fun z => nomatch z) (by show ps.length - 1 + 1 = ps.length; omega) hb0
  · obtain ⟨oc, od, dV, kV, doc, pm, an, cdv, ct, osl, rfl, lk, hcd, hD, hK⟩ := F.ex
    rcases hD with ⟨_, rfl⟩ | ⟨e, _⟩
    · exact ⟨fun s us ws X l1 l2 => .of_eq (hb1 kV doc pm an cdv ct us ws l1 l2), fun r1 r2 => r1.append r2⟩
    · exact absurd rfl e
end
section
variable {X : Cx} {k : Nat} {x kw : Str} {ps : List Str} {dv : V} {sp : Sp} {p pos kpos : Pos} {e e3 : Expr} {es : List Expr} {t : TA} {tk : TE}
def tKw (sp : Sp) (t : TA) (tk : TE) : TE := fun σ H Q => t σ H fun vs H1 => tk σ H1 fun z H2 => sp (vs ++ [z]) H2 Q E0
def tKw0 (sp : Sp) (dv : V) (t : TA) : TE := fun σ H Q => t σ H fun vs H1 => sp (vs ++ [dv]) H1 Q E0
theorem rd_kw {σ : L2.St} {H : Hp} {Q : VK} (q : t σ H fun vs H1 => tk σ H1 fun z H2 => sp (vs ++ [z]) H2 Q E0) : tKw sp t tk σ H Q := q
theorem rd_kw0 {σ : L2.St} {H : Hp} {Q : VK} (q : t σ H fun vs H1 => sp (vs ++ [dv]) H1 Q E0) : tKw0 sp dv t σ H Q := q
/-- f(e, ..): the keyword is left out -/
theorem pe_fkw0 (h : FnKw X.prog X.w X.K X.mg X.base k x kw ps dv sp) (hr : Room k X.A) (hg : Gl X x) (ha : PA X (e :: es) t) (hdb : (x == ("__debug__" : Str)) = false := by decide) (he : starEach (e :: es) X.env = (false, eval e X.env) :: starEach es X.env := by rfl)
    (hpl : (backTo pos (starEach es X.env)).any (·.1) = false := by rfl) : PE X (.Call (.Name x p) (e :: es) [] pos) (tKw0 sp dv t) := by
  obtain ⟨f, fd, F, hm, hk, ⟨ds, hd, hb⟩, _⟩ := h
  exact pe_call F hr hg hm hk hb hd pass0 ha hdb he hpl
/-- f(e, .., kw = e3) -/
theorem pe_fkw (h : FnKw X.prog X.w X.K X.mg X.base k x kw ps dv sp) (hr : Room k X.A) (hg : Gl X x) (ha : PA X (e :: es) t) (hk3 : PE X e3 tk) (hall : (backToKw pos (keywordEach [⟨some kw, e3, kpos⟩] X.env)).all (·.1.isSome) = true := by rfl) (hks : (backToKw pos (keywordEach [⟨some kw, e3, kpos⟩] X.env)).filterMap (·.1) = [kw] := by rfl)
    (hdb : (x == ("__debug__" : Str)) = false := by decide) (he : starEach (e :: es) X.env = (false, eval e X.env) :: starEach es X.env := by rfl)
    (hpl : ((backTo pos (starEach (e :: es) X.env)).any (·.1) || (backToKw pos (keywordEach [⟨some kw, e3, kpos⟩] X.env)).any (·.1.isNone)) = false := by rfl) :
    PE X (.Call (.Name x p) (e :: es) [⟨some kw, e3, kpos⟩] pos) (tCallN (ps.length - 1) 1 sp (fun vs zs => vs ++ zs) E0 t (tCons tk tNil)) := by
  obtain ⟨f, fd, F, hm, hk, _, hb⟩ := h
  exact pe_callN F hr hg hm hk hb pass0 ha (pk_cons hk3 pk_nil) hall hks hdb he hpl
theorem rd_callN {n m : Nat} {gV : List V → List V → List V} {t tk : TA} {E : XK} {σ : L2.St} {H : Hp} {Q : VK} (q : t σ H fun vs H1 => tk σ H1 fun zs H2 => vs.length = n ∧ zs.length = m ∧ sp (gV vs zs) H2 Q E) : tCallN n m sp gV E t tk σ H Q := q
end
end Rd
set_option Elab.async false
set_option linter.all false
set_option maxRecDepth 100000
set_option maxHeartbeats 4000000
/-! Rs2: sorted of lists of data. -/
namespace Rd
open PySem PySem.Spec PyProof.Rows L2
/-- sorted(l), l a list of data: bs the values and their data -/
def rSortDt (K : PySem.W.Frag) : List V → Hp → VK → Prop := fun xs H Q => ∃ (a : Addr) (bs : List (V × PyData)), xs = [.ref a] ∧ SqL K H a (bs.map (·.1)) ∧ (∀ b ∈ bs, Dt K H b.1 b.2) ∧ PySem.W.AllAlike (bs.map (·.2)) ∧ PySem.W.Sortable (bs.map (·.2)) ∧ (∀ b ∈ bs, b.2.depth ≤ 50) ∧
  ∀ p, H p = none → Q (.ref p) (upd H p (.lst ((bs.mergeSort (PySem.W.dataLe false (·.2))).map (·.1))))
theorem each_of {K : PySem.W.Frag} {X : Cx} {pins : List (Addr × Obj)} {σ : L2.St} {H : Hp} {s : Shared} (I : L2.Inv X pins σ H s) : ∀ {bs : List (V × PyData)} {us : List Value}, Vals (bs.map (·.1)) us → PySem.W.EachIs (fun v b => RelV b.1 v) us bs
  | [], _, .nil => .nil
  | _ :: _, _, .cons r t => .cons r (each_of (K := K) I t)
theorem each_rd {X : Cx} {pins : List (Addr × Obj)} {σ : L2.St} {H : Hp} {s : Shared} (I : L2.Inv X pins σ H s) : ∀ {bs : List (V × PyData)} {us : List Value}, Vals (bs.map (·.1)) us → (∀ b ∈ bs, Dt X.K H b.1 b.2) → PySem.W.EachIs (fun v b => ∃ as, Reads s.heap v b.2 as) us bs
  | [], _, .nil, _ => .nil
  | b :: _, _, .cons r t, h => .cons ⟨[], Dt.reads0 I _ _ _ (h b List.mem_cons_self) r⟩ (each_rd I t fun c hc => h c (List.mem_cons_of_mem _ hc))
theorem vals_each : ∀ {bs : List (V × PyData)} {us : List Value}, PySem.W.EachIs (fun v (b : V × PyData) => RelV b.1 v) us bs → Vals (bs.map (·.1)) us
  | _, _, .nil => .nil
  | _, _, .cons r t => .cons r (vals_each t)
theorem c_sortDt {X : Cx} (hu : X.A.units + 64 < cLine) : CallR X (.builtin "sorted") (rSortDt X.K) := by
  intro pins s σ H xs us Q I r h
  obtain ⟨a, bs, rfl, hS, hD, hal, hsk, hdp, q⟩ := h
  rw [Vals.ref1 r]
  obtain ⟨its, rv, pl, hz⟩ := I.list hS
  have hlen : its.length = bs.length := by rw [← rv.length, List.length_map]
  refine PySem.W.sorted_data (R := fun v (b : V × PyData) => RelV b.1 v) (enc := fun b : V × PyData => b.2) (bs := bs) pl.isList (each_of (K := X.K) I rv) (each_rd I rv hD) hal hsk (by rw [← List.length_map (f := fun b : V × PyData => b.1)]; exact hz) (fun b hb => by have := hdp b hb; omega) fun out ho eo => ?_
  obtain ⟨c, hc⟩ := PyProof.Rows.sortedAll_at s.heap its out.toArray
  refine ⟨.ref (s.heap.objs.size + 1), _, I.laid (t' := s.toks) (o := .lst ((bs.mergeSort (PySem.W.dataLe false (·.2))).map (·.1))) (fun b o e => PyProof.Rows.sortedAll_old e) (Nat.le_succ _) ?_, rfl, q _ (I.hok.fresh (Nat.le_succ _))⟩
  refine ⟨?_, out, c, vals_each eo, hc⟩
  rw [List.length_map, List.length_mergeSort, ← List.length_map (f := fun b : V × PyData => b.1)]
  exact hz
end Rd
set_option Elab.async false
set_option linter.all false
set_option maxRecDepth 100000
set_option maxHeartbeats 4000000
/-! Rs3: sorted of a dict whose keys are tuples; sorted of a list of one datum. -/
namespace Rd
open PySem PySem.Spec PyProof.Rows L2
theorem general_lt (x y : Value) : PyProof.Rows.keyLt' PyProof.Rows.general' x y = PyProof.Rows.oneLt' false x y := rfl
theorem sorts_short {prog : Program} {w : World} {A : Around} {s : Shared} {vs : List Value} {ds : List PyData} (e : PySem.W.EachIs (fun v d => ∃ as, Reads s.heap v d as) vs ds) (hal : PySem.W.AllAlike ds) (hn : ∀ d ∈ ds, d ≠ .none) (h1 : vs.length ≤ 1) (hu : ∀ d, d ∈ ds → A.units + d.depth < cLine) : PySem.W.SortsAt prog w A s (PySem.W.dataKind s.heap ds) vs := by
  refine ⟨fun v hv => ?_, PyProof.Rows.general', fun E x y a b Q ha hb hq => ?_, fun h2 => absurd h2 (by omega)⟩
  · obtain ⟨d, hd, as, r⟩ := e.left v hv
    exact ⟨_, PySem.W.dataKind_some hal hd r⟩
  · obtain ⟨d, as, hd, ra, rfl⟩ := PySem.W.dataKind_inv ha
    obtain ⟨d', as', hd', rb, rfl⟩ := PySem.W.dataKind_inv hb
    rw [general_lt]
    exact PySem.W.oneLt_alike (fun z => absurd z (by decide)) ra rb (hal d hd d' hd') (hn d hd) (Nat.lt_of_le_of_lt (Nat.add_le_add_left (Nat.min_le_left _ _) _) (hu d hd)) hq
theorem one_eq {α : Type} : ∀ {l : List α}, l.length ≤ 1 → ∀ a ∈ l, ∀ b ∈ l, a = b
  | [], _, _, h, _, _ => (List.not_mem_nil h).elim
  | [x], _, a, h, b, h' => by rw [List.mem_singleton.mp h, List.mem_singleton.mp h']
  | _ :: _ :: _, h, _, _, _, _ => by simp only [List.length_cons] at h; omega
theorem one_sort {α : Type} (le : α → α → Bool) : ∀ {l : List α}, l.length ≤ 1 → l.mergeSort le = l
  | [], _ => List.mergeSort_nil
  | [x], _ => List.mergeSort_singleton x
  | _ :: _ :: _, h => by simp only [List.length_cons] at h; omega
/-- sorted(l), l a list of one datum or none -/
def rSort1 (K : PySem.W.Frag) : List V → Hp → VK → Prop := fun xs H Q => ∃ (a : Addr) (bs : List (V × PyData)), xs = [.ref a] ∧ SqL K H a (bs.map (·.1)) ∧ (∀ b ∈ bs, Dt K H b.1 b.2) ∧ bs.length ≤ 1 ∧ (∀ b ∈ bs, PySem.W.alike b.2 b.2 = true ∧ b.2 ≠ .none ∧ b.2.depth ≤ 50) ∧
  ∀ p, H p = none → Q (.ref p) (upd H p (.lst (bs.map (·.1))))
theorem c_sort1 {X : Cx} (hu : X.A.units + 64 < cLine) : CallR X (.builtin "sorted") (rSort1 X.K) := by
  intro pins s σ H xs us Q I r h
  obtain ⟨a, bs, rfl, hS, hD, h1, hk, q⟩ := h
  rw [Vals.ref1 r]
  obtain ⟨its, rv, pl, hz⟩ := I.list hS
  have hlen : its.length = bs.length := by rw [← rv.length, List.length_map]
  have e := each_of (K := X.K) I rv
  have er := each_rd I rv hD
  have er' : PySem.W.EachIs (fun v (b : V × PyData) => ∃ as, Reads (PySem.W.sortingHeap (PySem.W.copyHeap s.heap its) (s.heap.objs.size + 1) its) v b.2 as) its bs := er.mono fun _ _ ⟨as, r⟩ => ⟨as, PyProof.Rows.Reads.keeps (fun _ _ => PySem.W.sorting_copy_old) r⟩
  have hal : PySem.W.AllAlike (bs.map (·.2)) := by
    intro d hd d' hd'
    obtain ⟨b, hb, rfl⟩ := List.mem_map.mp hd
    obtain ⟨b', hb', rfl⟩ := List.mem_map.mp hd'
    rw [← one_eq h1 b hb b' hb']
    exact (hk b hb).1
  have hM : PySem.W.EachIs (fun v (d : PyData) => ∃ as, Reads (PySem.W.sortingHeap (PySem.W.copyHeap s.heap its) (s.heap.objs.size + 1) its) v d as) its (bs.map (·.2)) := PySem.W.each_map (R := fun v d => ∃ as, Reads (PySem.W.sortingHeap (PySem.W.copyHeap s.heap its) (s.heap.objs.size + 1) its) v d as) (fun b : V × PyData => b.2) er'
  refine PySem.W.sorted_vals pl.isList (sorts_short (s := { s with heap := PySem.W.sortingHeap (PySem.W.copyHeap s.heap its) (s.heap.objs.size + 1) its }) hM hal (fun d hd => by
    obtain ⟨b, hb, rfl⟩ := List.mem_map.mp hd
    exact (hk b hb).2.1) (by omega) (fun d hd => by
    obtain ⟨b, hb, rfl⟩ := List.mem_map.mp hd
    have := (hk b hb).2.2
    show X.A.units + 1 + 1 + b.2.depth < cLine
    omega)) (by rw [hlen]; rw [List.length_map] at hz; exact hz) ?_
  have eo := PySem.W.sortVals_data (enc := fun b : V × PyData => b.2) false e er' hal
  have eb : bs.mergeSort (PySem.W.dataLe false fun b : V × PyData => b.2) = bs := one_sort _ h1
  rw [eb] at eo
  revert eo
  generalize PySem.W.sortVals _ false its its = out
  intro eo
  obtain ⟨c, hc⟩ := PyProof.Rows.sortedAll_at s.heap its out.toArray
  refine ⟨.ref (s.heap.objs.size + 1), _, I.laid (t' := s.toks) (o := .lst (bs.map (·.1))) (fun b o e => PyProof.Rows.sortedAll_old e) (Nat.le_succ _) ?_, rfl, q _ (I.hok.fresh (Nat.le_succ _))⟩
  exact ⟨hz, out, c, vals_each eo, hc⟩
/-! a dict with tuple keys -/
def kD : Key → PyData
  | .inl i => .int i
  | .inr x => .str x
def keyD (k : List Key) : PyData := .tuple (k.map kD)
theorem dt_keys {K : PySem.W.Frag} {H : Hp} : ∀ k : List Key, DtAll K H (k.map kV) (k.map kD)
  | [] => .nil
  | .inl i :: k => .cons (.int i) (dt_keys k)
  | .inr x :: k => .cons (.str x) (dt_keys k)
theorem dt_key {K : PySem.W.Frag} {H : Hp} {b : Addr} {k : List Key} (h : H b = some (.tup (k.map kV))) : Dt K H (.ref b) (keyD k) := .tup (SqT.of h) (dt_keys k)
theorem depth_keys : ∀ k : List Key, PyData.depthAll (k.map kD) = 0
  | [] => by simp [PyData.depthAll]
  | .inl i :: k => by
    show PyData.depthAll (.int i :: k.map kD) = 0
    rw [PyData.depthAll, depth_keys k]; simp [PyData.depth]
  | .inr x :: k => by
    show PyData.depthAll (.str x :: k.map kD) = 0
    rw [PyData.depthAll, depth_keys k]; simp [PyData.depth]
/-- sorted(d): the keys' tuples in order -/
def rSortDT : List V → Hp → VK → Prop := fun xs H Q => ∃ (a : Addr) (kvs : List (List Key × V)), xs = [.ref a] ∧ L2.Rd H a (.dT kvs) ∧ PySem.W.AllAlike (kvs.map fun kv => keyD kv.1) ∧ PySem.W.Sortable (kvs.map fun kv => keyD kv.1) ∧
  ∀ p (rs : List Addr), H p = none → IsKeys H kvs rs → Q (.ref p) (upd H p (.lst (((kvs.zip rs).mergeSort (PySem.W.dataLe false fun z => keyD z.1.1)).map fun z => V.ref z.2)))
theorem keys_each {h : Heap} : ∀ {kvs : List (List Key × V)} {rs : List Addr}, kvs.length = rs.length → PySem.W.EachIs (fun v (z : (List Key × V) × Addr) => v = Value.ref z.2) (rs.map Value.ref) (kvs.zip rs)
  | [], [], _ => .nil
  | _ :: _, _ :: _, e => .cons rfl (keys_each (h := h) (Nat.succ.inj e))
theorem each_of_mem {α β : Type} {R : α → β → Prop} {S : α → β → Prop} : ∀ {l : List α} {m : List β}, PySem.W.EachIs R l m → (∀ a b, b ∈ m → R a b → S a b) → PySem.W.EachIs S l m
  | _, _, .nil, _ => .nil
  | _, _, .cons r t, h => .cons (h _ _ List.mem_cons_self r) (each_of_mem t fun a b hb => h a b (List.mem_cons_of_mem _ hb))
theorem vals_of_each : ∀ {us : List Value} {zs : List ((List Key × V) × Addr)}, PySem.W.EachIs (fun v z => v = Value.ref z.2) us zs → Vals (zs.map fun z => V.ref z.2) us
  | _, _, .nil => .nil
  | _, _, .cons r t => .cons (by rw [r]; rfl) (vals_of_each t)
theorem isKeys_zip {H : Hp} : ∀ {kvs : List (List Key × V)} {rs : List Addr}, IsKeys H kvs rs → ∀ z ∈ kvs.zip rs, H z.2 = some (.tup (z.1.1.map kV))
  | _, _, .nil, _, h => (List.not_mem_nil h).elim
  | _, _, .cons r t, z, h => by
    rcases List.mem_cons.mp h with e | e
    · rw [e]; exact r
    · exact isKeys_zip t z e
theorem c_sortDT {X : Cx} (hc : X.calm = true) (hu : X.A.units + 64 < cLine) : CallR X (.builtin "sorted") rSortDT := by
  intro pins s σ H xs us Q I r h
  obtain ⟨d, kvs, rfl, hd, hal, hsk, q⟩ := h
  obtain ⟨u, rfl, rx⟩ := r.one
  cases rx
  obtain ⟨z, hs, ks, pr, o, es, ep, ho, hx, hdt, he, hn⟩ := (show ObjOk X.prog X.w H s.heap d (.dT kvs) from hd.ok I.hok)
  have l1 : es.size = ks.length := size_of_entries he
  have l2 : kvs.length = ks.length := Paired.length pr
  have hK : IsKeys H kvs (ks.map fun x => x.2.1) := isKeys_of pr
  generalize hrs : (ks.map fun x => x.2.1) = rs at hK
  have l3 : kvs.length = rs.length := by rw [← hrs, List.length_map]; exact l2
  refine Calls.call_function_entry PyProof.Rows.kind_sorted PyProof.Rows.plain_sorted PyProof.Rows.entry_sorted (PyProof.Rows.args_sorted1 _) ?_
  unfold Builtin.«sorted»
  refine wpAny_bind (m := checkCount "sorted" 1 1 _) (wpAny_pure ?_)
  refine wpAny_bind (PySem.W.kdu_collect (A := X.A.in1) (kdl_raw hs hx hdt) (I.ok.hd hc) ho (by omega) fun h' tk acc hk hacc => ?_)
  have ea : acc.toList = rs.map Value.ref := by
    rw [← hrs, List.map_map]
    have hl : acc.toList.length = ks.length := by rw [Array.length_toList, hacc.1]; exact l1
    apply List.ext_getElem?
    intro j
    rw [List.getElem?_map]
    cases hj : acc.toList[j]? with
    | none =>
      have h1 := List.getElem?_eq_none_iff.mp hj
      rw [List.getElem?_eq_none (by omega)]
      all_goals rfl
    | some v =>
      obtain ⟨en, hen, hv⟩ := hacc.2 j v (by rw [← Array.getElem?_toList]; exact hj)
      have qe := entry_at he j
      rw [hen] at qe
      cases hb : ks[j]? with
      | none =>
        rw [hb] at qe
        exact nomatch (show some en = none from qe)
      | some b =>
        rw [hb] at qe
        have e2 : en = entryOfKey (tupleKind (mixKind X.prog X.w)) b := Option.some.inj qe
        rw [hv, e2]
        all_goals rfl
  have I1 : L2.Inv X pins σ H { s with heap := h', toks := tk } := I.kept hk
  have hal2 : acc.toList.length = kvs.length := by rw [ea, List.length_map, l3]
  refine wpAny_bind (wpAny_newList ?_ (by rw [hal2]; omega))
  have hoL : (h'.push (seqObj "list" acc.toList.toArray 0)).get? h'.objs.size = some (seqObj "list" acc.toList.toArray 0) := Heap.get?_push_size _ rfl
  show wpAny _ _ _ _ _ { s with heap := h'.push (seqObj "list" acc.toList.toArray 0), toks := tk }
  have ke := keys_each (h := h') l3
  rw [← ea] at ke
  have mm : ∀ {p : PyData → Prop}, (∀ d ∈ kvs.map fun kv => keyD kv.1, p d) → ∀ d ∈ (kvs.zip rs).map fun z => keyD z.1.1, p d := fun h d hd => by
    obtain ⟨z, hz, rfl⟩ := List.mem_map.mp hd
    exact h _ (List.mem_map.mpr ⟨z.1, (List.of_mem_zip hz).1, rfl⟩)
  have hal' : PySem.W.AllAlike ((kvs.zip rs).map fun z => keyD z.1.1) := mm fun d hd => mm fun d' hd' => hal d hd d' hd'
  have hsk' : PySem.W.Sortable ((kvs.zip rs).map fun z => keyD z.1.1) := hsk.imp (fun h => mm h) fun h => mm h
  refine wpAny_bind (wpAny_holding (PySem.W.list_sort_data (s := { s with heap := h'.push (seqObj "list" acc.toList.toArray 0), toks := tk }) (R := fun v (z : (List Key × V) × Addr) => v = Value.ref z.2) (enc := fun z => keyD z.1.1) (bs := kvs.zip rs) hoL ke ?_ hal' hsk' (by rw [List.length_zip]; omega) (fun b _ => ?_) fun out ho2 eo => ?_))
  · refine each_of_mem ke fun v z hz e => ?_
    subst e
    refine ⟨[], PyProof.Rows.Reads.keeps (fun b u e => Heap.get?_push_of_some _ e) (Dt.reads0 I1 _ _ _ (dt_key (isKeys_zip hK z hz)) rfl), List.not_mem_nil⟩
  · have : (keyD b.1.1).depth = 1 := by
      show PyData.depthAll (b.1.1.map kD) + 1 = 1
      rw [depth_keys]
    show X.A.units + 1 + 1 + (keyD b.1.1).depth < cLine
    omega
  obtain ⟨e', he'⟩ := PyProof.Rows.sortedHeap_at (vs := acc.toList) (out := List.toArray out) hoL
  refine wpAny_pure ⟨_, rfl, .ref h'.objs.size, _, I1.laid (t' := tk) (o := .lst (((kvs.zip rs).mergeSort (PySem.W.dataLe false fun z => keyD z.1.1)).map fun z => V.ref z.2)) (fun b u e => ?_) (Nat.le_refl _) ⟨?_, out, e', vals_of_each eo, he'⟩, rfl, q _ rs (I1.hok.fresh (Nat.le_refl _)) hK⟩
  · have hb : b < h'.objs.size := Heap.lt_size e
    rw [PyProof.Rows.sortedHeap_old (Nat.ne_of_lt hb) (by rw [size_push']; exact Nat.lt_succ_of_lt hb)]
    exact Heap.get?_push_of_some _ e
  · rw [List.length_map, List.length_mergeSort, List.length_zip]; omega
end Rd
set_option Elab.async false
set_option linter.all false
set_option maxRecDepth 100000
set_option maxHeartbeats 4000000
/-! Rmk: a class called by its name, with values and one keyword. -/
namespace Rd
open PySem PySem.Spec PyProof.Rows L2
def tMkKG (K : PySem.W.Frag) (C : Addr) (sp : Sp) (E : XK) (t : TA) (tk : TE) : TE := fun σ H Q => t σ H fun vs H1 => rMkSK K C sp E tk σ Q vs H1
section
variable {X : Cx} {CX : CXT} {k : Nat} {f C : Addr} {sp : Sp} {E : XK} {x kw : Str} {e e3 : Expr} {es : List Expr} {tk : TE} {t : TA} {p pos kpos : Pos}
theorem rd_mkKG {K : PySem.W.Frag} {σ : L2.St} {H : Hp} {Q : VK} (q : t σ H fun vs H1 => rMkSK K C sp E tk σ Q vs H1) : tMkKG K C sp E t tk σ H Q := q
theorem pe_mkKG (M : Mk X.K C f) (F : FnK X.prog X.w X.K X.mg X.base CX k f kw sp) (hr : Room (k + 1) X.A) (hx : Passes CX X E) (hg : Gl X x) (hm : X.mg x = some (.ref C)) (ha : PA X (e :: es) t) (hk : PE X e3 tk) (hdb : (x == ("__debug__" : Str)) = false := by decide)
    (he : starEach (e :: es) X.env = (false, eval e X.env) :: starEach es X.env := by rfl) (hall : (backToKw pos (keywordEach [⟨some kw, e3, kpos⟩] X.env)).all (·.1.isSome) = true := by rfl)
    (hks : (backToKw pos (keywordEach [⟨some kw, e3, kpos⟩] X.env)).filterMap (·.1) = [kw] := by rfl) (hpl : ((backTo pos (starEach (e :: es) X.env)).any (·.1) || (backToKw pos (keywordEach [⟨some kw, e3, kpos⟩] X.env)).any (·.1.isNone)) = false := by rfl) : PE X (.Call (.Name x p) (e :: es) [⟨some kw, e3, kpos⟩] pos) (tMkKG X.K C sp E t tk) := by
  refine ⟨fun pins s σ H Q I h => ?_⟩
  refine wpAny_Call_Name_kw (ld_glob I hg hm ?_ hdb)
  refine PySem.W.callWith_KW (h₀ := X.base) I.ok.mod.kin M.kp hall (thn (ha.run pos pins s σ H _ I h) fun us s2 ⟨vs, H2, I2, r, q⟩ => ?_) hpl he
  have q' : tCons tk tNil σ H2 (oneV fun v H3 => ∀ x dx, H3 x = none → H3 dx = none → dx ≠ x → sp (v :: V.ref x :: vs) (upd (upd H3 dx (.own x)) x (.ins C dx [])) (fun v H2 => v = .non ∧ Q (.ref x) H2) E) := q
  refine thn ((pk_cons hk pk_nil).run pos pins s2 σ H2 _ I2 q') fun ws s3 ⟨zs, H3, I3, rz, q3⟩ => ⟨I3.kIn, ?_⟩
  obtain ⟨v, rfl, q3⟩ := oneV_inv q3
  obtain ⟨u, rfl, ru⟩ := vals1 rz
  rw [hks]
  exact run_makeSK M F hr hx I3 r ru q3
end
end Rd
set_option Elab.async false
set_option linter.all false
set_option maxRecDepth 100000
set_option maxHeartbeats 4000000
/-! Roi: x in an own object (__contains__). -/
namespace Rd
open PySem PySem.Spec PyProof.Rows L2
section
variable {X : Cx} {CX : CXT} {k : Nat} {C f : Addr} {sp : Sp} {E : XK}
def rInO (C : Addr) (sp : Sp) (E : XK) (neg : Bool) : R2 := fun x y H Q => (∃ a dx fs, y = .ref a ∧ H a = some (.ins C dx fs)) ∧ sp [y, x] H (fun v H' => ∃ b, v = .bl b ∧ Q (.bl (if neg then !b else b)) H') E
theorem contains_own {pins : List (Addr × Obj)} {σ : L2.St} {H : Hp} {s : Shared} {x : V} {v : Value} {a dx : Addr} {fs : List (Str × V)} {Q : Bool → Shared → Prop} {R : Bool → Hp → Prop} (hs : PySem.W.findIn X.K (.ref C) "__contains__" = some (some (.ref f))) (hf : PySem.W.isFn X.K (.ref f) = true) (F : FnR X.prog X.w X.K X.mg X.base CX k f sp) (hr : Room k X.A) (hx : Passes CX X E) (I : L2.Inv X pins σ H s) (ha : H a = some (.ins C dx fs)) (rx : RelV x v)
    (h : sp [.ref a, x] H (fun w H' => ∃ b, w = .bl b ∧ R b H') E) (hR : ∀ b H' s', L2.Inv X pins σ H' s' → R b H' → Q b s') : wpAny (model X.prog X.w) X.A (contains (.ref a) v) Q X.xe s := by
  obtain ⟨ox, od, J, _⟩ := ins_look I ha
  unfold contains
  refine wpAny_holding ?_
  show wpAny _ _ (specialOf (.ref a) "__contains__" >>= _) _ _ _
  refine wpAny_bind (wpAny_bind (J.type.here ((PySem.W.looks_findIn I.kIn hs).here ?_)))
  show wpAny _ _ (callSpecialUnlessNone? (.ref a) "__contains__" [v] _ >>= _) _ _ _
  refine wpAny_bind ?_
  unfold callSpecialUnlessNone?
  refine wpAny_bind (wpAny_bind (J.type.here ((PySem.W.looks_findIn I.kIn hs).here (wpAny_holding (wpAny_bind ((PySem.W.bind_fn I.kIn _ (beq_iff_eq.mp hf)).here ?_))))))
  show wpAny _ _ (call (.ref f) [.ref a, v] >>= _) _ _ _
  refine wpAny_bind (run_at (vs := [.ref a, x]) F hr I.env0 hx I (.cons rfl (.cons rx .nil)) h fun u s' hq => ?_)
  obtain ⟨w, H', I', rw', b, rfl, q⟩ := hq
  cases rw'
  refine wpAny_pure ?_
  show wpAny _ _ (truthy (.bool b)) _ _ _
  exact wpAny_pure (hR b H' s' I' q)
theorem op_inO (hs : PySem.W.findIn X.K (.ref C) "__contains__" = some (some (.ref f))) (hf : PySem.W.isFn X.K (.ref f) = true) (F : FnR X.prog X.w X.K X.mg X.base CX k f sp) (hr : Room k X.A) (hx : Passes CX X E) : OpR X (compareOp .In) (rInO C sp E false) := by
  intro pins s σ H x y v u Q I rx ry h
  obtain ⟨⟨a, dx, fs, rfl, ha⟩, h⟩ := h
  cases ry
  exact wpAny_bind (contains_own (R := fun b H' => Q (.bl b) H') hs hf F hr hx I ha rx h fun b H' s' I' q => wpAny_pure ⟨.bl b, H', I', rfl, q⟩)
theorem op_notInO (hs : PySem.W.findIn X.K (.ref C) "__contains__" = some (some (.ref f))) (hf : PySem.W.isFn X.K (.ref f) = true) (F : FnR X.prog X.w X.K X.mg X.base CX k f sp) (hr : Room k X.A) (hx : Passes CX X E) : OpR X (compareOp .NotIn) (rInO C sp E true) := by
  intro pins s σ H x y v u Q I rx ry h
  obtain ⟨⟨a, dx, fs, rfl, ha⟩, h⟩ := h
  cases ry
  exact wpAny_bind (contains_own (R := fun b H' => Q (.bl (!b)) H') hs hf F hr hx I ha rx h fun b H' s' I' q => wpAny_pure ⟨.bl (!b), H', I', rfl, q⟩)
theorem rd_inO {neg : Bool} {x : V} {H : Hp} {Q : VK} {a dx : Addr} {fs : List (Str × V)} (h : H a = some (.ins C dx fs)) (q : sp [.ref a, x] H (fun v H' => ∃ b, v = .bl b ∧ Q (.bl (if neg then !b else b)) H') E) : rInO C sp E neg x (.ref a) H Q := ⟨⟨a, dx, fs, rfl, h⟩, q⟩
end
end Rd
set_option Elab.async false
set_option linter.all false
set_option maxRecDepth 100000
set_option maxHeartbeats 4000000
/-! Rzl: list(zip(x, y)), x and y lists or tuples. -/
namespace Zl
open PySem PySem.Calls PyProof.Rows PyProof.V PySem.Spec PySem.W
section
variable {prog : Program} {w : World} {A : Around} {E : Value → Shared → Prop} {s : Shared} {z TI TO T i1 i2 : Addr} {fp1 fp2 : List Addr} {n1 n2 i : Nat} {P1 P2 : Nat → Value → Prop} {St1 St2 : Nat → Heap → Prop} {a1 a2 : Value} {f : Bool} {oT : Obj}
theorem next_item_held {Q : Value → Shared → Prop} (S : ZipSep2 z TI TO i1 i2 fp1 fp2) (D1 : Draws prog w A i1 fp1 n1 P1 St1) (D2 : Draws prog w A i2 fp2 n2 P2 St2)
    (hz : IsZipHeld s.heap z TI TO T f) (hT : s.heap.get? T = some oT) (hTI : IsTupOf2 s.heap TI (.ref i1) (.ref i2)) (st1 : St1 i s.heap) (st2 : St2 i s.heap) (hlt1 : i < n1) (hlt2 : i < n2)
    (hQ : ∀ x1 x2 h' tk, P1 i x1 → P2 i x2 → IsZipHeld h' z TI TO T true → St1 (i + 1) h' → St2 (i + 1) h' → IsTupOf2 h' s.heap.objs.size x1 x2 → h'.objs.size = s.heap.objs.size + 1 →
      (∀ c o, c ≠ z → c ≠ i1 → c ≠ i2 → s.heap.get? c = some o → h'.get? c = some o) → Q (.ref s.heap.objs.size) { s with heap := h', toks := tk }) :
    wpAny (model prog w) A (Builtin.«zip.__next__» ⟨[.ref z], []⟩) (fun fin s' => ∃ v, fin = .done (.ret v) ∧ Q v s') E s := by
  obtain ⟨hp, g, d, tk0, os⟩ := s
  show wpAny _ _ (field (.ref z) 2 >>= _) _ _ _
  refine wpAny_bind (wpAny_field hz rfl (x := .bool false) rfl ?_)
  show wpAny _ _ (field (.ref z) 3 >>= _) _ _ _
  refine wpAny_bind (wpAny_field hz rfl (x := .ref TI) rfl ?_)
  refine wpAny_bind (wpAny_seqItems hTI rfl ?_)
  show wpAny _ _ (Builtin.SmallTypes.ownedTupleIsFree (.ref z) >>= _) _ _ _
  refine wpAny_bind (wpAny_tupleHeld_zip hz hT fun h₁ hz₁ hs₁ => ?_)
  simp only [Bool.false_eq_true, if_false]
  replace hs₁ : Heap.SameBut z hp h₁ := hs₁
  refine wpAny_bind ?_
  rw [← Array.forIn_toList]
  simp only [List.forIn_cons, List.forIn_nil]
  refine wpAny_bind (wpAny_bind (wpAny_holding ?_))
  show wpAny _ _ (Builtin.SmallTypes.nextOf (.ref i1) >>= _) _ _ ⟨h₁, g, d, tk0, os⟩
  refine wpAny_bind (D1.item i _ _ _ hlt1 (D1.over st1 hs₁ S.zf1) fun x1 p1 tk1 hx1 sn1 hp1 => wpAny_pure ?_)
  replace hp1 : Heap.SameBut i1 h₁ p1 := hp1
  refine wpAny_pure ?_
  refine wpAny_bind (wpAny_bind (wpAny_holding ?_))
  show wpAny _ _ (Builtin.SmallTypes.nextOf (.ref i2) >>= _) _ _ ⟨p1, g, d, tk1, os⟩
  refine wpAny_bind (D2.item i _ _ _ hlt2 (D2.over (D2.over st2 hs₁ S.zf2) hp1 S.sep1_2) fun x2 p2 tk2 hx2 sn2 hp2 => wpAny_pure ?_)
  replace hp2 : Heap.SameBut i2 p1 p2 := hp2
  refine wpAny_pure (wpAny_pure ?_)
  show wpAny _ _ (newTuple [x1, x2] >>= _) _ _ ⟨p2, g, d, tk2, os⟩
  refine wpAny_bind (wpAny_newTuple ?_)
  have hsz : p2.objs.size = hp.objs.size := by rw [hp2.1, hp1.1, hs₁.1]
  have hz₃ : IsZipHeld p2 z TI TO T true := hp2.extBut _ _ S.zi2 (hp1.extBut _ _ S.zi1 hz₁)
  have hk : ∀ c o, c ≠ z → c ≠ i1 → c ≠ i2 → hp.get? c = some o → p2.get? c = some o := fun c o c1 c2 c3 e => hp2.extBut _ _ c3 (hp1.extBut _ _ c2 (hs₁.extBut _ _ c1 e))
  refine wpAny_pure ⟨_, rfl, ?_⟩
  show Q (.ref p2.objs.size) _
  have hp' : IsTupOf2 (p2.push { cls := .type "tuple", data := .seq #[x1, x2] }) p2.objs.size x1 x2 := Heap.get?_push_size _ rfl
  have hz4 : (p2.push { cls := .type "tuple", data := .seq #[x1, x2] }).objs.size = p2.objs.size + 1 := Heap.size_push ..
  rw [hsz] at hp' hz4 ⊢
  exact hQ x1 x2 _ _ hx1 hx2 (Heap.get?_push_of_some _ hz₃) (D1.frame _ _ _ (D1.over sn1 hp2 S.sep2_1) fun b _ o e => Heap.get?_push_of_some _ e) (D2.frame _ _ _ sn2 fun b _ o e => Heap.get?_push_of_some _ e) hp' hz4 fun c o c1 c2 c3 e => Heap.get?_push_of_some _ (hk c o c1 c2 c3 e)
theorem next_end_held {Q : Fin → Shared → Prop} (S : ZipSep2 z TI TO i1 i2 fp1 fp2) (D1 : Draws prog w A i1 fp1 n1 P1 St1) (D2 : Draws prog w A i2 fp2 n2 P2 St2)
    (hz : IsZipHeld s.heap z TI TO T f) (hT : s.heap.get? T = some oT) (hTI : IsTupOf2 s.heap TI (.ref i1) (.ref i2)) (st1 : St1 i s.heap) (st2 : St2 i s.heap) (hle1 : i ≤ n1) (hle2 : i ≤ n2) (hend : i = n1 ∨ i = n2)
    (hE : ∀ h' tk e, (∀ c o, c ≠ z → c ≠ i1 → c ≠ i2 → s.heap.get? c = some o → h'.get? c = some o) → (∃ o, h'.get? e = some o ∧ o.cls = .type "StopIteration") → E (.ref e) { s with heap := h', toks := tk }) :
    wpAny (model prog w) A (Builtin.«zip.__next__» ⟨[.ref z], []⟩) Q E s := by
  obtain ⟨hp, g, d, tk0, os⟩ := s
  show wpAny _ _ (field (.ref z) 2 >>= _) _ _ _
  refine wpAny_bind (wpAny_field hz rfl (x := .bool false) rfl ?_)
  show wpAny _ _ (field (.ref z) 3 >>= _) _ _ _
  refine wpAny_bind (wpAny_field hz rfl (x := .ref TI) rfl ?_)
  refine wpAny_bind (wpAny_seqItems hTI rfl ?_)
  show wpAny _ _ (Builtin.SmallTypes.ownedTupleIsFree (.ref z) >>= _) _ _ _
  refine wpAny_bind (wpAny_tupleHeld_zip hz hT fun h₁ hz₁ hs₁ => ?_)
  simp only [Bool.false_eq_true, if_false]
  replace hs₁ : Heap.SameBut z hp h₁ := hs₁
  refine wpAny_bind ?_
  rw [← Array.forIn_toList]
  simp only [List.forIn_cons, List.forIn_nil]
  refine wpAny_bind (wpAny_bind (wpAny_holding ?_))
  show wpAny _ _ (Builtin.SmallTypes.nextOf (.ref i1) >>= _) _ _ ⟨h₁, g, d, tk0, os⟩
  by_cases hlt1 : i < n1
  · refine wpAny_bind (D1.item i _ _ _ hlt1 (D1.over st1 hs₁ S.zf1) fun x1 p1 tk1 hx1 sn1 hp1 => wpAny_pure ?_)
    replace hp1 : Heap.SameBut i1 h₁ p1 := hp1
    refine wpAny_pure ?_
    refine wpAny_bind (wpAny_bind (wpAny_holding ?_))
    show wpAny _ _ (Builtin.SmallTypes.nextOf (.ref i2) >>= _) _ _ ⟨p1, g, d, tk1, os⟩
    have hi2 : i = n2 := by omega
    refine wpAny_bind (D2.done ⟨p1, g, d, tk1, os⟩ _ _ (by rw [← hi2]; exact D2.over (D2.over st2 hs₁ S.zf2) hp1 S.sep1_2) fun q e hq he => ?_)
    replace hq : Heap.ExtBut i2 p1 q := hq
    exact hE q tk1 e (fun c o c1 c2 c3 x => hq _ _ c3 (hp1.extBut _ _ c2 (hs₁.extBut _ _ c1 x))) he
  · have hi1 : i = n1 := by omega
    refine wpAny_bind (D1.done ⟨h₁, g, d, tk0, os⟩ _ _ (by rw [← hi1]; exact D1.over st1 hs₁ S.zf1) fun q e hq he => ?_)
    replace hq : Heap.ExtBut i1 h₁ q := hq
    exact hE q tk0 e (fun c o c1 c2 _ x => hq _ _ c2 (hs₁.extBut _ _ c1 x)) he
theorem pyNext_item_held {Q : Option Value → Shared → Prop} (S : ZipSep2 z TI TO i1 i2 fp1 fp2) (D1 : Draws prog w A.in1 i1 fp1 n1 P1 St1) (D2 : Draws prog w A.in1 i2 fp2 n2 P2 St2)
    (hz : IsZipHeld s.heap z TI TO T f) (hT : s.heap.get? T = some oT) (hTI : IsTupOf2 s.heap TI (.ref i1) (.ref i2)) (st1 : St1 i s.heap) (st2 : St2 i s.heap) (hlt1 : i < n1) (hlt2 : i < n2)
    (hQ : ∀ x1 x2 h' tk, P1 i x1 → P2 i x2 → IsZipHeld h' z TI TO T true → St1 (i + 1) h' → St2 (i + 1) h' → IsTupOf2 h' s.heap.objs.size x1 x2 → h'.objs.size = s.heap.objs.size + 1 →
      (∀ c o, c ≠ z → c ≠ i1 → c ≠ i2 → s.heap.get? c = some o → h'.get? c = some o) → Q (some (.ref s.heap.objs.size)) { s with heap := h', toks := tk }) :
    wpAny (model prog w) A (pyNext (.ref z)) Q E s := by
  have hTy : s.TypeIs (.ref z) "zip" := ⟨_, hz, rfl⟩
  unfold pyNext
  exact wpAny_bind (wpAny_attempt (wpAny_callSpecial?_slot (name := Str.ofString "__next__") hTy F.slot_zip_next
    (wpAny_call_entry F.slot_zip_next hTy F.entry_zip_next
      (next_item_held S D1 D2 hz hT hTI st1 st2 hlt1 hlt2 fun x1 x2 h' tk y1 y2 b1 b2 d1 d2 b5 b6 => wpAny_pure (hQ x1 x2 h' tk y1 y2 b1 b2 d1 d2 b5 b6)) (F.args_zip_next_1 _))))
theorem pyNext_end_held {Q : Option Value → Shared → Prop} (S : ZipSep2 z TI TO i1 i2 fp1 fp2) (D1 : Draws prog w A.in1 i1 fp1 n1 P1 St1) (D2 : Draws prog w A.in1 i2 fp2 n2 P2 St2)
    (hz : IsZipHeld s.heap z TI TO T f) (hT : s.heap.get? T = some oT) (hTI : IsTupOf2 s.heap TI (.ref i1) (.ref i2)) (st1 : St1 i s.heap) (st2 : St2 i s.heap) (hle1 : i ≤ n1) (hle2 : i ≤ n2) (hend : i = n1 ∨ i = n2)
    (hQ : ∀ h' tk, (∀ c o, c ≠ z → c ≠ i1 → c ≠ i2 → s.heap.get? c = some o → h'.get? c = some o) → Q none { s with heap := h', toks := tk }) : wpAny (model prog w) A (pyNext (.ref z)) Q E s := by
  have hTy : s.TypeIs (.ref z) "zip" := ⟨_, hz, rfl⟩
  unfold pyNext
  refine wpAny_bind (wpAny_attempt (wpAny_callSpecial?_slot (name := Str.ofString "__next__") hTy F.slot_zip_next
    (wpAny_call_entry F.slot_zip_next hTy F.entry_zip_next (next_end_held S D1 D2 hz hT hTI st1 st2 hle1 hle2 hend fun h' tk e hk he => ?_) (F.args_zip_next_1 _))))
  obtain ⟨o, ho, hc⟩ := he
  refine wpAny_bind (wpAny_isInstance (T := "StopIteration") (b := true) ⟨o, ho, hc⟩ isSubtype_stop ?_)
  exact wpAny_pure (hQ _ _ hk)
/-- the zip's state: no tuple is out yet, or one that is held -/
def ZSt (h : Heap) (z TI TO i1 i2 S : Addr) (i : Nat) : Prop := IsTupOf2 h TI (.ref i1) (.ref i2) ∧ ((IsZip h z TI TO .none ∧ ∃ a1 a2, IsTupOf2 h TO a1 a2) ∨ ∃ T f oT, IsZipHeld h z TI TO T f ∧ h.get? T = some oT ∧ T ≠ z ∧ T ≠ i1 ∧ T ≠ i2 ∧ T ≠ S)
/-- places apart -/
structure Ap (z TI TO i1 i2 S : Addr) (fp1 fp2 : List Addr) : Prop extends ZipSep2 z TI TO i1 i2 fp1 fp2 where
  Sz : S ≠ z
  STI : S ≠ TI
  STO : S ≠ TO
  Sf1 : S ∉ fp1
  Sf2 : S ∉ fp2
theorem Ap.Si1 {S : Addr} (D : Ap z TI TO i1 i2 S fp1 fp2) : S ≠ i1 := fun e => D.Sf1 (by rw [e]; exact D.mem1)
theorem Ap.Si2 {S : Addr} (D : Ap z TI TO i1 i2 S fp1 fp2) : S ≠ i2 := fun e => D.Sf2 (by rw [e]; exact D.mem2)
theorem ZSt.keep {h h' : Heap} {S : Addr} (D : Ap z TI TO i1 i2 S fp1 fp2) (x : ZSt h z TI TO i1 i2 S i) (hk : ∀ b o, b ≠ S → h.get? b = some o → h'.get? b = some o) : ZSt h' z TI TO i1 i2 S i := by
  obtain ⟨x0, x⟩ := x
  refine ⟨hk _ _ D.STI.symm x0, ?_⟩
  rcases x with ⟨h1, a1, a2, h2⟩ | ⟨T, f, oT, h1, h2, h3, h4, h5, h6⟩
  · exact .inl ⟨hk _ _ D.Sz.symm h1, a1, a2, hk _ _ D.STO.symm h2⟩
  · exact .inr ⟨T, f, oT, hk _ _ D.Sz.symm h1, hk _ _ h6 h2, h3, h4, h5, h6⟩
theorem zst_item {S : Addr} {Q : Option Value → Shared → Prop} (D : Ap z TI TO i1 i2 S fp1 fp2) (D1 : Draws prog w A.in1 i1 fp1 n1 P1 St1) (D2 : Draws prog w A.in1 i2 fp2 n2 P2 St2) (x : ZSt s.heap z TI TO i1 i2 S i) (hS : S < s.heap.objs.size)
    (st1 : St1 i s.heap) (st2 : St2 i s.heap) (hlt1 : i < n1) (hlt2 : i < n2)
    (hQ : ∀ x1 x2 h' tk, P1 i x1 → P2 i x2 → ZSt h' z TI TO i1 i2 S (i + 1) → St1 (i + 1) h' → St2 (i + 1) h' → IsTupOf2 h' s.heap.objs.size x1 x2 → h'.objs.size = s.heap.objs.size + 1 →
      (∀ c o, c ≠ z → c ≠ TO → c ≠ i1 → c ≠ i2 → s.heap.get? c = some o → h'.get? c = some o) → Q (some (.ref s.heap.objs.size)) { s with heap := h', toks := tk }) :
    wpAny (model prog w) A (pyNext (.ref z)) Q E s := by
  obtain ⟨hTI, x⟩ := x
  obtain ⟨o1, ho1⟩ := D1.live _ _ st1
  obtain ⟨o2, ho2⟩ := D2.live _ _ st2
  rcases x with ⟨h1, a1, a2, h2⟩ | ⟨T, f, oT, h1, h2, h3, h4, h5, h6⟩
  · exact wpAny_pyNext_zipD2_item D.toZipSep2 D1 D2 h1 hTI h2 st1 st2 hlt1 hlt2 fun x1 x2 h' tk y1 y2 g1 g2 g3 g4 g5 g6 g7 => hQ x1 x2 h' tk y1 y2 ⟨g7 _ _ D.TIz D.TITO D.TIi1 D.TIi2 hTI, .inr ⟨_, false, _, g1, g5, Nat.ne_of_gt (Heap.lt_size h1), Nat.ne_of_gt (Heap.lt_size ho1), Nat.ne_of_gt (Heap.lt_size ho2), Nat.ne_of_gt hS⟩⟩ g3 g4 g5 g6 g7
  · exact pyNext_item_held D.toZipSep2 D1 D2 h1 h2 hTI st1 st2 hlt1 hlt2 fun x1 x2 h' tk y1 y2 g1 g3 g4 g5 g6 g7 => hQ x1 x2 h' tk y1 y2 ⟨g7 _ _ D.TIz D.TIi1 D.TIi2 hTI, .inr ⟨T, true, oT, g1, g7 _ _ h3 h4 h5 h2, h3, h4, h5, h6⟩⟩ g3 g4 g5 g6 fun c o c1 _ c2 c3 e => g7 c o c1 c2 c3 e
theorem zst_done {S : Addr} {Q : Option Value → Shared → Prop} (D : Ap z TI TO i1 i2 S fp1 fp2) (D1 : Draws prog w A.in1 i1 fp1 n1 P1 St1) (D2 : Draws prog w A.in1 i2 fp2 n2 P2 St2) (x : ZSt s.heap z TI TO i1 i2 S i)
    (st1 : St1 i s.heap) (st2 : St2 i s.heap) (hle1 : i ≤ n1) (hle2 : i ≤ n2) (hend : i = n1 ∨ i = n2)
    (hQ : ∀ h' tk, (∀ c o, c ≠ z → c ≠ TO → c ≠ i1 → c ≠ i2 → s.heap.get? c = some o → h'.get? c = some o) → Q none { s with heap := h', toks := tk }) : wpAny (model prog w) A (pyNext (.ref z)) Q E s := by
  obtain ⟨hTI, x⟩ := x
  rcases x with ⟨h1, a1, a2, h2⟩ | ⟨T, f, oT, h1, h2, h3, h4, h5, h6⟩
  · exact wpAny_pyNext_zipD2_end D.toZipSep2 D1 D2 h1 hTI h2 st1 st2 hle1 hle2 hend hQ
  · exact pyNext_end_held D.toZipSep2 D1 D2 h1 h2 hTI st1 st2 hle1 hle2 hend fun h' tk hk => hQ h' tk fun c o c1 _ c2 c3 e => hk c o c1 c2 c3 e
structure ZG (P1 P2 : Nat → Value → Prop) (lo : Addr) (h : Heap) (as : List Addr) : Prop where
  rise : as.Pairwise (· < ·)
  above : ∀ a ∈ as, lo < a
  pairs : ∀ (j : Nat) (a : Addr), as[j]? = some a → ∃ x1 x2, P1 j x1 ∧ P2 j x2 ∧ IsTupOf2 h a x1 x2
theorem ZG.there {lo : Addr} {h : Heap} {as : List Addr} (g : ZG P1 P2 lo h as) {a : Addr} (ha : a ∈ as) : a < h.objs.size := by
  obtain ⟨j, hj⟩ := List.mem_iff_getElem?.mp ha
  obtain ⟨_, _, _, _, e⟩ := g.pairs j a hj
  exact Heap.lt_size e
theorem ZG.low {lo lo' : Addr} {h : Heap} {as : List Addr} (g : ZG P1 P2 lo h as) (hl : lo' ≤ lo) : ZG P1 P2 lo' h as := ⟨g.rise, fun a ha => Nat.lt_of_le_of_lt hl (g.above a ha), g.pairs⟩
theorem zloop {S m : Nat} {R : Result → Shared → Prop} (D : Ap z TI TO i1 i2 S fp1 fp2) (D1 : Draws prog w A.in1.in1 i1 fp1 n1 P1 St1) (D2 : Draws prog w A.in1.in1 i2 fp2 n2 P2 St2) (hzS : z < S) (hTS : TO < S) (h1S : i1 < S) (h2S : i2 < S) (hm : m = min n1 n2) (hn : m ≤ sizeLine) (res : Value) {h₁ : Heap}
    (hR : ∀ h' tk acc c as, (∀ b o, b ≠ S → b ≠ z → b ≠ TO → b ≠ i1 → b ≠ i2 → h₁.get? b = some o → h'.get? b = some o) → h'.get? S = some { cls := .type "list", dict := none, data := .seq acc c, slots := #[] } → as.length = m → ZG P1 P2 S h' as →
      acc.toList = as.map Value.ref → R (.ok (.ret res)) { s with heap := h', toks := tk }) :
    ∀ (k i : Nat) (h : Heap) (tk c : Nat) (acc : Array Value) (as : List Addr), m - i = k → i ≤ m → ZSt h z TI TO i1 i2 S i → St1 i h → St2 i h → (∀ b o, b ≠ S → b ≠ z → b ≠ TO → b ≠ i1 → b ≠ i2 → h₁.get? b = some o → h.get? b = some o) →
      h.get? S = some { cls := .type "list", dict := none, data := .seq acc c, slots := #[] } → acc.toList = as.map Value.ref → as.length = i → ZG P1 P2 S h as →
      codeAny (model prog w) A (.builtin "list.extend.loop" ⟨[.ref S, .ref z, res], []⟩) R { s with heap := h, toks := tk } := by
  intro k
  induction k with
  | zero =>
    intro i h tk c acc as hk hi hst s1 s2 hkeep hS hacc hal hG
    refine codeAny_builtin PySem.F.entry_extend_loop ?_
    rw [Around.under_plainId PySem.F.plain_extend_loop _]
    show wpAny _ A.in1 (pyNext (.ref z) >>= _) _ _ _
    refine wpAny_bind (zst_done (s := { s with heap := h, toks := tk }) (A := A.in1) D D1 D2 hst s1 s2 (by omega) (by omega) (by omega) fun h' tk' he => ?_)
    refine wpAny_pure (hR h' tk' acc c as (fun b o g1 g2 g3 g4 g5 e => he b o g2 g3 g4 g5 (hkeep b o g1 g2 g3 g4 g5 e)) (he S _ D.Sz D.STO D.Si1 D.Si2 hS) (by omega) ⟨hG.rise, hG.above, fun j a hj => ?_⟩ hacc)
    obtain ⟨x1, x2, e1, e2, e3⟩ := hG.pairs j a hj
    have hb := hG.above a (List.mem_of_getElem? hj)
    exact ⟨x1, x2, e1, e2, he a _ (Nat.ne_of_gt (Nat.lt_trans hzS hb)) (Nat.ne_of_gt (Nat.lt_trans hTS hb)) (Nat.ne_of_gt (Nat.lt_trans h1S hb)) (Nat.ne_of_gt (Nat.lt_trans h2S hb)) e3⟩
  | succ k ih =>
    intro i h tk c acc as hk hi hst s1 s2 hkeep hS hacc hal hG
    have hsz : acc.size = i := by rw [← Array.length_toList, hacc, List.length_map, hal]
    refine codeAny_builtin PySem.F.entry_extend_loop ?_
    rw [Around.under_plainId PySem.F.plain_extend_loop _]
    show wpAny _ A.in1 (pyNext (.ref z) >>= _) _ _ _
    refine wpAny_bind (zst_item (s := { s with heap := h, toks := tk }) (A := A.in1) D D1 D2 hst (Heap.lt_size hS) s1 s2 (by omega) (by omega) fun x1 x2 h' tk' y1 y2 hst' t1 t2 ht hz' hkp => ?_)
    dsimp only at ht hz' hkp ⊢
    have hS' := hkp S _ D.Sz D.STO D.Si1 D.Si2 hS
    have up : ∀ b o, b ≠ S → h'.get? b = some o → (h'.update S (Obj.mapSeq (·.push (Value.ref h.objs.size)))).get? b = some o := fun b o hb e => (Heap.get?_update_other _ _ (Ne.symm hb)).trans e
    have hSl : S < h.objs.size := Heap.lt_size hS
    show wpAny _ A.in1 (updateSeq S (·.push (Value.ref h.objs.size)) >>= _) _ _ _
    refine wpAny_bind ?_
    refine wpAny_updateSeq hS' rfl (wpAny_pure ⟨plainId_quiet PySem.F.plain_extend_loop _, ih (i + 1) _ tk' _ (acc.push (Value.ref h.objs.size)) (as ++ [h.objs.size]) (by omega) (by omega) (hst'.keep D up)
      (D1.frame _ _ _ t1 fun b hb o e => up b o (fun q => D.Sf1 (q ▸ hb)) e) (D2.frame _ _ _ t2 fun b hb o e => up b o (fun q => D.Sf2 (q ▸ hb)) e)
      (fun b o g1 g2 g3 g4 g5 e => up b o g1 (hkp b o g2 g3 g4 g5 (hkeep b o g1 g2 g3 g4 g5 e))) (Heap.get?_update_self _ hS' rfl) (by rw [Array.toList_push, hacc, List.map_append]; rfl) (by rw [List.length_append, hal]; rfl) ⟨?_, ?_, ?_⟩⟩) (by rw [hsz]; omega) (by show (acc.push (Value.ref h.objs.size)).size ≤ sizeLine + 1; rw [Array.size_push, hsz]; omega)
    · refine List.pairwise_append.mpr ⟨hG.rise, List.pairwise_singleton _ _, fun a ha b hb => ?_⟩
      rw [List.mem_singleton.mp hb]
      exact hG.there ha
    · intro a ha
      rcases List.mem_append.mp ha with ha | ha
      · exact hG.above a ha
      · rw [List.mem_singleton.mp ha]; exact hSl
    · intro j b hj
      rcases Nat.lt_trichotomy j as.length with h1 | h1 | h1
      · rw [List.getElem?_append_left h1] at hj
        obtain ⟨x1', x2', e1, e2, e3⟩ := hG.pairs j b hj
        have hb := hG.above b (List.mem_of_getElem? hj)
        exact ⟨x1', x2', e1, e2, up b _ (Nat.ne_of_gt hb) (hkp b _ (Nat.ne_of_gt (Nat.lt_trans hzS hb)) (Nat.ne_of_gt (Nat.lt_trans hTS hb)) (Nat.ne_of_gt (Nat.lt_trans h1S hb)) (Nat.ne_of_gt (Nat.lt_trans h2S hb)) e3)⟩
      · subst h1
        have hb : h.objs.size = b := by simpa using hj
        subst hb
        exact ⟨x1, x2, by rw [hal]; exact y1, by rw [hal]; exact y2, up _ _ (Nat.ne_of_gt hSl) ht⟩
      · have hnone : (as ++ [h.objs.size])[j]? = none := List.getElem?_eq_none (by rw [List.length_append, List.length_singleton]; omega)
        rw [hnone] at hj; cases hj
theorem no_len : typeLookup (.type "zip") "__len__" = pure none := am_miss_of_fast (by decide +kernel)
theorem no_hint : typeLookup (.type "zip") "__length_hint__" = pure none := am_miss_of_fast (by decide +kernel)
theorem zhint (hT : s.TypeIs (.ref z) "zip") {Q : Bool → Shared → Prop} (h : Q true s) : wpAny (model prog w) A (Builtin.List.listLengthHint (.ref z)) Q E s := by
  unfold Builtin.List.listLengthHint
  refine wpAny_bind (wpAny_specialOf hT no_len ?_)
  refine wpAny_ite_split (fun hab => absurd hab (by decide)) (fun _ => ?_)
  refine wpAny_ite_split (fun hab => absurd hab (by decide)) (fun _ => ?_)
  refine wpAny_bind (wpAny_specialOf hT no_hint ?_)
  exact wpAny_pure h
theorem zextend {S m : Nat} {R : Result → Shared → Prop} (D : Ap z TI TO i1 i2 S fp1 fp2) (D1 : Draws prog w A.in1.in1 i1 fp1 n1 P1 St1) (D2 : Draws prog w A.in1.in1 i2 fp2 n2 P2 St2) (hzS : z < S) (hTS : TO < S) (h1S : i1 < S) (h2S : i2 < S) (hm : m = min n1 n2) (hn : m ≤ sizeLine) (res : Value)
    (hz : IsZip s.heap z TI TO .none) (hTI : IsTupOf2 s.heap TI (.ref i1) (.ref i2)) (hTO : IsTupOf2 s.heap TO a1 a2) (s1 : St1 0 s.heap) (s2 : St2 0 s.heap) (c₀ : Nat) (hS : s.heap.get? S = some { cls := .type "list", data := .seq #[] c₀ })
    (hR : ∀ h' tk acc c as, (∀ b o, b ≠ S → b ≠ z → b ≠ TO → b ≠ i1 → b ≠ i2 → s.heap.get? b = some o → h'.get? b = some o) → h'.get? S = some { cls := .type "list", dict := none, data := .seq acc c, slots := #[] } → as.length = m → ZG P1 P2 S h' as →
      acc.toList = as.map Value.ref → R (.ok (.ret res)) { s with heap := h', toks := tk }) :
    wpAny (model prog w) A.in1 (Builtin.List.listExtendWith (.ref S) (.ref z) res)
      (fun fin s' => match fin with | .done f => R (.ok f) s' | .again c' => c'.quiet = true ∧ codeAny (model prog w) A c' R s') (fun e s' => R (.error e) s') s := by
  have hst : ZSt s.heap z TI TO i1 i2 S 0 := ⟨hTI, .inl ⟨hz, _, _, hTO⟩⟩
  have hT : s.TypeIs (.ref z) "zip" := ⟨_, hz, rfl⟩
  have key : ∀ (h : Heap) (c₁ tk : Nat), (∀ b o, b ≠ S → s.heap.get? b = some o → h.get? b = some o) → h.get? S = some { cls := .type "list", data := .seq #[] c₁ } →
      codeAny (model prog w) A (.builtin "list.extend.loop" ⟨[.ref S, .ref z, res], []⟩) R { s with heap := h, toks := tk } := by
    intro h c₁ tk hk hS₁
    exact zloop (s := s) (h₁ := s.heap) D D1 D2 hzS hTS h1S h2S hm hn res hR m 0 h tk c₁ #[] [] (Nat.sub_zero _) (Nat.zero_le _) (hst.keep D hk) (D1.frame _ _ _ s1 fun b hb o e => hk b o (fun q => D.Sf1 (q ▸ hb)) e) (D2.frame _ _ _ s2 fun b hb o e => hk b o (fun q => D.Sf2 (q ▸ hb)) e)
      (fun b o g1 _ _ _ _ e => hk b o g1 e) hS₁ rfl rfl ⟨List.Pairwise.nil, (fun _ ha => nomatch ha), (fun j a hj => by simp at hj)⟩
  unfold Builtin.List.listExtendWith
  refine wpAny_bind (wpAny_typeOf (T := "zip") hT ?_)
  have h1 : Builtin.List.listSameRef (.ref S) (.ref z) = false := by simp [Builtin.List.listSameRef, D.Sz]
  have h2 : (Value.type "zip" == Value.type "list") = false := by decide
  have h3 : (Value.type "zip" == Value.type "tuple") = false := by decide
  simp only [h1, h2, h3, Bool.or_false, Bool.false_eq_true, if_false]
  refine wpAny_bind (wpAny_pyIter_zip hz ?_)
  refine wpAny_bind (wpAny_holding (zhint hT ?_))
  refine wpAny_ite_split (fun _ => ?_) (fun hab => absurd (by simp) hab)
  refine wpAny_bind (wpAny_rule ?_)
  refine wpAny_bind ?_
  show wpAny _ _ (updateSeq S (·.push .none) >>= fun _ => updateSeq S (·.pop)) _ _ _
  refine wpAny_bind (wpAny_updateSeq hS rfl ?_)
  have hS₂ := Heap.get?_update_self (Obj.mapSeq (·.push Value.none)) hS rfl
  refine wpAny_updateSeq (hz := by seq_fits) hS₂ rfl ?_
  have hS₃ := Heap.get?_update_self (Obj.mapSeq (·.pop)) hS₂ rfl
  refine wpAny_pure ⟨plainId_quiet PySem.F.plain_extend_loop _, key _ _ _ (fun b o hb e => ?_) hS₃⟩
  exact (Heap.get?_update_other _ _ (Ne.symm hb)).trans ((Heap.get?_update_other _ _ (Ne.symm hb)).trans e)
theorem zinit {S m : Nat} {R : Result → Shared → Prop} (D : Ap z TI TO i1 i2 S fp1 fp2) (D1 : Draws prog w A.in1.in1 i1 fp1 n1 P1 St1) (D2 : Draws prog w A.in1.in1 i2 fp2 n2 P2 St2) (hzS : z < S) (hTS : TO < S) (h1S : i1 < S) (h2S : i2 < S) (hm : m = min n1 n2) (hn : m ≤ sizeLine)
    (hz : IsZip s.heap z TI TO .none) (hTI : IsTupOf2 s.heap TI (.ref i1) (.ref i2)) (hTO : IsTupOf2 s.heap TO a1 a2) (s1 : St1 0 s.heap) (s2 : St2 0 s.heap) (hS : s.heap.get? S = some { cls := .type "list", data := .seq #[] })
    (hR : ∀ h' tk acc c as, (∀ b o, b ≠ S → b ≠ z → b ≠ TO → b ≠ i1 → b ≠ i2 → s.heap.get? b = some o → h'.get? b = some o) → h'.get? S = some { cls := .type "list", dict := none, data := .seq acc c, slots := #[] } → as.length = m → ZG P1 P2 S h' as →
      acc.toList = as.map Value.ref → R (.ok (.ret .none)) { s with heap := h', toks := tk }) :
    wpAny (model prog w) A.in1 (Builtin.«list.__init__» ⟨[.ref S, .ref z], []⟩)
      (fun fin s' => match fin with | .done f => R (.ok f) s' | .again c' => c'.quiet = true ∧ codeAny (model prog w) A c' R s') (fun e s' => R (.error e) s') s := by
  show wpAny _ _ (do let old ← Builtin.List.listItems (.ref S); Builtin.List.listUpdate (.ref S) (fun _ => #[]); letGo old.toList.reverse; Builtin.List.listExtendWith (.ref S) (.ref z) .none) _ _ s
  refine wpAny_bind ?_
  unfold Builtin.List.listItems
  refine wpAny_bind (wpAny_seqItems hS rfl (wpAny_pure ?_))
  show wpAny _ _ (updateSeq S (fun _ => #[]) >>= fun _ => letGo (#[] : Array Value).toList.reverse >>= fun _ => Builtin.List.listExtendWith (.ref S) (.ref z) .none) _ _ s
  refine wpAny_bind (wpAny_updateSeq hS rfl ?_)
  have hS₂ := Heap.get?_update_self (Obj.mapSeq (fun _ => (#[] : Array Value))) hS rfl
  have oth : ∀ b o, b ≠ S → s.heap.get? b = some o → (s.heap.update S (Obj.mapSeq (fun _ => (#[] : Array Value)))).get? b = some o :=
    fun b o hb e => (Heap.get?_update_other _ _ (Ne.symm hb)).trans e
  refine wpAny_bind (wpAny_letGo ?_)
  refine zextend D D1 D2 hzS hTS h1S h2S hm hn .none (oth _ _ D.Sz.symm hz) (oth _ _ D.STI.symm hTI) (oth _ _ D.STO.symm hTO) (D1.frame _ _ _ s1 fun b hb o e => oth b o (fun q => D.Sf1 (q ▸ hb)) e) (D2.frame _ _ _ s2 fun b hb o e => oth b o (fun q => D.Sf2 (q ▸ hb)) e) _ hS₂ fun h' tk acc c as hk hS' hl hG hacc => ?_
  exact hR h' tk acc c as (fun b o g1 g2 g3 g4 g5 e => hk b o g1 g2 g3 g4 g5 (oth b o g1 e)) hS' hl hG hacc
/-- list(z), z a zip that was just made -/
theorem zcall {m : Nat} {Q : Value → Shared → Prop} (Sp : ZipSep2 z TI TO i1 i2 fp1 fp2) (D1 : Draws prog w A.in1.in1.in1 i1 fp1 n1 P1 St1) (D2 : Draws prog w A.in1.in1.in1 i2 fp2 n2 P2 St2) (hf1 : ∀ b ∈ fp1, b < s.heap.objs.size) (hf2 : ∀ b ∈ fp2, b < s.heap.objs.size) (hm : m = min n1 n2) (hn : m ≤ sizeLine)
    (hz : IsZip s.heap z TI TO .none) (hTI : IsTupOf2 s.heap TI (.ref i1) (.ref i2)) (hTO : IsTupOf2 s.heap TO a1 a2) (s1 : St1 0 s.heap) (s2 : St2 0 s.heap)
    (hQ : ∀ h' tk acc c as, (∀ b o, b ≠ z → b ≠ TO → b ≠ i1 → b ≠ i2 → s.heap.get? b = some o → h'.get? b = some o) → h'.get? s.heap.objs.size = some { cls := .type "list", dict := none, data := .seq acc c, slots := #[] } → as.length = m → ZG P1 P2 s.heap.objs.size h' as →
      acc.toList = as.map Value.ref → Q (.ref s.heap.objs.size) { s with heap := h', toks := tk }) :
    wpAny (model prog w) A (call (.type "list") [.ref z]) Q E s := by
  refine callType_codes (Q₁ := fun obj s₁ => obj = .ref s.heap.objs.size ∧ s₁ = { s with heap := s.heap.push { cls := .type "list", data := .seq #[] } }) PySem.F.called_list (PySem.F.typeCall_list_1 _) PySem.F.entry_list_init
    (code_list_new _ ⟨rfl, rfl⟩) fun obj s₁ h₁ => ?_
  obtain ⟨rfl, rfl⟩ := h₁
  have hS : (s.heap.push { cls := .type "list", data := .seq #[] }).get? s.heap.objs.size = some { cls := .type "list", data := .seq #[] } := Heap.get?_push_size _ rfl
  have up : ∀ b o, s.heap.get? b = some o → (s.heap.push { cls := .type "list", data := .seq #[] }).get? b = some o := fun b o e => Heap.get?_push_of_some _ e
  have D : Ap z TI TO i1 i2 s.heap.objs.size fp1 fp2 := { Sp with Sz := Nat.ne_of_gt (Heap.lt_size hz), STI := Nat.ne_of_gt (Heap.lt_size hTI), STO := Nat.ne_of_gt (Heap.lt_size hTO), Sf1 := fun q => Nat.lt_irrefl _ (hf1 _ q), Sf2 := fun q => Nat.lt_irrefl _ (hf2 _ q) }
  refine ⟨⟨_, hS, rfl⟩, PySem.F.args_list_init_2 _ _, zinit (A := A.in1) D D1 D2 (Heap.lt_size hz) (Heap.lt_size hTO) (hf1 _ Sp.mem1) (hf2 _ Sp.mem2) hm hn (up _ _ hz) (up _ _ hTI) (up _ _ hTO) (D1.frame _ _ _ s1 fun b _ o e => up b o e) (D2.frame _ _ _ s2 fun b _ o e => up b o e) hS fun h' tk acc c as hk hS' hl hG hacc => ?_⟩
  exact ⟨rfl, hQ h' tk acc c as (fun b o g2 g3 g4 g5 e => hk b o (Nat.ne_of_lt (Heap.lt_size e)) g2 g3 g4 g5 (up b o e)) hS' hl hG hacc⟩
end
end Zl
namespace Rd
open PySem PySem.Spec PyProof.Rows L2
/-- the tuples tracked at their addresses -/
def putP : Hp → List Addr → List (V × V) → Hp
  | H, a :: as, p :: zs => putP (upd H a (.tup [p.1, p.2])) as zs
  | H, _, _ => H
theorem putP_off {b : Addr} : ∀ (as : List Addr) (zs : List (V × V)) (H : Hp), b ∉ as → putP H as zs b = H b
  | [], _, _, _ => rfl
  | _ :: _, [], _, _ => rfl
  | a :: as, p :: zs, H, h => by
    show putP (upd H a (.tup [p.1, p.2])) as zs b = H b
    rw [putP_off as zs _ (fun z => h (List.mem_cons_of_mem _ z)), upd_ne (fun z => h (by rw [z]; exact List.mem_cons_self))]
theorem putP_at : ∀ (as : List Addr) (zs : List (V × V)) (H : Hp), as.length = zs.length → as.Nodup → Paired (fun (t : Addr) (p : V × V) => putP H as zs t = some (.tup [p.1, p.2])) as zs
  | [], [], _, _, _ => .nil
  | [], _ :: _, _, h, _ => by cases h
  | _ :: _, [], _, h, _ => by cases h
  | a :: as, p :: zs, H, h, hn => by
    have hn' := List.nodup_cons.mp hn
    have ih := putP_at as zs (upd H a (.tup [p.1, p.2])) (Nat.succ.inj h) hn'.2
    refine .cons ?_ ih
    show putP (upd H a (.tup [p.1, p.2])) as zs a = some (.tup [p.1, p.2])
    rw [putP_off as zs _ hn'.1, upd_same]
theorem pairs_laidC {X : Cx} {ch : List Addr} {pins : List (Addr × Obj)} {σ : L2.St} {H : Hp} {s : Shared} {h' : Heap} {tk : Nat} {xs ys : List V} {us ws : List Value} {acc : Array Value} {c : Nat} {as : List Addr} {p : Addr} (I : Inv X pins σ H s) (rx : Vals xs us) (ry : Vals ys ws) (hz : (xs.zip ys).length ≤ sizeLine)
    (hf : ∀ b ∈ ch, FpOk X pins H b) (hk : ∀ b o, b ∉ ch → s.heap.get? b = some o → h'.get? b = some o) (hp : s.heap.objs.size ≤ p) (hS : h'.get? p = some { cls := .type "list", dict := none, data := .seq acc c, slots := #[] }) (hl : as.length = (xs.zip ys).length) (hG : Zl.ZG (fun i v => us.toArray[i]? = some v) (fun i v => ws.toArray[i]? = some v) p h' as) (hacc : acc.toList = as.map Value.ref) :
    ∃ H' : Hp, Same H H' ∧ H p = none ∧ H' p = some (.lst (as.map V.ref)) ∧ Paired (fun (t : Addr) (q : V × V) => H' t = some (.tup [q.1, q.2])) as (xs.zip ys) ∧ Inv X pins σ H' { s with heap := h', toks := tk } := by
  have hSn : p ∉ as := fun z => Nat.lt_irrefl _ (hG.above _ z)
  have nd : as.Nodup := List.Pairwise.imp (fun {a b} (h : a < b) => Nat.ne_of_lt h) hG.rise
  have new : ∀ t ∈ as, H t = none := fun t ht => I.hok.fresh (Nat.le_trans hp (Nat.le_of_lt (hG.above t ht)))
  have newS : H p = none := I.hok.fresh hp
  have atP := putP_at as (xs.zip ys) (upd H p (.lst (as.map V.ref))) hl nd
  have off : ∀ b, b ∉ as → b ≠ p → putP (upd H p (.lst (as.map V.ref))) as (xs.zip ys) b = H b := fun b h1 h2 => by rw [putP_off as _ _ h1, upd_ne h2]
  have low : ∀ b o, s.heap.get? b = some o → b ∉ as ∧ b ≠ p := fun b o e => ⟨fun z => absurd (Heap.lt_size e) (Nat.not_lt.mpr (Nat.le_trans hp (Nat.le_of_lt (hG.above b z)))), Nat.ne_of_lt (Nat.lt_of_lt_of_le (Heap.lt_size e) hp)⟩
  have kp : ∀ b u, H b = some u → (putP (upd H p (.lst (as.map V.ref))) as (xs.zip ys)) b = some u := fun b u e => by
    rw [off b (fun z => by rw [new b z] at e; cases e) (fun z => by rw [z, newS] at e; cases e)]
    exact e
  have eS : putP (upd H p (.lst (as.map V.ref))) as (xs.zip ys) p = some (.lst (as.map V.ref)) := by rw [putP_off as _ _ hSn, upd_same]
  refine ⟨putP (upd H p (.lst (as.map V.ref))) as (xs.zip ys), kp, newS, eS, atP, ?_⟩
  refine I.call' (ch := ch) rfl ⟨fun b o q _ _ z => hk b o z q, fun b o q _ _ z => ⟨o.slots, hk b o z q⟩, fun b o q n _ => ?_, fun b o q z => ⟨o, hk b o z q⟩, fun b xs q => kp b _ q, fun b o u q => kp b _ q, fun b ps q => ⟨#[], by rw [kp b _ q]; simp⟩⟩ (fun b u q => ?_) I.bare fun b z => ⟨(hf b z).2.2.2.1, (hf b z).2.1, (hf b z).2.2.2.2.1, (hf b z).2.2.2.2.2⟩
  · obtain ⟨z1, z2⟩ := low b o q
    rw [off b z1 z2]
    exact n
  · by_cases hb : b ∈ as
    · obtain ⟨j, pk, e1, e2, e3⟩ := LiI.paired_ix atP hb
      rw [e3] at q
      cases q
      obtain ⟨x1, x2, f1, f2, f3⟩ := hG.pairs j b e1
      obtain ⟨g1, g2⟩ := List.getElem?_zip_eq_some.mp e2
      have r1 := vals_at rx g1 (u := x1) (by simpa using f1)
      have r2 := vals_at ry g2 (u := x2) (by simpa using f2)
      exact ⟨by show 2 ≤ sizeLine; decide, [x1, x2], .cons r1 (.cons r2 .nil), ⟨_, f3, rfl, _, rfl⟩⟩
    · by_cases hb2 : b = p
      · rw [hb2] at q ⊢
        rw [eS] at q
        cases q
        refine ⟨by rw [List.length_map]; omega, acc.toList, c, by rw [hacc]; exact LiI.vals_refs as, ?_⟩
        rw [Array.toArray_toList]
        exact hS
      · rw [off b hb hb2] at q
        have nit : ∀ d w, H d = some w → d ∉ ch := fun d w e z => by have := (hf d z).1; rw [this] at e; cases e
        exact (I.hok b u q).stay (fun d v hd y => hk d v (hd.elim (fun z => by rw [z]; exact nit b u q) fun z => nit d _ z) y) (fun d y => kp d _ y) fun d xs y => kp d _ y
theorem pairs_laid {X : Cx} {pins : List (Addr × Obj)} {σ : L2.St} {H : Hp} {s : Shared} {h' : Heap} {tk : Nat} {xs ys : List V} {us ws : List Value} {acc : Array Value} {c : Nat} {as : List Addr} {p : Addr} (I : Inv X pins σ H s) (rx : Vals xs us) (ry : Vals ys ws) (hz : (xs.zip ys).length ≤ sizeLine)
    (hk : ∀ b o, s.heap.get? b = some o → h'.get? b = some o) (hp : s.heap.objs.size ≤ p) (hS : h'.get? p = some { cls := .type "list", dict := none, data := .seq acc c, slots := #[] }) (hl : as.length = (xs.zip ys).length) (hG : Zl.ZG (fun i v => us.toArray[i]? = some v) (fun i v => ws.toArray[i]? = some v) p h' as) (hacc : acc.toList = as.map Value.ref) :
    ∃ H' : Hp, Same H H' ∧ H p = none ∧ H' p = some (.lst (as.map V.ref)) ∧ Paired (fun (t : Addr) (q : V × V) => H' t = some (.tup [q.1, q.2])) as (xs.zip ys) ∧ Inv X pins σ H' { s with heap := h', toks := tk } :=
  pairs_laidC (ch := []) I rx ry hz (fun b z => by simp at z) (fun b o _ e => hk b o e) hp hS hl hG hacc
/-- what is zipped: a list or a tuple -/
structure Src (h : Heap) (a : Addr) (its : Array Value) (o : Obj) (HH : Heap → Prop) (St : Addr → Nat → Heap → Prop) : Prop where
  bg : Begins (.ref a) o HH
  now : HH h
  dr : ∀ (prog : Program) (w : World) (A : Around) (it : Addr), A.handled = none → a ≠ it → Draws prog w A it [it, a] its.size (fun i v => its[i]? = some v) (St it)
  st : ∀ it h', h'.get? it = some o → HH h' → St it 0 h'
  lt : a < h.objs.size
theorem src_list {h : Heap} {a : Addr} {its : Array Value} (hl : h.IsList a its) : Src h a its { cls := .type "list_iterator", data := .fields #[.ref a, .int 0 0] } (fun h => h.IsList a its) (fun it i h => h.IsListIter it a i ∧ h.IsList a its) :=
  ⟨begins_list a its, hl, fun _ _ _ it hh hne => Draws.list hh it a hne its, fun it h' e hl' => ⟨⟨_, e, rfl, rfl⟩, hl'⟩, let ⟨_, ho, _⟩ := hl; Heap.lt_size ho⟩
theorem src_tuple {h : Heap} {a : Addr} {its : Array Value} (hl : h.IsTuple a its) : Src h a its { cls := .type "tuple_iterator", data := .fields #[.ref a, .int 0 0] } (fun h => h.IsTuple a its) (fun it i h => h.IsTupleIter it a i ∧ h.IsTuple a its) :=
  ⟨begins_tuple a its, hl, fun _ _ _ it hh hne => Draws.tuple hh it a hne its, fun it h' e hl' => ⟨⟨_, e, rfl, rfl⟩, hl'⟩, let ⟨_, ho, _⟩ := hl; Heap.lt_size ho⟩
def rListZip (K : PySem.W.Frag) : List V → Hp → VK → Prop := fun vs H Q => ∃ a b xs ys, vs = [.ref a, .ref b] ∧ SqS K H a xs ∧ SqS K H b ys ∧ ∀ p H' ts, H p = none → Same H H' → H' p = some (.lst (ts.map V.ref)) → Paired (fun (t : Addr) (q : V × V) => H' t = some (.tup [q.1, q.2])) ts (xs.zip ys) → Q (.ref p) H'
theorem sep2_of {n a b : Nat} (ha : a < n) (hb : b < n) : ZipSep2 (n + 4) (n + 2) (n + 3) n (n + 1) [n, a] [n + 1, b] := by
  have n1 : ∀ k j : Nat, k ≠ j → n + k ≠ n + j := fun k j h e => h (by omega)
  have a1 : ∀ k : Nat, n + k ≠ a := fun k e => by omega
  have b1 : ∀ k : Nat, n + k ≠ b := fun k e => by omega
  have m : ∀ {x y z : Nat}, x ≠ y → x ≠ z → x ∉ [y, z] := fun h1 h2 q => by
    rcases List.mem_cons.mp q with e | e
    · exact h1 e
    · exact h2 (List.mem_singleton.mp e)
  exact ⟨n1 2 4 (by decide), n1 3 4 (by decide), n1 2 3 (by decide), n1 2 0 (by decide), List.mem_cons_self, m (n1 4 0 (by decide)) (a1 4), m (n1 3 0 (by decide)) (a1 3), n1 2 1 (by decide), List.mem_cons_self, m (n1 4 1 (by decide)) (b1 4), m (n1 3 1 (by decide)) (b1 3), m (n1 0 1 (by decide)) (b1 0), m (n1 1 0 (by decide)) (a1 1)⟩
theorem src_of {X : Cx} {pins : List (Addr × Obj)} {σ : L2.St} {H : Hp} {s : Shared} {a : Addr} {xs : List V} (I : Inv X pins σ H s) (h : SqS X.K H a xs) : ∃ (us : List Value) (o : Obj) (HH : Heap → Prop) (St : Addr → Nat → Heap → Prop), Vals xs us ∧ us.length ≤ sizeLine ∧ Src s.heap a us.toArray o HH St := by
  rcases h with h | h
  · obtain ⟨its, rv, p, hz⟩ := I.list h
    exact ⟨its, _, _, _, rv, by rw [← rv.length]; exact hz, src_list p.isList⟩
  · obtain ⟨its, rv, p, hz⟩ := I.tuple h
    exact ⟨its, _, _, _, rv, by rw [← rv.length]; exact hz, src_tuple (show s.heap.IsTuple a its.toArray from p)⟩
section
variable {X : Cx} {e e2 : Expr} {ta : TA} {p p2 pos pos2 : Pos}
theorem rd_lz {K : PySem.W.Frag} {σ : L2.St} {H : Hp} {Q : VK} (q : ta σ H fun vs H1 => rListZip K vs H1 Q) : tCB (rListZip K) ta σ H Q := q
/-- list(zip(x, y)) -/
theorem pe_listZip (hc : X.calm = true) (hg : Gl X "list") (hm : X.mg "list" = none) (hv : bootBuiltins "list" = some (.type "list")) (hg2 : Gl X "zip") (hm2 : X.mg "zip" = none) (ha : PA X [e, e2] ta)
    (hs : starEach [.Call (.Name "zip" p2) [e, e2] [] pos2] X.env = (false, eval (.Call (.Name "zip" p2) [e, e2] [] pos2) X.env) :: starEach [] X.env := by rfl)
    (hs2 : starEach [e, e2] X.env = (false, eval e X.env) :: starEach [e2] X.env := by rfl) (hpl : (backTo pos2 (starEach [e2] X.env)).any (·.1) = false := by rfl) :
    PE X (.Call (.Name "list" p) [.Call (.Name "zip" p2) [e, e2] [] pos2] [] pos) (tCB (rListZip X.K) ta) := by
  refine ⟨fun pins s σ H Q I h => ?_⟩
  refine wpAny_Call_Name_kw (ld_blt I hg hm hv ?_)
  refine PyProof.Rows.callWith_type1 ?_ hs rfl
  rw [hs]
  show wpAny _ _ (spliced ((false, eval (.Call (.Name "zip" p2) [e, e2] [] pos2) X.env) :: backTo pos (starEach [] X.env))) _ _ s
  refine Calls.spliced_cons ?_
  refine Call_ (ld_blt I hg2 hm2 PyProof.Rows.boot_zip (PyProof.Rows.callWith_type1 (thn (ha.run pos2 pins s σ H _ I h) fun us s1 ⟨vs, H1, I1, r1, q1⟩ => ?_) hs2 hpl))
  obtain ⟨a, b, xs, ys, ex, hx, hy, q⟩ := q1
  subst ex
  cases r1 with
  | cons r rr =>
    cases rr with
    | cons r' rr =>
      cases rr
      cases r
      cases r'
      obtain ⟨us, o1, HH1, St1, rx, lx, S1⟩ := src_of I1 hx
      obtain ⟨ws, o2, HH2, St2, ry, ly, S2⟩ := src_of I1 hy
      refine zip_begins2 S1.bg S2.bg S1.now S2.now fun h' hz hTI hTO g1 g2 hsz hk => ?_
      have la := S1.lt
      have lb := S2.lt
      generalize hn : s1.heap.objs.size = n at hz hTI hTO g1 g2 hsz la lb ⊢
      refine Calls.spliced_nil ?_
      have hh : X.A.handled = none := I1.ok.hd hc
      have key := Zl.zcall (prog := X.prog) (w := X.w) (A := X.A) (E := X.xe) (s := { s1 with heap := h' }) (Q := EP X pins σ Q) (m := (xs.zip ys).length) (sep2_of la lb) (S1.dr X.prog X.w X.A.in1.in1.in1 n hh (Nat.ne_of_lt la)) (S2.dr X.prog X.w X.A.in1.in1.in1 (n + 1) hh (Nat.ne_of_lt (Nat.lt_succ_of_lt lb)))
        (fun x hx => ?_) (fun x hx => ?_) ?_ ?_ hz hTI hTO (S1.st n h' g1 (S1.bg.keeps _ _ S1.now hk)) (S2.st (n + 1) h' g2 (S2.bg.keeps _ _ S2.now hk)) fun h'' tk acc c as hk2 hS hl hG hacc => ?_
      · exact key
      · show x < h'.objs.size
        rw [hsz]
        rcases List.mem_cons.mp hx with z | z
        · rw [z]; exact Nat.lt_add_of_pos_right (by decide)
        · rw [List.mem_singleton.mp z]; exact Nat.lt_of_lt_of_le la (Nat.le_add_right _ _)
      · show x < h'.objs.size
        rw [hsz]
        rcases List.mem_cons.mp hx with z | z
        · rw [z]; exact Nat.add_lt_add_left (by decide) n
        · rw [List.mem_singleton.mp z]; exact Nat.lt_of_lt_of_le lb (Nat.le_add_right _ _)
      · rw [List.length_zip, rx.length, ry.length, List.size_toArray, List.size_toArray]
      · rw [List.length_zip, rx.length]
        exact Nat.le_trans (Nat.min_le_left _ _) lx
      · have keep : ∀ b o, s1.heap.get? b = some o → h''.get? b = some o := fun b o e => by
          have lt : b < n := by rw [← hn]; exact Heap.lt_size e
          exact hk2 b o (Nat.ne_of_lt (Nat.lt_of_lt_of_le lt (Nat.le_add_right _ _))) (Nat.ne_of_lt (Nat.lt_of_lt_of_le lt (Nat.le_add_right _ _))) (Nat.ne_of_lt lt) (Nat.ne_of_lt (Nat.lt_of_lt_of_le lt (Nat.le_add_right _ _))) (hk b o e)
        obtain ⟨H', k1, k2, k3, k4, J⟩ := pairs_laid (tk := tk) I1 rx ry (by rw [List.length_zip, rx.length]; exact Nat.le_trans (Nat.min_le_left _ _) lx) keep (show s1.heap.objs.size ≤ h'.objs.size by rw [hsz, hn]; exact Nat.le_add_right _ _) hS hl hG hacc
        exact ⟨.ref _, H', J, rfl, q _ H' as k2 k1 k3 k4⟩
end
end Rd
set_option Elab.async false
set_option linter.all false
set_option maxRecDepth 100000
set_option maxHeartbeats 4000000
/-! Rzo: list(zip(x, y)), x and y own objects that are walked by a tuple's iterator. -/
namespace Rd
open PySem PySem.Spec PyProof.Rows L2
section
variable {prog : Program} {w : World} {A : Around} {E : Value → Shared → Prop} {s : Shared}
theorem zip_gen {v1 v2 : Value} {Q : Value → Shared → Prop} (h : wpAny (model prog w) A.in1.in1 (pyIter v1) (fun u1 s1 => wpAny (model prog w) A.in1.in1 (pyIter v2) (fun u2 s2 => ∀ h', IsZip h' (s2.heap.objs.size + 2) s2.heap.objs.size (s2.heap.objs.size + 1) .none → IsTupOf2 h' s2.heap.objs.size u1 u2 → IsTupOf2 h' (s2.heap.objs.size + 1) .none .none →
      h'.objs.size = s2.heap.objs.size + 3 → (∀ c o, s2.heap.get? c = some o → h'.get? c = some o) → Q (.ref (s2.heap.objs.size + 2)) { s2 with heap := h' }) E s1) E s) : wpAny (model prog w) A (call (.type "zip") [v1, v2]) Q E s := by
  refine callType_codes (T := "zip") (Bi := Builtin.«object.__init__») (Q₁ := fun r s₁ => ∃ z, r = .ref z ∧ s₁.TypeIs (.ref z) "zip" ∧ Q r s₁) PySem.F.called_zip (PySem.F.typeCall_zip_2 _ _) PySem.F.entry_object_init ?_ ?_
  · refine codeAny_of_tree ?_
    show wpAny _ A.in1.in1 (do checkBuiltinCall "zip.__new__" ⟨[.type "zip", v1, v2], []⟩; again (.builtin "zip.__new__" ⟨[.type "zip", v1, v2], []⟩)) _ _ s
    refine wpAny_bind (wpAny_of_eq (PySem.F.newCall_zip_2 _ _) (wpAny_pure ⟨plainId_quiet (by decide +kernel) _, codeAny_builtin PySem.F.entry_zip_new ?_⟩))
    rw [Around.under_plainId (by decide +kernel) _]
    unfold Builtin.«zip.__new__»
    have hsub := sub_zip
    refine wpAny_bind (m := Builtin.SmallTypes.newClass "zip" _) ?_
    · unfold Builtin.SmallTypes.newClass
      refine wpAny_bind (m := isType (.type "zip")) (wpAny_pure ?_)
      refine wpAny_bind (m := isSubtype (.type "zip") (.type "zip")) (wpAny_of_eq hsub ?_)
      refine wpAny_pure ?_
      show wpAny _ _ (Builtin.SmallTypes.iterAll [v1, v2] >>= _) _ _ _
      refine wpAny_bind ?_
      unfold Builtin.SmallTypes.iterAll
      simp only [List.forIn_cons, List.forIn_nil]
      refine wpAny_bind (wpAny_bind (wpAny_bind (wpAny_holding (wpAny_mono h (fun u1 s1 h1 => ?_) fun e s1 h1 => ?_))))
      · refine wpAny_pure ?_
        refine wpAny_bind (wpAny_bind (wpAny_holding (wpAny_mono h1 (fun u2 s2 h2 => ?_) fun e s2 h2 => ?_)))
        · refine wpAny_pure (wpAny_pure (wpAny_pure ?_))
          show wpAny _ _ (newTuple [u1, u2] >>= _) _ _ _
          refine wpAny_bind (wpAny_newTuple ?_)
          show wpAny _ _ (newTuple [.none, .none] >>= _) _ _ _
          refine wpAny_bind (wpAny_newTuple ?_)
          have z1 : (s2.heap.push { cls := .type "tuple", data := .seq [u1, u2].toArray }).objs.size = s2.heap.objs.size + 1 := by rw [Heap.size_push]
          have zT : ((s2.heap.push { cls := .type "tuple", data := .seq [u1, u2].toArray }).push { cls := .type "tuple", data := .seq #[.none, .none] }).objs.size = s2.heap.objs.size + 2 := by rw [Heap.size_push, z1]
          refine wpAny_bind (m := Builtin.SmallTypes.newRecord _ _) ?_
          unfold Builtin.SmallTypes.newRecord
          refine wpAny_newObj_type ?_ (show 5 ≤ sizeLine + 2 by decide)
          refine wpAny_pure ⟨_, rfl, ⟨_, Heap.get?_push_size _ rfl, rfl⟩, ?_⟩
          have key := h2 _ (by
            have g := Heap.get?_push_size (((s2.heap.push { cls := .type "tuple", data := .seq #[u1, u2] }).push { cls := .type "tuple", data := .seq #[.none, .none] })) (o := { cls := .type "zip", data := .fields #[.none, .bool false, .bool false, .ref s2.heap.objs.size, .ref (s2.heap.objs.size + 1)] }) rfl
            rw [zT] at g
            exact g) (Heap.get?_push_of_some _ (Heap.get?_push_of_some _ (Heap.get?_push_size _ rfl))) (by
            have g := Heap.get?_push_size (s2.heap.push { cls := .type "tuple", data := .seq #[u1, u2] }) (o := { cls := .type "tuple", data := .seq #[.none, .none] }) rfl
            rw [z1] at g
            exact Heap.get?_push_of_some _ g) (by rw [Heap.size_push, zT]) fun c o e => Heap.get?_push_of_some _ (Heap.get?_push_of_some _ (Heap.get?_push_of_some _ e))
          show Q (.ref ((s2.heap.push { cls := .type "tuple", data := .seq #[u1, u2] }).push { cls := .type "tuple", data := .seq #[.none, .none] }).objs.size) { s2 with heap := ((s2.heap.push { cls := .type "tuple", data := .seq #[u1, u2] }).push { cls := .type "tuple", data := .seq #[.none, .none] }).push { cls := .type "zip", data := .fields #[.none, .bool false, .bool false, .ref s2.heap.objs.size, .ref (s2.heap.push { cls := .type "tuple", data := .seq #[u1, u2] }).objs.size] } }
          rw [zT, z1]
          exact key
        · exact h2
      · exact h1
  · rintro obj s₁ ⟨z, rfl, hT, hq⟩
    exact ⟨hT, PySem.F.args_object_init_3 _ _ _, object_init_meets PySem.F.called_zip.init.lookup PySem.F.called_zip.made (by decide) prog w A.in1 _ s₁ ⟨hT, rfl, hq⟩⟩
end
def rListZipO (K : PySem.W.Frag) (C : Addr) (sp : Nat → Sp) : List V → Hp → VK → Prop := fun vs H Q => ∃ x y, vs = [.ref x, .ref y] ∧ (∃ dx fs, H x = some (.ins C dx fs)) ∧ ∀ n, sp n [.ref x] H (fun u H2 => ∃ i1 p1, u = .ref i1 ∧ n ≤ i1 ∧ H2 i1 = some (ItT p1 i1) ∧ (∃ dy gs, H2 y = some (.ins C dy gs)) ∧
  ∀ m, sp m [.ref y] H2 (fun u H3 => ∃ i2 p2, u = .ref i2 ∧ m ≤ i2 ∧ H3 i2 = some (ItT p2 i2) ∧ H3 i1 = some (ItT p1 i1) ∧ ∃ xs ys, SqT K H3 p1 xs ∧ SqT K H3 p2 ys ∧
    ∀ p H' ts, ItX.dropH (ItX.dropH H3 i1) i2 p = none → Same (ItX.dropH (ItX.dropH H3 i1) i2) H' → H' p = some (.lst (ts.map V.ref)) → Paired (fun (t : Addr) (q : V × V) => H' t = some (.tup [q.1, q.2])) ts (xs.zip ys) → Q (.ref p) H') E0) E0
section
variable {X : Cx} {e e2 : Expr} {ta : TA} {p p2 pos pos2 : Pos} {C f : Addr} {k : Nat} {sp : Nat → Sp}
/-- list(zip(x, y)), x and y own -/
theorem pe_listZipO (O : OwnIt X.K C f) (F : ∀ base : Heap, FnR X.prog X.w X.K X.mg base CX0 k f (sp base.objs.size)) (hr : Room (k + 2) X.A) (hc : X.calm = true) (hg : Gl X "list") (hm : X.mg "list" = none) (hv : bootBuiltins "list" = some (.type "list")) (hg2 : Gl X "zip") (hm2 : X.mg "zip" = none) (ha : PA X [e, e2] ta)
    (hs : starEach [.Call (.Name "zip" p2) [e, e2] [] pos2] X.env = (false, eval (.Call (.Name "zip" p2) [e, e2] [] pos2) X.env) :: starEach [] X.env := by rfl)
    (hs2 : starEach [e, e2] X.env = (false, eval e X.env) :: starEach [e2] X.env := by rfl) (hpl : (backTo pos2 (starEach [e2] X.env)).any (·.1) = false := by rfl) :
    PE X (.Call (.Name "list" p) [.Call (.Name "zip" p2) [e, e2] [] pos2] [] pos) (tCB (rListZipO X.K C sp) ta) := by
  refine ⟨fun pins s σ H Q I h => ?_⟩
  refine wpAny_Call_Name_kw (ld_blt I hg hm hv ?_)
  refine PyProof.Rows.callWith_type1 ?_ hs rfl
  rw [hs]
  show wpAny _ _ (spliced ((false, eval (.Call (.Name "zip" p2) [e, e2] [] pos2) X.env) :: backTo pos (starEach [] X.env))) _ _ s
  refine Calls.spliced_cons ?_
  refine Call_ (ld_blt I hg2 hm2 PyProof.Rows.boot_zip (PyProof.Rows.callWith_type1 (thn (ha.run pos2 pins s σ H _ I h) fun us s1 ⟨vs, H1, I1, r1, q1⟩ => ?_) hs2 hpl))
  obtain ⟨x, y, ex, ⟨dx, fs, hx⟩, q1⟩ := q1
  subst ex
  cases r1 with
  | cons r rr =>
    cases rr with
    | cons r' rr =>
      cases rr
      cases r
      cases r'
      obtain ⟨ox, od, J, _⟩ := ins_look I1 hx
      obtain ⟨m, hF⟩ := I1.fr
      refine zip_gen (PySem.W.owit_iter hF I1.ok.mod.kin J O.it O.fn ?_)
      refine wpAny_call (codeAny_mono (F (padB X.base s1.heap.objs.size) X.A.in1.in1 X.stack s1 H1 [.ref x] [.ref x] _ E0 hr.in1.in1 (env0_pad I1.env0.in1.in1) (.cons rfl .nil) (q1 _)) fun r s' hq => ?_)
      match r, hq with
      | .error e, hq => exact False.elim hq
      | .ok .next, hq => exact False.elim hq
      | .ok .brk, hq => exact False.elim hq
      | .ok .cont, hq => exact False.elim hq
      | .ok (.ret u), hq =>
        obtain ⟨v, H2, I2, rv, i1, t1, rfl, hn1, hi1, ⟨dy, gs, hy⟩, q2⟩ := I1.after hq
        cases rv
        have eo1 : s'.heap.get? i1 = some { cls := .type "tuple_iterator", data := .fields #[.ref t1, .int 0 0] } := (I2.hok i1 _ hi1).1
        have st1 : s'.heap.IsTupleIter i1 t1 0 := ⟨_, eo1, rfl, rfl⟩
        show PySem.W.OwitIt _ _ _ _ _ _
        unfold PySem.W.OwitIt
        refine wpAny_specialOf st1.typeIs PySem.F.slot_tuple_iterator_next.lookup ?_
        obtain ⟨oy, ody, Jy, _⟩ := ins_look I2 hy
        obtain ⟨m2, hF2⟩ := I2.fr
        refine PySem.W.owit_iter hF2 I2.ok.mod.kin Jy O.it O.fn ?_
        refine wpAny_call (codeAny_mono (F (padB X.base s'.heap.objs.size) X.A.in1.in1 X.stack s' H2 [.ref y] [.ref y] _ E0 hr.in1.in1 (env0_pad I2.env0.in1.in1) (.cons rfl .nil) (q2 _)) fun r s3 hq => ?_)
        match r, hq with
        | .error e, hq => exact False.elim hq
        | .ok .next, hq => exact False.elim hq
        | .ok .brk, hq => exact False.elim hq
        | .ok .cont, hq => exact False.elim hq
        | .ok (.ret u), hq =>
          obtain ⟨v, H3, I3, rv, i2, t2, rfl, hn2, hi2, hi1', xs, ys, hp1, hp2, q3⟩ := I2.after hq
          cases rv
          have eo2 : s3.heap.get? i2 = some { cls := .type "tuple_iterator", data := .fields #[.ref t2, .int 0 0] } := (I3.hok i2 _ hi2).1
          have eo1' : s3.heap.get? i1 = some { cls := .type "tuple_iterator", data := .fields #[.ref t1, .int 0 0] } := (I3.hok i1 _ hi1').1
          have st2 : s3.heap.IsTupleIter i2 t2 0 := ⟨_, eo2, rfl, rfl⟩
          have st1' : s3.heap.IsTupleIter i1 t1 0 := ⟨_, eo1', rfl, rfl⟩
          show PySem.W.OwitIt _ _ _ _ _ _
          unfold PySem.W.OwitIt
          refine wpAny_specialOf st2.typeIs PySem.F.slot_tuple_iterator_next.lookup ?_
          rw [padB_size (Nat.le_trans I1.ok.bsz I1.sz)] at hn1
          rw [padB_size (Nat.le_trans I2.ok.bsz I2.sz)] at hn2
          have n12 : i1 ≠ i2 := Nat.ne_of_lt (Nat.lt_of_lt_of_le (Heap.lt_size eo1) hn2)
          obtain ⟨us, rx, px, lx⟩ := I3.tuple hp1
          obtain ⟨ws, ry, py, ly⟩ := I3.tuple hp2
          have tx : s3.heap.IsTuple t1 us.toArray := px
          have ty : s3.heap.IsTuple t2 ws.toArray := py
          intro h' hz hTI hTO hsz hk
          obtain ⟨o1, ho1, c1⟩ := id tx
          obtain ⟨o2, ho2, c2⟩ := id ty
          have n1t : i1 ≠ t2 := fun z => by
            rw [← z, eo1'] at ho2
            cases Option.some.inj ho2
            exact nomatch (show Value.type "tuple_iterator" = Value.type "tuple" from c2.1)
          have n2t : i2 ≠ t1 := fun z => by
            rw [← z, eo2] at ho1
            cases Option.some.inj ho1
            exact nomatch (show Value.type "tuple_iterator" = Value.type "tuple" from c1.1)
          have n11 : t1 ≠ i1 := fun z => by
            rw [z, eo1'] at ho1
            cases Option.some.inj ho1
            exact nomatch (show Value.type "tuple_iterator" = Value.type "tuple" from c1.1)
          have n22 : t2 ≠ i2 := fun z => by
            rw [z, eo2] at ho2
            cases Option.some.inj ho2
            exact nomatch (show Value.type "tuple_iterator" = Value.type "tuple" from c2.1)
          have li1 := Heap.lt_size eo1'
          have li2 := Heap.lt_size eo2
          have lt1 := Heap.lt_size ho1
          have lt2 := Heap.lt_size ho2
          have I4 := ItX.inv_drop (ItX.inv_drop I3 (by unfold ItT at hi1'; exact hi1')) (a := i2) (by rw [ItX.dropH_ne n12.symm]; unfold ItT at hi2; exact hi2)
          have z1 := ItX.inv_fp I3 hi1' (Nat.le_trans I1.sz hn1)
          have z2 := ItX.inv_fp I3 hi2 (Nat.le_trans I2.sz hn2)
          have d1 : ItX.dropH (ItX.dropH H3 i1) i2 i1 = none := by rw [ItX.dropH_ne n12, ItX.dropH_same]
          have d2 : ItX.dropH (ItX.dropH H3 i1) i2 i2 = none := ItX.dropH_same
          generalize hn : s3.heap.objs.size = n at hz hTI hTO hsz li1 li2 lt1 lt2 ⊢
          have sep : ZipSep2 (n + 2) n (n + 1) i1 i2 [i1, t1] [i2, t2] := by
            have lt : ∀ {a : Addr} (k : Nat), a < n → n + k ≠ a := fun k h => Nat.ne_of_gt (Nat.lt_of_lt_of_le h (Nat.le_add_right _ _))
            have m : ∀ {x y z : Addr}, x ≠ y → x ≠ z → x ∉ [y, z] := fun h1 h2 q => by
              rcases List.mem_cons.mp q with e | e
              · exact h1 e
              · exact h2 (List.mem_singleton.mp e)
            exact ⟨Nat.ne_of_lt (Nat.lt_add_of_pos_right (by decide)), Nat.ne_of_lt (Nat.add_lt_add_left (by decide) n), Nat.ne_of_lt (Nat.lt_add_of_pos_right (by decide)), lt 0 li1, List.mem_cons_self, m (lt 2 li1) (lt 2 lt1), m (lt 1 li1) (lt 1 lt1), lt 0 li2, List.mem_cons_self, m (lt 2 li2) (lt 2 lt2), m (lt 1 li2) (lt 1 lt2), m n12 n1t, m n12.symm n2t⟩
          refine Calls.spliced_nil ?_
          have hh : X.A.handled = none := I1.ok.hd hc
          have lz : (xs.zip ys).length ≤ sizeLine := by rw [List.length_zip]; exact Nat.le_trans (Nat.min_le_left _ _) lx
          have sz : n + 2 < h'.objs.size := by rw [hsz]; exact Nat.add_lt_add_left (by decide) n
          have up : ∀ {b : Addr}, b < n → b < h'.objs.size := fun h => Nat.lt_trans (Nat.lt_of_lt_of_le h (Nat.le_add_right _ _)) sz
          have key := Zl.zcall (prog := X.prog) (w := X.w) (A := X.A) (E := X.xe) (s := { s3 with heap := h' }) (Q := EP X pins σ Q) (m := (xs.zip ys).length) sep (Draws.tuple (prog := X.prog) (w := X.w) (A := X.A.in1.in1.in1) hh i1 t1 n11 us.toArray) (Draws.tuple (prog := X.prog) (w := X.w) (A := X.A.in1.in1.in1) hh i2 t2 n22 ws.toArray)
            (fun b hb => ?_) (fun b hb => ?_) ?_ lz hz hTI hTO ⟨st1'.at fun o e => hk _ o e, tx.at fun o e => hk _ o e⟩ ⟨st2.at fun o e => hk _ o e, ty.at fun o e => hk _ o e⟩ fun h'' tk acc c as hk2 hS hl hG hacc => ?_
          · exact key
          · rcases List.mem_cons.mp hb with z | z
            · rw [z]; exact up li1
            · rw [List.mem_singleton.mp z]; exact up lt1
          · rcases List.mem_cons.mp hb with z | z
            · rw [z]; exact up li2
            · rw [List.mem_singleton.mp z]; exact up lt2
          · rw [List.length_zip, rx.length, ry.length, List.size_toArray, List.size_toArray]
          · have hf : ∀ b ∈ [i1, i2], FpOk X pins (ItX.dropH (ItX.dropH H3 i1) i2) b := fun b hb => by
              rcases List.mem_cons.mp hb with z | z
              · rw [z]; exact ⟨d1, z1.2⟩
              · rw [List.mem_singleton.mp z]; exact ⟨d2, z2.2⟩
            have keep : ∀ b o, b ∉ [i1, i2] → s3.heap.get? b = some o → h''.get? b = some o := fun b o hb e => by
              have lt : b < n := by rw [← hn]; exact Heap.lt_size e
              exact hk2 b o (Nat.ne_of_lt (Nat.lt_of_lt_of_le lt (Nat.le_add_right _ _))) (Nat.ne_of_lt (Nat.lt_of_lt_of_le lt (Nat.le_add_right _ _))) (fun z => hb (by rw [z]; exact List.mem_cons_self)) (fun z => hb (by rw [z]; exact List.mem_cons_of_mem _ List.mem_cons_self)) (hk b o e)
            obtain ⟨H', k1, k2, k3, k4, J'⟩ := pairs_laidC (tk := tk) I4 rx ry lz hf keep (show s3.heap.objs.size ≤ h'.objs.size by rw [hsz, hn]; exact Nat.le_add_right _ _) hS hl hG hacc
            exact ⟨.ref _, H', J', rfl, q3 _ H' as k2 k1 k3 k4⟩
end
end Rd
set_option Elab.async false
set_option linter.all false
set_option maxRecDepth 100000
set_option maxHeartbeats 4000000
namespace M
open PySem L2
local macro_rules | `(tactic| walk_at "rdc") => `(tactic| first | exact Or.inl ⟨by decide, by decide⟩ | exact Or.inr ⟨by decide, by decide⟩ | exact ⟨by decide, by decide, by decide⟩ | exact ⟨by decide, by decide⟩ | decide | omega | assumption | (refine Or.inl ⟨?_, ?_⟩ <;> omega) | (refine Or.inr ⟨?_, ?_⟩ <;> omega) | (refine ⟨?_, ?_⟩ <;> omega))
local macro_rules | `(tactic| walk_at "rd1") => `(tactic| with_reducible first
  | refine Rd.rd_seq ?_ | refine Rd.rd_asg ?_ | refine Rd.rd_op ?_ | (refine' Rd.rd_var ?vh ?_; (case vh => with_unfolding_all rfl)) | refine Rd.rd_c ?_ | refine Rd.rd_I0 ?_ | refine Rd.rd_name0 ?_ | refine Rd.rd_nameS ?_ | refine Rd.rd_fn ?_
  | refine Rd.rd_cb ?_ | refine Rd.rd_cons ?_ | refine Rd.rd_nil ?_ | refine Rd.rd_int ?_ | refine Rd.rd_intB ?_ | refine Rd.rd_abs ?_ | refine Rd.rd_max2 ?_ | refine Rd.rd_min2 ?_
  | refine Rd.rd_call ?_ | refine Rd.rd_ifE ?_ | refine Rd.rd_test ?_ | refine Rd.rd_tB ?_ | refine Rd.rd_blV ?_ | refine Rd.rd_and ?_ | refine Rd.rd_or ?_ | refine Rd.rd_not ?_
  | refine Rd.rd_andV ?_ | refine Rd.rd_orV ?_ | refine Rd.rd_notV ?_ | refine Rd.rd_next ?_ | refine Rd.rd_ret ?_ | refine Rd.rd_drop ?_ | refine Rd.rd_ifS ?_ | refine Rd.rd_nx ?_ | refine Rd.rd_rt ?_ | refine Rd.rd_tMatch ?_ | refine Rd.rd_tCO ?_ | refine Rd.rd_tRevL ?_ | refine Rd.rd_tStar ?_ | refine Rd.rd_joined ?_ | refine Rd.rd_js1 ?_ | refine Rd.rd_js0 ?_ | refine Rd.rd_fmt ?_ | refine Rd.rd_propR ?_ | refine Rd.rd_iZipA ?_ | refine Rd.rd_iEnumT ?_ | refine Rd.rd_iOwn ?_ | (refine' Rd.rd_IET ?ln ?_; (case ln => with_unfolding_all walk_at "at")) | refine Rd.rd_chain ?_ | refine Rd.rd_tPar ?_ | refine Rd.rd_par ?_ | refine Rd.rd_sl ?_ | refine Rd.rd_noPart ?_ | refine Rd.rd_part ?_ | refine Rd.rd_intV ?_ | refine Rd.rd_lc ?_ | (refine' Rd.rd_aug ?vh ?_; (case vh => with_unfolding_all rfl)) | refine Rd.rd_ipI ?_ | refine Rd.rd_for ?_ | (refine' Rd.rd_IT ?ln ?_; (case ln => with_unfolding_all walk_at "at")) | (refine' Rd.rd_IL ?ln ?_; (case ln => with_unfolding_all walk_at "at")) | refine Rd.rd_iTup ?_ | refine Rd.rd_iList ?_ | refine Rd.rd_iRng1 ?_ | refine Rd.rd_iRng2 ?_ | refine Rd.rd_isi (Rd.isi_int Rd.kk_int_int) ?_ | refine Rd.rd_isi (Rd.isi_int Rd.kk_int_bool) ?_ | refine Rd.rd_dget ?_ | refine Rd.rd_din ?_ | refine Rd.rd_dnotin ?_ | refine Rd.rd_dput ?_ | refine Rd.rd_dc ?_ | refine Rd.rd_lc2 ?_ | refine Rd.rd_ltS ?_ | refine Rd.rd_inSg ?_ | refine Rd.rd_iStr ?_ | refine Rd.rd_IS ?_ | refine Rd.rd_prC ?_ | refine Rd.rd_prN ?_ | refine Rd.rd_methR ?_ | refine Rd.rd_cmeth ?_ | refine Rd.rd_fldS ?_ | refine Rd.rd_fld ?_ | (refine' Rd.rd_mkVS ?vh ?_; (case vh => with_unfolding_all rfl)) | (refine' Rd.rd_starT ?ln ?_; (case ln => with_unfolding_all walk_at "at")) | refine Rd.rd_iEnum ?_ | refine Rd.rd_iZip ?_ | (refine' Rd.rd_IE ?ln ?_; (case ln => with_unfolding_all walk_at "at")) | (refine' Rd.rd_IZ ?ln ?lm ?_; (case ln => with_unfolding_all walk_at "at"); (case lm => with_unfolding_all walk_at "at")) | (refine' Rd.rd_gTup ?ln ?lk ?_; (case ln => with_unfolding_all walk_at "at"); (case lk => with_unfolding_all rfl)) | refine Rd.rd_gCons ?_ | refine Rd.rd_gNil ?_ | refine Rd.rd_m1 ?_ | refine Rd.rd_strV ?_ | refine Rd.rd_tXiM ?_ | refine Rd.rd_tXiB ?_ | refine Rd.rd_tXiS ?_ | refine Rd.rd_bm ?_ | refine Rd.rd_bm0 ?_ | refine Rd.rd_isN ?_ | refine Rd.rd_notN ?_ | refine Rd.rd_sub ?_ | refine Rd.rd_un ?_ | refine Rd.rd_U ?_
  | (refine' Rd.rd_eq ?sc ?_; (case sc => with_unfolding_all rfl)) | (refine' Rd.rd_ne ?sc ?_; (case sc => with_unfolding_all rfl))
  | (refine' Rd.rd_I ?cc ?_; (case cc => with_unfolding_all walk_at "rdc"))
  | (refine' Rd.rd_lenL ?ln ?_; (case ln => with_unfolding_all walk_at "at")) | (refine' Rd.rd_lenT ?ln ?_; (case ln => with_unfolding_all walk_at "at"))
  | (refine' Rd.rd_ixL ?ln ?ia ?_; (case ln => with_unfolding_all walk_at "at"); (case ia => with_unfolding_all first | exact Rd.at0 | exact Rd.at1 | exact Rd.at2 | exact Rd.at3 | exact Rd.at4 | rfl)) | (refine' Rd.rd_ixT ?ln ?ia ?_; (case ln => with_unfolding_all walk_at "at"); (case ia => with_unfolding_all first | exact Rd.at0 | exact Rd.at1 | exact Rd.at2 | exact Rd.at3 | exact Rd.at4 | rfl)))
local macro_rules | `(tactic| walk_at "at") => `(tactic| first | assumption | (apply SqL.of; assumption) | (apply SqT.of; assumption) | (apply SqL.of; exact upd_same) | (apply SqT.of; exact upd_same))
local macro_rules | `(tactic| walk_at "rd") => `(tactic| repeat walk_at "rd1")
def top (i : Nat) : Stmt := PySem.Challenge.pw_loopgrowth_k06_graphs_made.main.body.getD i (.Pass ⟨0, 0, 0, 0⟩)
structure Glob (mg : Str → Option Value) : Prop where
  len : mg "len" = none
  int : mg "int" = none
  abs : mg "abs" = none
  max : mg "max" = none
  min : mg "min" = none
  range : mg "range" = none
  isinstance : mg "isinstance" = none
  all : mg "all" = none
  any : mg "any" = none
  tuple : mg "tuple" = none
  list : mg "list" = none
  str : mg "str" = none
  zip : mg "zip" = none
  bool : mg "bool" = none
  repr : mg "repr" = none
  iter : mg "iter" = none
  enumerate : mg "enumerate" = none
  set : mg "set" = none
  sorted : mg "sorted" = none
  dict : mg "dict" = none
  sum : mg "sum" = none
/-! ### the law's dice -/
abbrev s__law_dice : Stmt := top 26
theorem sc__law_dice : FnScope ["_law_script", "_law_at", "_law_cell", "_law_great", "_law_mixed_here"] ["_law_script", "_law_at"] (defScope s__law_dice) := ⟨rfl, rfl, rfl, by decide +kernel, rfl, by decide +kernel, by decide +kernel⟩
abbrev s__law_roll : Stmt := top 27
theorem sc__law_roll : FnScope ["_law_dice_here", "_law_total", "_law_found", "_law_one", "_law_two"] ["_law_dice_here", "_law_total"] (defScope s__law_roll) := ⟨rfl, rfl, rfl, by decide +kernel, rfl, by decide +kernel, by decide +kernel⟩
abbrev s__law_one_of : Stmt := top 28
theorem sc__law_one_of : FnScope ["_law_dice_here", "_law_items"] ["_law_dice_here", "_law_items"] (defScope s__law_one_of) := ⟨rfl, rfl, rfl, by decide +kernel, rfl, by decide +kernel, by decide +kernel⟩
/-- dice at p -/
def Dice (H : Hp) (p : Addr) : Prop := ∃ x y z : Int, H p = some (.lst [.int x, .int y, .int z])
/-- but for the dice at p all is as it was -/
structure Rolled (p : Addr) (H H' : Hp) : Prop where
  keep : ∀ b o, b ≠ p → H b = some o → H' b = some o
  dice : Dice H' p
theorem rolled_upd {p : Addr} {H : Hp} {x y z : Int} : Rolled p H (upd H p (.lst [.int x, .int y, .int z])) := ⟨fun b o hb e => by rw [upd_ne hb]; exact e, x, y, z, upd_same⟩
theorem Rolled.sqL {K : PySem.W.Frag} {p a : Addr} {H H' : Hp} {xs : List V} (r : Rolled p H H') (hne : a ≠ p) (h : SqL K H a xs) : SqL K H' a xs := by
  rcases h with (h | ⟨o', h⟩) | h
  · exact .inl (.inl (r.keep _ _ hne h))
  · exact .inl (.inr ⟨o', r.keep _ _ hne h⟩)
  · exact .inr h
theorem Dice.same {H H' : Hp} {p : Addr} (h : Dice H p) (s : Same H H') : Dice H' p := by
  obtain ⟨x, y, z, e⟩ := h
  exact ⟨x, y, z, s _ _ e⟩
theorem Dice.ne {H : Hp} {p l : Addr} (h : Dice H p) (hl : H l = none) : l ≠ p := by
  obtain ⟨x, y, z, e⟩ := h
  exact (ne_of_none e hl).symm
theorem Rolled.refl {p : Addr} {H : Hp} (h : Dice H p) : Rolled p H H := ⟨fun _ _ _ e => e, h⟩
theorem Rolled.trans {p : Addr} {H H1 H2 : Hp} (a : Rolled p H H1) (b : Rolled p H1 H2) : Rolled p H H2 := ⟨fun c o hc e => b.keep c o hc (a.keep c o hc e), b.dice⟩
theorem Rolled.same {p : Addr} {H H1 H2 : Hp} (a : Rolled p H H1) (b : Same H1 H2) : Rolled p H H2 := ⟨fun c o hc e => b c o (a.keep c o hc e), a.dice.same b⟩
theorem Rolled.pre {p : Addr} {H H1 H2 : Hp} (a : Same H H1) (b : Rolled p H1 H2) : Rolled p H H2 := ⟨fun c o hc e => b.keep c o hc (a c o e), b.dice⟩
/-- a thing of one's own changes -/
theorem Rolled.mut {p l : Addr} {H H1 : Hp} {o : HO} (a : Rolled p H H1) (hl : H l = none) (hp : l ≠ p) : Rolled p H (upd H1 l o) := by
  obtain ⟨x, y, z, e⟩ := a.dice
  exact ⟨fun c u hc q => by rw [upd_ne (ne_of_none q hl)]; exact a.keep c u hc q, x, y, z, by rw [upd_ne hp.symm]; exact e⟩
theorem Rolled.sqT {K : PySem.W.Frag} {p a : Addr} {H H' : Hp} {xs : List V} (r : Rolled p H H') (hD : Dice H p) (h : SqT K H a xs) : SqT K H' a xs := by
  obtain ⟨x, y, z, e⟩ := hD
  rcases h with (h | ⟨o', h⟩) | h
  · exact .inl (.inl (r.keep _ _ (ne_of h e (by intro q; cases q)) h))
  · exact .inl (.inr ⟨o', r.keep _ _ (ne_of h e (by intro q; cases q)) h⟩)
  · exact .inr h
def spDice (K : PySem.W.Frag) : Sp := Rd.mkSp (fun (a : Addr × List Int × Nat) => [.ref a.1, .int a.2.2]) fun a H Q _ => SqL K H a.1 (a.2.1.map V.int) ∧ ∀ p H', H p = none → Same H H' → Dice H' p → Q (.ref p) H'
def spRoll : Sp := Rd.mkSp (fun (a : Addr × Int) => [.ref a.1, .int a.2]) fun a H Q _ => Dice H a.1 ∧ 0 < a.2 ∧ a.2 < 1073741824 ∧ ∀ r H', 0 ≤ r → r < a.2 → Rolled a.1 H H' → Q (.int r) H'
def spOneOf (K : PySem.W.Frag) : Sp := Rd.mkSp (fun (a : Addr × Addr × List V) => [.ref a.1, .ref a.2.1]) fun a H Q _ => Dice H a.1 ∧ a.2.1 ≠ a.1 ∧ SqL K H a.2.1 a.2.2 ∧ 0 < a.2.2.length ∧ a.2.2.length < 1000 ∧
  ∀ v H', v ∈ a.2.2 → Rolled a.1 H H' → Q v H'
theorem rd_roll {H : Hp} {Q : VK} {E : XK} {d : Addr} {n : Int} (hD : Dice H d) (h0 : 0 < n) (h1 : n < 1073741824) (q : ∀ r H', 0 ≤ r → r < n → Rolled d H H' → Q (.int r) H') : spRoll [.ref d, .int n] H Q E := Rd.rd_sp (d, n) rfl ⟨hD, h0, h1, q⟩
/-- one of the items of a list that is none of the dice -/
theorem rd_one {K : PySem.W.Frag} {H : Hp} {Q : VK} {E : XK} {d m : Addr} {xs : List V} (hD : Dice H d) (hm : m ≠ d) (h : SqL K H m xs) (h0 : 0 < xs.length) (h1 : xs.length < 1000) (q : ∀ v H', v ∈ xs → Rolled d H H' → Q v H') : spOneOf K [.ref d, .ref m] H Q E :=
  Rd.rd_sp (d, m, xs) rfl ⟨hD, hm, h, h0, h1, q⟩
section
variable {gd : Bool} {P : Program} {w : World} {K : PySem.W.Frag} {mg : Str → Option Value} {base : Heap}
theorem ok_dice (F : Rd.Has K mg "_law_dice" s__law_dice) (g : Glob mg) : Rd.Fn gd P w K mg base CX0 1 "_law_dice" (spDice K) := by
  refine F.fn sc__law_dice (fun _ => rfl) (fun _ _ _ _ _ _ us hl => match us, hl with | [_, _], _ => rfl) fun f cdv A outer s H Q E a hr h => ?_
  obtain ⟨a, ns, i⟩ := a
  obtain ⟨hS, k⟩ := h
  refine ⟨_, (pss_cons (ps_set (i := 2) sc__law_dice.nd rfl (Or.inl rfl) (pe_op op_add (pe_op op_mul pe_int (pv 1)) pe_int))
      (C8.pss_cut (ps_if (pt_cmpR op_lt (pv 1) (pe_callB Rd.c_len (by rfl) g.len (by decide +kernel) (pa_cons (pv 0) pa_nil)) (nomark _)) (pss_one (ps_set (i := 2) sc__law_dice.nd rfl (Or.inl rfl) (pe_ix ix_list (pv 0) (pv 1) (fun _ _ => rfl)))) pss_nil)
      (pss_cons (ps_set (i := 3) sc__law_dice.nd rfl (Or.inl rfl) (pe_op op_mod (pe_callTy Rd.c_int (by rfl) g.int (by decide +kernel) (pa_cons (pe_callB Rd.c_abs (by rfl) g.abs (by decide +kernel) (pa_cons (pv 2) pa_nil)) pa_nil)) (pe_op Rd.op_powW (pe_op op_pow pe_int pe_int) pe_int)))
      (pss_cons (ps_set (i := 4) sc__law_dice.nd rfl (Or.inl rfl) (pe_op op_add (pe_op op_add (pe_op op_add (pe_op op_mul (pe_op op_mod (pe_callTy Rd.c_int (by rfl) g.int (by decide +kernel) (pa_cons (pv 3) pa_nil)) pe_int) pe_int) (pe_op op_mul pe_int (pv 1))) (pe_op op_mul pe_int (pe_callTy Rd.c_int (by rfl) g.int (by decide +kernel) (pa_cons (pe_cmpR op_lt (pv 2) pe_int (nomark _)) pa_nil)))) pe_int))
      (pss_one (ps_ret (Rd.pe_lst (pa_cons (pe_callB (Rd.c_max2 rfl) (by rfl) g.max (by decide +kernel) (pa_cons pe_int (pa_cons (pe_op op_sub (pv 3) (pe_op op_pow pe_int pe_int)) pa_nil))) (pa_cons (pe_op op_mod (pe_callTy Rd.c_int (by rfl) g.int (by decide +kernel) (pa_cons (pv 4) pa_nil)) pe_int) (pa_cons pe_int pa_nil)))))))))), ?_⟩
  try simp only [Rd.noxK, Rd.cxK]
  refine Rd.rd_start [some (V.ref a), some (V.int i), none, none, none] rfl ?_
  walk_at "rd"
  refine ⟨fun σ' H' => H' = H ∧ ∃ c : Int, σ' = [some (.ref a), some (.int i), some (.int c), none, none], ?_, ?_⟩
  · walk_at "rd"
    refine ite2 (fun hc => ?_) (fun _ => ?_)
    · have hl : i < ns.length := by simpa using hc
      walk_at "rd"
      refine Rd.rd_ixL hS (atI_nat (v := V.int (ns[i]'hl)) (by rw [List.getElem?_map, List.getElem?_eq_getElem hl]; rfl)) ?_
      walk_at "rd"
      exact ⟨rfl, _, rfl⟩
    · walk_at "rd"
      exact ⟨rfl, _, rfl⟩
  · rintro σ' H' ⟨rfl, c, rfl⟩
    walk_at "rd"
    exact Rd.rd_mkLst (by show 3 ≤ sizeLine; decide) fun p H' hp s' h' => k p H' hp s' ⟨_, _, _, h'⟩
theorem ok_roll (F : Rd.Has K mg "_law_roll" s__law_roll) (g : Glob mg) : Rd.Fn gd P w K mg base CX0 1 "_law_roll" spRoll := by
  refine F.fn sc__law_roll (fun _ => rfl) (fun _ _ _ _ _ _ us hl => match us, hl with | [_, _], _ => rfl) fun f cdv A outer s H Q E a hr h => ?_
  obtain ⟨a, n⟩ := a
  obtain ⟨⟨x, y, z, hD⟩, h0, h1, k⟩ := h
  dsimp only at hD h0 h1 k
  refine ⟨_, (pss_cons (ps_if (pt_cmpR op_gt (pe_ix ix_list (pv 0) pe_int (fun _ _ => rfl)) pe_int (nomark _)) (pss_cons (ps_set (i := 2) sc__law_roll.nd rfl (Or.inl rfl) (pe_op op_mod (pe_callTy Rd.c_int (by rfl) g.int (by decide +kernel) (pa_cons (pe_ix ix_list (pv 0) pe_int (fun _ _ => rfl)) pa_nil)) (pv 1)))
      (pss_cons (ps_asg (pe_op op_fdiv (pe_ix ix_list (pv 0) pe_int (fun _ _ => rfl)) (pv 1)) (pg_sub (pv 0) pe_int set_list))
      (pss_one (ps_ret (pv 2))))) pss_nil)
      (pss_cons (ps_asg (pe_op op_add (pe_ix ix_list (pv 0) pe_int (fun _ _ => rfl)) pe_int) (pg_sub (pv 0) pe_int set_list))
      (pss_cons (ps_set (i := 3) sc__law_roll.nd rfl (Or.inl rfl) (pe_op op_mod (pe_callTy Rd.c_int (by rfl) g.int (by decide +kernel) (pa_cons (pe_op op_add (pe_ix ix_list (pv 0) pe_int (fun _ _ => rfl)) (pe_op op_mul pe_int (pe_ix ix_list (pv 0) pe_int (fun _ _ => rfl)))) pa_nil)) pe_int))
      (pss_cons (ps_set (i := 4) sc__law_roll.nd rfl (Or.inl rfl) (pe_op op_add (pe_op op_mul (pe_op op_mod (pe_callTy Rd.c_int (by rfl) g.int (by decide +kernel) (pa_cons (pe_op op_mul (pv 3) (pv 3)) pa_nil)) pe_int) (pv 3)) (pe_op op_mul pe_int (pe_ix ix_list (pv 0) pe_int (fun _ _ => rfl)))))
      (pss_cons (ps_set (i := 4) sc__law_roll.nd rfl (Or.inl rfl) (pe_op op_mod (pe_callTy Rd.c_int (by rfl) g.int (by decide +kernel) (pa_cons (pv 4) pa_nil)) pe_int))
      (pss_one (ps_ret (pe_op op_mod (pe_callTy Rd.c_int (by rfl) g.int (by decide +kernel) (pa_cons (pe_op op_fdiv (pv 4) pe_int) pa_nil)) (pv 1))))))))), ?_⟩
  try simp only [Rd.noxK, Rd.cxK]
  refine Rd.rd_start [some (V.ref a), some (V.int n), none, none, none] rfl ?_
  walk_at "rd"
  refine ite2 (fun hc => ?_) (fun _ => ?_)
  · walk_at "rd"
    refine Rd.rd_setL (k := 0) hD (by simp) ?_
    walk_at "rd"
    exact k _ _ (Int.emod_nonneg _ (by omega)) (Int.emod_lt_of_pos _ h0) rolled_upd
  · walk_at "rd"
    refine Rd.rd_setL (k := 2) hD (by simp) ?_
    walk_at "rd"
    exact k _ _ (Int.emod_nonneg _ (by omega)) (Int.emod_lt_of_pos _ h0) rolled_upd
theorem ok_one_of (F : Rd.Has K mg "_law_one_of" s__law_one_of) (g : Glob mg) (c__law_roll : Rd.Fn gd P w K mg base CX0 1 "_law_roll" spRoll) : Rd.Fn gd P w K mg base CX0 2 "_law_one_of" (spOneOf K) := by
  refine F.fn sc__law_one_of (fun _ => rfl) (fun _ _ _ _ _ _ us hl => match us, hl with | [_, _], _ => rfl) fun f cdv A outer s H Q E a hr h => ?_
  obtain ⟨a, b, xs⟩ := a
  obtain ⟨hD, hne, hS, h0, h1, k⟩ := h
  dsimp only at hD hne hS h0 h1 k
  refine ⟨_, (pss_one (ps_ret (pe_ix ix_list (pv 1) (Rd.pe_fn c__law_roll (hr.mono (by decide)) (by rfl) (pa_cons (pv 0) (pa_cons (pe_callB Rd.c_len (by rfl) g.len (by decide +kernel) (pa_cons (pv 1) pa_nil)) pa_nil))) (fun _ _ => rfl)))), ?_⟩
  try simp only [Rd.noxK, Rd.cxK]
  refine Rd.rd_start [some (V.ref a), some (V.ref b)] rfl ?_
  walk_at "rd"
  refine Rd.rd_sp (a, (xs.length : Int)) rfl ⟨hD, by show (0 : Int) < xs.length; omega, by show (xs.length : Int) < _; omega, fun r H' hr0 hr1 hR => ?_⟩
  dsimp only at hr1 hR ⊢
  obtain ⟨j, rfl⟩ : ∃ j : Nat, r = (j : Int) := ⟨r.toNat, by omega⟩
  have hj : j < xs.length := by omega
  refine Rd.rd_ixL (hR.sqL hne hS) (atI_nat (v := xs[j]) (List.getElem?_eq_getElem hj)) ?_
  exact k _ _ (List.getElem_mem hj) hR
end
/-! ### graphs as plain data -/
structure Tr where
  (nm src tgt : Str)
  chg : List (Str × Int)
structure Gr where
  (cs ns : List Str)
  ts : List Tr
/-- tuples and what is known of them stay -/
def Imm : HO → Bool
  | .tup _ => true
  | .frz _ (.tup _) => true
  | _ => false
def Kp (H H' : Hp) : Prop := ∀ b o, H b = some o → Imm o = true → H' b = some o
theorem Kp.refl (H : Hp) : Kp H H := fun _ _ e _ => e
theorem Kp.trans {H H1 H2 : Hp} (a : Kp H H1) (b : Kp H1 H2) : Kp H H2 := fun c o e i => b c o (a c o e i) i
theorem kpS {H H' : Hp} (s : Same H H') : Kp H H' := fun b o e _ => s b o e
theorem kp_upd {H : Hp} {l : Addr} {u o : HO} (h : H l = some u) (hu : Imm u = false) : Kp H (upd H l o) := fun b v e i => by
  rw [upd_ne fun z => ?_]
  · exact e
  · rw [z, h] at e
    rw [← Option.some.inj e, hu] at i
    cases i
theorem Rolled.kp {d : Addr} {H H' : Hp} (r : Rolled d H H') (hD : Dice H d) : Kp H H' := fun b o e i => by
  obtain ⟨x, y, z, q⟩ := hD
  refine r.keep b o (fun w => ?_) e
  rw [w, q] at e
  rw [← Option.some.inj e] at i
  cases i
section
variable {K : PySem.W.Frag} {H H' : Hp}
theorem Kp.sqT (k : Kp H H') {a : Addr} {xs : List V} (h : SqT K H a xs) : SqT K H' a xs := by
  rcases h with (h | ⟨o, h⟩) | h
  · exact .inl (.inl (k _ _ h rfl))
  · exact .inl (.inr ⟨o, k _ _ h rfl⟩)
  · exact .inr h
theorem Kp.sqF (k : Kp H H') {a : Addr} {xs : List V} (h : Rd.SqF H a xs) : Rd.SqF H' a xs := let ⟨o, d, e⟩ := h; ⟨o, d, k _ _ e rfl⟩
/-- a tuple of texts -/
def TxT (K : PySem.W.Frag) (H : Hp) (p : Addr) (xs : List Str) : Prop := SqT K H p (xs.map V.str)
def PairAt (K : PySem.W.Frag) (H : Hp) (p : Addr) (kv : Str × Int) : Prop := SqT K H p [.str kv.1, .int kv.2]
def ChgAt (K : PySem.W.Frag) (H : Hp) (c : Addr) (chg : List (Str × Int)) : Prop := ∃ ps : List Addr, Rd.SqF H c (ps.map V.ref) ∧ Paired (PairAt K H) ps chg
def RowAt (K : PySem.W.Frag) (H : Hp) (p : Addr) (t : Tr) : Prop := ∃ c, SqT K H p [.str t.nm, .str t.src, .str t.tgt, .ref c] ∧ ChgAt K H c t.chg
theorem Paired.impl {α β : Type} {F G : α → β → Prop} {l : List α} {m : List β} (h : Paired F l m) (f : ∀ a b, F a b → G a b) : Paired G l m := L2.Paired.mapP h f
theorem ChgAt.kp (k : Kp H H') {c : Addr} {chg : List (Str × Int)} (h : ChgAt K H c chg) : ChgAt K H' c chg := let ⟨ps, h1, h2⟩ := h; ⟨ps, k.sqF h1, L2.Paired.mapP h2 fun _ _ q => k.sqT q⟩
theorem RowAt.kp (k : Kp H H') {p : Addr} {t : Tr} (h : RowAt K H p t) : RowAt K H' p t := let ⟨c, h1, h2⟩ := h; ⟨c, k.sqT h1, h2.kp k⟩
def RowsAt (K : PySem.W.Frag) (H : Hp) (p : Addr) (ts : List Tr) : Prop := ∃ ps : List Addr, SqT K H p (ps.map V.ref) ∧ Paired (RowAt K H) ps ts
theorem RowsAt.kp (k : Kp H H') {p : Addr} {ts : List Tr} (h : RowsAt K H p ts) : RowsAt K H' p ts := let ⟨ps, h1, h2⟩ := h; ⟨ps, k.sqT h1, L2.Paired.mapP h2 fun _ _ q => q.kp k⟩
theorem TxT.kp (k : Kp H H') {p : Addr} {xs : List Str} (h : TxT K H p xs) : TxT K H' p xs := k.sqT h
def PlainAt (K : PySem.W.Frag) (H : Hp) (p : Addr) (G : Gr) : Prop := ∃ c n t, SqT K H p [.ref c, .ref n, .ref t] ∧ TxT K H c G.cs ∧ TxT K H n G.ns ∧ RowsAt K H t G.ts
theorem PlainAt.kp (k : Kp H H') {p : Addr} {G : Gr} (h : PlainAt K H p G) : PlainAt K H' p G := let ⟨c, n, t, h1, h2, h3, h4⟩ := h; ⟨c, n, t, k.sqT h1, h2.kp k, h3.kp k, h4.kp k⟩
theorem paired_mem {α β : Type} {F : α → β → Prop} : ∀ {l : List α} {m : List β}, Paired F l m → ∀ a ∈ l, ∃ b ∈ m, F a b
  | _, _, .nil, a, h => nomatch h
  | _, _, .cons r t, a, h => by
    rcases List.mem_cons.mp h with e | e
    · exact ⟨_, List.mem_cons_self, e ▸ r⟩
    · obtain ⟨b, hb, q⟩ := paired_mem t a e
      exact ⟨b, List.mem_cons_of_mem _ hb, q⟩
theorem paired_get {α β : Type} {F : α → β → Prop} : ∀ {l : List α} {m : List β} {i : Nat} {a : α}, Paired F l m → l[i]? = some a → ∃ b, m[i]? = some b ∧ F a b
  | _, _, 0, a, .cons r t, h => ⟨_, rfl, Option.some.inj h ▸ r⟩
  | _, _, i + 1, a, .cons r t, h => by
    obtain ⟨b, q1, q2⟩ := paired_get (i := i) (a := a) t h
    exact ⟨b, q1, q2⟩
  | _, _, i, a, .nil, h => by simp at h
end
/-! ### names, small numbers, pairs, changes, transitions -/
def letters : Str := "abcdefghijklmnopqrstuvwxyz"
def isName (x : Str) : Bool := decide (1 ≤ x.length) && decide (x.length ≤ 8) && x.cps.toList.all fun c => decide (c ∈ letters.cps.toList)
structure GInts (mg : Str → Option Value) : Prop where
  MAX_COUNTERS : ∃ t, mg "MAX_COUNTERS" = some (.int 5 t)
  MAX_STATES : ∃ t, mg "MAX_STATES" = some (.int 8 t)
  MAX_TRANSITIONS : ∃ t, mg "MAX_TRANSITIONS" = some (.int 16 t)
  MAX_CHANGE : ∃ t, mg "MAX_CHANGE" = some (.int 9 t)
  MAX_NAME : ∃ t, mg "MAX_NAME" = some (.int 8 t)
  LETTERS : ∃ t, mg "LETTERS" = some (.str letters t)
/-- a change is a right one -/
def ChgOk (chg : List (Str × Int)) : Prop := Rd.Asc (chg.map (·.1)) ∧ ∀ kv ∈ chg, isName kv.1 = true ∧ -9 ≤ kv.2 ∧ kv.2 ≤ 9 ∧ kv.2 ≠ 0
def TrOk (t : Tr) : Prop := isName t.nm = true ∧ isName t.src = true ∧ isName t.tgt = true ∧ ChgOk t.chg ∧ t.chg.length ≤ 5
abbrev s_is_name : Stmt := top 12
theorem sc_is_name : FnScope ["value", "sign"] ["value"] (defScope s_is_name) := ⟨rfl, rfl, rfl, by decide +kernel, rfl, by decide +kernel, by decide +kernel⟩
abbrev s_is_small : Stmt := top 13
theorem sc_is_small : FnScope ["value"] ["value"] (defScope s_is_small) := ⟨rfl, rfl, rfl, by decide +kernel, rfl, by decide +kernel, by decide +kernel⟩
abbrev s_is_pair : Stmt := top 14
theorem sc_is_pair : FnScope ["value"] ["value"] (defScope s_is_pair) := ⟨rfl, rfl, rfl, by decide +kernel, rfl, by decide +kernel, by decide +kernel⟩
abbrev s_is_change : Stmt := top 15
theorem sc_is_change : FnScope ["value", "pair", "one", "other"] ["value"] (defScope s_is_change) := ⟨rfl, rfl, rfl, by decide +kernel, rfl, by decide +kernel, by decide +kernel⟩
abbrev s_is_transition : Stmt := top 16
theorem sc_is_transition : FnScope ["value", "part"] ["value"] (defScope s_is_transition) := ⟨rfl, rfl, rfl, by decide +kernel, rfl, by decide +kernel, by decide +kernel⟩
abbrev s_are_names : Stmt := top 17
theorem sc_are_names : FnScope ["value", "name"] ["value"] (defScope s_are_names) := ⟨rfl, rfl, rfl, by decide +kernel, rfl, by decide +kernel, by decide +kernel⟩
def spName : Sp := Rd.mkSp (fun (x : Str) => [.str x]) fun x H Q _ => x.length ≤ 1000 ∧ ∀ H', Same H H' → Q (.bl (isName x)) H'
def spSmall : Sp := Rd.mkSp (fun (i : Int) => [.int i]) fun i H Q _ => Q (.bl (decide (-9 ≤ i) && decide (i ≤ 9))) H
def spPair (K : PySem.W.Frag) : Sp := Rd.mkSp (fun (a : Addr × Str × Int) => [.ref a.1]) fun a H Q _ => PairAt K H a.1 a.2 ∧ isName a.2.1 = true ∧ (-9 ≤ a.2.2 ∧ a.2.2 ≤ 9 ∧ a.2.2 ≠ 0) ∧ ∀ H', Same H H' → Q (.bl true) H'
def spChange (K : PySem.W.Frag) : Sp := Rd.mkSp (fun (a : Addr × List (Str × Int)) => [.ref a.1]) fun a H Q _ => ChgAt K H a.1 a.2 ∧ ChgOk a.2 ∧ a.2.length ≤ 5 ∧ ∀ H', Same H H' → Q (.bl true) H'
def spTrans (K : PySem.W.Frag) : Sp := Rd.mkSp (fun (a : Addr × Tr) => [.ref a.1]) fun a H Q _ => RowAt K H a.1 a.2 ∧ TrOk a.2 ∧ ∀ H', Same H H' → Q (.bl true) H'
def spNames (K : PySem.W.Frag) : Sp := Rd.mkSp (fun (a : Addr × List Str) => [.ref a.1]) fun a H Q _ => TxT K H a.1 a.2 ∧ (∀ x ∈ a.2, isName x = true) ∧ a.2.length ≤ 100 ∧ ∀ H', Same H H' → Q (.bl true) H'
theorem name_len {x : Str} (h : isName x = true) : 1 ≤ x.length ∧ x.length ≤ 8 := by
  unfold isName at h
  rw [Bool.and_eq_true, Bool.and_eq_true, decide_eq_true_eq, decide_eq_true_eq] at h
  exact h.1
section
variable {gd : Bool} {P : Program} {w : World} {K : PySem.W.Frag} {mg : Str → Option Value} {base : Heap}
theorem rd_lenS {H : Hp} {Q : VK} {x : Str} (h : x.length ≤ sizeLine) (q : Q (.int (x.length : Nat)) H) : Rd.rLen K [.str x] H Q := ⟨_, _, rfl, ⟨h, rfl⟩, q⟩
theorem ok_is_name (F : Rd.Has K mg "is_name" s_is_name) (g : Glob mg) (ws : GInts mg) : Rd.Fn gd P w K mg base CX0 1 "is_name" spName := by
  refine F.fn sc_is_name (fun _ => rfl) (fun _ _ _ _ _ _ us hl => match us, hl with | [_], _ => rfl) fun f cdv A outer s H Q E x hr h => ?_
  obtain ⟨hx, k⟩ := h
  refine ⟨_, (pss_cons (ps_if (PW.pt (pw_or (pt_not (pt_val (pe_callB Rd.c_isi (by rfl) g.isinstance (by decide +kernel) (pa_cons (pv 0) (pa_cons (pe_bltn (v := .ty "str") (by rfl) g.str (by decide +kernel) rfl) pa_nil))))) (pw_or1 (pt_not (pt_chain op_le op_le pe_int (pe_callB Rd.c_len (by rfl) g.len (by decide +kernel) (pa_cons (pv 0) pa_nil)) (Rd.pe_gli (by rfl) ws.MAX_NAME)))))) (pss_one (ps_ret pe_bl)) pss_nil)
      (pss_one (ps_ret (pe_callB (Rd.c_all rfl) (by rfl) g.all (by decide +kernel) (pa_cons (pe_lc (own := [("sign", 1)]) (by rfl) sc_is_name.nd (pi_str (pv 0)) (blkOk_by (own := [("sign", 1)]) (N := ["value", "sign"]) (sc := defScope s_is_name) (by decide +kernel)) (fun _ _ _ _ _ => (pg_name (i := 1) sc_is_name.nd rfl (Or.inl rfl))) (fun _ _ _ _ _ => pts_nil) (fun _ _ _ _ _ => (pe_cmpR Rd.op_inSg (pv 1) (Rd.pe_gls (by rfl) ws.LETTERS) (by rfl)))) pa_nil))))), ?_⟩
  try simp only [Rd.noxK, Rd.cxK]
  refine Rd.rd_start [some (V.str x), none] rfl ?_
  walk_at "rd"
  refine Rd.rd_isi (Rd.isi_str (b := true) (by decide +kernel)) ?_
  walk_at "rd"
  refine Rd.if_f rfl ?_
  walk_at "rd"
  refine rd_lenS (Rd.small64 (by omega)) ?_
  walk_at "rd"
  have fin : ∀ (b : Bool) H', Same H H' → b = isName x → Q (.bl b) H' := fun b H' s' e => e ▸ k H' s'
  refine ite2 (fun h1 => ?_) (fun h1 => ?_)
  · have h1 : (1 : Int) ≤ (x.length : Int) := of_decide_eq_true h1
    walk_at "rd"
    refine ite2 (fun h2 => ?_) (fun h2 => ?_)
    · have h2 : ¬ (x.length : Int) ≤ 8 := by simpa using h2
      walk_at "rd"
      refine fin _ _ (Same.refl H) ?_
      unfold isName
      rw [decide_eq_false (show ¬ x.length ≤ 8 by omega), Bool.and_false, Bool.false_and]
    · have h2 : (x.length : Int) ≤ 8 := by simpa using h2
      walk_at "rd"
      refine Rd.lc_str (fun c => V.bl (decide (c ∈ letters.cps.toList))) (show x.length ≤ 100000 by omega) (fun c H1 N hc s1 hN => ?_) (fun D H1 hD s1 h1 => ?_)
      · refine Rd.rd_start' [some (V.str x), none] rfl ?_
        walk_at "rd"
        refine ⟨rfl, ?_⟩
        walk_at "rd"
        exact hN _ (Same.refl _)
      · refine Rd.rd_all (bs := x.cps.toList.map fun c => decide (c ∈ letters.cps.toList)) (SqL.of (by rw [h1, List.map_map]; rfl)) ?_
        refine fin _ _ s1 ?_
        unfold isName
        rw [decide_eq_true (show 1 ≤ x.length by omega), decide_eq_true (show x.length ≤ 8 by omega), List.all_map]
        rfl
  · have h1 : ¬ (1 : Int) ≤ (x.length : Int) := fun z => h1 (decide_eq_true z)
    walk_at "rd"
    refine fin _ _ (Same.refl H) ?_
    unfold isName
    rw [decide_eq_false (show ¬ 1 ≤ x.length by omega), Bool.false_and, Bool.false_and]
end
end M
set_option Elab.async false
set_option linter.all false
set_option maxRecDepth 100000
set_option maxHeartbeats 4000000
namespace M
open PySem L2
local macro_rules | `(tactic| walk_at "rdc") => `(tactic| first | exact Or.inl ⟨by decide, by decide⟩ | exact Or.inr ⟨by decide, by decide⟩ | exact ⟨by decide, by decide, by decide⟩ | exact ⟨by decide, by decide⟩ | decide | omega | assumption | (refine Or.inl ⟨?_, ?_⟩ <;> omega) | (refine Or.inr ⟨?_, ?_⟩ <;> omega) | (refine ⟨?_, ?_⟩ <;> omega))
local macro_rules | `(tactic| walk_at "rd1") => `(tactic| with_reducible first
  | refine Rd.rd_seq ?_ | refine Rd.rd_asg ?_ | refine Rd.rd_op ?_ | (refine' Rd.rd_var ?vh ?_; (case vh => with_unfolding_all rfl)) | refine Rd.rd_c ?_ | refine Rd.rd_I0 ?_ | refine Rd.rd_name0 ?_ | refine Rd.rd_nameS ?_ | refine Rd.rd_fn ?_
  | refine Rd.rd_cb ?_ | refine Rd.rd_cons ?_ | refine Rd.rd_nil ?_ | refine Rd.rd_int ?_ | refine Rd.rd_intB ?_ | refine Rd.rd_abs ?_ | refine Rd.rd_max2 ?_ | refine Rd.rd_min2 ?_
  | refine Rd.rd_call ?_ | refine Rd.rd_ifE ?_ | refine Rd.rd_test ?_ | refine Rd.rd_tB ?_ | refine Rd.rd_blV ?_ | refine Rd.rd_and ?_ | refine Rd.rd_or ?_ | refine Rd.rd_not ?_
  | refine Rd.rd_andV ?_ | refine Rd.rd_orV ?_ | refine Rd.rd_notV ?_ | refine Rd.rd_next ?_ | refine Rd.rd_ret ?_ | refine Rd.rd_drop ?_ | refine Rd.rd_ifS ?_ | refine Rd.rd_nx ?_ | refine Rd.rd_rt ?_ | refine Rd.rd_tMatch ?_ | refine Rd.rd_tCO ?_ | refine Rd.rd_tRevL ?_ | refine Rd.rd_tStar ?_ | refine Rd.rd_joined ?_ | refine Rd.rd_js1 ?_ | refine Rd.rd_js0 ?_ | refine Rd.rd_fmt ?_ | refine Rd.rd_propR ?_ | refine Rd.rd_iZipA ?_ | refine Rd.rd_iEnumT ?_ | refine Rd.rd_iOwn ?_ | (refine' Rd.rd_IET ?ln ?_; (case ln => with_unfolding_all walk_at "at")) | refine Rd.rd_chain ?_ | refine Rd.rd_tPar ?_ | refine Rd.rd_par ?_ | refine Rd.rd_sl ?_ | refine Rd.rd_noPart ?_ | refine Rd.rd_part ?_ | refine Rd.rd_intV ?_ | refine Rd.rd_lc ?_ | (refine' Rd.rd_aug ?vh ?_; (case vh => with_unfolding_all rfl)) | refine Rd.rd_ipI ?_ | refine Rd.rd_for ?_ | (refine' Rd.rd_IT ?ln ?_; (case ln => with_unfolding_all walk_at "at")) | (refine' Rd.rd_IL ?ln ?_; (case ln => with_unfolding_all walk_at "at")) | refine Rd.rd_iTup ?_ | refine Rd.rd_iList ?_ | refine Rd.rd_iRng1 ?_ | refine Rd.rd_iRng2 ?_ | refine Rd.rd_isi (Rd.isi_int Rd.kk_int_int) ?_ | refine Rd.rd_isi (Rd.isi_int Rd.kk_int_bool) ?_ | refine Rd.rd_dget ?_ | refine Rd.rd_din ?_ | refine Rd.rd_dnotin ?_ | refine Rd.rd_dput ?_ | refine Rd.rd_dc ?_ | refine Rd.rd_lc2 ?_ | refine Rd.rd_ltS ?_ | refine Rd.rd_inSg ?_ | refine Rd.rd_iStr ?_ | refine Rd.rd_IS ?_ | refine Rd.rd_prC ?_ | refine Rd.rd_prN ?_ | refine Rd.rd_methR ?_ | refine Rd.rd_cmeth ?_ | refine Rd.rd_fldS ?_ | refine Rd.rd_fld ?_ | (refine' Rd.rd_mkVS ?vh ?_; (case vh => with_unfolding_all rfl)) | (refine' Rd.rd_starT ?ln ?_; (case ln => with_unfolding_all walk_at "at")) | refine Rd.rd_iEnum ?_ | refine Rd.rd_iZip ?_ | (refine' Rd.rd_IE ?ln ?_; (case ln => with_unfolding_all walk_at "at")) | (refine' Rd.rd_IZ ?ln ?lm ?_; (case ln => with_unfolding_all walk_at "at"); (case lm => with_unfolding_all walk_at "at")) | (refine' Rd.rd_gTup ?ln ?lk ?_; (case ln => with_unfolding_all walk_at "at"); (case lk => with_unfolding_all rfl)) | refine Rd.rd_gCons ?_ | refine Rd.rd_gNil ?_ | refine Rd.rd_m1 ?_ | refine Rd.rd_strV ?_ | refine Rd.rd_tXiM ?_ | refine Rd.rd_tXiB ?_ | refine Rd.rd_tXiS ?_ | refine Rd.rd_bm ?_ | refine Rd.rd_bm0 ?_ | refine Rd.rd_isN ?_ | refine Rd.rd_notN ?_ | refine Rd.rd_sub ?_ | refine Rd.rd_un ?_ | refine Rd.rd_U ?_
  | (refine' Rd.rd_eq ?sc ?_; (case sc => with_unfolding_all rfl)) | (refine' Rd.rd_ne ?sc ?_; (case sc => with_unfolding_all rfl))
  | (refine' Rd.rd_I ?cc ?_; (case cc => with_unfolding_all walk_at "rdc"))
  | (refine' Rd.rd_lenL ?ln ?_; (case ln => with_unfolding_all walk_at "at")) | (refine' Rd.rd_lenT ?ln ?_; (case ln => with_unfolding_all walk_at "at"))
  | (refine' Rd.rd_ixL ?ln ?ia ?_; (case ln => with_unfolding_all walk_at "at"); (case ia => with_unfolding_all first | exact Rd.at0 | exact Rd.at1 | exact Rd.at2 | exact Rd.at3 | exact Rd.at4 | rfl)) | (refine' Rd.rd_ixT ?ln ?ia ?_; (case ln => with_unfolding_all walk_at "at"); (case ia => with_unfolding_all first | exact Rd.at0 | exact Rd.at1 | exact Rd.at2 | exact Rd.at3 | exact Rd.at4 | rfl)))
local macro_rules | `(tactic| walk_at "at") => `(tactic| first | assumption | (apply SqL.of; assumption) | (apply SqT.of; assumption) | (apply SqL.of; exact upd_same) | (apply SqT.of; exact upd_same))
local macro_rules | `(tactic| walk_at "rd") => `(tactic| repeat walk_at "rd1")
section
variable {gd : Bool} {P : Program} {w : World} {K : PySem.W.Frag} {mg : Str → Option Value} {base : Heap}
theorem map_true {α : Type} : ∀ l : List α, l.map (fun _ => V.bl true) = (List.replicate l.length true).map V.bl
  | [] => rfl
  | _ :: r => by rw [List.map_cons, map_true r]; rfl
theorem all_true (n : Nat) : (List.replicate n true).all id = true := by simp [List.all_replicate]
/-- all(..) of a list of Trues -/
theorem rd_allT {α : Type} {H : Hp} {Q : VK} {D : Addr} {l : List α} (h : H D = some (.lst (l.map fun _ => V.bl true))) (q : Q (.bl true) H) : rAll K [.ref D] H Q := by
  rw [map_true] at h
  exact Rd.rd_all (SqL.of h) (by rw [all_true]; exact q)
theorem rd_name {H : Hp} {Q : VK} {E : XK} {x : Str} (h : isName x = true) (q : ∀ H', Same H H' → Q (.bl true) H') : spName [.str x] H Q E := Rd.rd_sp x rfl ⟨by have := name_len h; show x.length ≤ 1000; omega, fun H' s' => by rw [h]; exact q H' s'⟩
theorem ok_is_small (F : Rd.Has K mg "is_small" s_is_small) (g : Glob mg) (ws : GInts mg) : Rd.Fn gd P w K mg base CX0 1 "is_small" spSmall := by
  refine F.fn sc_is_small (fun _ => rfl) (fun _ _ _ _ _ _ us hl => match us, hl with | [_], _ => rfl) fun f cdv A outer s H Q E i hr h => ?_
  refine ⟨_, (pss_one (ps_ret (pe_and (pe_callB Rd.c_isi (by rfl) g.isinstance (by decide +kernel) (pa_cons (pv 0) (pa_cons (pe_bltn (v := .ty "int") (by rfl) g.int (by decide +kernel) rfl) pa_nil))) (pe_and (pe_not (pe_callB Rd.c_isi (by rfl) g.isinstance (by decide +kernel) (pa_cons (pv 0) (pa_cons (pe_bltn (v := .ty "bool") (by rfl) g.bool (by decide +kernel) rfl) pa_nil)))) (pe_one (pe_chain op_le op_le (pe_un un_neg (Rd.pe_gli (by rfl) ws.MAX_CHANGE)) (pv 0) (Rd.pe_gli (by rfl) ws.MAX_CHANGE))))))), ?_⟩
  try simp only [Rd.noxK, Rd.cxK]
  refine Rd.rd_start [some (V.int i)] rfl ?_
  walk_at "rd"
  refine Rd.if_t rfl ?_
  walk_at "rd"
  refine Rd.if_t rfl ?_
  walk_at "rd"
  refine ite2 (fun h1 => ?_) (fun h1 => ?_)
  · have h1 : (-9 : Int) ≤ i := of_decide_eq_true h1
    rw [decide_eq_true h1, Bool.true_and] at h
    walk_at "rd"
    exact h
  · have h1 : ¬ (-9 : Int) ≤ i := fun z => h1 (decide_eq_true z)
    rw [decide_eq_false h1, Bool.false_and] at h
    exact h
theorem ok_is_pair (F : Rd.Has K mg "is_pair" s_is_pair) (g : Glob mg) (c_is_name : Rd.Fn gd P w K mg base CX0 1 "is_name" spName) (c_is_small : Rd.Fn gd P w K mg base CX0 1 "is_small" spSmall) : Rd.Fn gd P w K mg base CX0 2 "is_pair" (spPair K) := by
  refine F.fn sc_is_pair (fun _ => rfl) (fun _ _ _ _ _ _ us hl => match us, hl with | [_], _ => rfl) fun f cdv A outer s H Q E a hr h => ?_
  obtain ⟨p, x, i⟩ := a
  obtain ⟨hp, hx, ⟨h1, h2, h3⟩, k⟩ := h
  dsimp only at hp hx h1 h2 h3 k
  have hp' : SqT K H p [.str x, .int i] := hp
  refine ⟨_, (pss_one (ps_ret (pe_and (pe_callB Rd.c_isi (by rfl) g.isinstance (by decide +kernel) (pa_cons (pv 0) (pa_cons (pe_bltn (v := .ty "tuple") (by rfl) g.tuple (by decide +kernel) rfl) pa_nil))) (pe_and (pe_cmpR op_eq (pe_callB Rd.c_len (by rfl) g.len (by decide +kernel) (pa_cons (pv 0) pa_nil)) pe_int (nomark _)) (pe_and (Rd.pe_fn c_is_name (hr.mono (by decide)) (by rfl) (pa_cons (pe_ix ix_tup (pv 0) pe_int (fun _ _ => rfl)) pa_nil)) (pe_and (Rd.pe_fn c_is_small (hr.mono (by decide)) (by rfl) (pa_cons (pe_ix ix_tup (pv 0) pe_int (fun _ _ => rfl)) pa_nil)) (pe_one (pe_cmpR op_ne (pe_ix ix_tup (pv 0) pe_int (fun _ _ => rfl)) pe_int (nomark _))))))))), ?_⟩
  try simp only [Rd.noxK, Rd.cxK]
  refine Rd.rd_start [some (V.ref p)] rfl ?_
  walk_at "rd"
  refine Rd.rd_isi (Rd.isi_tup hp' Rd.kk_tup_tup) ?_
  walk_at "rd"
  refine Rd.if_t rfl ?_
  walk_at "rd"
  refine Rd.if_t rfl ?_
  walk_at "rd"
  refine rd_name hx fun H1 s1 => ?_
  have hp1 : SqT K H1 p [.str x, .int i] := Rd.Same.sqT s1 hp'
  walk_at "rd"
  refine Rd.if_t rfl ?_
  walk_at "rd"
  refine Rd.rd_sp i rfl ?_
  dsimp only
  rw [decide_eq_true h1, decide_eq_true h2]
  walk_at "rd"
  refine Rd.if_t rfl ?_
  walk_at "rd"
  have e : (!decide (V.int i = V.int 0)) = true := by simp [h3]
  rw [e]
  exact k H1 s1
theorem kvs_zip : ∀ (l : List (Str × Int)), Rd.Asc (l.map (·.1)) → ∀ z ∈ l.zip (l.drop 1), Rd.lts z.1.1 z.2.1 = true
  | [], _, z, h => by simp at h
  | [_], _, z, h => by simp at h
  | a :: b :: l, hA, z, h => by
    have hA' : ((a :: b :: l).map (·.1)).Pairwise fun x y => Rd.lts x y = true := hA
    simp only [List.map_cons] at hA'
    obtain ⟨h1, h2⟩ := List.pairwise_cons.mp hA'
    rw [List.drop_succ_cons, List.drop_zero, List.zip_cons_cons] at h
    rcases List.mem_cons.mp h with e | e
    · rw [e]
      exact h1 _ List.mem_cons_self
    · exact kvs_zip (b :: l) (by simpa [Rd.Asc] using h2) z (by simpa using e)
theorem ok_is_change (F : Rd.Has K mg "is_change" s_is_change) (g : Glob mg) (c_is_pair : Rd.Fn gd P w K mg base CX0 2 "is_pair" (spPair K)) : Rd.Fn gd P w K mg base CX0 3 "is_change" (spChange K) := by
  refine F.fn sc_is_change (fun _ => rfl) (fun _ _ _ _ _ _ us hl => match us, hl with | [_], _ => rfl) fun f cdv A outer s H Q E a hr h => ?_
  obtain ⟨p, chg⟩ := a
  obtain ⟨⟨ps, hF, hp⟩, ⟨hA, hO⟩, hl, k⟩ := h
  dsimp only at hF hp hA hO hl k
  have hS : SqT K H p (ps.map V.ref) := hF.sq
  have lp : ps.length = chg.length := hp.length
  refine ⟨_, (pss_cons (ps_if (PW.pt (pw_or (pt_not (pt_val (pe_callB Rd.c_isi (by rfl) g.isinstance (by decide +kernel) (pa_cons (pv 0) (pa_cons (pe_bltn (v := .ty "tuple") (by rfl) g.tuple (by decide +kernel) rfl) pa_nil))))) (pw_or1 (pt_not (pt_val (pe_callB (Rd.c_all rfl) (by rfl) g.all (by decide +kernel) (pa_cons (pe_lc (own := [("pair", 1)]) (by rfl) sc_is_change.nd (pi_tup (pv 0)) (blkOk_by (own := [("pair", 1)]) (N := ["value", "pair", "one", "other"]) (sc := defScope s_is_change) (by decide +kernel)) (fun _ _ _ _ _ => (pg_name (i := 1) sc_is_change.nd rfl (Or.inl rfl))) (fun _ _ _ _ _ => pts_nil) (fun _ _ _ _ _ => (Rd.pe_fn c_is_pair (hr.mono (by decide)) (by rfl) (pa_cons (pv 1) pa_nil)))) pa_nil))))))) (pss_one (ps_ret pe_bl)) pss_nil)
      (pss_one (ps_ret (pe_callB (Rd.c_all rfl) (by rfl) g.all (by decide +kernel) (pa_cons (pe_lc (own := [("one", 2), ("other", 3)]) (by rfl) sc_is_change.nd (RZ.pi_zipA (by rfl) g.zip (pa_cons (pv 0) (pa_cons (pe_slice sl_tupA (pv 0) (po_some pe_int) po_none) pa_nil))) (blkOk_by (own := [("one", 2), ("other", 3)]) (N := ["value", "pair", "one", "other"]) (sc := defScope s_is_change) (by decide +kernel)) (fun _ _ _ _ _ => (Rd.pg_tupK (K := K) (n := 2) (by rfl) rfl (pgs_cons (pg_name (i := 2) sc_is_change.nd rfl (Or.inl rfl)) (pgs_cons (pg_name (i := 3) sc_is_change.nd rfl (Or.inl rfl)) pgs_nil)))) (fun _ _ _ _ _ => pts_nil) (fun _ _ _ _ _ => (pe_cmpR Rd.op_ltS (pe_ix (Rd.ix_tupK (K := K) (by rfl)) (pv 2) pe_int (fun _ _ => rfl)) (pe_ix (Rd.ix_tupK (K := K) (by rfl)) (pv 3) pe_int (fun _ _ => rfl)) (nomark _)))) pa_nil))))), ?_⟩
  try simp only [Rd.noxK, Rd.cxK]
  refine Rd.rd_start [some (V.ref p), none, none, none] rfl ?_
  walk_at "rd"
  refine Rd.rd_isi (Rd.isi_tup hS Rd.kk_tup_tup) ?_
  walk_at "rd"
  refine Rd.if_f rfl ?_
  walk_at "rd"
  refine Rd.lc_tup (fun _ => V.bl true) (by rw [List.length_map]; omega) hS (fun v H1 N hv s1 hN => ?_) (fun D H1 hD s1 h1 => ?_)
  · obtain ⟨b, hb, rfl⟩ := List.mem_map.mp hv
    obtain ⟨kv, hkv, hq⟩ := paired_mem hp b hb
    obtain ⟨o1, o2, o3, o4⟩ := hO kv hkv
    refine Rd.rd_start' [some (V.ref p), none, none, none] rfl ?_
    walk_at "rd"
    refine ⟨rfl, ?_⟩
    walk_at "rd"
    exact Rd.rd_sp (b, kv) rfl ⟨Rd.Same.sqT s1 hq, o1, ⟨o2, o3, o4⟩, hN⟩
  walk_at "rd"
  refine rd_allT h1 ?_
  walk_at "rd"
  refine Rd.if_f rfl ?_
  have hS1 : SqT K H1 p (ps.map V.ref) := Rd.Same.sqT s1 hS
  walk_at "rd"
  refine Rd.rd_cut hS1 fun q H2 s2 h2 => ?_
  have e3 : cutV (ps.map V.ref) (some 1) none = (ps.drop 1).map V.ref := by
    unfold cutV HT.sIx
    dsimp only
    rw [if_neg (by omega)]
    cases ps with
    | nil => rfl
    | cons x r =>
      simp only [List.length_map, List.length_cons, List.map_cons]
      rw [show min (Int.toNat 1) (r.length + 1) = 1 by simp]
      simp
      exact List.take_of_length_le (by rw [List.length_map]; exact Nat.le_refl _)
  rw [e3] at h2
  walk_at "rd"
  refine Rd.rd_IZT (Rd.Same.sqT s2 hS1) h2 ?_
  refine Rd.lc_zipM (fun _ => V.bl true) (by rw [List.length_map]; omega) (Rd.Same.sqT s2 hS1) h2 (fun z T H3 M hz s3 hT hM => ?_) (fun D3 H3 hD3 s3 h3 => ?_)
  · obtain ⟨i, hz'⟩ := List.mem_iff_getElem?.mp hz
    obtain ⟨z1, z2⟩ := z
    obtain ⟨g1, g2⟩ := List.getElem?_zip_eq_some.mp hz'
    rw [List.getElem?_map] at g1 g2
    obtain ⟨b1, f1, rfl⟩ := Option.map_eq_some_iff.mp g1
    obtain ⟨b2, f2, rfl⟩ := Option.map_eq_some_iff.mp g2
    rw [List.getElem?_drop] at f2
    obtain ⟨kv1, k1, q1⟩ := paired_get hp f1
    obtain ⟨kv2, k2, q2⟩ := paired_get hp f2
    have hlt : Rd.lts kv1.1 kv2.1 = true := kvs_zip chg hA (kv1, kv2) (List.mem_of_getElem? (i := i) (List.getElem?_zip_eq_some.mpr ⟨k1, by rw [List.getElem?_drop]; exact k2⟩))
    have t3 := (s1.trans s2).trans s3
    have q1' : SqT K H3 b1 [.str kv1.1, .int kv1.2] := Rd.Same.sqT t3 q1
    have q2' : SqT K H3 b2 [.str kv2.1, .int kv2.2] := Rd.Same.sqT t3 q2
    refine Rd.rd_start' [some (V.ref p), none, none, none] rfl ?_
    walk_at "rd"
    refine ⟨rfl, ?_⟩
    walk_at "rd"
    rw [hlt]
    exact hM _ (Same.refl _)
  · walk_at "rd"
    refine rd_allT h3 ?_
    exact k H3 ((s1.trans s2).trans s3)
theorem ok_is_transition (F : Rd.Has K mg "is_transition" s_is_transition) (g : Glob mg) (c_is_name : Rd.Fn gd P w K mg base CX0 1 "is_name" spName) (c_is_change : Rd.Fn gd P w K mg base CX0 3 "is_change" (spChange K)) : Rd.Fn gd P w K mg base CX0 4 "is_transition" (spTrans K) := by
  refine F.fn sc_is_transition (fun _ => rfl) (fun _ _ _ _ _ _ us hl => match us, hl with | [_], _ => rfl) fun f cdv A outer s H Q E a hr h => ?_
  obtain ⟨p, t⟩ := a
  obtain ⟨⟨c, hp, hc⟩, ⟨n1, n2, n3, n4, n5⟩, k⟩ := h
  dsimp only at hp hc n1 n2 n3 n4 n5 k
  refine ⟨_, (pss_cons (ps_if (PW.pt (pw_or (pt_not (pt_val (pe_callB Rd.c_isi (by rfl) g.isinstance (by decide +kernel) (pa_cons (pv 0) (pa_cons (pe_bltn (v := .ty "tuple") (by rfl) g.tuple (by decide +kernel) rfl) pa_nil))))) (pw_or (pt_cmpR op_ne (pe_callB Rd.c_len (by rfl) g.len (by decide +kernel) (pa_cons (pv 0) pa_nil)) pe_int (nomark _)) (pw_or1 (pt_not (pt_val (pe_callB (Rd.c_all rfl) (by rfl) g.all (by decide +kernel) (pa_cons (pe_lc (own := [("part", 1)]) (by rfl) sc_is_transition.nd (pi_tup (pe_slice sl_tupA (pv 0) po_none (po_some pe_int))) (blkOk_by (own := [("part", 1)]) (N := ["value", "part"]) (sc := defScope s_is_transition) (by decide +kernel)) (fun _ _ _ _ _ => (pg_name (i := 1) sc_is_transition.nd rfl (Or.inl rfl))) (fun _ _ _ _ _ => pts_nil) (fun _ _ _ _ _ => (Rd.pe_fn c_is_name (hr.mono (by decide)) (by rfl) (pa_cons (pv 1) pa_nil)))) pa_nil)))))))) (pss_one (ps_ret pe_bl)) pss_nil)
      (pss_one (ps_ret (Rd.pe_fn c_is_change (hr.mono (by decide)) (by rfl) (pa_cons (pe_ix ix_tup (pv 0) pe_int (fun _ _ => rfl)) pa_nil))))), ?_⟩
  try simp only [Rd.noxK, Rd.cxK]
  refine Rd.rd_start [some (V.ref p), none] rfl ?_
  walk_at "rd"
  refine Rd.rd_isi (Rd.isi_tup hp Rd.kk_tup_tup) ?_
  walk_at "rd"
  refine Rd.if_f rfl ?_
  walk_at "rd"
  refine Rd.if_f rfl ?_
  walk_at "rd"
  refine Rd.rd_cut hp fun q H1 s1 h1 => ?_
  have e1 : cutV [V.str t.nm, V.str t.src, V.str t.tgt, V.ref c] none (some 3) = [V.str t.nm, V.str t.src, V.str t.tgt] := rfl
  rw [e1] at h1
  walk_at "rd"
  refine Rd.lc_tup (fun _ => V.bl true) (by show 3 ≤ 100000; decide) h1 (fun v H2 N hv s2 hN => ?_) (fun D H2 hD s2 h2 => ?_)
  · refine Rd.rd_start' [some (V.ref p), none] rfl ?_
    walk_at "rd"
    refine ⟨rfl, ?_⟩
    walk_at "rd"
    simp only [List.mem_cons, List.not_mem_nil, or_false] at hv
    rcases hv with rfl | rfl | rfl
    · exact rd_name n1 hN
    · exact rd_name n2 hN
    · exact rd_name n3 hN
  walk_at "rd"
  refine rd_allT h2 ?_
  walk_at "rd"
  refine Rd.if_f rfl ?_
  have hp2 := Rd.Same.sqT (s1.trans s2) hp
  walk_at "rd"
  exact Rd.rd_sp (c, t.chg) rfl ⟨hc.kp (kpS (s1.trans s2)), n4, n5, fun H3 s3 => k H3 ((s1.trans s2).trans s3)⟩
theorem ok_are_names (F : Rd.Has K mg "are_names" s_are_names) (g : Glob mg) (c_is_name : Rd.Fn gd P w K mg base CX0 1 "is_name" spName) : Rd.Fn gd P w K mg base CX0 2 "are_names" (spNames K) := by
  refine F.fn sc_are_names (fun _ => rfl) (fun _ _ _ _ _ _ us hl => match us, hl with | [_], _ => rfl) fun f cdv A outer s H Q E a hr h => ?_
  obtain ⟨p, xs⟩ := a
  obtain ⟨hp, hx, hl, k⟩ := h
  dsimp only at hp hx hl k
  have hp' : SqT K H p (xs.map V.str) := hp
  refine ⟨_, (pss_one (ps_ret (pe_and (pe_callB Rd.c_isi (by rfl) g.isinstance (by decide +kernel) (pa_cons (pv 0) (pa_cons (pe_bltn (v := .ty "tuple") (by rfl) g.tuple (by decide +kernel) rfl) pa_nil))) (pe_one (pe_callB (Rd.c_all rfl) (by rfl) g.all (by decide +kernel) (pa_cons (pe_lc (own := [("name", 1)]) (by rfl) sc_are_names.nd (pi_tup (pv 0)) (blkOk_by (own := [("name", 1)]) (N := ["value", "name"]) (sc := defScope s_are_names) (by decide +kernel)) (fun _ _ _ _ _ => (pg_name (i := 1) sc_are_names.nd rfl (Or.inl rfl))) (fun _ _ _ _ _ => pts_nil) (fun _ _ _ _ _ => (Rd.pe_fn c_is_name (hr.mono (by decide)) (by rfl) (pa_cons (pv 1) pa_nil)))) pa_nil)))))), ?_⟩
  try simp only [Rd.noxK, Rd.cxK]
  refine Rd.rd_start [some (V.ref p), none] rfl ?_
  walk_at "rd"
  refine Rd.rd_isi (Rd.isi_tup hp' Rd.kk_tup_tup) ?_
  walk_at "rd"
  refine Rd.if_t rfl ?_
  walk_at "rd"
  refine Rd.lc_tup (fun _ => V.bl true) (by rw [List.length_map]; omega) hp' (fun v H2 N hv s2 hN => ?_) (fun D H2 hD s2 h2 => ?_)
  · obtain ⟨x, hxm, rfl⟩ := List.mem_map.mp hv
    refine Rd.rd_start' [some (V.ref p), none] rfl ?_
    walk_at "rd"
    refine ⟨rfl, ?_⟩
    walk_at "rd"
    exact rd_name (hx x hxm) hN
  walk_at "rd"
  refine rd_allT h2 ?_
  exact k H2 s2
end
end M
set_option Elab.async false
set_option linter.all false
set_option maxRecDepth 100000
set_option maxHeartbeats 4000000
namespace M
open PySem L2
local macro_rules | `(tactic| walk_at "rdc") => `(tactic| first | exact Or.inl ⟨by decide, by decide⟩ | exact Or.inr ⟨by decide, by decide⟩ | exact ⟨by decide, by decide, by decide⟩ | exact ⟨by decide, by decide⟩ | decide | omega | assumption | (refine Or.inl ⟨?_, ?_⟩ <;> omega) | (refine Or.inr ⟨?_, ?_⟩ <;> omega) | (refine ⟨?_, ?_⟩ <;> omega))
local macro_rules | `(tactic| walk_at "rd1") => `(tactic| with_reducible first
  | refine Rd.rd_seq ?_ | refine Rd.rd_asg ?_ | refine Rd.rd_op ?_ | (refine' Rd.rd_var ?vh ?_; (case vh => with_unfolding_all rfl)) | refine Rd.rd_c ?_ | refine Rd.rd_I0 ?_ | refine Rd.rd_name0 ?_ | refine Rd.rd_nameS ?_ | refine Rd.rd_fn ?_
  | refine Rd.rd_cb ?_ | refine Rd.rd_cons ?_ | refine Rd.rd_nil ?_ | refine Rd.rd_int ?_ | refine Rd.rd_intB ?_ | refine Rd.rd_abs ?_ | refine Rd.rd_max2 ?_ | refine Rd.rd_min2 ?_
  | refine Rd.rd_call ?_ | refine Rd.rd_ifE ?_ | refine Rd.rd_test ?_ | refine Rd.rd_tB ?_ | refine Rd.rd_blV ?_ | refine Rd.rd_and ?_ | refine Rd.rd_or ?_ | refine Rd.rd_not ?_
  | refine Rd.rd_andV ?_ | refine Rd.rd_orV ?_ | refine Rd.rd_notV ?_ | refine Rd.rd_next ?_ | refine Rd.rd_ret ?_ | refine Rd.rd_drop ?_ | refine Rd.rd_ifS ?_ | refine Rd.rd_nx ?_ | refine Rd.rd_rt ?_ | refine Rd.rd_tMatch ?_ | refine Rd.rd_tCO ?_ | refine Rd.rd_tRevL ?_ | refine Rd.rd_tStar ?_ | refine Rd.rd_joined ?_ | refine Rd.rd_js1 ?_ | refine Rd.rd_js0 ?_ | refine Rd.rd_fmt ?_ | refine Rd.rd_propR ?_ | refine Rd.rd_iZipA ?_ | refine Rd.rd_iEnumT ?_ | refine Rd.rd_iOwn ?_ | (refine' Rd.rd_IET ?ln ?_; (case ln => with_unfolding_all walk_at "at")) | refine Rd.rd_chain ?_ | refine Rd.rd_tPar ?_ | refine Rd.rd_par ?_ | refine Rd.rd_sl ?_ | refine Rd.rd_noPart ?_ | refine Rd.rd_part ?_ | refine Rd.rd_intV ?_ | refine Rd.rd_lc ?_ | (refine' Rd.rd_aug ?vh ?_; (case vh => with_unfolding_all rfl)) | refine Rd.rd_ipI ?_ | refine Rd.rd_for ?_ | (refine' Rd.rd_IT ?ln ?_; (case ln => with_unfolding_all walk_at "at")) | (refine' Rd.rd_IL ?ln ?_; (case ln => with_unfolding_all walk_at "at")) | refine Rd.rd_iTup ?_ | refine Rd.rd_iList ?_ | refine Rd.rd_iRng1 ?_ | refine Rd.rd_iRng2 ?_ | refine Rd.rd_isi (Rd.isi_int Rd.kk_int_int) ?_ | refine Rd.rd_isi (Rd.isi_int Rd.kk_int_bool) ?_ | refine Rd.rd_dget ?_ | refine Rd.rd_din ?_ | refine Rd.rd_dnotin ?_ | refine Rd.rd_dput ?_ | refine Rd.rd_dc ?_ | refine Rd.rd_lc2 ?_ | refine Rd.rd_ltS ?_ | refine Rd.rd_inSg ?_ | refine Rd.rd_iStr ?_ | refine Rd.rd_IS ?_ | refine Rd.rd_prC ?_ | refine Rd.rd_prN ?_ | refine Rd.rd_methR ?_ | refine Rd.rd_cmeth ?_ | refine Rd.rd_fldS ?_ | refine Rd.rd_fld ?_ | (refine' Rd.rd_mkVS ?vh ?_; (case vh => with_unfolding_all rfl)) | (refine' Rd.rd_starT ?ln ?_; (case ln => with_unfolding_all walk_at "at")) | refine Rd.rd_iEnum ?_ | refine Rd.rd_iZip ?_ | (refine' Rd.rd_IE ?ln ?_; (case ln => with_unfolding_all walk_at "at")) | (refine' Rd.rd_IZ ?ln ?lm ?_; (case ln => with_unfolding_all walk_at "at"); (case lm => with_unfolding_all walk_at "at")) | (refine' Rd.rd_gTup ?ln ?lk ?_; (case ln => with_unfolding_all walk_at "at"); (case lk => with_unfolding_all rfl)) | refine Rd.rd_gCons ?_ | refine Rd.rd_gNil ?_ | refine Rd.rd_m1 ?_ | refine Rd.rd_strV ?_ | refine Rd.rd_tXiM ?_ | refine Rd.rd_tXiB ?_ | refine Rd.rd_tXiS ?_ | refine Rd.rd_bm ?_ | refine Rd.rd_bm0 ?_ | refine Rd.rd_isN ?_ | refine Rd.rd_notN ?_ | refine Rd.rd_sub ?_ | refine Rd.rd_un ?_ | refine Rd.rd_U ?_
  | (refine' Rd.rd_eq ?sc ?_; (case sc => with_unfolding_all rfl)) | (refine' Rd.rd_ne ?sc ?_; (case sc => with_unfolding_all rfl))
  | (refine' Rd.rd_I ?cc ?_; (case cc => with_unfolding_all walk_at "rdc"))
  | (refine' Rd.rd_lenL ?ln ?_; (case ln => with_unfolding_all walk_at "at")) | (refine' Rd.rd_lenT ?ln ?_; (case ln => with_unfolding_all walk_at "at"))
  | (refine' Rd.rd_ixL ?ln ?ia ?_; (case ln => with_unfolding_all walk_at "at"); (case ia => with_unfolding_all first | exact Rd.at0 | exact Rd.at1 | exact Rd.at2 | exact Rd.at3 | exact Rd.at4 | rfl)) | (refine' Rd.rd_ixT ?ln ?ia ?_; (case ln => with_unfolding_all walk_at "at"); (case ia => with_unfolding_all first | exact Rd.at0 | exact Rd.at1 | exact Rd.at2 | exact Rd.at3 | exact Rd.at4 | rfl)))
local macro_rules | `(tactic| walk_at "at") => `(tactic| first | assumption | (apply SqL.of; assumption) | (apply SqT.of; assumption) | (apply SqL.of; exact upd_same) | (apply SqT.of; exact upd_same))
local macro_rules | `(tactic| walk_at "rd") => `(tactic| repeat walk_at "rd1")
/-! ### reached states -/
theorem len_nodup_sub {α : Type} [DecidableEq α] : ∀ (l m : List α), l.Nodup → (∀ x ∈ l, x ∈ m) → l.length ≤ m.length
  | [], _, _, _ => Nat.zero_le _
  | x :: l, m, nd, h => by
    obtain ⟨n1, n2⟩ := List.nodup_cons.mp nd
    have hx := h x List.mem_cons_self
    have ih := len_nodup_sub l (m.erase x) n2 fun y hy => by
      have hne : y ≠ x := fun e => n1 (e ▸ hy)
      exact (List.mem_erase_of_ne hne).mpr (h y (List.mem_cons_of_mem _ hy))
    rw [List.length_erase_of_mem hx] at ih
    have := List.length_pos_of_mem hx
    rw [List.length_cons]
    omega
theorem name_ok {x : Str} (h : isName x = true) : PyData.strOk x = true := by
  unfold isName at h
  rw [Bool.and_eq_true] at h
  have h2 := List.all_eq_true.mp h.2
  unfold PyData.strOk
  rw [Array.all_eq_true']
  intro c hc
  have hm : c ∈ letters.cps.toList := of_decide_eq_true (h2 c (Array.mem_toList_iff.mpr hc))
  have hall : ∀ d ∈ letters.cps.toList, decide (d < 0x110000) = true := by decide +kernel
  exact hall c hm
theorem shaped_strs {l : List Str} (h : ∀ x ∈ l, PyData.strOk x = true) : SeqAt.shaped (.list (l.map PyData.str)) = true := by
  have c : ∀ l : List Str, (∀ x ∈ l, PyData.strOk x = true) → PyData.canLayAll0 (l.map PyData.str) = true ∧ PyData.depthAll (l.map PyData.str) = 0 := by
    intro l
    induction l with
    | nil => exact fun _ => ⟨rfl, rfl⟩
    | cons x r ih =>
      intro h
      obtain ⟨i1, i2⟩ := ih fun y hy => h y (List.mem_cons_of_mem _ hy)
      refine ⟨?_, ?_⟩
      · show (PyData.strOk x && PyData.canLayAll0 (r.map PyData.str)) = true
        rw [h x List.mem_cons_self, i1]; rfl
      · show max 0 (PyData.depthAll (r.map PyData.str)) = 0
        rw [i2]; rfl
  obtain ⟨c1, c2⟩ := c l h
  unfold SeqAt.shaped
  rw [show PyData.canLay0 (.list (l.map PyData.str)) = true from c1, show PyData.depth (.list (l.map PyData.str)) = 1 by show PyData.depthAll (l.map PyData.str) + 1 = 1; rw [c2]]
  rfl
theorem dp_strs {K : PySem.W.Frag} (H : Hp) : ∀ l : List Str, DpAll K H (l.map V.str) (l.map PyData.str)
  | [] => .nil
  | x :: l => .cons (.str x) (dp_strs H l)
theorem eqv_nilS (l : List Str) : PyData.eqv (.list (l.map PyData.str)) (.list []) = decide (l = []) := by
  cases l with
  | nil => rfl
  | cons x l =>
    rw [decide_eq_false (List.cons_ne_nil x l)]
    rfl
/-- the dict of the texts ks, each with True -/
def tab (ks : List Str) : List (Key × V) := ks.map fun k => (Sum.inr k, V.bl true)
theorem tab_keys (ks : List Str) : (tab ks).map (·.1) = ks.map Sum.inr := by unfold tab; rw [List.map_map]; rfl
theorem tab_val (ks : List Str) (k : Str) : (valV (tab ks) (Sum.inr k)).isSome = decide (k ∈ ks) := by
  rw [← valV_any]
  unfold tab
  rw [List.any_map, Bool.eq_iff_iff, List.any_eq_true, decide_eq_true_eq]
  constructor
  · rintro ⟨x, hx, q⟩
    have e : (Sum.inr x : Key) = Sum.inr k := of_decide_eq_true q
    injection e with e
    exact e ▸ hx
  · exact fun h => ⟨k, h, decide_eq_true rfl⟩
theorem tab_put {ks : List Str} {k : Str} (h : k ∉ ks) : putK (tab ks) (Sum.inr k) (V.bl true) = tab (ks ++ [k]) := by
  rw [Rd.putK_new']
  · unfold tab; rw [List.map_append]; rfl
  · rw [tab_keys]
    intro q
    obtain ⟨x, hx, e⟩ := List.mem_map.mp q
    injection e with e
    exact h (e ▸ hx)
theorem tab_put_old {ks : List Str} {k : Str} (h : k ∈ ks) : putK (tab ks) (Sum.inr k) (V.bl true) = tab ks := by
  have hs : ((tab ks).any fun kv => decide (kv.1 = (Sum.inr k : Key))) = true := by rw [valV_any, tab_val, decide_eq_true h]
  unfold putK
  rw [if_pos hs]
  unfold tab
  rw [List.map_map]
  refine List.map_congr_left fun x hx => ?_
  show (if (Sum.inr x : Key) = Sum.inr k then (Sum.inr x, V.bl true) else (Sum.inr x, V.bl true)) = _
  split <;> rfl
def StepAt (K : PySem.W.Frag) (H : Hp) (p : Addr) (st : Str × Str) : Prop := SqT K H p [.str st.1, .str st.2]
/-- what is reached from x: with x, closed, and no more -/
structure Reach (sts : List (Str × Str)) (x : Str) (ks : List Str) : Prop where
  nd : ks.Nodup
  hx : x ∈ ks
  cl : ∀ st ∈ sts, st.1 ∈ ks → st.2 ∈ ks
  mn : ∀ S : Str → Prop, S x → (∀ st ∈ sts, S st.1 → S st.2) → ∀ k ∈ ks, S k
abbrev s_reached_from : Stmt := top 18
theorem sc_reached_from : FnScope ["steps", "state", "found", "waiting", "here", "source", "target"] ["steps", "state"] (defScope s_reached_from) := ⟨rfl, rfl, rfl, by decide +kernel, rfl, by decide +kernel, by decide +kernel⟩
def spReach (K : PySem.W.Frag) : Sp := Rd.mkSp (fun (a : Addr × List (Str × Str) × Str) => [.ref a.1, .str a.2.2]) fun a H Q _ => (∃ ps : List Addr, SqL K H a.1 (ps.map V.ref) ∧ Paired (StepAt K H) ps a.2.1) ∧ a.2.1.length ≤ 100 ∧ isName a.2.2 = true ∧ (∀ st ∈ a.2.1, isName st.2 = true) ∧
  ∀ D H' ks, H D = none → Same H H' → H' D = some (.dK (tab ks)) → Reach a.2.1 a.2.2 ks → ks.length ≤ a.2.1.length + 1 → Q (.ref D) H'
theorem sq_some {K : PySem.W.Frag} {H H' : Hp} {a : Addr} {xs : List V} (s : Same H H') (h : SqL K H a xs) : SqL K H' a xs := L2.Same.seq s h
theorem same_mut {H H1 : Hp} {l : Addr} {o : HO} (s : Same H H1) (hl : H l = none) : Same H (upd H1 l o) := fun b u e => by
  rw [upd_ne (ne_of_none e hl)]
  exact s b u e
/-- the def x, which stands under the name y -/
def HasA (K : PySem.W.Frag) (mg : Str → Option Value) (y x : Str) (st : Stmt) : Prop := ∃ f, Rd.HasAt K f x x st ∧ mg y = some (.ref f) ∧ PySem.W.keepIn K (.ref f) = true
theorem has_a {K : PySem.W.Frag} {mg : Str → Option Value} {x : Str} {st : Stmt} (h : Rd.Has K mg x st) : HasA K mg x x st := h
theorem HasA.fn {gd : Bool} {P : Program} {w : World} {K : PySem.W.Frag} {mg : Str → Option Value} {base : Heap} {k : Nat} {y x : Str} {st : Stmt} {N ps : List Str} {α : Type} {args : α → List V} {pre : α → Hp → VK → XK → Prop} (h : HasA K mg y x st) (S : FnScope N ps (defScope st)) (hl : ∀ a, (args a).length = ps.length)
    (hb : ∀ (kV doc pm : Value) (an : Option Addr) (cdv ct : Value) (us : List Value), us.length = ps.length → bindArgs (PySem.W.fnOf x x (defArgs st) (defBody st) (defScope st) .none kV doc pm an cdv ct) ⟨us, []⟩ = pure (ps.zip us))
    (body : ∀ (f : Addr) (cdv : Value) (A : Around) (outer : List Env) (s : Shared) (H : Hp) (Q : VK) (E : XK) (a : α), Rd.RoomG gd k (A.deeper (PyProof.Rows.envOfC x (defScope st) s.heap.objs.size f cdv)) → pre a H Q E →
      ∃ t, PSs (cxOf CX0 P w K mg base N x (defScope st) f cdv A outer s H E).nox (defBody st) t ∧ t { nx := fun _ H' => Q .non H', rt := Q } (start N (args a)) H) :
    Rd.Fn gd P w K mg base CX0 (k + 1) y (Rd.mkSp args pre) := by
  obtain ⟨f, F, hm, hk⟩ := h
  exact ⟨f, F.fn S hl hb (body f), hm, hk⟩
section
variable {gd : Bool} {P : Program} {w : World} {K : PySem.W.Frag} {mg : Str → Option Value} {base : Heap}
theorem ok_reachedA {y : Str} (F : HasA K mg y "reached_from" s_reached_from) (g : Glob mg) : Rd.Fn gd P w K mg base CX0 1 y (spReach K) := by
  refine F.fn sc_reached_from (fun _ => rfl) (fun _ _ _ _ _ _ us hl => match us, hl with | [_, _], _ => rfl) fun f cdv A outer s H Q E b hr h => ?_
  obtain ⟨a, sts, x⟩ := b
  obtain ⟨⟨ps, hS, hP⟩, hl, hx, hn, k⟩ := h
  dsimp only at hS hP hl hx hn k
  have lps : ps.length = sts.length := hP.length
  refine ⟨_, (pss_cons (ps_set (i := 2) sc_reached_from.nd rfl (Or.inl rfl) pe_dnewK)
      (pss_cons (ps_dput (hu_of hr.toRoom) (pv 2) (pv 1) pe_bl (by rfl))
      (pss_cons (ps_set (i := 3) sc_reached_from.nd rfl (Or.inl rfl) (Rd.pe_lst pa_nil))
      (pss_cons (ps_expr (pe_bm PySem.F.plainAttrs_list PySem.F.slot_list_append PySem.F.type_list_append mt_append (pv 3) (pa_cons (pv 1) pa_nil)))
      (pss_cons (ps_while PassesOwn.never (pt_cmpR (op_neD hr.units) (pv 3) (Rd.pe_lst pa_nil) (nomark _)) (pss_cons (ps_set (i := 4) sc_reached_from.nd rfl (Or.inl rfl) (pe_bm0 PySem.F.plainAttrs_list PySem.F.slot_list_pop PySem.F.type_list_pop mt_pop (pv 3)))
      (pss_one (ps_for PassesOwn.never rfl (pi_list (pv 0)) (pg_tup rfl (pgs_cons (pg_name (i := 5) sc_reached_from.nd rfl (Or.inl rfl)) (pgs_cons (pg_name (i := 6) sc_reached_from.nd rfl (Or.inl rfl)) pgs_nil))) (pss_one (ps_if (PW.pt (pw_and (pt_cmpR op_eq (pv 5) (pv 4) (nomark _)) (pw_and1 (pt_cmp (pc_dnotin (hu_of hr.toRoom) (pv 6) (pv 2)))))) (pss_cons (ps_dput (hu_of hr.toRoom) (pv 2) (pv 6) pe_bl (by rfl))
      (pss_one (ps_expr (pe_bm PySem.F.plainAttrs_list PySem.F.slot_list_append PySem.F.type_list_append mt_append (pv 3) (pa_cons (pv 6) pa_nil))))) pss_nil))))))
      (pss_one (ps_ret (pv 2)))))))), ?_⟩
  try simp only [Rd.noxK, Rd.cxK]
  refine Rd.rd_start [some (V.ref a), some (V.str x), none, none, none, none, none] rfl ?_
  walk_at "rd"
  refine Rd.rd_dnew fun D H1 hD s1 h1 => ?_
  walk_at "rd"
  refine ⟨D, _, rfl, Rd.dp_s h1 (by show 0 < sizeLine; decide), ?_⟩
  have e0 : putK ([] : List (Key × V)) (Sum.inr x) (V.bl true) = tab [x] := rfl
  rw [e0]
  walk_at "rd"
  have s2 : Same H (upd H1 D (.dK (tab [x]))) := same_mut s1 hD
  refine Rd.rd_mkLst (by decide) fun W H3 hW s3 h3 => ?_
  have hW0 : H W = none := by
    cases e : H W with
    | none => rfl
    | some o => rw [s2 _ _ e] at hW; cases hW
  have hDW : D ≠ W := fun e => by rw [← e, upd_same] at hW; cases hW
  have h3D : H3 D = some (.dK (tab [x])) := s3 _ _ upd_same
  have s3' : Same H H3 := s2.trans s3
  walk_at "rd"
  refine ⟨Rd.tyL (SqL.of h3), ?_⟩
  walk_at "rd"
  refine Rd.rd_append h3 (by decide) ?_
  walk_at "rd"
  let U := sts.length + 1
  let cand := x :: sts.map (·.2)
  have lc : cand.length = U := by show (x :: sts.map (·.2)).length = _; rw [List.length_cons, List.length_map]
  have ok_c : ∀ z ∈ cand, isName z = true := fun z hz => by
    rcases List.mem_cons.mp hz with e | e
    · rw [e]; exact hx
    · obtain ⟨st, hst, rfl⟩ := List.mem_map.mp e
      exact hn st hst
  refine Rd.rd_while (fun m σ H' => Same H H' ∧ ∃ (ks ws : List Str) (o1 o2 o3 : Option V), σ = [some (V.ref a), some (V.str x), some (V.ref D), some (V.ref W), o1, o2, o3] ∧ H' D = some (.dK (tab ks)) ∧ H' W = some (.lst (ws.map V.str)) ∧
      ks.Nodup ∧ ws.Nodup ∧ x ∈ ks ∧ (∀ z ∈ ks, z ∈ cand) ∧ (∀ z ∈ ws, z ∈ ks) ∧ (∀ S : Str → Prop, S x → (∀ st ∈ sts, S st.1 → S st.2) → ∀ z ∈ ks, S z) ∧ (∀ st ∈ sts, st.1 ∈ ks → st.1 ∈ ws ∨ st.2 ∈ ks) ∧ m = 2 * (U - ks.length) + ws.length) (2 * (U - 1) + 1)
    ⟨same_mut s3' hW0, [x], [x], none, none, none, rfl, by rw [upd_ne hDW]; exact h3D, upd_same, by simp, by simp, by simp, fun z hz => by rw [List.mem_singleton.mp hz]; exact List.mem_cons_self, fun z hz => hz, fun S h1 _ z hz => by rw [List.mem_singleton.mp hz]; exact h1, fun st hst h1 => .inl h1, rfl⟩ ?_
  rintro m σ H4 ⟨s4, ks, ws, o1, o2, o3, rfl, hD4, hW4, nd, ndw, hxk, hsub, hws, hmn, hcl, rfl⟩
  have lks : ks.length ≤ U := by rw [← lc]; exact len_nodup_sub ks cand nd hsub
  walk_at "rd"
  refine Rd.rd_mkLst (by decide) fun p5 H5 hp5 s5 h5 => ?_
  have s45 := s4.trans s5
  refine Rd.rd_neD (.lst (SqL.of (s5 _ _ hW4)) (dp_strs _ ws)) (.lst (SqL.of h5) .nil) (shaped_strs fun z hz => name_ok (ok_c z (hsub z (hws z hz)))) (shaped_strs (l := []) fun _ z => nomatch z) ?_
  rw [eqv_nilS]
  walk_at "rd"
  by_cases hw : ws = []
  · subst hw
    refine Rd.if_f rfl ?_
    walk_at "rd"
    refine k D H5 ks hD s45 (s5 _ _ hD4) ⟨nd, hxk, fun st hst h1 => ?_, hmn⟩ lks
    rcases hcl st hst h1 with q | q
    · exact nomatch q
    · exact q
  obtain ⟨wr, hd, rfl⟩ : ∃ wr hd, ws = wr ++ [hd] := ⟨ws.dropLast, ws.getLast hw, (List.dropLast_concat_getLast hw).symm⟩
  refine Rd.if_t (by rw [decide_eq_false hw]; rfl) ?_
  refine Rd.rd_turn ?_
  walk_at "rd"
  refine ⟨Rd.tyL (SqL.of (s5 _ _ hW4)), ?_⟩
  refine Rd.rd_pop (y := V.str hd) (s5 _ _ hW4) (by simp) ?_
  have e6 : ((wr ++ [hd]).map V.str).dropLast = wr.map V.str := by rw [List.map_append]; simp
  rw [e6]
  have hDW5 : H5 D = some (.dK (tab ks)) := s5 _ _ hD4
  have s6 : Same H (upd H5 W (.lst (wr.map V.str))) := same_mut s45 hW0
  have hhd : hd ∈ ks := hws hd (by simp)
  have ndr : wr.Nodup := (List.nodup_append.mp ndw).1
  walk_at "rd"
  refine Rd.rd_IL (sq_some s6 hS) ?_
  refine Rd.for_list (fun i σ H' => Same H H' ∧ ∃ (ks2 ws2 : List Str) (o2 o3 : Option V), σ = [some (V.ref a), some (V.str x), some (V.ref D), some (V.ref W), some (V.str hd), o2, o3] ∧ H' D = some (.dK (tab ks2)) ∧ H' W = some (.lst (ws2.map V.str)) ∧
      ks2.Nodup ∧ ws2.Nodup ∧ x ∈ ks2 ∧ hd ∈ ks2 ∧ (∀ z ∈ ks2, z ∈ cand) ∧ (∀ z ∈ ws2, z ∈ ks2) ∧ (∀ S : Str → Prop, S x → (∀ st ∈ sts, S st.1 → S st.2) → ∀ z ∈ ks2, S z) ∧ (∀ st ∈ sts, st.1 ∈ ks2 → st.1 ∈ ws2 ∨ st.2 ∈ ks2 ∨ st.1 = hd) ∧ (∀ st ∈ sts.take i, st.1 = hd → st.2 ∈ ks2) ∧ 2 * (U - ks2.length) + ws2.length < 2 * (U - ks.length) + (wr ++ [hd]).length)
    ⟨s6, ks, wr, _, _, rfl, by rw [upd_ne hDW]; exact hDW5, upd_same, nd, ndr, hxk, hhd, hsub, fun z hz => hws z (List.mem_append_left _ hz), hmn, fun st hst h1 => ?_, fun st hst => by simp at hst, by rw [List.length_append]; simp⟩ (fun i σ H' _ ⟨s', _⟩ => sq_some s' hS) ?_ ?_
  · rcases hcl st hst h1 with q | q
    · rcases List.mem_append.mp q with q | q
      · exact .inl q
      · exact .inr (.inr (List.mem_singleton.mp q))
    · exact .inr (.inl q)
  · rintro i v σ H7 hi ⟨s7, ks2, ws2, o2, o3, rfl, hD7, hW7, nd2, ndw2, hx2, hh2, hsub2, hws2, hmn2, hcl2, hdone, hm⟩
    rw [List.getElem?_map] at hi
    obtain ⟨b, hb, rfl⟩ := Option.map_eq_some_iff.mp hi
    obtain ⟨st, hst, hq⟩ := paired_get hP hb
    have hmem : st ∈ sts := List.mem_of_getElem? hst
    have hq7 : SqT K H7 b [.str st.1, .str st.2] := Rd.Same.sqT s7 hq
    have et : sts.take (i + 1) = sts.take i ++ [st] := by rw [List.take_add_one, hst]; rfl
    walk_at "rd"
    refine ite2 (fun h1 => ?_) (fun h1 => ?_)
    · have h1 : st.1 = hd := by
        have := of_decide_eq_true h1
        injection this
      walk_at "rd"
      refine ⟨D, _, rfl, Rd.dg_s hD7, ?_⟩
      rw [tab_val]
      walk_at "rd"
      by_cases h2 : st.2 ∈ ks2
      · refine Rd.if_f (by rw [decide_eq_true h2]; rfl) ?_
        walk_at "rd"
        refine ⟨s7, ks2, ws2, _, _, rfl, hD7, hW7, nd2, ndw2, hx2, hh2, hsub2, hws2, hmn2, hcl2, fun t ht e => ?_, hm⟩
        rw [et] at ht
        rcases List.mem_append.mp ht with q | q
        · exact hdone t q e
        · rw [List.mem_singleton.mp q]; exact h2
      · refine Rd.if_t (by rw [decide_eq_false h2]; rfl) ?_
        have lks2 : ks2.length < U := by
          have hc : st.2 ∈ cand := List.mem_cons_of_mem _ (List.mem_map.mpr ⟨st, hmem, rfl⟩)
          have := len_nodup_sub (st.2 :: ks2) cand (List.nodup_cons.mpr ⟨h2, nd2⟩) fun z hz => by
            rcases List.mem_cons.mp hz with e | e
            · rw [e]; exact hc
            · exact hsub2 z e
          rw [lc, List.length_cons] at this
          omega
        walk_at "rd"
        refine ⟨D, _, rfl, Rd.dp_s hD7 ?_, ?_⟩
        · unfold tab
          rw [List.length_map]
          exact Nat.lt_of_lt_of_le (show ks2.length < 101 + 1 by omega) (by decide)
        rw [tab_put h2]
        have hW8 : upd H7 D (.dK (tab (ks2 ++ [st.2]))) W = some (.lst (ws2.map V.str)) := by rw [upd_ne hDW.symm]; exact hW7
        walk_at "rd"
        refine ⟨Rd.tyL (SqL.of hW8), ?_⟩
        walk_at "rd"
        refine Rd.rd_append hW8 ?_ ?_
        · rw [List.length_map]
          have hwl := len_nodup_sub ws2 cand ndw2 fun z hz => hsub2 z (hws2 z hz)
          rw [lc] at hwl
          exact Nat.lt_of_le_of_lt (show ws2.length ≤ 1000 by omega) (by decide)
        walk_at "rd"
        have n2 : st.2 ∉ ws2 := fun q => h2 (hws2 _ q)
        refine ⟨same_mut (same_mut s7 hD) hW0, ks2 ++ [st.2], ws2 ++ [st.2], _, _, rfl, by rw [upd_ne hDW, upd_same], by rw [upd_same, List.map_append]; rfl, ?_, ?_, List.mem_append_left _ hx2, List.mem_append_left _ hh2, fun z hz => ?_, fun z hz => ?_, fun S q1 q2 z hz => ?_, fun t ht q => ?_, fun t ht e => ?_, ?_⟩
        · exact (List.perm_append_singleton _ _).nodup_iff.mpr (List.nodup_cons.mpr ⟨h2, nd2⟩)
        · exact (List.perm_append_singleton _ _).nodup_iff.mpr (List.nodup_cons.mpr ⟨n2, ndw2⟩)
        · rcases List.mem_append.mp hz with q | q
          · exact hsub2 z q
          · rw [List.mem_singleton.mp q]; exact List.mem_cons_of_mem _ (List.mem_map.mpr ⟨st, hmem, rfl⟩)
        · rcases List.mem_append.mp hz with q | q
          · exact List.mem_append_left _ (hws2 z q)
          · exact List.mem_append_right _ q
        · rcases List.mem_append.mp hz with q | q
          · exact hmn2 S q1 q2 z q
          · rw [List.mem_singleton.mp q]
            exact q2 st hmem (by rw [h1]; exact hmn2 S q1 q2 hd hh2)
        · rcases List.mem_append.mp q with q | q
          · rcases hcl2 t ht q with z | z | z
            · exact .inl (List.mem_append_left _ z)
            · exact .inr (.inl (List.mem_append_left _ z))
            · exact .inr (.inr z)
          · exact .inl (List.mem_append_right _ q)
        · rw [et] at ht
          rcases List.mem_append.mp ht with q | q
          · exact List.mem_append_left _ (hdone t q e)
          · rw [List.mem_singleton.mp q]; exact List.mem_append_right _ (List.mem_singleton.mpr rfl)
        · rw [List.length_append, List.length_append]
          show 2 * (U - (ks2.length + 1)) + (ws2.length + 1) < _
          omega
    · have h1 : ¬ st.1 = hd := fun e => h1 (decide_eq_true (by rw [e]))
      walk_at "rd"
      refine ⟨s7, ks2, ws2, _, _, rfl, hD7, hW7, nd2, ndw2, hx2, hh2, hsub2, hws2, hmn2, hcl2, fun t ht e => ?_, hm⟩
      rw [et] at ht
      rcases List.mem_append.mp ht with q | q
      · exact hdone t q e
      · exact absurd (List.mem_singleton.mp q ▸ e) h1
  · rintro σ H7 ⟨s7, ks2, ws2, o2, o3, rfl, hD7, hW7, nd2, ndw2, hx2, hh2, hsub2, hws2, hmn2, hcl2, hdone, hm⟩
    walk_at "rd"
    refine ⟨_, hm, s7, ks2, ws2, _, _, _, rfl, hD7, hW7, nd2, ndw2, hx2, hsub2, hws2, hmn2, fun st hst h1 => ?_, rfl⟩
    rcases hcl2 st hst h1 with z | z | z
    · exact .inl z
    · exact .inr z
    · refine .inr (hdone st ?_ z)
      rw [List.length_map, lps, List.take_length]
      exact hst
end
end M
set_option Elab.async false
set_option linter.all false
set_option maxRecDepth 100000
set_option maxHeartbeats 4000000
namespace M
open PySem L2
local macro_rules | `(tactic| walk_at "rdc") => `(tactic| first | exact Or.inl ⟨by decide, by decide⟩ | exact Or.inr ⟨by decide, by decide⟩ | exact ⟨by decide, by decide, by decide⟩ | exact ⟨by decide, by decide⟩ | decide | omega | assumption | (refine Or.inl ⟨?_, ?_⟩ <;> omega) | (refine Or.inr ⟨?_, ?_⟩ <;> omega) | (refine ⟨?_, ?_⟩ <;> omega))
local macro_rules | `(tactic| walk_at "rd1") => `(tactic| with_reducible first
  | refine Rd.rd_seq ?_ | refine Rd.rd_asg ?_ | refine Rd.rd_op ?_ | (refine' Rd.rd_var ?vh ?_; (case vh => with_unfolding_all rfl)) | refine Rd.rd_c ?_ | refine Rd.rd_I0 ?_ | refine Rd.rd_name0 ?_ | refine Rd.rd_nameS ?_ | refine Rd.rd_fn ?_
  | refine Rd.rd_cb ?_ | refine Rd.rd_cons ?_ | refine Rd.rd_nil ?_ | refine Rd.rd_int ?_ | refine Rd.rd_intB ?_ | refine Rd.rd_abs ?_ | refine Rd.rd_max2 ?_ | refine Rd.rd_min2 ?_
  | refine Rd.rd_call ?_ | refine Rd.rd_ifE ?_ | refine Rd.rd_test ?_ | refine Rd.rd_tB ?_ | refine Rd.rd_blV ?_ | refine Rd.rd_and ?_ | refine Rd.rd_or ?_ | refine Rd.rd_not ?_
  | refine Rd.rd_andV ?_ | refine Rd.rd_orV ?_ | refine Rd.rd_notV ?_ | refine Rd.rd_next ?_ | refine Rd.rd_ret ?_ | refine Rd.rd_drop ?_ | refine Rd.rd_ifS ?_ | refine Rd.rd_nx ?_ | refine Rd.rd_rt ?_ | refine Rd.rd_tMatch ?_ | refine Rd.rd_tCO ?_ | refine Rd.rd_tRevL ?_ | refine Rd.rd_tStar ?_ | refine Rd.rd_joined ?_ | refine Rd.rd_js1 ?_ | refine Rd.rd_js0 ?_ | refine Rd.rd_fmt ?_ | refine Rd.rd_propR ?_ | refine Rd.rd_iZipA ?_ | refine Rd.rd_iEnumT ?_ | refine Rd.rd_iOwn ?_ | (refine' Rd.rd_IET ?ln ?_; (case ln => with_unfolding_all walk_at "at")) | refine Rd.rd_chain ?_ | refine Rd.rd_tPar ?_ | refine Rd.rd_par ?_ | refine Rd.rd_sl ?_ | refine Rd.rd_noPart ?_ | refine Rd.rd_part ?_ | refine Rd.rd_intV ?_ | refine Rd.rd_lc ?_ | (refine' Rd.rd_aug ?vh ?_; (case vh => with_unfolding_all rfl)) | refine Rd.rd_ipI ?_ | refine Rd.rd_for ?_ | (refine' Rd.rd_IT ?ln ?_; (case ln => with_unfolding_all walk_at "at")) | (refine' Rd.rd_IL ?ln ?_; (case ln => with_unfolding_all walk_at "at")) | refine Rd.rd_iTup ?_ | refine Rd.rd_iList ?_ | refine Rd.rd_iRng1 ?_ | refine Rd.rd_iRng2 ?_ | refine Rd.rd_isi (Rd.isi_int Rd.kk_int_int) ?_ | refine Rd.rd_isi (Rd.isi_int Rd.kk_int_bool) ?_ | refine Rd.rd_dget ?_ | refine Rd.rd_din ?_ | refine Rd.rd_dnotin ?_ | refine Rd.rd_dput ?_ | refine Rd.rd_dc ?_ | refine Rd.rd_lc2 ?_ | refine Rd.rd_ltS ?_ | refine Rd.rd_inSg ?_ | refine Rd.rd_iStr ?_ | refine Rd.rd_IS ?_ | refine Rd.rd_prC ?_ | refine Rd.rd_prN ?_ | refine Rd.rd_methR ?_ | refine Rd.rd_cmeth ?_ | refine Rd.rd_fldS ?_ | refine Rd.rd_fld ?_ | (refine' Rd.rd_mkVS ?vh ?_; (case vh => with_unfolding_all rfl)) | (refine' Rd.rd_starT ?ln ?_; (case ln => with_unfolding_all walk_at "at")) | refine Rd.rd_iEnum ?_ | refine Rd.rd_iZip ?_ | (refine' Rd.rd_IE ?ln ?_; (case ln => with_unfolding_all walk_at "at")) | (refine' Rd.rd_IZ ?ln ?lm ?_; (case ln => with_unfolding_all walk_at "at"); (case lm => with_unfolding_all walk_at "at")) | (refine' Rd.rd_gTup ?ln ?lk ?_; (case ln => with_unfolding_all walk_at "at"); (case lk => with_unfolding_all rfl)) | refine Rd.rd_gCons ?_ | refine Rd.rd_gNil ?_ | refine Rd.rd_m1 ?_ | refine Rd.rd_strV ?_ | refine Rd.rd_tXiM ?_ | refine Rd.rd_tXiB ?_ | refine Rd.rd_tXiS ?_ | refine Rd.rd_bm ?_ | refine Rd.rd_bm0 ?_ | refine Rd.rd_isN ?_ | refine Rd.rd_notN ?_ | refine Rd.rd_sub ?_ | refine Rd.rd_un ?_ | refine Rd.rd_U ?_
  | (refine' Rd.rd_eq ?sc ?_; (case sc => with_unfolding_all rfl)) | (refine' Rd.rd_ne ?sc ?_; (case sc => with_unfolding_all rfl))
  | (refine' Rd.rd_I ?cc ?_; (case cc => with_unfolding_all walk_at "rdc"))
  | (refine' Rd.rd_lenL ?ln ?_; (case ln => with_unfolding_all walk_at "at")) | (refine' Rd.rd_lenT ?ln ?_; (case ln => with_unfolding_all walk_at "at"))
  | (refine' Rd.rd_ixL ?ln ?ia ?_; (case ln => with_unfolding_all walk_at "at"); (case ia => with_unfolding_all first | exact Rd.at0 | exact Rd.at1 | exact Rd.at2 | exact Rd.at3 | exact Rd.at4 | rfl)) | (refine' Rd.rd_ixT ?ln ?ia ?_; (case ln => with_unfolding_all walk_at "at"); (case ia => with_unfolding_all first | exact Rd.at0 | exact Rd.at1 | exact Rd.at2 | exact Rd.at3 | exact Rd.at4 | rfl)))
local macro_rules | `(tactic| walk_at "at") => `(tactic| first | assumption | (apply SqL.of; assumption) | (apply SqT.of; assumption) | (apply SqL.of; exact upd_same) | (apply SqT.of; exact upd_same))
local macro_rules | `(tactic| walk_at "rd") => `(tactic| repeat walk_at "rd1")
/-! ### one loop, states, counters, the parts of a graph -/
abbrev s_are_one_loop : Stmt := top 19
theorem sc_are_one_loop : FnScope ["transitions", "states", "steps", "back", "name", "source", "target", "change", "pairs"] ["transitions", "states"] (defScope s_are_one_loop) := ⟨rfl, rfl, rfl, by decide +kernel, rfl, by decide +kernel, by decide +kernel⟩
abbrev s_states_of : Stmt := top 20
theorem sc_states_of : FnScope ["transitions", "states", "found", "name", "source", "target", "change", "state"] ["transitions", "states"] (defScope s_states_of) := ⟨rfl, rfl, rfl, by decide +kernel, rfl, by decide +kernel, by decide +kernel⟩
abbrev s_fit_counters : Stmt := top 21
theorem sc_fit_counters : FnScope ["transitions", "counters", "names", "transition", "name", "counter", "number"] ["transitions", "counters"] (defScope s_fit_counters) := ⟨rfl, rfl, rfl, by decide +kernel, rfl, by decide +kernel, by decide +kernel⟩
abbrev s_require_parts : Stmt := top 22
theorem sc_require_parts : FnScope ["counters", "transitions", "states", "found", "transition"] ["counters", "transitions", "states"] (defScope s_require_parts) := ⟨rfl, rfl, rfl, by decide +kernel, rfl, by decide +kernel, by decide +kernel⟩
def stepOf (t : Tr) : Str × Str := (t.src, t.tgt)
def backOf (t : Tr) : Str × Str := (t.tgt, t.src)
/-- the states lead to one another -/
structure Loop1 (ts : List Tr) (ns : List Str) : Prop where
  ne : ns ≠ []
  nd : ns.Nodup
  ends : ∀ t ∈ ts, t.src ∈ ns ∧ t.tgt ∈ ns
  fwd : ∀ (h : 0 < ns.length) (S : Str → Prop), S ns[0] → (∀ t ∈ ts, S t.src → S t.tgt) → ∀ x ∈ ns, S x
  bwd : ∀ (h : 0 < ns.length) (S : Str → Prop), S ns[0] → (∀ t ∈ ts, S t.tgt → S t.src) → ∀ x ∈ ns, S x
theorem reach_len {ts : List Tr} {ns : List Str} {f : Tr → Str × Str} {ks : List Str} (nd : ns.Nodup) (h0 : 0 < ns.length) (R : Reach (ts.map f) ns[0] ks) (hin : ∀ t ∈ ts, (f t).2 ∈ ns) (hall : ∀ S : Str → Prop, S ns[0] → (∀ t ∈ ts, S (f t).1 → S (f t).2) → ∀ x ∈ ns, S x) : ks.length = ns.length := by
  refine Nat.le_antisymm (len_nodup_sub ks ns R.nd fun z hz => ?_) (len_nodup_sub ns ks nd fun z hz => ?_)
  · exact R.mn (· ∈ ns) (List.getElem_mem h0) (fun st hst _ => by
      obtain ⟨t, ht, rfl⟩ := List.mem_map.mp hst
      exact hin t ht) z hz
  · exact hall (· ∈ ks) R.hx (fun t ht q => R.cl (f t) (List.mem_map.mpr ⟨t, ht, rfl⟩) q) z hz
theorem paired_app {α β : Type} {F : α → β → Prop} : ∀ {l : List α} {m : List β} {l' : List α} {m' : List β}, Paired F l m → Paired F l' m' → Paired F (l ++ l') (m ++ m')
  | _, _, _, _, .nil, h => h
  | _, _, _, _, .cons r t, h => .cons r (paired_app t h)
def spLoop1 (K : PySem.W.Frag) : Sp := Rd.mkSp (fun (a : Addr × Addr × List Tr × List Str) => [.ref a.1, .ref a.2.1]) fun a H Q _ => RowsAt K H a.1 a.2.2.1 ∧ TxT K H a.2.1 a.2.2.2 ∧ a.2.2.1.length ≤ 100 ∧ Loop1 a.2.2.1 a.2.2.2 ∧ (∀ x ∈ a.2.2.2, isName x = true) ∧ ∀ H', Same H H' → Q (.bl true) H'
theorem map_putT (ls : List Str) : ∀ ks : List Str, mergeK (tab ks) (tab ls) = tab (ls.foldl Rd.putT ks) := by
  induction ls with
  | nil => intro ks; rfl
  | cons l ls ih =>
    intro ks
    have e : putK (tab ks) (Sum.inr l) (V.bl true) = tab (Rd.putT ks l) := by
      unfold Rd.putT
      split
      · rename_i h; exact tab_put_old h
      · rename_i h; exact tab_put h
    show mergeK (putK (tab ks) (Sum.inr l) (V.bl true)) (tab ls) = _
    rw [e, ih]
    rfl
def spStates (K : PySem.W.Frag) : Sp := Rd.mkSp (fun (a : Addr × Addr × List Tr × List Str) => [.ref a.1, .ref a.2.1]) fun a H Q _ => RowsAt K H a.1 a.2.2.1 ∧ TxT K H a.2.1 a.2.2.2 ∧ a.2.2.1.length ≤ 16 ∧ a.2.2.2.length ≤ 30 ∧
  ∀ p H' ys, Same H H' → TxT K H' p ys → Rd.Asc ys → (∀ z, z ∈ ys ↔ z ∈ a.2.2.2 ∨ ∃ t ∈ a.2.2.1, z = t.src ∨ z = t.tgt) → Q (.ref p) H'
section
variable {gd : Bool} {P : Program} {w : World} {K : PySem.W.Frag} {mg : Str → Option Value} {base : Heap}
theorem ok_one_loop (F : Rd.Has K mg "are_one_loop" s_are_one_loop) (g : Glob mg) (c_reached_from : Rd.Fn gd P w K mg base CX0 1 "reached_from" (spReach K)) : Rd.Fn gd P w K mg base CX0 2 "are_one_loop" (spLoop1 K) := by
  refine F.fn sc_are_one_loop (fun _ => rfl) (fun _ _ _ _ _ _ us hl => match us, hl with | [_, _], _ => rfl) fun f cdv A outer s H Q E b hr h => ?_
  obtain ⟨a, b, ts, ns⟩ := b
  obtain ⟨⟨ps, hS, hP⟩, hN, hl, L, hn, k⟩ := h
  dsimp only at hS hP hN hl L hn k
  have lp : ps.length = ts.length := hP.length
  have h0 : 0 < ns.length := List.length_pos_iff.mpr L.ne
  have hN' : SqT K H b (ns.map V.str) := hN
  refine ⟨_, (pss_cons (ps_setLc (i := 2) (own := [("name", 4), ("source", 5), ("target", 6), ("change", 7)]) (by rfl) sc_are_one_loop.nd rfl rfl (sw_true rfl rfl rfl (by decide +kernel)) (pi_tup (pv 0)) (blkOk_by (own := [("name", 4), ("source", 5), ("target", 6), ("change", 7)]) (N := ["transitions", "states", "steps", "back", "name", "source", "target", "change", "pairs"]) (sc := defScope s_are_one_loop) (by decide +kernel)) (fun _ _ _ _ _ => (Rd.pg_tupK (K := K) (n := 4) (by rfl) rfl (pgs_cons (pg_name (i := 4) sc_are_one_loop.nd rfl (Or.inl rfl)) (pgs_cons (pg_name (i := 5) sc_are_one_loop.nd rfl (Or.inl rfl)) (pgs_cons (pg_name (i := 6) sc_are_one_loop.nd rfl (Or.inl rfl)) (pgs_cons (pg_name (i := 7) sc_are_one_loop.nd rfl (Or.inl rfl)) pgs_nil)))))) (fun _ _ _ _ _ => pts_nil) (fun _ _ _ _ _ => (Rd.pe_tup (pa_cons (pv 5) (pa_cons (pv 6) pa_nil)))))
      (pss_cons (ps_setLc (i := 3) (own := [("source", 5), ("target", 6)]) (by rfl) sc_are_one_loop.nd rfl rfl (sw_true rfl rfl rfl (by decide +kernel)) (pi_list (pv 2)) (blkOk_by (own := [("source", 5), ("target", 6)]) (N := ["transitions", "states", "steps", "back", "name", "source", "target", "change", "pairs"]) (sc := defScope s_are_one_loop) (by decide +kernel)) (fun _ _ _ _ _ => (Rd.pg_tupK (K := K) (n := 2) (by rfl) rfl (pgs_cons (pg_name (i := 5) sc_are_one_loop.nd rfl (Or.inl rfl)) (pgs_cons (pg_name (i := 6) sc_are_one_loop.nd rfl (Or.inl rfl)) pgs_nil)))) (fun _ _ _ _ _ => pts_nil) (fun _ _ _ _ _ => (Rd.pe_tup (pa_cons (pv 6) (pa_cons (pv 5) pa_nil)))))
      (pss_one (ps_ret (pe_callB (Rd.c_all rfl) (by rfl) g.all (by decide +kernel) (pa_cons (pe_lc (own := [("pairs", 8)]) (by rfl) sc_are_one_loop.nd (pi_tup (Rd.pe_tup (pa_cons (pv 2) (pa_cons (pv 3) pa_nil)))) (blkOk_by (own := [("pairs", 8)]) (N := ["transitions", "states", "steps", "back", "name", "source", "target", "change", "pairs"]) (sc := defScope s_are_one_loop) (by decide +kernel)) (fun _ _ _ _ _ => (pg_name (i := 8) sc_are_one_loop.nd rfl (Or.inl rfl))) (fun _ _ _ _ _ => pts_nil) (fun _ _ _ _ _ => (pe_cmpR op_eq (pe_callB Rd.c_lenD (by rfl) g.len (by decide +kernel) (pa_cons (Rd.pe_fn c_reached_from (hr.mono (by decide)) (by rfl) (pa_cons (pv 8) (pa_cons (pe_ix (Rd.ix_tupK (K := K) (by rfl)) (pv 1) pe_int (fun _ _ => rfl)) pa_nil))) pa_nil)) (pe_callB (Rd.c_lenK (K := K) (by rfl)) (by rfl) g.len (by decide +kernel) (pa_cons (pv 1) pa_nil)) (nomark _)))) pa_nil)))))), ?_⟩
  try simp only [Rd.noxK, Rd.cxK]
  refine Rd.rd_start [some (V.ref a), some (V.ref b), none, none, none, none, none, none, none] rfl ?_
  walk_at "rd"
  -- a list of new pairs
  let Pl : (Tr → Str × Str) → Nat → Addr → List V → Hp → Prop := fun f i D acc H1 => Same H H1 ∧ H1 D = some (.lst acc) ∧ ∃ qs : List Addr, acc = qs.map V.ref ∧ Paired (StepAt K H1) qs ((ts.take i).map f)
  have grow : ∀ (f : Tr → Str × Str) (i : Nat) (D : Addr) (acc : List V) (H1 : Hp) (t : Tr) (T : Addr) (H2 : Hp), H D = none → Pl f i D acc H1 → ts[i]? = some t → Same H1 H2 → SqT K H2 T [.str (f t).1, .str (f t).2] → H2 D = some (.lst acc) ∧ acc.length < sizeLine ∧ Pl f (i + 1) D (acc ++ [V.ref T]) (upd H2 D (.lst (acc ++ [V.ref T]))) := by
    intro f i D acc H1 t T H2 hD ⟨s1, hd, qs, e, hq⟩ ht s2 hT
    have hd2 := s2 _ _ hd
    refine ⟨hd2, ?_, same_mut (s1.trans s2) hD, upd_same, qs ++ [T], by rw [e, List.map_append]; rfl, ?_⟩
    · rw [e, List.length_map, hq.length, List.length_map, List.length_take]
      exact Nat.lt_of_le_of_lt (show min i ts.length ≤ 100 by omega) (by decide)
    · have kp : Kp H2 (upd H2 D (.lst (acc ++ [V.ref T]))) := kp_upd hd2 rfl
      rw [List.take_add_one, ht, List.map_append]
      exact paired_app (L2.Paired.mapP hq fun _ _ q => kp.sqT (Rd.Same.sqT s2 q)) (.cons (kp.sqT hT) .nil)
  refine Rd.lc_tupI (K := K) (a := a) (xs := ps.map V.ref) (Pl stepOf) (fun i D acc H1 p => Rd.Same.sqT p.1 hS) (fun D hD => ⟨Rd.same_new hD, upd_same, [], rfl, .nil⟩) (fun i v D acc H1 N hv hD p hN1 => ?_) (fun D acc H1 hD p => ?_)
  · rw [List.getElem?_map] at hv
    obtain ⟨r, hr1, rfl⟩ := Option.map_eq_some_iff.mp hv
    obtain ⟨t, ht, ⟨c, hrow, _⟩⟩ := paired_get hP hr1
    have hrow1 := Rd.Same.sqT p.1 hrow
    refine Rd.rd_start' [some (V.ref a), some (V.ref b), none, none, none, none, none, none, none] rfl ?_
    walk_at "rd"
    refine ⟨rfl, ?_⟩
    walk_at "rd"
    refine Rd.rd_mkTup (by show 2 ≤ sizeLine; decide) fun T H2 hT s2 h2 => ?_
    obtain ⟨g1, g2, g3⟩ := grow stepOf i D acc H1 t T H2 hD p ht s2 (SqT.of h2)
    exact hN1 _ H2 g1 g2 g3
  obtain ⟨s1, hd1, qs, rfl, hq⟩ := p
  rw [List.length_map, lp, List.take_length] at hq
  have lq : qs.length = ts.length := by rw [hq.length, List.length_map]
  have hd1' : SqL K H1 D (qs.map V.ref) := SqL.of hd1
  walk_at "rd"
  refine Rd.lc_lstI (K := K) (a := D) (xs := qs.map V.ref) (fun i D2 acc H2 => Same H1 H2 ∧ Pl backOf i D2 acc H2) (fun i D2 acc H2 p => sq_some p.1 hd1') (fun D2 hD2 => ⟨Rd.same_new hD2, (s1.trans (Rd.same_new hD2)), upd_same, [], rfl, .nil⟩) (fun i v D2 acc H2 N hv hD2 p hN1 => ?_) (fun D2 acc H2 hD2 p => ?_)
  · rw [List.getElem?_map] at hv
    obtain ⟨r, hr1, rfl⟩ := Option.map_eq_some_iff.mp hv
    obtain ⟨st, hst, hstep⟩ := paired_get hq hr1
    rw [List.getElem?_map] at hst
    obtain ⟨t, ht, rfl⟩ := Option.map_eq_some_iff.mp hst
    have hD2' : H D2 = none := by
      cases e : H D2 with
      | none => rfl
      | some o => rw [s1 _ _ e] at hD2; cases hD2
    have hstep2 : SqT K H2 r [.str t.src, .str t.tgt] := Rd.Same.sqT p.1 hstep
    refine Rd.rd_start' [some (V.ref a), some (V.ref b), some (V.ref D), none, none, none, none, none, none] rfl ?_
    walk_at "rd"
    refine ⟨rfl, ?_⟩
    walk_at "rd"
    refine Rd.rd_mkTup (by show 2 ≤ sizeLine; decide) fun T H3 hT s3 h3 => ?_
    obtain ⟨g1, g2, g3⟩ := grow backOf i D2 acc H2 t T H3 hD2' p.2 ht s3 (SqT.of h3)
    exact hN1 _ H3 g1 g2 ⟨same_mut (p.1.trans s3) hD2, g3⟩
  obtain ⟨s2, s2', hd2, qs2, rfl, hq2⟩ := p
  rw [List.length_map, lq, List.take_length] at hq2
  walk_at "rd"
  refine Rd.rd_mkTup (by show 2 ≤ sizeLine; decide) fun T H3 hT s3 h3 => ?_
  have hT3 : SqT K H3 T [V.ref D, V.ref D2] := SqT.of h3
  walk_at "rd"
  have s03 := s2'.trans s3
  refine Rd.lc_tup (K := K) (xs := [V.ref D, V.ref D2]) (fun _ => V.bl true) (by show 2 ≤ 100000; decide) hT3 (fun v H4 N hv s4 hN4 => ?_) (fun D5 H5 hD5 s5 h5 => ?_)
  · have s04 := s03.trans s4
    have hN4' : SqT K H4 b (ns.map V.str) := Rd.Same.sqT s04 hN'
    refine Rd.rd_start' [some (V.ref a), some (V.ref b), some (V.ref D), some (V.ref D2), none, none, none, none, none] rfl ?_
    walk_at "rd"
    refine ⟨rfl, ?_⟩
    walk_at "rd"
    refine Rd.rd_ixT hN4' (atI_nat (j := 0) (v := V.str ns[0]) (by rw [List.getElem?_map, List.getElem?_eq_getElem h0]; rfl)) ?_
    walk_at "rd"
    have eqlen : ∀ ks : List Str, ks.length = ns.length → decide (V.int ((tab ks).length : Nat) = V.int ((ns.map V.str).length : Nat)) = true := fun ks hl6 => by
      unfold tab
      rw [List.length_map, List.length_map, hl6]
      simp
    simp only [List.mem_cons, List.not_mem_nil, or_false] at hv
    rcases hv with rfl | rfl
    · refine Rd.rd_sp (D, ts.map stepOf, ns[0]) rfl ⟨⟨qs, sq_some ((s2.trans s3).trans s4) hd1', L2.Paired.mapP hq fun _ _ q => Rd.Same.sqT ((s2.trans s3).trans s4) q⟩, by show (ts.map stepOf).length ≤ 100; rw [List.length_map]; exact hl, hn _ (List.getElem_mem h0), fun st hst => ?_, fun D6 H6 ks hD6 s6 h6 R _ => ?_⟩
      · obtain ⟨t, ht, rfl⟩ := List.mem_map.mp hst
        exact hn _ (L.ends t ht).2
      · have hl6 := reach_len L.nd h0 R (fun t ht => (L.ends t ht).2) (L.fwd h0)
        have hb6 := Rd.Same.sqT s6 hN4'
        walk_at "rd"
        refine Rd.rd_lenD h6 ?_
        walk_at "rd"
        rw [eqlen ks hl6]
        exact hN4 H6 s6
    · refine Rd.rd_sp (D2, ts.map backOf, ns[0]) rfl ⟨⟨qs2, sq_some (s3.trans s4) (SqL.of hd2), L2.Paired.mapP hq2 fun _ _ q => Rd.Same.sqT (s3.trans s4) q⟩, by show (ts.map backOf).length ≤ 100; rw [List.length_map]; exact hl, hn _ (List.getElem_mem h0), fun st hst => ?_, fun D6 H6 ks hD6 s6 h6 R _ => ?_⟩
      · obtain ⟨t, ht, rfl⟩ := List.mem_map.mp hst
        exact hn _ (L.ends t ht).1
      · have hl6 := reach_len L.nd h0 R (fun t ht => (L.ends t ht).1) (L.bwd h0)
        have hb6 := Rd.Same.sqT s6 hN4'
        walk_at "rd"
        refine Rd.rd_lenD h6 ?_
        walk_at "rd"
        rw [eqlen ks hl6]
        exact hN4 H6 s6
  walk_at "rd"
  refine rd_allT (l := [V.ref D, V.ref D2]) h5 ?_
  exact k H5 (s03.trans s5)
theorem ok_states_of (F : Rd.Has K mg "states_of" s_states_of) (g : Glob mg) : Rd.Fn gd P w K mg base CX0 1 "states_of" (spStates K) := by
  refine F.fn sc_states_of (fun _ => rfl) (fun _ _ _ _ _ _ us hl => match us, hl with | [_, _], _ => rfl) fun f cdv A outer s H Q E b hr h => ?_
  obtain ⟨a, b, ts, ns⟩ := b
  obtain ⟨⟨ps, hS, hP⟩, hN, hl, hl2, k⟩ := h
  dsimp only at hS hP hN hl hl2 k
  have lp : ps.length = ts.length := hP.length
  have hN' : SqT K H b (ns.map V.str) := hN
  refine ⟨_, (pss_cons (Rd.ps_setDc (i := 2) (own := [("state", 7)]) (by rfl) sc_states_of.nd rfl rfl (Rd.sw_trueD rfl rfl rfl (by decide +kernel)) (pi_tup (pv 1)) (blkOk_by (own := [("state", 7)]) (N := ["transitions", "states", "found", "name", "source", "target", "change", "state"]) (sc := defScope s_states_of) (by decide +kernel)) (fun _ _ _ _ _ => (pg_name (i := 7) sc_states_of.nd rfl (Or.inl rfl))) (fun _ _ _ _ _ => pts_nil) (fun _ _ _ _ _ => (pv 7)) (fun _ _ _ _ _ => pe_bl))
      (pss_cons (ps_for PassesOwn.never rfl (pi_tup (pv 0)) (pg_tup rfl (pgs_cons (pg_name (i := 3) sc_states_of.nd rfl (Or.inl rfl)) (pgs_cons (pg_name (i := 4) sc_states_of.nd rfl (Or.inl rfl)) (pgs_cons (pg_name (i := 5) sc_states_of.nd rfl (Or.inl rfl)) (pgs_cons (pg_name (i := 6) sc_states_of.nd rfl (Or.inl rfl)) pgs_nil))))) (pss_one (ps_expr (pe_bm PySem.F.plainAttrs_dict PySem.F.slot_dict_update PySem.F.type_dict_update Rd.mt_upd (pv 2) (pa_cons (pe_disp (pps_cons (pv 4) pe_bl (pps_cons (pv 5) pe_bl pps_nil)) (by rfl) (by rfl) (fun z => by cases z) (by decide)) pa_nil)))))
      (pss_one (ps_ret (pe_callTy Rd.c_tuple (by rfl) g.tuple (by decide +kernel) (pa_cons (pe_callB (Rd.c_sortD rfl) (by rfl) g.sorted (by decide +kernel) (pa_cons (pv 2) pa_nil)) pa_nil)))))), ?_⟩
  try simp only [Rd.noxK, Rd.cxK]
  refine Rd.rd_start [some (V.ref a), some (V.ref b), none, none, none, none, none, none] rfl ?_
  walk_at "rd"
  refine Rd.dc_tup' (K := K) (xs := ns.map V.str) (fun v => match v with | .str x => Sum.inr x | _ => Sum.inl 0) (fun _ => V.bl true) (by rw [List.length_map]; omega) hN' (fun v H1 N hv s1 hN1 => ?_) (fun D H1 hD s1 h1 => ?_)
  · obtain ⟨x, hx, rfl⟩ := List.mem_map.mp hv
    refine Rd.rd_start' [some (V.ref a), some (V.ref b), none, none, none, none, none, none] rfl ?_
    walk_at "rd"
    refine ⟨rfl, ?_⟩
    walk_at "rd"
    exact hN1 H1 (Same.refl H1)
  have e1 : mergeK [] ((ns.map V.str).map fun x => ((match x with | .str x => Sum.inr x | _ => Sum.inl 0 : Key), V.bl true)) = tab (Rd.dedT ns) := by
    rw [List.map_map]
    exact map_putT ns []
  rw [e1] at h1
  walk_at "rd"
  refine Rd.rd_IT (Rd.Same.sqT s1 hS) ?_
  refine Rd.for_tup (xs := ps.map V.ref) (fun i σ H' => Same H H' ∧ ∃ (ks : List Str) (o1 o2 o3 o4 : Option V), σ = [some (V.ref a), some (V.ref b), some (V.ref D), o1, o2, o3, o4, none] ∧ H' D = some (.dK (tab ks)) ∧ ks.Nodup ∧ ks.length ≤ ns.length + 2 * i ∧ ∀ z, z ∈ ks ↔ z ∈ ns ∨ ∃ t ∈ ts.take i, z = t.src ∨ z = t.tgt)
    ⟨s1, Rd.dedT ns, _, _, _, _, rfl, h1, Rd.nodup_dedT ns, Nat.le_trans (Rd.len_dedT ns) (Nat.le_add_right _ _), fun z => by rw [Rd.mem_dedT]; simp⟩ (fun i σ H' _ p => Rd.Same.sqT p.1 hS) ?_ ?_
  · rintro i v σ H2 hi ⟨s2, ks, o1, o2, o3, o4, rfl, hd, nd, hkl, hmem⟩
    rw [List.getElem?_map] at hi
    obtain ⟨r, hr1, rfl⟩ := Option.map_eq_some_iff.mp hi
    obtain ⟨t, ht, ⟨c, hrow, _⟩⟩ := paired_get hP hr1
    have hrow2 := Rd.Same.sqT s2 hrow
    have hil : i < 16 := by
      have := (List.getElem?_eq_some_iff.mp ht).1
      omega
    walk_at "rd"
    refine ⟨Rd.tyD hd, ?_⟩
    walk_at "rd"
    refine Rd.rd_disp fun p hp => ?_
    walk_at "rd"
    refine ⟨upd_same, [(Sum.inr t.src, V.bl true), (Sum.inr t.tgt, V.bl true)], rfl, by show 2 ≤ 15; decide, ?_⟩
    rw [show upd (upd H2 p (.dK [])) p (.dK (mergeK [] [(Sum.inr t.src, V.bl true), (Sum.inr t.tgt, V.bl true)])) = upd H2 p (.dK (mergeK [] [(Sum.inr t.src, V.bl true), (Sum.inr t.tgt, V.bl true)])) from upd_upd]
    have e2 : mergeK [] [((Sum.inr t.src : Key), V.bl true), (Sum.inr t.tgt, V.bl true)] = tab ([t.src, t.tgt].foldl Rd.putT []) := map_putT [t.src, t.tgt] []
    rw [e2]
    have hpD : D ≠ p := ne_of_none hd hp
    have hd2 : upd H2 p (.dK (tab ([t.src, t.tgt].foldl Rd.putT []))) D = some (.dK (tab ks)) := by rw [upd_ne hpD]; exact hd
    have ll : ([t.src, t.tgt].foldl Rd.putT []).length ≤ 2 := Rd.len_dedT [t.src, t.tgt]
    walk_at "rd"
    refine Rd.rd_upd hpD hd2 upd_same ?_ ?_
    · unfold tab
      rw [List.length_map, List.length_map]
      exact Rd.small64 (by omega)
    rw [map_putT]
    walk_at "rd"
    have hmem2 : ∀ z, z ∈ ([t.src, t.tgt].foldl Rd.putT []).foldl Rd.putT ks ↔ z ∈ ks ∨ z = t.src ∨ z = t.tgt := fun z => by
      rw [Rd.mem_fold, Rd.mem_fold]
      simp
    refine ⟨same_mut (s2.trans (Rd.same_new hp)) hD, _, _, _, _, _, rfl, upd_same, Rd.nodup_fold _ _ nd, ?_, fun z => ?_⟩
    · have := Rd.len_fold ([t.src, t.tgt].foldl Rd.putT []) ks
      omega
    · rw [hmem2, hmem, List.take_add_one, ht]
      simp only [Option.toList_some, List.mem_append, List.mem_singleton, or_and_right, exists_or, exists_eq_left, or_assoc]
  · rintro σ H2 ⟨s2, ks, o1, o2, o3, o4, rfl, hd, nd, hkl, hmem⟩
    rw [List.length_map, lp] at hkl
    walk_at "rd"
    refine Rd.rd_sortD hd (tab_keys ks) (by omega) nd fun ys p H3 py ay hp s3 h3 => ?_
    walk_at "rd"
    refine Rd.rd_tupleL (SqL.of h3) fun q H4 hq s4 h4 => ?_
    refine k q H4 ys ((s2.trans s3).trans s4) (SqT.of h4) ay fun z => ?_
    rw [py.mem_iff, hmem, List.length_map, lp, List.take_length]
end
end M
set_option Elab.async false
set_option linter.all false
set_option maxRecDepth 100000
set_option maxHeartbeats 4000000
namespace M
open PySem L2
local macro_rules | `(tactic| walk_at "rdc") => `(tactic| first | exact Or.inl ⟨by decide, by decide⟩ | exact Or.inr ⟨by decide, by decide⟩ | exact ⟨by decide, by decide, by decide⟩ | exact ⟨by decide, by decide⟩ | decide | omega | assumption | (refine Or.inl ⟨?_, ?_⟩ <;> omega) | (refine Or.inr ⟨?_, ?_⟩ <;> omega) | (refine ⟨?_, ?_⟩ <;> omega))
local macro_rules | `(tactic| walk_at "rd1") => `(tactic| with_reducible first
  | refine Rd.rd_seq ?_ | refine Rd.rd_asg ?_ | refine Rd.rd_op ?_ | (refine' Rd.rd_var ?vh ?_; (case vh => with_unfolding_all rfl)) | refine Rd.rd_c ?_ | refine Rd.rd_I0 ?_ | refine Rd.rd_name0 ?_ | refine Rd.rd_nameS ?_ | refine Rd.rd_fn ?_
  | refine Rd.rd_cb ?_ | refine Rd.rd_cons ?_ | refine Rd.rd_nil ?_ | refine Rd.rd_int ?_ | refine Rd.rd_intB ?_ | refine Rd.rd_abs ?_ | refine Rd.rd_max2 ?_ | refine Rd.rd_min2 ?_
  | refine Rd.rd_call ?_ | refine Rd.rd_ifE ?_ | refine Rd.rd_test ?_ | refine Rd.rd_tB ?_ | refine Rd.rd_blV ?_ | refine Rd.rd_and ?_ | refine Rd.rd_or ?_ | refine Rd.rd_not ?_
  | refine Rd.rd_andV ?_ | refine Rd.rd_orV ?_ | refine Rd.rd_notV ?_ | refine Rd.rd_next ?_ | refine Rd.rd_ret ?_ | refine Rd.rd_drop ?_ | refine Rd.rd_ifS ?_ | refine Rd.rd_nx ?_ | refine Rd.rd_rt ?_ | refine Rd.rd_tMatch ?_ | refine Rd.rd_tCO ?_ | refine Rd.rd_tRevL ?_ | refine Rd.rd_tStar ?_ | refine Rd.rd_joined ?_ | refine Rd.rd_js1 ?_ | refine Rd.rd_js0 ?_ | refine Rd.rd_fmt ?_ | refine Rd.rd_propR ?_ | refine Rd.rd_iZipA ?_ | refine Rd.rd_iEnumT ?_ | refine Rd.rd_iOwn ?_ | (refine' Rd.rd_IET ?ln ?_; (case ln => with_unfolding_all walk_at "at")) | refine Rd.rd_chain ?_ | refine Rd.rd_tPar ?_ | refine Rd.rd_par ?_ | refine Rd.rd_sl ?_ | refine Rd.rd_noPart ?_ | refine Rd.rd_part ?_ | refine Rd.rd_intV ?_ | refine Rd.rd_lc ?_ | (refine' Rd.rd_aug ?vh ?_; (case vh => with_unfolding_all rfl)) | refine Rd.rd_ipI ?_ | refine Rd.rd_for ?_ | (refine' Rd.rd_IT ?ln ?_; (case ln => with_unfolding_all walk_at "at")) | (refine' Rd.rd_IL ?ln ?_; (case ln => with_unfolding_all walk_at "at")) | refine Rd.rd_iTup ?_ | refine Rd.rd_iList ?_ | refine Rd.rd_iRng1 ?_ | refine Rd.rd_iRng2 ?_ | refine Rd.rd_isi (Rd.isi_int Rd.kk_int_int) ?_ | refine Rd.rd_isi (Rd.isi_int Rd.kk_int_bool) ?_ | refine Rd.rd_dget ?_ | refine Rd.rd_din ?_ | refine Rd.rd_dnotin ?_ | refine Rd.rd_dput ?_ | refine Rd.rd_dc ?_ | refine Rd.rd_lc2 ?_ | refine Rd.rd_ltS ?_ | refine Rd.rd_inSg ?_ | refine Rd.rd_iStr ?_ | refine Rd.rd_IS ?_ | refine Rd.rd_prC ?_ | refine Rd.rd_prN ?_ | refine Rd.rd_methR ?_ | refine Rd.rd_cmeth ?_ | refine Rd.rd_fldS ?_ | refine Rd.rd_fld ?_ | (refine' Rd.rd_mkVS ?vh ?_; (case vh => with_unfolding_all rfl)) | (refine' Rd.rd_starT ?ln ?_; (case ln => with_unfolding_all walk_at "at")) | refine Rd.rd_iEnum ?_ | refine Rd.rd_iZip ?_ | (refine' Rd.rd_IE ?ln ?_; (case ln => with_unfolding_all walk_at "at")) | (refine' Rd.rd_IZ ?ln ?lm ?_; (case ln => with_unfolding_all walk_at "at"); (case lm => with_unfolding_all walk_at "at")) | (refine' Rd.rd_gTup ?ln ?lk ?_; (case ln => with_unfolding_all walk_at "at"); (case lk => with_unfolding_all rfl)) | refine Rd.rd_gCons ?_ | refine Rd.rd_gNil ?_ | refine Rd.rd_m1 ?_ | refine Rd.rd_strV ?_ | refine Rd.rd_tXiM ?_ | refine Rd.rd_tXiB ?_ | refine Rd.rd_tXiS ?_ | refine Rd.rd_bm ?_ | refine Rd.rd_bm0 ?_ | refine Rd.rd_isN ?_ | refine Rd.rd_notN ?_ | refine Rd.rd_sub ?_ | refine Rd.rd_un ?_ | refine Rd.rd_U ?_
  | (refine' Rd.rd_eq ?sc ?_; (case sc => with_unfolding_all rfl)) | (refine' Rd.rd_ne ?sc ?_; (case sc => with_unfolding_all rfl))
  | (refine' Rd.rd_I ?cc ?_; (case cc => with_unfolding_all walk_at "rdc"))
  | (refine' Rd.rd_lenL ?ln ?_; (case ln => with_unfolding_all walk_at "at")) | (refine' Rd.rd_lenT ?ln ?_; (case ln => with_unfolding_all walk_at "at"))
  | (refine' Rd.rd_ixL ?ln ?ia ?_; (case ln => with_unfolding_all walk_at "at"); (case ia => with_unfolding_all first | exact Rd.at0 | exact Rd.at1 | exact Rd.at2 | exact Rd.at3 | exact Rd.at4 | rfl)) | (refine' Rd.rd_ixT ?ln ?ia ?_; (case ln => with_unfolding_all walk_at "at"); (case ia => with_unfolding_all first | exact Rd.at0 | exact Rd.at1 | exact Rd.at2 | exact Rd.at3 | exact Rd.at4 | rfl)))
local macro_rules | `(tactic| walk_at "at") => `(tactic| first | assumption | (apply SqL.of; assumption) | (apply SqT.of; assumption) | (apply SqL.of; exact upd_same) | (apply SqT.of; exact upd_same))
local macro_rules | `(tactic| walk_at "rd") => `(tactic| repeat walk_at "rd1")
/-! ### right graphs -/
structure GOk (G : Gr) : Prop where
  c1 : G.cs ≠ []
  c5 : G.cs.length ≤ 5
  cA : Rd.Asc G.cs
  cN : ∀ x ∈ G.cs, isName x = true
  n8 : G.ns.length ≤ 8
  nA : Rd.Asc G.ns
  nN : ∀ x ∈ G.ns, isName x = true
  t16 : G.ts.length ≤ 16
  tA : Rd.Asc (G.ts.map (·.nm))
  tO : ∀ t ∈ G.ts, TrOk t
  tK : ∀ t ∈ G.ts, ∀ kv ∈ t.chg, kv.1 ∈ G.cs
  tC : ∀ t ∈ G.ts, t.nm ∉ G.cs
  lp : Loop1 G.ts G.ns
/-- what is passed gives the graph G -/
structure Norm (cs0 ns0 : List Str) (ts0 : List Tr) (G : Gr) : Prop where
  cm : ∀ z, z ∈ G.cs ↔ z ∈ cs0
  cl : cs0.length ≤ 50
  nm : ∀ z, z ∈ G.ns ↔ z ∈ ns0 ∨ ∃ t ∈ ts0, z = t.src ∨ z = t.tgt
  nl : ns0.length ≤ 30
  tp : G.ts.Perm ts0
theorem Loop1.perm {ts ts' : List Tr} {ns : List Str} (h : Loop1 ts ns) (p : ts.Perm ts') : Loop1 ts' ns :=
  ⟨h.ne, h.nd, fun t ht => h.ends t (p.mem_iff.mpr ht), fun q S h1 h2 => h.fwd q S h1 fun t ht => h2 t (p.mem_iff.mp ht), fun q S h1 h2 => h.bwd q S h1 fun t ht => h2 t (p.mem_iff.mp ht)⟩
theorem GOk.norm {G : Gr} (h : GOk G) (hn : ∀ x ∈ G.ns, True) : Norm G.cs G.ns G.ts G := ⟨fun _ => Iff.rfl, by have := h.c5; omega, fun z => ⟨.inl, fun q => by
    rcases q with q | ⟨t, ht, e | e⟩
    · exact q
    · rw [e]; exact (h.lp.ends t ht).1
    · rw [e]; exact (h.lp.ends t ht).2⟩, by have := h.n8; omega, List.Perm.refl _⟩
theorem ded_len {l m : List Str} (hA : Rd.Asc l) (h : ∀ z, z ∈ l ↔ z ∈ m) : (Rd.dedT m).length = l.length :=
  Nat.le_antisymm (len_nodup_sub _ _ (Rd.nodup_dedT m) fun z hz => (h z).mpr (Rd.mem_dedT.mp hz)) (len_nodup_sub _ _ hA.nodup fun z hz => Rd.mem_dedT.mpr ((h z).mp hz))
def spFit (K : PySem.W.Frag) : Sp := Rd.mkSp (fun (a : Addr × Addr × List Tr × List Str) => [.ref a.1, .ref a.2.1]) fun a H Q _ => RowsAt K H a.1 a.2.2.1 ∧ TxT K H a.2.1 a.2.2.2 ∧ a.2.2.1.length ≤ 16 ∧ (a.2.2.1.map (·.nm)).Nodup ∧ (∀ t ∈ a.2.2.1, t.nm ∉ a.2.2.2) ∧ (∀ t ∈ a.2.2.1, (∀ kv ∈ t.chg, kv.1 ∈ a.2.2.2) ∧ t.chg.length ≤ 5) ∧ ∀ H', Same H H' → Q (.bl true) H'
def spReq (K : PySem.W.Frag) : Sp := Rd.mkSp (fun (a : (Addr × Addr × Addr) × (List Str × List Str × List Tr) × Gr) => [.ref a.1.1, .ref a.1.2.1, .ref a.1.2.2]) fun a H Q _ => TxT K H a.1.1 a.2.1.1 ∧ RowsAt K H a.1.2.1 a.2.1.2.2 ∧ TxT K H a.1.2.2 a.2.1.2.1 ∧ Norm a.2.1.1 a.2.1.2.1 a.2.1.2.2 a.2.2 ∧ GOk a.2.2 ∧ ∀ H', Same H H' → Q .non H'
section
variable {K : PySem.W.Frag} {σ : L2.St} {H : Hp} {Q : VK} {g : TG} {te : TE} {tt : TT} {vs : List Nat} {a : Addr}
/-- [.. for t in rows if ..] -/
theorem lc_rowsP {ps : List Addr} {ts : List Tr} (pr : Tr → Bool) (f : Tr → V) (hz : ts.length ≤ 100000) (hS : SqT K H a (ps.map V.ref)) (hP : Paired (RowAt K H) ps ts)
    (step : ∀ t r H1 (N : Hp → Prop) (M : V → Hp → Prop), t ∈ ts → Same H H1 → RowAt K H1 r t → (pr t = false → ∀ H2, Same H1 H2 → N H2) → (pr t = true → ∀ H2, Same H1 H2 → M (f t) H2) → g (.ref r) (wipe σ vs) H1 fun σ2 H2 => wipe σ2 vs = wipe σ vs ∧ tt σ2 H2 fun b H3 => if b = true then te σ2 H3 M else N H3)
    (done : ∀ D H', H D = none → Same H H' → H' D = some (.lst ((ts.filter pr).map f)) → Q (.ref D) H') : Rd.rLc g tt te vs σ Q (Itt K a) H := by
  have lp : ps.length = ts.length := hP.length
  refine Rd.lc_gen ts (fun t v H1 => ∃ r, v = .ref r ∧ RowAt K H1 r t) pr f hz (fun i H1 hi s1 => ?_) (fun H1 s1 => ?_) (fun i H1 x H2 t et s1 y => ?_) (fun t x H1 N M ht s1 hx hN hM => ?_) done
  · exact ⟨_, V.ref (ps[i]'(by omega)), Rd.Same.sqT s1 hS, by rw [List.getElem?_map, List.getElem?_eq_getElem (by omega)]; rfl⟩
  · exact ⟨_, Rd.Same.sqT s1 hS, by rw [List.length_map]; omega⟩
  · obtain ⟨rfl, y⟩ := y
    have e := y _ (Rd.Same.sqT s1 hS)
    rw [List.getElem?_map] at e
    obtain ⟨r, hr, rfl⟩ := Option.map_eq_some_iff.mp e
    obtain ⟨t', ht', q⟩ := paired_get hP hr
    rw [ht'] at et
    cases et
    exact ⟨Same.refl _, r, rfl, q.kp (kpS s1)⟩
  · obtain ⟨r, rfl, hr⟩ := hx
    exact step t r H1 N M ht s1 hr hN hM
theorem lc_rows {ps : List Addr} {ts : List Tr} (f : Tr → V) (hz : ts.length ≤ 100000) (hS : SqT K H a (ps.map V.ref)) (hP : Paired (RowAt K H) ps ts)
    (step : ∀ t r H1 (M : V → Hp → Prop), t ∈ ts → Same H H1 → RowAt K H1 r t → (∀ H2, Same H1 H2 → M (f t) H2) → g (.ref r) (wipe σ vs) H1 fun σ2 H2 => wipe σ2 vs = wipe σ vs ∧ te σ2 H2 M)
    (done : ∀ D H', H D = none → Same H H' → H' D = some (.lst (ts.map f)) → Q (.ref D) H') : Rd.rLc g tYes te vs σ Q (Itt K a) H := by
  refine lc_rowsP (fun _ => true) f hz hS hP (fun t r H1 N M ht s1 hr hN hM => step t r H1 M ht s1 hr (hM rfl)) fun D H' h1 h2 h3 => done D H' h1 h2 ?_
  rw [h3, List.filter_eq_self.mpr fun _ _ => rfl]
end
section
variable {gd : Bool} {P : Program} {w : World} {K : PySem.W.Frag} {mg : Str → Option Value} {base : Heap}
theorem ok_fit (F : Rd.Has K mg "fit_counters" s_fit_counters) (g : Glob mg) : Rd.Fn gd P w K mg base CX0 1 "fit_counters" (spFit K) := by
  refine F.fn sc_fit_counters (fun _ => rfl) (fun _ _ _ _ _ _ us hl => match us, hl with | [_, _], _ => rfl) fun f cdv A outer s H Q E b hr h => ?_
  obtain ⟨a, b, ts, cs⟩ := b
  obtain ⟨⟨ps, hS, hP⟩, hC, hl, nd, hnc, hk, k⟩ := h
  dsimp only at hS hP hC hl nd hnc hk k
  have hC' : SqT K H b (cs.map V.str) := hC
  refine ⟨_, (pss_cons (ps_setLc (i := 2) (own := [("transition", 3)]) (by rfl) sc_fit_counters.nd rfl rfl (sw_true rfl rfl rfl (by decide +kernel)) (pi_tup (pv 0)) (blkOk_by (own := [("transition", 3)]) (N := ["transitions", "counters", "names", "transition", "name", "counter", "number"]) (sc := defScope s_fit_counters) (by decide +kernel)) (fun _ _ _ _ _ => (pg_name (i := 3) sc_fit_counters.nd rfl (Or.inl rfl))) (fun _ _ _ _ _ => pts_nil) (fun _ _ _ _ _ => (pe_ix (Rd.ix_tupK (K := K) (by rfl)) (pv 3) pe_int (fun _ _ => rfl))))
      (pss_cons (ps_if (PW.pt (pw_or (pt_cmpR op_lt (pe_callB Rd.c_lenSt (by rfl) g.len (by decide +kernel) (pa_cons (pe_callTy (Rd.c_setT rfl) (by rfl) g.set (by decide +kernel) (pa_cons (pv 2) pa_nil)) pa_nil)) (pe_callB Rd.c_len (by rfl) g.len (by decide +kernel) (pa_cons (pv 2) pa_nil)) (nomark _)) (pw_or1 (pt_val (pe_callB (Rd.c_any rfl) (by rfl) g.any (by decide +kernel) (pa_cons (pe_lc (own := [("name", 4)]) (by rfl) sc_fit_counters.nd (pi_list (pv 2)) (blkOk_by (own := [("name", 4)]) (N := ["transitions", "counters", "names", "transition", "name", "counter", "number"]) (sc := defScope s_fit_counters) (by decide +kernel)) (fun _ _ _ _ _ => (pg_name (i := 4) sc_fit_counters.nd rfl (Or.inl rfl))) (fun _ _ _ _ _ => pts_nil) (fun _ _ _ _ _ => (pe_cmpR (Rd.op_inK (K := K) (by rfl)) (pv 4) (pv 1) (by rfl)))) pa_nil)))))) (pss_one (ps_ret pe_bl)) pss_nil)
      (pss_one (ps_ret (pe_callB (Rd.c_all rfl) (by rfl) g.all (by decide +kernel) (pa_cons (pe_lc2 (own := [("transition", 3), ("counter", 5), ("number", 6)]) (vs1 := [5, 6]) (by rfl) sc_fit_counters.nd (pi_tup (pv 0)) (blkOk_by (own := [("transition", 3), ("counter", 5), ("number", 6)]) (N := ["transitions", "counters", "names", "transition", "name", "counter", "number"]) (sc := defScope s_fit_counters) (by decide +kernel)) (by decide) (fun _ _ _ _ _ => (pg_name (i := 3) sc_fit_counters.nd rfl (Or.inl rfl))) (fun _ _ _ _ _ => pts_nil) (fun _ _ _ _ _ => (Rd.pi_tupK (K := K) (by rfl) (pe_ix (Rd.ix_tupK (K := K) (by rfl)) (pv 3) pe_int (fun _ _ => rfl)))) (fun _ _ _ _ _ => (Rd.pg_tupK (K := K) (n := 2) (by rfl) rfl (pgs_cons (pg_name (i := 5) sc_fit_counters.nd rfl (Or.inl rfl)) (pgs_cons (pg_name (i := 6) sc_fit_counters.nd rfl (Or.inl rfl)) pgs_nil)))) (fun _ _ _ _ _ => pts_nil) (fun _ _ _ _ _ => (pe_cmpR (Rd.op_inK (K := K) (by rfl)) (pv 5) (pv 1) (by rfl)))) pa_nil)))))), ?_⟩
  try simp only [Rd.noxK, Rd.cxK]
  refine Rd.rd_start [some (V.ref a), some (V.ref b), none, none, none, none, none] rfl ?_
  walk_at "rd"
  refine lc_rows (fun t => V.str t.nm) (by omega) hS hP (fun t r H1 M ht s1 hr1 hM => ?_) (fun D H1 hD s1 h1 => ?_)
  · obtain ⟨c, hrow, _⟩ := hr1
    refine Rd.rd_start' [some (V.ref a), some (V.ref b), none, none, none, none, none] rfl ?_
    walk_at "rd"
    refine ⟨rfl, ?_⟩
    walk_at "rd"
    exact hM _ (Same.refl _)
  have e1 : ts.map (fun t => V.str t.nm) = (ts.map (·.nm)).map V.str := by rw [List.map_map]; rfl
  rw [e1] at h1
  have hL1 : SqL K H1 D ((ts.map (·.nm)).map V.str) := SqL.of h1
  walk_at "rd"
  refine Rd.rd_setT (.inr hL1) (by rw [List.length_map]; omega) fun z H2 hz s2 h2 => ?_
  rw [Rd.dedT_nodup nd] at h2
  walk_at "rd"
  refine Rd.rd_lenSt h2 (by rw [List.length_map]; omega) ?_
  have hL2 := sq_some s2 hL1
  walk_at "rd"
  refine Rd.if_f (by rw [List.length_map]; simp) ?_
  walk_at "rd"
  have hC2 : SqT K H2 b (cs.map V.str) := Rd.Same.sqT (s1.trans s2) hC'
  refine Rd.lc_lst (K := K) (xs := (ts.map (·.nm)).map V.str) (fun _ => V.bl false) (by rw [List.length_map, List.length_map]; omega) hL2 (fun v H3 N hv s3 hN => ?_) (fun D3 H3 hD3 s3 h3 => ?_)
  · obtain ⟨x, hx, rfl⟩ := List.mem_map.mp hv
    obtain ⟨t, ht, rfl⟩ := List.mem_map.mp hx
    refine Rd.rd_start' [some (V.ref a), some (V.ref b), some (V.ref D), none, none, none, none] rfl ?_
    walk_at "rd"
    refine ⟨rfl, ?_⟩
    walk_at "rd"
    refine Rd.rd_inTx (.inl (Rd.Same.sqT s3 hC2)) ?_
    rw [decide_eq_false (hnc t ht)]
    exact hN _ (Same.refl _)
  walk_at "rd"
  have e3 : ∀ l : List V, l.map (fun _ => V.bl false) = (List.replicate l.length false).map V.bl := fun l => by
    induction l with
    | nil => rfl
    | cons x r ih => rw [List.map_cons, ih]; rfl
  rw [e3] at h3
  refine Rd.rd_any (SqL.of h3) ?_
  have e4 : ∀ n, (List.replicate n false).any id = false := fun n => by simp [List.any_replicate]
  rw [e4]
  walk_at "rd"
  refine Rd.if_f rfl ?_
  have s03 := (s1.trans s2).trans s3
  walk_at "rd"
  refine Rd.rd_IT (Rd.Same.sqT s03 hS) ?_
  have hS3 := Rd.Same.sqT s03 hS
  refine Rd.lc2_true (K := K) (by rw [List.length_map]; have := hP.length; omega) hS3 (fun v H4 M hv s4 hM => ?_) (fun D5 H5 bs hD5 s5 h5 hall => ?_)
  · obtain ⟨r, hr1, rfl⟩ := List.mem_map.mp hv
    obtain ⟨t, ht, ⟨c, hrow, qs, hcF, hcP⟩⟩ := paired_mem hP r hr1
    have hrow4 := Rd.Same.sqT (s03.trans s4) hrow
    refine Rd.rd_start' [some (V.ref a), some (V.ref b), some (V.ref D), none, none, none, none] rfl ?_
    walk_at "rd"
    refine ⟨rfl, ?_⟩
    walk_at "rd"
    refine Rd.rd_IT (hcF.same (s03.trans s4)).sq ?_
    refine hM _ c (qs.map V.ref) (Rd.Same.sqT s03 hcF.sq) (by rw [List.length_map, hcP.length]; have := (hk t ht).2; omega) fun y H5 N hy s5 hN => ?_
    obtain ⟨q, hq, rfl⟩ := List.mem_map.mp hy
    obtain ⟨kv, hkv, hpair⟩ := paired_mem hcP q hq
    have hp5 : SqT K H5 q [.str kv.1, .int kv.2] := Rd.Same.sqT (s03.trans s5) hpair
    refine Rd.rd_start' [some (V.ref a), some (V.ref b), some (V.ref D), some (V.ref r), none, none, none] rfl ?_
    walk_at "rd"
    refine ⟨rfl, ?_⟩
    walk_at "rd"
    refine Rd.rd_inTx (.inl (Rd.Same.sqT (s03.trans s5) hC')) ?_
    rw [decide_eq_true ((hk t ht).1 kv hkv)]
    exact hN _ (Same.refl _)
  walk_at "rd"
  refine Rd.rd_all (SqL.of h5) ?_
  rw [hall]
  exact k H5 (s03.trans s5)
theorem ok_require (F : Rd.Has K mg "require_parts" s_require_parts) (g : Glob mg) (ws : GInts mg) (c_are_names : Rd.Fn gd P w K mg base CX0 2 "are_names" (spNames K)) (c_is_transition : Rd.Fn gd P w K mg base CX0 4 "is_transition" (spTrans K)) (c_fit_counters : Rd.Fn gd P w K mg base CX0 1 "fit_counters" (spFit K)) (c_states_of : Rd.Fn gd P w K mg base CX0 1 "states_of" (spStates K)) (c_are_one_loop : Rd.Fn gd P w K mg base CX0 2 "are_one_loop" (spLoop1 K)) :
    Rd.Fn gd P w K mg base CX0 5 "require_parts" (spReq K) := by
  refine F.fn sc_require_parts (fun _ => rfl) (fun _ _ _ _ _ _ us hl => match us, hl with | [_, _, _], _ => rfl) fun f cdv A outer s H Q E b hr h => ?_
  obtain ⟨⟨pc, pt, ps⟩, ⟨cs0, ns0, ts0⟩, G⟩ := b
  obtain ⟨hC, hT, hN, NM, GO, k⟩ := h
  dsimp only at hC hT hN NM GO k
  have hC' : SqT K H pc (cs0.map V.str) := hC
  have lt : ts0.length ≤ 16 := by rw [← NM.tp.length_eq]; exact GO.t16
  have memt : ∀ t ∈ ts0, t ∈ G.ts := fun t ht => NM.tp.mem_iff.mpr ht
  refine ⟨_, (pss_cons (ps_if (PW.pt (pw_or (pt_not (pt_val (Rd.pe_fn c_are_names (hr.mono (by decide)) (by rfl) (pa_cons (pv 0) pa_nil)))) (pw_or1 (pt_not (pt_chain op_le op_le pe_int (pe_callB Rd.c_lenSt (by rfl) g.len (by decide +kernel) (pa_cons (pe_callTy (Rd.c_setT rfl) (by rfl) g.set (by decide +kernel) (pa_cons (pv 0) pa_nil)) pa_nil)) (Rd.pe_gli (by rfl) ws.MAX_COUNTERS)))))) (pss_one ps_never) pss_nil)
      (pss_cons (ps_if (PW.pt (pw_or (pt_not (pt_val (pe_callB Rd.c_isi (by rfl) g.isinstance (by decide +kernel) (pa_cons (pv 1) (pa_cons (pe_bltn (v := .ty "tuple") (by rfl) g.tuple (by decide +kernel) rfl) pa_nil))))) (pw_or1 (pt_not (pt_val (pe_callB (Rd.c_all rfl) (by rfl) g.all (by decide +kernel) (pa_cons (pe_lc (own := [("transition", 4)]) (by rfl) sc_require_parts.nd (pi_tup (pv 1)) (blkOk_by (own := [("transition", 4)]) (N := ["counters", "transitions", "states", "found", "transition"]) (sc := defScope s_require_parts) (by decide +kernel)) (fun _ _ _ _ _ => (pg_name (i := 4) sc_require_parts.nd rfl (Or.inl rfl))) (fun _ _ _ _ _ => pts_nil) (fun _ _ _ _ _ => (Rd.pe_fn c_is_transition (hr.mono (by decide)) (by rfl) (pa_cons (pv 4) pa_nil)))) pa_nil))))))) (pss_one ps_never) pss_nil)
      (pss_cons (ps_if (PW.pt (pw_or (pt_cmpR op_gt (pe_callB Rd.c_len (by rfl) g.len (by decide +kernel) (pa_cons (pv 1) pa_nil)) (Rd.pe_gli (by rfl) ws.MAX_TRANSITIONS) (nomark _)) (pw_or1 (pt_not (pt_val (Rd.pe_fn c_fit_counters (hr.mono (by decide)) (by rfl) (pa_cons (pv 1) (pa_cons (pv 0) pa_nil)))))))) (pss_one ps_never) pss_nil)
      (pss_cons (ps_if (pt_not (pt_val (Rd.pe_fn c_are_names (hr.mono (by decide)) (by rfl) (pa_cons (pv 2) pa_nil)))) (pss_one ps_never) pss_nil)
      (pss_cons (ps_set (i := 3) sc_require_parts.nd rfl (Or.inl rfl) (Rd.pe_fn c_states_of (hr.mono (by decide)) (by rfl) (pa_cons (pv 1) (pa_cons (pv 2) pa_nil))))
      (pss_one (ps_if (PW.pt (pw_or (pt_not (pt_chain op_le op_le pe_int (pe_callB Rd.c_len (by rfl) g.len (by decide +kernel) (pa_cons (pv 3) pa_nil)) (Rd.pe_gli (by rfl) ws.MAX_STATES))) (pw_or1 (pt_not (pt_val (Rd.pe_fn c_are_one_loop (hr.mono (by decide)) (by rfl) (pa_cons (pv 1) (pa_cons (pv 3) pa_nil)))))))) (pss_one ps_never) pss_nil))))))), ?_⟩
  try simp only [Rd.noxK, Rd.cxK]
  refine Rd.rd_start [some (V.ref pc), some (V.ref pt), some (V.ref ps), none, none] rfl ?_
  walk_at "rd"
  refine Rd.rd_sp (pc, cs0) rfl ⟨hC, fun x hx => GO.cN x ((NM.cm x).mpr hx), by have := NM.cl; show cs0.length ≤ 100; omega, fun H1 s1 => ?_⟩
  walk_at "rd"
  refine Rd.if_f rfl ?_
  have hC1 := Rd.Same.sqT s1 hC'
  walk_at "rd"
  refine Rd.rd_setT (.inl hC1) (by have := NM.cl; omega) fun z H2 hz s2 h2 => ?_
  have dl := ded_len GO.cA NM.cm
  have c1 : 0 < G.cs.length := List.length_pos_iff.mpr GO.c1
  have c5 := GO.c5
  walk_at "rd"
  refine Rd.rd_lenSt h2 (by omega) ?_
  rw [dl]
  walk_at "rd"
  refine Rd.if_t (decide_eq_true (by omega)) ?_
  walk_at "rd"
  refine Rd.if_f (by rw [decide_eq_true (show (G.cs.length : Int) ≤ 5 by omega)]; rfl) ?_
  have s02 := s1.trans s2
  obtain ⟨rs, hT0, hTP⟩ := hT
  have hT2 : SqT K H2 pt (rs.map V.ref) := Rd.Same.sqT s02 hT0
  walk_at "rd"
  refine Rd.rd_isi (Rd.isi_tup hT2 Rd.kk_tup_tup) ?_
  walk_at "rd"
  refine Rd.if_f rfl ?_
  walk_at "rd"
  refine lc_rows (fun _ => V.bl true) (by omega) hT2 (L2.Paired.mapP hTP fun _ _ q => q.kp (kpS s02)) (fun t r H3 M ht s3 hr3 hM => ?_) (fun D H3 hD s3 h3 => ?_)
  · refine Rd.rd_start' [some (V.ref pc), some (V.ref pt), some (V.ref ps), none, none] rfl ?_
    walk_at "rd"
    refine ⟨rfl, ?_⟩
    walk_at "rd"
    exact Rd.rd_sp (r, t) rfl ⟨hr3, GO.tO t (memt t ht), hM⟩
  walk_at "rd"
  refine rd_allT h3 ?_
  walk_at "rd"
  refine Rd.if_f rfl ?_
  have s03 := s02.trans s3
  have hT3 := Rd.Same.sqT s03 hT0
  walk_at "rd"
  have lr : rs.length = ts0.length := hTP.length
  refine Rd.if_f (decide_eq_false (by rw [List.length_map, lr]; omega)) ?_
  walk_at "rd"
  have rows3 : RowsAt K H3 pt ts0 := ⟨rs, hT3, L2.Paired.mapP hTP fun _ _ q => q.kp (kpS s03)⟩
  refine Rd.rd_sp (pt, pc, ts0, cs0) rfl ⟨rows3, Rd.Same.sqT s03 hC', lt, (NM.tp.map (·.nm)).nodup_iff.mp GO.tA.nodup, fun t ht q => GO.tC t (memt t ht) ((NM.cm _).mpr q), fun t ht => ⟨fun kv hkv => (NM.cm _).mp (GO.tK t (memt t ht) kv hkv), (GO.tO t (memt t ht)).2.2.2.2⟩, fun H4 s4 => ?_⟩
  walk_at "rd"
  refine Rd.if_f rfl ?_
  have s04 := s03.trans s4
  walk_at "rd"
  refine Rd.rd_sp (ps, ns0) rfl ⟨hN.kp (kpS s04), fun x hx => GO.nN x ((NM.nm x).mpr (.inl hx)), by have := NM.nl; show ns0.length ≤ 100; omega, fun H5 s5 => ?_⟩
  walk_at "rd"
  refine Rd.if_f rfl ?_
  have s05 := s04.trans s5
  walk_at "rd"
  refine Rd.rd_sp (pt, ps, ts0, ns0) rfl ⟨rows3.kp (kpS (s4.trans s5)), hN.kp (kpS s05), lt, NM.nl, fun q H6 ys s6 h6 ya ym => ?_⟩
  dsimp only at ym
  have ey : ys = G.ns := ya.eq GO.nA fun z => (ym z).trans (NM.nm z).symm
  subst ey
  have s06 := s05.trans s6
  have h6' : SqT K H6 q (G.ns.map V.str) := h6
  have n1 : 0 < G.ns.length := List.length_pos_iff.mpr GO.lp.ne
  have n8 := GO.n8
  walk_at "rd"
  rw [List.length_map]
  refine Rd.if_t (decide_eq_true (by omega)) ?_
  walk_at "rd"
  refine Rd.if_f (by rw [decide_eq_true (show (G.ns.length : Int) ≤ 8 by omega)]; rfl) ?_
  walk_at "rd"
  refine Rd.rd_sp (pt, q, ts0, G.ns) rfl ⟨rows3.kp (kpS ((s4.trans s5).trans s6)), h6, by show ts0.length ≤ 100; omega, GO.lp.perm NM.tp, GO.nN, fun H7 s7 => ?_⟩
  walk_at "rd"
  refine Rd.if_f rfl ?_
  walk_at "rd"
  exact k H7 (s06.trans s7)
end
end M
set_option Elab.async false
set_option linter.all false
set_option maxRecDepth 100000
set_option maxHeartbeats 4000000
namespace M
open PySem L2
local macro_rules | `(tactic| walk_at "rdc") => `(tactic| first | exact Or.inl ⟨by decide, by decide⟩ | exact Or.inr ⟨by decide, by decide⟩ | exact ⟨by decide, by decide, by decide⟩ | exact ⟨by decide, by decide⟩ | decide | omega | assumption | (refine Or.inl ⟨?_, ?_⟩ <;> omega) | (refine Or.inr ⟨?_, ?_⟩ <;> omega) | (refine ⟨?_, ?_⟩ <;> omega))
local macro_rules | `(tactic| walk_at "rd1") => `(tactic| with_reducible first
  | refine Rd.rd_seq ?_ | refine Rd.rd_asg ?_ | refine Rd.rd_op ?_ | (refine' Rd.rd_var ?vh ?_; (case vh => with_unfolding_all rfl)) | refine Rd.rd_c ?_ | refine Rd.rd_I0 ?_ | refine Rd.rd_name0 ?_ | refine Rd.rd_nameS ?_ | refine Rd.rd_fn ?_
  | refine Rd.rd_cb ?_ | refine Rd.rd_cons ?_ | refine Rd.rd_nil ?_ | refine Rd.rd_int ?_ | refine Rd.rd_intB ?_ | refine Rd.rd_abs ?_ | refine Rd.rd_max2 ?_ | refine Rd.rd_min2 ?_
  | refine Rd.rd_call ?_ | refine Rd.rd_ifE ?_ | refine Rd.rd_test ?_ | refine Rd.rd_tB ?_ | refine Rd.rd_blV ?_ | refine Rd.rd_and ?_ | refine Rd.rd_or ?_ | refine Rd.rd_not ?_
  | refine Rd.rd_andV ?_ | refine Rd.rd_orV ?_ | refine Rd.rd_notV ?_ | refine Rd.rd_next ?_ | refine Rd.rd_ret ?_ | refine Rd.rd_drop ?_ | refine Rd.rd_ifS ?_ | refine Rd.rd_nx ?_ | refine Rd.rd_rt ?_ | refine Rd.rd_tMatch ?_ | refine Rd.rd_tCO ?_ | refine Rd.rd_tRevL ?_ | refine Rd.rd_tStar ?_ | refine Rd.rd_joined ?_ | refine Rd.rd_js1 ?_ | refine Rd.rd_js0 ?_ | refine Rd.rd_fmt ?_ | refine Rd.rd_propR ?_ | refine Rd.rd_iZipA ?_ | refine Rd.rd_iEnumT ?_ | refine Rd.rd_iOwn ?_ | (refine' Rd.rd_IET ?ln ?_; (case ln => with_unfolding_all walk_at "at")) | refine Rd.rd_chain ?_ | refine Rd.rd_tPar ?_ | refine Rd.rd_par ?_ | refine Rd.rd_sl ?_ | refine Rd.rd_noPart ?_ | refine Rd.rd_part ?_ | refine Rd.rd_intV ?_ | refine Rd.rd_lc ?_ | (refine' Rd.rd_aug ?vh ?_; (case vh => with_unfolding_all rfl)) | refine Rd.rd_ipI ?_ | refine Rd.rd_for ?_ | (refine' Rd.rd_IT ?ln ?_; (case ln => with_unfolding_all walk_at "at")) | (refine' Rd.rd_IL ?ln ?_; (case ln => with_unfolding_all walk_at "at")) | refine Rd.rd_iTup ?_ | refine Rd.rd_iList ?_ | refine Rd.rd_iRng1 ?_ | refine Rd.rd_iRng2 ?_ | refine Rd.rd_isi (Rd.isi_int Rd.kk_int_int) ?_ | refine Rd.rd_isi (Rd.isi_int Rd.kk_int_bool) ?_ | refine Rd.rd_dget ?_ | refine Rd.rd_din ?_ | refine Rd.rd_dnotin ?_ | refine Rd.rd_dput ?_ | refine Rd.rd_dc ?_ | refine Rd.rd_lc2 ?_ | refine Rd.rd_ltS ?_ | refine Rd.rd_inSg ?_ | refine Rd.rd_iStr ?_ | refine Rd.rd_IS ?_ | refine Rd.rd_prC ?_ | refine Rd.rd_prN ?_ | refine Rd.rd_methR ?_ | refine Rd.rd_cmeth ?_ | refine Rd.rd_fldS ?_ | refine Rd.rd_fld ?_ | (refine' Rd.rd_mkVS ?vh ?_; (case vh => with_unfolding_all rfl)) | (refine' Rd.rd_starT ?ln ?_; (case ln => with_unfolding_all walk_at "at")) | refine Rd.rd_iEnum ?_ | refine Rd.rd_iZip ?_ | (refine' Rd.rd_IE ?ln ?_; (case ln => with_unfolding_all walk_at "at")) | (refine' Rd.rd_IZ ?ln ?lm ?_; (case ln => with_unfolding_all walk_at "at"); (case lm => with_unfolding_all walk_at "at")) | (refine' Rd.rd_gTup ?ln ?lk ?_; (case ln => with_unfolding_all walk_at "at"); (case lk => with_unfolding_all rfl)) | refine Rd.rd_gCons ?_ | refine Rd.rd_gNil ?_ | refine Rd.rd_m1 ?_ | refine Rd.rd_strV ?_ | refine Rd.rd_tXiM ?_ | refine Rd.rd_tXiB ?_ | refine Rd.rd_tXiS ?_ | refine Rd.rd_bm ?_ | refine Rd.rd_bm0 ?_ | refine Rd.rd_isN ?_ | refine Rd.rd_notN ?_ | refine Rd.rd_sub ?_ | refine Rd.rd_un ?_ | refine Rd.rd_U ?_
  | (refine' Rd.rd_eq ?sc ?_; (case sc => with_unfolding_all rfl)) | (refine' Rd.rd_ne ?sc ?_; (case sc => with_unfolding_all rfl))
  | (refine' Rd.rd_I ?cc ?_; (case cc => with_unfolding_all walk_at "rdc"))
  | (refine' Rd.rd_lenL ?ln ?_; (case ln => with_unfolding_all walk_at "at")) | (refine' Rd.rd_lenT ?ln ?_; (case ln => with_unfolding_all walk_at "at"))
  | (refine' Rd.rd_ixL ?ln ?ia ?_; (case ln => with_unfolding_all walk_at "at"); (case ia => with_unfolding_all first | exact Rd.at0 | exact Rd.at1 | exact Rd.at2 | exact Rd.at3 | exact Rd.at4 | rfl)) | (refine' Rd.rd_ixT ?ln ?ia ?_; (case ln => with_unfolding_all walk_at "at"); (case ia => with_unfolding_all first | exact Rd.at0 | exact Rd.at1 | exact Rd.at2 | exact Rd.at3 | exact Rd.at4 | rfl)))
local macro_rules | `(tactic| walk_at "at") => `(tactic| first | assumption | (apply SqL.of; assumption) | (apply SqT.of; assumption) | (apply SqL.of; exact upd_same) | (apply SqT.of; exact upd_same))
local macro_rules | `(tactic| walk_at "rd") => `(tactic| repeat walk_at "rd1")
/-! ### the class Graph -/
abbrev s_Graph___init__ : Stmt := inClass (top 23) 0
theorem sc_Graph___init__ : FnScope ["self", "counters", "states", "transitions", "transition"] ["self", "counters", "states", "transitions"] (defScope s_Graph___init__) := ⟨rfl, rfl, rfl, by decide +kernel, rfl, by decide +kernel, by decide +kernel⟩
abbrev s_Graph_of : Stmt := inClass (top 23) 1
theorem sc_Graph_of : FnScope ["cls", "counters", "transitions", "states"] ["cls", "counters", "transitions", "states"] (defScope s_Graph_of) := ⟨rfl, rfl, rfl, by decide +kernel, rfl, by decide +kernel, by decide +kernel⟩
abbrev s_Graph_change : Stmt := inClass (top 23) 6
theorem sc_Graph_change : FnScope ["self", "name", "found", "counter"] ["self", "name"] (defScope s_Graph_change) := ⟨rfl, rfl, rfl, by decide +kernel, rfl, by decide +kernel, by decide +kernel⟩
abbrev s_Graph_leaving : Stmt := inClass (top 23) 7
theorem sc_Graph_leaving : FnScope ["self", "state"] ["self", "state"] (defScope s_Graph_leaving) := ⟨rfl, rfl, rfl, by decide +kernel, rfl, by decide +kernel, by decide +kernel⟩
abbrev s_Graph_entering : Stmt := inClass (top 23) 8
theorem sc_Graph_entering : FnScope ["self", "state"] ["self", "state"] (defScope s_Graph_entering) := ⟨rfl, rfl, rfl, by decide +kernel, rfl, by decide +kernel, by decide +kernel⟩
abbrev s_Graph___getitem__ : Stmt := inClass (top 23) 14
theorem sc_Graph___getitem__ : FnScope ["self", "name"] ["self", "name"] (defScope s_Graph___getitem__) := ⟨rfl, rfl, rfl, by decide +kernel, rfl, by decide +kernel, by decide +kernel⟩
abbrev s_Graph___eq__ : Stmt := inClass (top 23) 18
theorem sc_Graph___eq__ : FnScope ["self", "other"] ["self", "other"] (defScope s_Graph___eq__) := ⟨rfl, rfl, rfl, by decide +kernel, rfl, by decide +kernel, by decide +kernel⟩
abbrev s_Graph_names : Stmt := inClass (top 23) 4
theorem sc_Graph_names : FnScope ["self"] ["self"] (defScope s_Graph_names) := ⟨rfl, rfl, rfl, by decide +kernel, rfl, by decide +kernel, by decide +kernel⟩
abbrev s_Graph_transitions : Stmt := inClass (top 23) 5
theorem sc_Graph_transitions : FnScope ["self"] ["self"] (defScope s_Graph_transitions) := ⟨rfl, rfl, rfl, by decide +kernel, rfl, by decide +kernel, by decide +kernel⟩
abbrev s_require_known : Stmt := top 24
theorem sc_require_known : FnScope ["known", "value"] ["known", "value"] (defScope s_require_known) := ⟨rfl, rfl, rfl, by decide +kernel, rfl, by decide +kernel, by decide +kernel⟩
structure AdsG where
  (C fi fo po ch lv en gi eq pn gn pt gt pc gc ps gs : Addr)
structure GraphC (K : PySem.W.Frag) (mg : Str → Option Value) (a : AdsG) : Prop where
  mgC : mg "Graph" = some (.ref a.C)
  cl : Cls K a.C
  nC : NoAttr K a.C "own_counters"
  nS : NoAttr K a.C "own_states"
  nT : NoAttr K a.C "own_transitions"
  nN : NoAttr K a.C "own_names"
  nR : NoAttr K a.C "own_rows"
  mk_ : Mk K a.C a.fi
  cr : ClX.CRead K a.C (.type "type")
  cm_of : ClX.CMet K a.C (.type "type") "of" a.po a.fo
  m_change : Meth K a.C "change" a.ch
  m_leaving : Meth K a.C "leaving" a.lv
  m_entering : Meth K a.C "entering" a.en
  pr_n : PropOf K a.C "names" a.pn a.gn
  pr_t : PropOf K a.C "transitions" a.pt a.gt
  pr_c : PropOf K a.C "counters" a.pc a.gc
  pr_s : PropOf K a.C "states" a.ps a.gs
  gi : PySem.W.findIn K (.ref a.C) "__getitem__" = some (some (.ref a.gi))
  gif : PySem.W.isFn K (.ref a.gi) = true
  gin : PySem.W.fnIn K a.gi = true
  eq : Rd.OwnEq K a.C a.eq
  c1 : PySem.W.findIn K (.ref a.C) "__class__" = some (some (.builtin "object.__class__"))
  c2 : PySem.W.specialIn K (.builtin "object.__class__") "__get__" = some (some (.builtin "getset_descriptor.__get__"))
  c3 : PySem.W.takesIn K (.builtin "object.__class__") = some true
  c4 : PySem.W.mroIn K a.C (.type "object") = some true
  i1 : PySem.W.kitOne K (.ref a.C) (.ref a.C) = some true
def rowsD (ts : List Tr) (rs : List Addr) : List (Key × V) := (ts.zip rs).map fun z => (Sum.inr z.1.nm, V.ref z.2)
structure GrFields (K : PySem.W.Frag) (H : Hp) (pc ps pt pn pr : Addr) (rs : List Addr) (G : Gr) : Prop where
  c : TxT K H pc G.cs
  s : TxT K H ps G.ns
  t : SqT K H pt (rs.map V.ref)
  tP : Paired (RowAt K H) rs G.ts
  n : TxT K H pn (G.ts.map (·.nm))
  r : H pr = some (.dK (rowsD G.ts rs))
def flds (pc ps pt pn pr : Addr) : List (Str × V) := [("own_counters", .ref pc), ("own_states", .ref ps), ("own_transitions", .ref pt), ("own_names", .ref pn), ("own_rows", .ref pr)]
/-- a graph at x -/
def GraphAt (K : PySem.W.Frag) (C : Addr) (H : Hp) (x : Addr) (G : Gr) : Prop := ∃ dx pc ps pt pn pr rs, H x = some (.ins C dx (flds pc ps pt pn pr)) ∧ GrFields K H pc ps pt pn pr rs G
theorem GraphAt.same {K : PySem.W.Frag} {C : Addr} {H H' : Hp} {x : Addr} {G : Gr} (h : GraphAt K C H x G) (s : Same H H') : GraphAt K C H' x G := by
  obtain ⟨dx, pc, ps, pt, pn, pr, rs, h1, h2⟩ := h
  exact ⟨dx, pc, ps, pt, pn, pr, rs, s _ _ h1, ⟨h2.c.kp (kpS s), h2.s.kp (kpS s), Rd.Same.sqT s h2.t, L2.Paired.mapP h2.tP fun _ _ q => q.kp (kpS s), h2.n.kp (kpS s), s _ _ h2.r⟩⟩
theorem GraphC.ty {K : PySem.W.Frag} {mg : Str → Option Value} {a : AdsG} {H : Hp} {x : Addr} {G : Gr} (T : GraphC K mg a) (h : GraphAt K a.C H x G) : TyX K H (.ref x) (.ref a.C) := by
  obtain ⟨dx, pc, ps, pt, pn, pr, rs, h1, h2⟩ := h
  exact .base (.ins h1 T.cl T.c1 T.c2 T.c3 T.c4)
def SameBut (x : Addr) (H H' : Hp) : Prop := ∀ b o, b ≠ x → H b = some o → H' b = some o
theorem SameBut.of {x : Addr} {H H' : Hp} (s : Same H H') : SameBut x H H' := fun b o _ e => s b o e
theorem SameBut.trans {x : Addr} {H H1 H2 : Hp} (a : SameBut x H H1) (b : SameBut x H1 H2) : SameBut x H H2 := fun c o h e => b c o h (a c o h e)
theorem SameBut.upd {x : Addr} {H : Hp} {o : HO} : SameBut x H (upd H x o) := fun b u h e => by rw [upd_ne h]; exact e
theorem SameBut.kp {x : Addr} {H H' : Hp} {o : HO} (s : SameBut x H H') (h : H x = some o) (ho : Imm o = false) : Kp H H' := fun b u e i => s b u (fun z => by rw [z, h] at e; rw [← Option.some.inj e, ho] at i; cases i) e
/-! sorting rows by their names -/
theorem perm_map_inv {α β : Type} (f : α → β) : ∀ {a b : List β}, a.Perm b → ∀ zs : List α, b = zs.map f → ∃ ys : List α, ys.Perm zs ∧ a = ys.map f := by
  intro a b p
  induction p with
  | nil => exact fun zs e => ⟨zs, List.Perm.refl _, e⟩
  | cons x p ih =>
    intro zs e
    match zs, e with
    | z :: zs, e =>
      obtain ⟨rfl, e2⟩ := List.cons.inj e
      obtain ⟨ys, p1, e1⟩ := ih zs e2
      exact ⟨z :: ys, p1.cons z, by rw [e1]; rfl⟩
  | swap x y l =>
    intro zs e
    match zs, e with
    | z :: z2 :: zs, e =>
      obtain ⟨rfl, e2⟩ := List.cons.inj e
      obtain ⟨rfl, rfl⟩ := List.cons.inj e2
      exact ⟨z2 :: z :: zs, List.Perm.swap _ _ _, rfl⟩
    | [], e => nomatch e
    | [z], e => exact absurd (congrArg List.length e) (by simp)
  | trans p q ih1 ih2 =>
    intro zs e
    obtain ⟨ys, p1, e1⟩ := ih2 zs e
    obtain ⟨xs, p2, e2⟩ := ih1 ys e1
    exact ⟨xs, p2.trans p1, e2⟩
theorem map_inj_nodup {α β : Type} (f : α → β) : ∀ {l : List α}, (l.map f).Nodup → ∀ x ∈ l, ∀ y ∈ l, f x = f y → x = y
  | [], _, x, hx, _, _, _ => nomatch hx
  | a :: l, h, x, hx, y, hy, e => by
    obtain ⟨h1, h2⟩ := List.nodup_cons.mp h
    rcases List.mem_cons.mp hx with q | q <;> rcases List.mem_cons.mp hy with r | r
    · rw [q, r]
    · exact absurd (List.mem_map.mpr ⟨y, r, by rw [← e, q]⟩) h1
    · exact absurd (List.mem_map.mpr ⟨x, q, by rw [e, r]⟩) h1
    · exact map_inj_nodup f h2 x q y r e
theorem eq_of_map {α β : Type} (f : α → β) : ∀ {l m : List α}, (∀ x ∈ l, ∀ y ∈ m, f x = f y → x = y) → l.map f = m.map f → l = m
  | [], [], _, _ => rfl
  | [], _ :: _, _, e => nomatch e
  | _ :: _, [], _, e => nomatch e
  | x :: l, y :: m, h, e => by
    obtain ⟨e1, e2⟩ := List.cons.inj e
    rw [h x List.mem_cons_self y List.mem_cons_self e1, eq_of_map f (fun x hx y hy => h x (List.mem_cons_of_mem _ hx) y (List.mem_cons_of_mem _ hy)) e2]
theorem paired_zip {α β : Type} {F : α → β → Prop} : ∀ {l : List α} {m : List β}, Paired F l m → ∀ z ∈ m.zip l, F z.2 z.1
  | _, _, .nil, z, h => nomatch h
  | _, _, .cons r t, z, h => by
    rcases List.mem_cons.mp h with e | e
    · rw [e]; exact r
    · exact paired_zip t z e
theorem paired_map2 {α β γ : Type} {F : α → β → Prop} (f : γ → α) (g : γ → β) : ∀ {l : List γ}, (∀ z ∈ l, F (f z) (g z)) → Paired F (l.map f) (l.map g)
  | [], _ => .nil
  | z :: l, h => .cons (h z List.mem_cons_self) (paired_map2 f g fun y hy => h y (List.mem_cons_of_mem _ hy))
theorem zip_fst {α β : Type} : ∀ {l : List α} {m : List β}, l.length = m.length → (l.zip m).map (·.1) = l
  | [], [], _ => rfl
  | x :: l, y :: m, h => by rw [List.zip_cons_cons, List.map_cons, zip_fst (by simpa using h)]
theorem zip_snd {α β : Type} : ∀ {l : List α} {m : List β}, l.length = m.length → (l.zip m).map (·.2) = m
  | [], [], _ => rfl
  | x :: l, y :: m, h => by rw [List.zip_cons_cons, List.map_cons, zip_snd (by simpa using h)]
/-- rows sorted by name -/
theorem rows_sorted {K : PySem.W.Frag} {H : Hp} {rs : List Addr} {ts0 : List Tr} {ts : List Tr} (hP : Paired (RowAt K H) rs ts0) (p : ts.Perm ts0) (hA : Rd.Asc (ts.map (·.nm))) {ys : List (Str × Addr)} (hp : ys.Perm ((ts0.zip rs).map fun z => (z.1.nm, z.2))) (ha : Rd.Asc (ys.map (·.1))) :
    Paired (RowAt K H) (ys.map (·.2)) ts := by
  obtain ⟨zs, p1, e1⟩ := perm_map_inv (fun z : Tr × Addr => (z.1.nm, z.2)) hp _ rfl
  have hl : ts0.length = rs.length := hP.length.symm
  have p2 : (zs.map (·.1)).Perm ts0 := by
    have := p1.map (·.1)
    rw [zip_fst hl] at this
    exact this
  have e2 : ys.map (·.1) = (zs.map (·.1)).map (·.nm) := by rw [e1, List.map_map, List.map_map]; rfl
  have e3 : zs.map (·.1) = ts := by
    refine eq_of_map (·.nm) (fun x hx y hy e => ?_) ?_
    · exact map_inj_nodup (·.nm) hA.nodup x (p.mem_iff.mpr (p2.mem_iff.mp hx)) y hy e
    · rw [← e2]
      exact ha.perm_eq hA (by rw [e2]; exact (p2.trans p.symm).map _)
  have e4 : ys.map (·.2) = zs.map (·.2) := by rw [e1, List.map_map]; rfl
  rw [e4, ← e3]
  exact paired_map2 _ _ fun z hz => paired_zip hP z (p1.mem_iff.mp hz)
/-- {row[0]: row for row in rows} -/
theorem dc_rows {K : PySem.W.Frag} {H : Hp} {a : Addr} {g : TG} {tk tv : TE} {vs : List Nat} {σ : L2.St} {Q : VK} {ps : List Addr} {ts : List Tr} (nd : (ts.map (·.nm)).Nodup) (hz : ts.length ≤ 100000) (hS : SqT K H a (ps.map V.ref)) (hP : Paired (RowAt K H) ps ts)
    (step : ∀ t r H1 (N : V → V → Hp → Prop), t ∈ ts → Same H H1 → RowAt K H1 r t → (∀ H2, Same H1 H2 → N (.str t.nm) (.ref r) H2) → g (.ref r) (wipe σ vs) H1 fun σ2 H2 => wipe σ2 vs = wipe σ vs ∧ tk σ2 H2 fun y H4 => tv σ2 H4 fun z H5 => N y z H5)
    (done : ∀ D H', H D = none → Same H H' → H' D = some (.dK (rowsD ts ps)) → Q (.ref D) H') : Rd.rDc g tYes tk tv vs σ Q (Itt K a) H := by
  have lp : ps.length = ts.length := hP.length
  intro D hD
  let m : Nat → List (Key × V) := fun i => (rowsD ts ps).take i
  have hm : (rowsD ts ps).length = ts.length := by unfold rowsD; rw [List.length_map, List.length_zip]; omega
  have hnd : ((rowsD ts ps).map (·.1)).Nodup := by
    have e : (rowsD ts ps).map (·.1) = (ts.map (·.nm)).map Sum.inr := by
      unfold rowsD
      rw [List.map_map, ← zip_fst (l := ts) (m := ps) lp.symm, List.map_map, List.map_map]
      simp only [Function.comp_def, zip_fst lp.symm]
    rw [e]
    exact nd.map _ fun a b h q => h (Sum.inr.inj q)
  let Pv : Nat → Hp → Prop := fun i H1 => Same H H1 ∧ H1 D = some (.dK (m i))
  refine ⟨fun i n H1 => n = ts.length - i ∧ i ≤ ts.length ∧ Pv i H1, ⟨ts.length, by simp, Nat.zero_le _, Rd.same_new hD, by rw [upd_same]; rfl⟩, ?_⟩
  rintro i n H1 ⟨rfl, hi, s1, hd1⟩
  have hq : SqT K H1 a (ps.map V.ref) := Rd.Same.sqT s1 hS
  by_cases hlt : i < ts.length
  · refine .inr ⟨⟨_, V.ref (ps[i]'(by omega)), hq, by rw [List.getElem?_map, List.getElem?_eq_getElem (by omega)]; rfl⟩, Pv (i + 1), fun H' p' => ⟨ts.length - (i + 1), by omega, rfl, hlt, p'⟩, fun x H' y => ?_⟩
    obtain ⟨rfl, hy⟩ := y
    have ex := hy _ hq
    rw [List.getElem?_map] at ex
    obtain ⟨r, hr, rfl⟩ := Option.map_eq_some_iff.mp ex
    obtain ⟨t, ht, q⟩ := paired_get hP hr
    refine step t r H' _ (List.mem_of_getElem? ht) s1 (q.kp (kpS s1)) fun H2 s2 => ?_
    have hl : (m i).length < sizeLine := by
      show ((rowsD ts ps).take i).length < _
      rw [List.length_take, hm]
      exact Nat.lt_of_le_of_lt (Nat.le_trans (Nat.min_le_right _ _) hz) (by decide)
    have eN : (rowsD ts ps)[i]? = some (Sum.inr t.nm, V.ref r) := by
      unfold rowsD
      rw [List.getElem?_map, List.getElem?_zip_eq_some (z := (t, r)) |>.mpr ⟨ht, hr⟩]
      rfl
    have eT : (rowsD ts ps).take (i + 1) = (rowsD ts ps).take i ++ [(Sum.inr t.nm, V.ref r)] := by rw [List.take_add_one, eN]; rfl
    refine ⟨m i, Sum.inr t.nm, rfl, s2 _ _ hd1, hl, fun b o e => ?_, ?_⟩
    · rw [upd_ne (ne_of_none e hD)]
      exact s2 _ _ (s1 _ _ e)
    · rw [upd_same]
      show some (HO.dK (putK ((rowsD ts ps).take i) (Sum.inr t.nm) (V.ref r))) = some (HO.dK ((rowsD ts ps).take (i + 1)))
      rw [eT, Rd.putK_new' fun z => ?_]
      have hnd2 : (((rowsD ts ps).take (i + 1)).map (·.1)).Nodup := by
        rw [List.map_take]
        exact hnd.sublist (List.take_sublist _ _)
      rw [eT, List.map_append] at hnd2
      exact (List.nodup_append.mp hnd2).2.2 _ z _ (List.mem_singleton.mpr rfl) rfl
  · obtain rfl : i = ts.length := by omega
    refine .inl ⟨⟨_, hq, by rw [List.length_map, lp]; exact Nat.le_refl _⟩, done D H1 hD s1 ?_⟩
    rw [hd1]
    show some (HO.dK ((rowsD ts ps).take ts.length)) = _
    rw [← hm, List.take_length]
def spGInit (K : PySem.W.Frag) (C : Addr) : Sp := Rd.mkSp (fun (a : (Addr × Addr × Addr × Addr × Addr) × (List Str × List Str × List Tr) × Gr) => [.ref a.1.1, .ref a.1.2.2.1, .ref a.1.2.2.2.1, .ref a.1.2.2.2.2]) fun a H Q _ =>
  H a.1.1 = some (.ins C a.1.2.1 []) ∧ TxT K H a.1.2.2.1 a.2.1.1 ∧ TxT K H a.1.2.2.2.1 a.2.1.2.1 ∧ RowsAt K H a.1.2.2.2.2 a.2.1.2.2 ∧ Norm a.2.1.1 a.2.1.2.1 a.2.1.2.2 a.2.2 ∧ GOk a.2.2 ∧ ∀ H', SameBut a.1.1 H H' → GraphAt K C H' a.1.1 a.2.2 → Q .non H'
def spGOf (K : PySem.W.Frag) (C : Addr) : Sp := Rd.mkSp (fun (a : (Addr × Addr × Addr) × (List Str × List Str × List Tr) × Gr) => [.ref C, .ref a.1.1, .ref a.1.2.1, .ref a.1.2.2]) fun a H Q _ => TxT K H a.1.1 a.2.1.1 ∧ RowsAt K H a.1.2.1 a.2.1.2.2 ∧ TxT K H a.1.2.2 a.2.1.2.1 ∧ Norm a.2.1.1 a.2.1.2.1 a.2.1.2.2 a.2.2 ∧ GOk a.2.2 ∧ ∀ x H', Same H H' → GraphAt K C H' x a.2.2 → Q (.ref x) H'
section
variable {gd : Bool} {P : Program} {w : World} {K : PySem.W.Frag} {mg : Str → Option Value} {base : Heap} {a : AdsG}
theorem ginit_body (T : GraphC K mg a) (g : Glob mg) (c_require_parts : Rd.Fn false P w K mg base CX0 5 "require_parts" (spReq K)) (c_states_of : Rd.Fn false P w K mg base CX0 1 "states_of" (spStates K)) (cdv : Value) (A : Around) (outer : List Env) (s : Shared) (H : Hp) (Q : VK) (E : XK) (vs : List V) (hr0 : Room 6 (A.deeper (PyProof.Rows.envOfC "Graph.__init__" (defScope s_Graph___init__) s.heap.objs.size a.fi cdv))) (h : spGInit K a.C vs H Q E) :
    ∃ t, PSs (cxOf CX0 P w K mg base ["self", "counters", "states", "transitions", "transition"] "Graph.__init__" (defScope s_Graph___init__) a.fi cdv A outer s H E) (defBody s_Graph___init__) t ∧ t { nx := fun _ H' => Q .non H', rt := Q } (start ["self", "counters", "states", "transitions", "transition"] vs) H := by
  obtain ⟨⟨⟨x, dx, pc, ps, pt⟩, ⟨cs0, ns0, ts0⟩, G⟩, rfl, h⟩ := h
  obtain ⟨hx, hC, hN, hT, NM, GO, k⟩ := h
  dsimp only at hx hC hN hT NM GO k
  have hr : Rd.RoomG false 6 _ := ⟨hr0, nofun⟩
  refine ⟨_, ((pss_cons (ps_expr (Rd.pe_fn c_require_parts (hr.mono (by decide)) (by rfl) (pa_cons (pv 1) (pa_cons (pv 3) (pa_cons (pv 2) pa_nil)))))
      (pss_cons (ps_fld (pv 0) (pe_callTy Rd.c_tuple (by rfl) g.tuple (by decide +kernel) (pa_cons (pe_callB (Rd.c_sortT rfl) (by rfl) g.sorted (by decide +kernel) (pa_cons (pe_callTy (Rd.c_setT rfl) (by rfl) g.set (by decide +kernel) (pa_cons (pv 1) pa_nil)) pa_nil)) pa_nil)) rfl)
      (pss_cons (ps_fld (pv 0) (Rd.pe_fn c_states_of (hr.mono (by decide)) (by rfl) (pa_cons (pv 3) (pa_cons (pv 2) pa_nil))) rfl)
      (pss_cons (ps_fld (pv 0) (pe_callTy Rd.c_tuple (by rfl) g.tuple (by decide +kernel) (pa_cons (pe_callB Rd.c_sortK (by rfl) g.sorted (by decide +kernel) (pa_cons (pv 3) pa_nil)) pa_nil)) rfl)
      (pss_cons (ps_fld (pv 0) (pe_callTy Rd.c_tuple (by rfl) g.tuple (by decide +kernel) (pa_cons (pe_lc (own := [("transition", 4)]) (by rfl) sc_Graph___init__.nd (pi_tup (pe_fld (pv 0) rfl)) (blkOk_by (own := [("transition", 4)]) (N := ["self", "counters", "states", "transitions", "transition"]) (sc := defScope s_Graph___init__) (by decide +kernel)) (fun _ _ _ _ _ => (pg_name (i := 4) sc_Graph___init__.nd rfl (Or.inl rfl))) (fun _ _ _ _ _ => pts_nil) (fun _ _ _ _ _ => (pe_ix (Rd.ix_tupK (K := K) (by rfl)) (pv 4) pe_int (fun _ _ => rfl)))) pa_nil)) rfl)
      (pss_one (ps_fld (pv 0) (pe_dc (own := [("transition", 4)]) (by rfl) sc_Graph___init__.nd (pi_tup (pe_fld (pv 0) rfl)) (blkOk_by (own := [("transition", 4)]) (N := ["self", "counters", "states", "transitions", "transition"]) (sc := defScope s_Graph___init__) (by decide +kernel)) (fun _ _ _ _ _ => (pg_name (i := 4) sc_Graph___init__.nd rfl (Or.inl rfl))) (fun _ _ _ _ _ => pts_nil) (fun _ _ _ _ _ => (pe_ix (Rd.ix_tupK (K := K) (by rfl)) (pv 4) pe_int (fun _ _ => rfl))) (fun _ _ _ _ _ => (pv 4))) rfl)))))))).nox, ?_⟩
  try simp only [Rd.noxK, Rd.cxK]
  refine Rd.rd_start [some (V.ref x), some (V.ref pc), some (V.ref ps), some (V.ref pt), none] rfl ?_
  walk_at "rd"
  refine Rd.rd_sp ((pc, pt, ps), (cs0, ns0, ts0), G) rfl ⟨hC, hT, hN, NM, GO, fun H1 s1 => ?_⟩
  have hC1 : SqT K H1 pc (cs0.map V.str) := Rd.Same.sqT s1 hC
  have lt : ts0.length ≤ 16 := by rw [← NM.tp.length_eq]; exact GO.t16
  walk_at "rd"
  refine Rd.rd_setT (.inl hC1) (by have := NM.cl; omega) fun z H2 hz s2 h2 => ?_
  have dl := ded_len GO.cA NM.cm
  have c5 := GO.c5
  walk_at "rd"
  refine Rd.rd_sortT (.inr h2) (by omega) fun ys p3 H3 py py2 hn3 s3 h3 => ?_
  have ey : ys = G.cs := (Rd.asc_of py2 (py.nodup_iff.mpr (Rd.nodup_dedT cs0))).eq GO.cA fun z => (py.mem_iff.trans Rd.mem_dedT).trans (NM.cm z).symm
  subst ey
  walk_at "rd"
  refine Rd.rd_tupleL (SqL.of h3) fun q1 H4 hn4 s4 h4 => ?_
  have s04 := ((s1.trans s2).trans s3).trans s4
  walk_at "rd"
  refine ⟨x, a.C, dx, [], rfl, s04 _ _ hx, T.cl, T.nC, by decide, ?_⟩
  generalize e5 : upd H4 x _ = H5
  have b5 : SameBut x H4 H5 := e5 ▸ SameBut.upd
  have hx5 : H5 x = some (.ins a.C dx [("own_counters", .ref q1)]) := by rw [← e5]; exact upd_same
  clear e5
  have b05 := (SameBut.of s04).trans b5
  have k05 : Kp H H5 := b05.kp hx rfl
  have hq1 : TxT K H5 q1 G.cs := TxT.kp (b5.kp (s04 _ _ hx) rfl) (SqT.of h4)
  walk_at "rd"
  refine Rd.rd_sp (pt, ps, ts0, ns0) rfl ⟨hT.kp k05, hN.kp k05, lt, NM.nl, fun q2 H6 ys s6 h6 ya ym => ?_⟩
  dsimp only at ym
  have ey : ys = G.ns := ya.eq GO.nA fun z => (ym z).trans (NM.nm z).symm
  subst ey
  walk_at "rd"
  refine ⟨x, a.C, dx, _, rfl, s6 _ _ hx5, T.cl, T.nS, by simp only [List.length_cons, List.length_nil]; decide, ?_⟩
  generalize e7 : upd H6 x _ = H7
  have b7 : SameBut x H6 H7 := e7 ▸ SameBut.upd
  have hx7 : H7 x = some (.ins a.C dx [("own_counters", .ref q1), ("own_states", .ref q2)]) := by rw [← e7]; exact upd_same
  clear e7
  have b57 := (SameBut.of s6).trans b7
  have k57 : Kp H5 H7 := b57.kp hx5 rfl
  have hq2 : TxT K H7 q2 G.ns := TxT.kp (b7.kp (s6 _ _ hx5) rfl) h6
  have hT7 := (hT.kp k05).kp k57
  obtain ⟨rs, hT7, hTP7⟩ := hT7
  have lr : ts0.length = rs.length := hTP7.length.symm
  walk_at "rd"
  have en : ((ts0.zip rs).map fun z => (z.1.nm, z.2)).map (fun z => V.ref z.2) = rs.map V.ref := by
    rw [List.map_map, ← zip_snd lr, List.map_map]
    simp only [Function.comp_def, zip_snd lr]
  have en1 : ((ts0.zip rs).map fun z => (z.1.nm, z.2)).map (fun z => z.1) = ts0.map (·.nm) := by
    rw [List.map_map, ← zip_fst lr, List.map_map]
    simp only [Function.comp_def, zip_fst lr]
  refine Rd.rd_sortK (zs := (ts0.zip rs).map fun z => (z.1.nm, z.2)) (.inl (by rw [en]; exact hT7)) (by rw [List.length_map, List.length_zip]; omega) (fun z hz => ?_) (by rw [en1]; exact (NM.tp.map (·.nm)).nodup_iff.mp GO.tA.nodup) fun ys p8 H8 py ya hn8 s8 h8 => ?_
  · obtain ⟨y, hy, rfl⟩ := List.mem_map.mp hz
    obtain ⟨c, hrow, _⟩ := paired_zip hTP7 y hy
    exact ⟨_, hrow⟩
  have hP7 := rows_sorted hTP7 NM.tp GO.tA py ya
  have e8 : (ys.map fun z => V.ref z.2) = (ys.map (·.2)).map V.ref := by rw [List.map_map]; rfl
  rw [e8] at h8
  generalize ys.map (·.2) = rs2 at h8 hP7
  walk_at "rd"
  refine Rd.rd_tupleL (SqL.of h8) fun q3 H9 hn9 s9 h9 => ?_
  walk_at "rd"
  have s79 := s8.trans s9
  refine ⟨x, a.C, dx, _, rfl, s79 _ _ hx7, T.cl, T.nT, by simp only [List.length_cons, List.length_nil]; decide, ?_⟩
  generalize e10 : upd H9 x _ = H10
  have b10 : SameBut x H9 H10 := e10 ▸ SameBut.upd
  have hx10 : H10 x = some (.ins a.C dx [("own_counters", .ref q1), ("own_states", .ref q2), ("own_transitions", .ref q3)]) := by rw [← e10]; exact upd_same
  clear e10
  have b710 := (SameBut.of s79).trans b10
  have k710 : Kp H7 H10 := b710.kp hx7 rfl
  have hq3 : SqT K H10 q3 (rs2.map V.ref) := (b10.kp (s79 _ _ hx7) rfl).sqT (SqT.of h9)
  have hP10 : Paired (RowAt K H10) rs2 G.ts := L2.Paired.mapP hP7 fun _ _ q => q.kp k710
  walk_at "rd"
  refine ⟨x, a.C, dx, _, V.ref q3, rfl, hx10, T.cl, T.nT, rfl, ?_⟩
  walk_at "rd"
  have t16 := GO.t16
  refine lc_rows (fun t => V.str t.nm) (by omega) hq3 hP10 (fun t r H11 M ht s11 hr11 hM => ?_) (fun D H11 hD s11 h11 => ?_)
  · obtain ⟨c, hrow, _⟩ := hr11
    refine Rd.rd_start' [some (V.ref x), some (V.ref pc), some (V.ref ps), some (V.ref pt), none] rfl ?_
    walk_at "rd"
    refine ⟨rfl, ?_⟩
    walk_at "rd"
    exact hM _ (Same.refl _)
  walk_at "rd"
  refine Rd.rd_tupleL (SqL.of h11) fun q4 H12 hn12 s12 h12 => ?_
  have e1 : G.ts.map (fun t => V.str t.nm) = (G.ts.map (·.nm)).map V.str := by rw [List.map_map]; rfl
  rw [e1] at h12
  have s1012 := s11.trans s12
  walk_at "rd"
  refine ⟨x, a.C, dx, _, rfl, s1012 _ _ hx10, T.cl, T.nN, by simp only [List.length_cons, List.length_nil]; decide, ?_⟩
  generalize e13 : upd H12 x _ = H13
  have b13 : SameBut x H12 H13 := e13 ▸ SameBut.upd
  have hx13 : H13 x = some (.ins a.C dx [("own_counters", .ref q1), ("own_states", .ref q2), ("own_transitions", .ref q3), ("own_names", .ref q4)]) := by rw [← e13]; exact upd_same
  clear e13
  have b1013 := (SameBut.of s1012).trans b13
  have k1013 : Kp H10 H13 := b1013.kp hx10 rfl
  have hq4 : TxT K H13 q4 (G.ts.map (·.nm)) := TxT.kp (b13.kp (s1012 _ _ hx10) rfl) (SqT.of h12)
  have hP13 : Paired (RowAt K H13) rs2 G.ts := L2.Paired.mapP hP10 fun _ _ q => q.kp k1013
  have hq3' : SqT K H13 q3 (rs2.map V.ref) := k1013.sqT hq3
  walk_at "rd"
  refine ⟨x, a.C, dx, _, V.ref q3, rfl, hx13, T.cl, T.nT, rfl, ?_⟩
  walk_at "rd"
  refine dc_rows GO.tA.nodup (by omega) hq3' hP13 (fun t r H14 N ht s14 hr14 hN => ?_) (fun D H14 hD s14 h14 => ?_)
  · obtain ⟨c, hrow, _⟩ := hr14
    refine Rd.rd_start' [some (V.ref x), some (V.ref pc), some (V.ref ps), some (V.ref pt), none] rfl ?_
    walk_at "rd"
    refine ⟨rfl, ?_⟩
    walk_at "rd"
    exact hN _ (Same.refl _)
  walk_at "rd"
  refine ⟨x, a.C, dx, _, rfl, s14 _ _ hx13, T.cl, T.nR, by simp only [List.length_cons, List.length_nil]; decide, ?_⟩
  generalize e15 : upd H14 x _ = H15
  have b15 : SameBut x H14 H15 := e15 ▸ SameBut.upd
  have hx15 : H15 x = some (.ins a.C dx (flds q1 q2 q3 q4 D)) := by rw [← e15]; exact upd_same
  clear e15
  have b1315 := (SameBut.of s14).trans b15
  have k1315 : Kp H13 H15 := b1315.kp hx13 rfl
  have hDx : D ≠ x := fun z => by rw [z, hx13] at hD; cases hD
  walk_at "rd"
  refine k H15 ((((b05.trans b57).trans b710).trans b1013).trans b1315) ⟨dx, q1, q2, q3, q4, D, rs2, hx15, ?_⟩
  exact ⟨hq1.kp (k57.trans (k710.trans (k1013.trans k1315))), hq2.kp (k710.trans (k1013.trans k1315)), k1315.sqT hq3', L2.Paired.mapP hP13 fun _ _ q => q.kp k1315, hq4.kp k1315, b15 _ _ hDx h14⟩
theorem ok_ginit (T : GraphC K mg a) (hi : Rd.HasAt K a.fi "__init__" "Graph.__init__" s_Graph___init__) (g : Glob mg) (c_require_parts : Rd.Fn false P w K mg base CX0 5 "require_parts" (spReq K)) (c_states_of : Rd.Fn false P w K mg base CX0 1 "states_of" (spStates K)) : Rd.FnK P w K mg base CX0 7 a.fi "states" (Rd.spStarK (spGInit K a.C)) :=
  hi.starK sc_Graph___init__ StX.cxUp_none (fun _ _ _ _ _ _ _ _ _ rest => match rest with | [] => rfl | _ :: _ => rfl) (ginit_body T g c_require_parts c_states_of)
/-- Graph(cs, *rows, states = ns) -/
theorem make_graph {C pc ps : Addr} {H : Hp} {Q : VK} {rs : List Addr} {cs0 ns0 : List Str} {ts0 : List Tr} {G : Gr} {NM : Norm cs0 ns0 ts0 G} {GO : GOk G} (hC : TxT K H pc cs0) (hN : TxT K H ps ns0) (hP : Paired (RowAt K H) rs ts0) (q : ∀ x H', Same H H' → GraphAt K C H' x G → Q (.ref x) H') (x dx : Addr) (hx : H x = none) (hdx : H dx = none) (hne : dx ≠ x) :
    Rd.spStarK (spGInit K C) (.ref ps :: .ref x :: .ref pc :: rs.map V.ref) (upd (upd H dx (.own x)) x (.ins C dx [])) (fun v H2 => v = .non ∧ Q (.ref x) H2) E0 := by
  have s0 : Same H (upd (upd H dx (.own x)) x (.ins C dx [])) := fun b o e => by
    rw [upd_ne (ne_of_none e hx), upd_ne (ne_of_none e hdx)]
    exact e
  have lt : rs.length ≤ 16 := by rw [hP.length, ← NM.tp.length_eq]; exact GO.t16
  refine ⟨.ref ps, .ref x, .ref pc, rs.map V.ref, rfl, by rw [List.length_map]; exact Rd.small64 (by omega), fun p H1 hp s1 h1 => ?_⟩
  have s01 := s0.trans s1
  refine Rd.rd_sp ((x, dx, pc, ps, p), (cs0, ns0, ts0), G) rfl ⟨s1 _ _ upd_same, hC.kp (kpS s01), hN.kp (kpS s01), ⟨rs, SqT.of h1, L2.Paired.mapP hP fun _ _ q => q.kp (kpS s01)⟩, NM, GO, fun H2 b2 h2 => ⟨rfl, ?_⟩⟩
  exact q x H2 (fun b o e => b2 b o (ne_of_none e hx) (s01 _ _ e)) h2
theorem ok_gof (T : GraphC K mg a) (ho : Rd.HasAtD K a.fo "of" "Graph.of" s_Graph_of) (g : Glob mg) (c_require_parts : Rd.Fn false P w K mg base CX0 5 "require_parts" (spReq K)) (c_Graph : Rd.FnK P w K mg base CX0 7 a.fi "states" (Rd.spStarK (spGInit K a.C))) : FnR P w K mg base CX0 9 a.fo (spGOf K a.C) := by
  refine Rd.FnG.toR (ho.fn (gd := false) sc_Graph_of (fun _ => rfl) (fun _ _ _ _ _ _ _ us hl => match us, hl with | [_, _, _, _], _ => ⟨_, rfl, fun its h => ?_⟩) fun cdv A outer s H Q E b hr h => ?_)
  · match its, h with | ⟨[_]⟩, _ => rfl
  obtain ⟨⟨pc, pt, ps⟩, ⟨cs0, ns0, ts0⟩, G⟩ := b
  obtain ⟨hC, hT, hN, NM, GO, k⟩ := h
  dsimp only at hC hT hN NM GO k
  refine ⟨_, (pss_cons (ps_expr (Rd.pe_fn c_require_parts (hr.mono (by decide)) (by rfl) (pa_cons (pv 1) (pa_cons (pv 2) (pa_cons (pv 3) pa_nil)))))
      (pss_one (ps_ret (Rd.pe_mkSK (i := 0) T.mk_ c_Graph (hr.mono (by decide)).toRoom pass0 (by rfl) (Or.inl rfl) (pa_cons (pv 1) (StX.pa_star (pv 2) pa_nil)) (pv 3))))), ?_⟩
  try simp only [Rd.noxK, Rd.cxK]
  refine Rd.rd_start [some (V.ref a.C), some (V.ref pc), some (V.ref pt), some (V.ref ps)] rfl ?_
  walk_at "rd"
  refine Rd.rd_sp ((pc, pt, ps), (cs0, ns0, ts0), G) rfl ⟨hC, hT, hN, NM, GO, fun H1 s1 => ?_⟩
  have hT1 := hT.kp (kpS s1)
  obtain ⟨rs, hT1, hTP1⟩ := hT1
  walk_at "rd"
  refine Rd.rd_mkSK rfl ?_
  walk_at "rd"
  refine ⟨pt, _, rfl, .inl hT1, ?_⟩
  walk_at "rd"
  rw [List.append_nil]
  refine ⟨_, rfl, ?_⟩
  exact make_graph (NM := NM) (GO := GO) (hC.kp (kpS s1)) (hN.kp (kpS s1)) hTP1 fun x H2 s2 h2 => k x H2 (s1.trans s2) h2
end
end M
set_option Elab.async false
set_option linter.all false
set_option maxRecDepth 100000
set_option maxHeartbeats 4000000
namespace M
open PySem L2
local macro_rules | `(tactic| walk_at "rdc") => `(tactic| first | exact Or.inl ⟨by decide, by decide⟩ | exact Or.inr ⟨by decide, by decide⟩ | exact ⟨by decide, by decide, by decide⟩ | exact ⟨by decide, by decide⟩ | decide | omega | assumption | (refine Or.inl ⟨?_, ?_⟩ <;> omega) | (refine Or.inr ⟨?_, ?_⟩ <;> omega) | (refine ⟨?_, ?_⟩ <;> omega))
local macro_rules | `(tactic| walk_at "rd1") => `(tactic| with_reducible first
  | refine Rd.rd_seq ?_ | refine Rd.rd_asg ?_ | refine Rd.rd_op ?_ | (refine' Rd.rd_var ?vh ?_; (case vh => with_unfolding_all rfl)) | refine Rd.rd_c ?_ | refine Rd.rd_I0 ?_ | refine Rd.rd_name0 ?_ | refine Rd.rd_nameS ?_ | refine Rd.rd_fn ?_
  | refine Rd.rd_cb ?_ | refine Rd.rd_cons ?_ | refine Rd.rd_nil ?_ | refine Rd.rd_int ?_ | refine Rd.rd_intB ?_ | refine Rd.rd_abs ?_ | refine Rd.rd_max2 ?_ | refine Rd.rd_min2 ?_
  | refine Rd.rd_call ?_ | refine Rd.rd_ifE ?_ | refine Rd.rd_test ?_ | refine Rd.rd_tB ?_ | refine Rd.rd_blV ?_ | refine Rd.rd_and ?_ | refine Rd.rd_or ?_ | refine Rd.rd_not ?_
  | refine Rd.rd_andV ?_ | refine Rd.rd_orV ?_ | refine Rd.rd_notV ?_ | refine Rd.rd_next ?_ | refine Rd.rd_ret ?_ | refine Rd.rd_drop ?_ | refine Rd.rd_ifS ?_ | refine Rd.rd_nx ?_ | refine Rd.rd_rt ?_ | refine Rd.rd_tMatch ?_ | refine Rd.rd_tCO ?_ | refine Rd.rd_tRevL ?_ | refine Rd.rd_tStar ?_ | refine Rd.rd_joined ?_ | refine Rd.rd_js1 ?_ | refine Rd.rd_js0 ?_ | refine Rd.rd_fmt ?_ | refine Rd.rd_propR ?_ | refine Rd.rd_iZipA ?_ | refine Rd.rd_iEnumT ?_ | refine Rd.rd_iOwn ?_ | (refine' Rd.rd_IET ?ln ?_; (case ln => with_unfolding_all walk_at "at")) | refine Rd.rd_chain ?_ | refine Rd.rd_tPar ?_ | refine Rd.rd_par ?_ | refine Rd.rd_sl ?_ | refine Rd.rd_noPart ?_ | refine Rd.rd_part ?_ | refine Rd.rd_intV ?_ | refine Rd.rd_lc ?_ | (refine' Rd.rd_aug ?vh ?_; (case vh => with_unfolding_all rfl)) | refine Rd.rd_ipI ?_ | refine Rd.rd_for ?_ | (refine' Rd.rd_IT ?ln ?_; (case ln => with_unfolding_all walk_at "at")) | (refine' Rd.rd_IL ?ln ?_; (case ln => with_unfolding_all walk_at "at")) | refine Rd.rd_iTup ?_ | refine Rd.rd_iList ?_ | refine Rd.rd_iRng1 ?_ | refine Rd.rd_iRng2 ?_ | refine Rd.rd_isi (Rd.isi_int Rd.kk_int_int) ?_ | refine Rd.rd_isi (Rd.isi_int Rd.kk_int_bool) ?_ | refine Rd.rd_dget ?_ | refine Rd.rd_din ?_ | refine Rd.rd_dnotin ?_ | refine Rd.rd_dput ?_ | refine Rd.rd_dc ?_ | refine Rd.rd_lc2 ?_ | refine Rd.rd_ltS ?_ | refine Rd.rd_inSg ?_ | refine Rd.rd_iStr ?_ | refine Rd.rd_IS ?_ | refine Rd.rd_prC ?_ | refine Rd.rd_prN ?_ | refine Rd.rd_methR ?_ | refine Rd.rd_cmeth ?_ | refine Rd.rd_fldS ?_ | refine Rd.rd_fld ?_ | (refine' Rd.rd_mkVS ?vh ?_; (case vh => with_unfolding_all rfl)) | (refine' Rd.rd_starT ?ln ?_; (case ln => with_unfolding_all walk_at "at")) | refine Rd.rd_iEnum ?_ | refine Rd.rd_iZip ?_ | (refine' Rd.rd_IE ?ln ?_; (case ln => with_unfolding_all walk_at "at")) | (refine' Rd.rd_IZ ?ln ?lm ?_; (case ln => with_unfolding_all walk_at "at"); (case lm => with_unfolding_all walk_at "at")) | (refine' Rd.rd_gTup ?ln ?lk ?_; (case ln => with_unfolding_all walk_at "at"); (case lk => with_unfolding_all rfl)) | refine Rd.rd_gCons ?_ | refine Rd.rd_gNil ?_ | refine Rd.rd_m1 ?_ | refine Rd.rd_strV ?_ | refine Rd.rd_tXiM ?_ | refine Rd.rd_tXiB ?_ | refine Rd.rd_tXiS ?_ | refine Rd.rd_bm ?_ | refine Rd.rd_bm0 ?_ | refine Rd.rd_isN ?_ | refine Rd.rd_notN ?_ | refine Rd.rd_sub ?_ | refine Rd.rd_un ?_ | refine Rd.rd_U ?_
  | (refine' Rd.rd_eq ?sc ?_; (case sc => with_unfolding_all rfl)) | (refine' Rd.rd_ne ?sc ?_; (case sc => with_unfolding_all rfl))
  | (refine' Rd.rd_I ?cc ?_; (case cc => with_unfolding_all walk_at "rdc"))
  | (refine' Rd.rd_lenL ?ln ?_; (case ln => with_unfolding_all walk_at "at")) | (refine' Rd.rd_lenT ?ln ?_; (case ln => with_unfolding_all walk_at "at"))
  | (refine' Rd.rd_ixL ?ln ?ia ?_; (case ln => with_unfolding_all walk_at "at"); (case ia => with_unfolding_all first | exact Rd.at0 | exact Rd.at1 | exact Rd.at2 | exact Rd.at3 | exact Rd.at4 | rfl)) | (refine' Rd.rd_ixT ?ln ?ia ?_; (case ln => with_unfolding_all walk_at "at"); (case ia => with_unfolding_all first | exact Rd.at0 | exact Rd.at1 | exact Rd.at2 | exact Rd.at3 | exact Rd.at4 | rfl)))
local macro_rules | `(tactic| walk_at "at") => `(tactic| first | assumption | (apply SqL.of; assumption) | (apply SqT.of; assumption) | (apply SqL.of; exact upd_same) | (apply SqT.of; exact upd_same))
local macro_rules | `(tactic| walk_at "rd") => `(tactic| repeat walk_at "rd1")
/-! ### rows as data; the methods of Graph -/
def chgP (kv : Str × Int) : PyData := .tuple [.str kv.1, .int kv.2]
def trP (t : Tr) : PyData := .tuple [.str t.nm, .str t.src, .str t.tgt, .tuple (t.chg.map chgP)]
section
variable {K : PySem.W.Frag} {H : Hp}
theorem dt_paired {β : Type} {F : Addr → β → Prop} {f : β → PyData} (h : ∀ a b, F a b → Rd.Dt K H (.ref a) (f b)) : ∀ {l : List Addr} {m : List β}, Paired F l m → Rd.DtAll K H (l.map V.ref) (m.map f)
  | _, _, .nil => .nil
  | _, _, .cons r t => .cons (h _ _ r) (dt_paired h t)
theorem dt_strs : ∀ l : List Str, Rd.DtAll K H (l.map V.str) (l.map PyData.str)
  | [] => .nil
  | x :: l => .cons (.str x) (dt_strs l)
theorem TxT.dt {p : Addr} {xs : List Str} (h : TxT K H p xs) : Rd.Dt K H (.ref p) (.tuple (xs.map PyData.str)) := .tup h (dt_strs xs)
theorem ChgAt.dt {c : Addr} {chg : List (Str × Int)} (h : ChgAt K H c chg) : Rd.Dt K H (.ref c) (.tuple (chg.map chgP)) := by
  obtain ⟨ps, h1, h2⟩ := h
  exact .tup h1.sq (dt_paired (fun a b q => show Rd.Dt K H (.ref a) (.tuple [.str b.1, .int b.2]) from .tup q (.cons (.str _) (.cons (.int _) .nil))) h2)
theorem RowAt.dt {p : Addr} {t : Tr} (h : RowAt K H p t) : Rd.Dt K H (.ref p) (trP t) := by
  obtain ⟨c, h1, h2⟩ := h
  exact .tup h1 (.cons (.str _) (.cons (.str _) (.cons (.str _) (.cons h2.dt .nil))))
theorem RowsAt.dt {p : Addr} {ts : List Tr} (h : RowsAt K H p ts) : Rd.Dt K H (.ref p) (.tuple (ts.map trP)) := by
  obtain ⟨ps, h1, h2⟩ := h
  exact .tup h1 (dt_paired (fun a b q => q.dt) h2)
end
theorem can_all {β : Type} (f : β → PyData) (n : Nat) : ∀ l : List β, (∀ b ∈ l, PyData.canLay0 (f b) = true ∧ (f b).depth ≤ n) → PyData.canLayAll0 (l.map f) = true ∧ PyData.depthAll (l.map f) ≤ n
  | [], _ => ⟨rfl, Nat.zero_le _⟩
  | b :: l, h => by
    obtain ⟨i1, i2⟩ := can_all f n l fun y hy => h y (List.mem_cons_of_mem _ hy)
    obtain ⟨j1, j2⟩ := h b List.mem_cons_self
    refine ⟨?_, ?_⟩
    · show (PyData.canLay0 (f b) && PyData.canLayAll0 (l.map f)) = true
      rw [j1, i1]; rfl
    · exact Nat.max_le.mpr ⟨j2, i2⟩
theorem can_tup {β : Type} (f : β → PyData) (n : Nat) {l : List β} (h : ∀ b ∈ l, PyData.canLay0 (f b) = true ∧ (f b).depth ≤ n) : PyData.canLay0 (.tuple (l.map f)) = true ∧ PyData.depth (.tuple (l.map f)) ≤ n + 1 :=
  let ⟨h1, h2⟩ := can_all f n l h
  ⟨h1, Nat.succ_le_succ h2⟩
theorem can_strs {l : List Str} (h : ∀ x ∈ l, isName x = true) : PyData.canLay0 (.tuple (l.map PyData.str)) = true ∧ PyData.depth (.tuple (l.map PyData.str)) ≤ 1 := can_tup PyData.str 0 fun x hx => ⟨name_ok (h x hx), Nat.le_refl _⟩
theorem can_chg {chg : List (Str × Int)} (h : ChgOk chg) : PyData.canLay0 (.tuple (chg.map chgP)) = true ∧ PyData.depth (.tuple (chg.map chgP)) ≤ 2 := can_tup chgP 1 fun kv hkv => ⟨by
  show (PyData.strOk kv.1 && (true && true)) = true
  rw [name_ok (h.2 kv hkv).1]; rfl, Nat.le_refl _⟩
theorem can_tr {t : Tr} (h : TrOk t) : PyData.canLay0 (trP t) = true ∧ (trP t).depth ≤ 3 := by
  obtain ⟨h1, h2, h3, h4, _⟩ := h
  obtain ⟨c1, c2⟩ := can_chg h4
  refine ⟨?_, ?_⟩
  · show (PyData.strOk t.nm && (PyData.strOk t.src && (PyData.strOk t.tgt && (PyData.canLay0 (.tuple (t.chg.map chgP)) && true)))) = true
    rw [name_ok h1, name_ok h2, name_ok h3, c1]; rfl
  · show max 0 (max 0 (max 0 (max (PyData.depth (.tuple (t.chg.map chgP))) 0))) + 1 ≤ 3
    omega
theorem can_rows {ts : List Tr} (h : ∀ t ∈ ts, TrOk t) : PyData.canLay0 (.tuple (ts.map trP)) = true ∧ PyData.depth (.tuple (ts.map trP)) ≤ 4 := can_tup trP 3 fun t ht => can_tr (h t ht)
theorem shaped_of {d : PyData} {n : Nat} (h : d.canLay0 = true ∧ d.depth ≤ n) (hn : n ≤ 64) : SeqAt.shaped d = true := by
  unfold SeqAt.shaped
  rw [h.1, decide_eq_true (Nat.le_trans h.2 hn)]; rfl
theorem val_rows {K : PySem.W.Frag} {H : Hp} : ∀ {rs : List Addr} {ts : List Tr}, Paired (RowAt K H) rs ts → (ts.map (·.nm)).Nodup → ∀ t ∈ ts, ∃ r, valV (rowsD ts rs) (Sum.inr t.nm : Key) = some (V.ref r) ∧ RowAt K H r t
  | _, _, .nil, _, t, h => nomatch h
  | r :: rs, t0 :: ts, .cons q p, nd, t, h => by
    obtain ⟨n1, n2⟩ := List.nodup_cons.mp nd
    by_cases e : t0.nm = t.nm
    · rcases List.mem_cons.mp h with z | z
      · subst z
        exact ⟨r, by unfold valV rowsD; rw [List.zip_cons_cons, List.map_cons, List.find?_cons_of_pos (by simp)]; rfl, q⟩
      · exact absurd (List.mem_map.mpr ⟨t, z, e.symm⟩) n1
    · rcases List.mem_cons.mp h with z | z
      · exact absurd (congrArg Tr.nm z).symm e
      · obtain ⟨r', h1, h2⟩ := val_rows p n2 t z
        refine ⟨r', ?_, h2⟩
        unfold valV rowsD
        rw [List.zip_cons_cons, List.map_cons, List.find?_cons_of_neg (by simpa using e)]
        exact h1
/-- what change answers -/
def chgK (chg : List (Str × Int)) : List (Key × V) := chg.map fun kv => (Sum.inr kv.1, V.int kv.2)
def zeros (cs : List Str) : List (Key × V) := cs.map fun c => (Sum.inr c, V.int 0)
def chgD (cs : List Str) (chg : List (Str × Int)) : List (Key × V) := mergeK (zeros cs) (chgK chg)
theorem paired_chgK {K : PySem.W.Frag} {H : Hp} : ∀ {cs : List Addr} {chg : List (Str × Int)}, Paired (PairAt K H) cs chg → Paired (fun p (kv : Key × V) => SqT K H p [kV kv.1, kv.2]) cs (chgK chg)
  | _, _, .nil => .nil
  | _, _, .cons r t => .cons r (paired_chgK t)
theorem nodup_zeros {cs : List Str} (h : cs.Nodup) : mergeK [] (zeros cs) = zeros cs := by
  have e : (zeros cs).map (·.1) = cs.map Sum.inr := by unfold zeros; rw [List.map_map]; rfl
  rw [Rd.merge_nodup _ _ (by rw [List.nil_append, e]; exact h.map _ fun a b h q => h (Sum.inr.inj q)), List.nil_append]
theorem nodup_chgK {chg : List (Str × Int)} (h : ChgOk chg) : mergeK [] (chgK chg) = chgK chg := by
  have e : (chgK chg).map (·.1) = (chg.map (·.1)).map Sum.inr := by unfold chgK; rw [List.map_map, List.map_map]; rfl
  rw [Rd.merge_nodup _ _ (by rw [List.nil_append, e]; exact h.1.nodup.map _ fun a b h q => h (Sum.inr.inj q)), List.nil_append]
def keyS (v : V) : Key := match v with | .str c => Sum.inr c | _ => Sum.inl 0
theorem map_keyS (cs : List Str) : (cs.map V.str).map (fun x => (keyS x, V.int 0)) = zeros cs := by unfold zeros; rw [List.map_map]; rfl
def spKnown (K : PySem.W.Frag) : Sp := Rd.mkSp (fun (a : Addr × List Str × Str) => [.ref a.1, .str a.2.2]) fun a H Q _ => TxT K H a.1 a.2.1 ∧ a.2.2 ∈ a.2.1 ∧ Q .non H
def spGGet (K : PySem.W.Frag) (C : Addr) : Sp := Rd.mkSp (fun (a : Addr × Gr × Tr) => [.ref a.1, .str a.2.2.nm]) fun a H Q _ => GraphAt K C H a.1 a.2.1 ∧ GOk a.2.1 ∧ a.2.2 ∈ a.2.1.ts ∧ ∀ r, RowAt K H r a.2.2 → Q (.ref r) H
def spGChg (K : PySem.W.Frag) (C : Addr) : Sp := Rd.mkSp (fun (a : Addr × Gr × Tr) => [.ref a.1, .str a.2.2.nm]) fun a H Q _ => GraphAt K C H a.1 a.2.1 ∧ GOk a.2.1 ∧ a.2.2 ∈ a.2.1.ts ∧ ∀ D H', H D = none → Same H H' → H' D = some (.dK (chgD a.2.1.cs a.2.2.chg)) → Q (.ref D) H'
def spLeav (K : PySem.W.Frag) (C : Addr) (f : Tr → Str) : Sp := Rd.mkSp (fun (a : Addr × Gr × Str) => [.ref a.1, .str a.2.2]) fun a H Q _ => GraphAt K C H a.1 a.2.1 ∧ GOk a.2.1 ∧ a.2.2 ∈ a.2.1.ns ∧ ∀ p H', Same H H' → TxT K H' p ((a.2.1.ts.filter fun t => decide (f t = a.2.2)).map (·.nm)) → Q (.ref p) H'
def spGNames (K : PySem.W.Frag) (C : Addr) : Sp := Rd.mkSp (fun (a : Addr × Gr) => [.ref a.1]) fun a H Q _ => GraphAt K C H a.1 a.2 ∧ ∀ p, TxT K H p (a.2.ts.map (·.nm)) → Q (.ref p) H
def spGTrans (K : PySem.W.Frag) (C : Addr) : Sp := Rd.mkSp (fun (a : Addr × Gr) => [.ref a.1]) fun a H Q _ => GraphAt K C H a.1 a.2 ∧ ∀ p, RowsAt K H p a.2.ts → Q (.ref p) H
def spGEq (K : PySem.W.Frag) (C : Addr) : Sp := Rd.mkSp (fun (a : Addr × Addr × Gr) => [.ref a.1, .ref a.2.1]) fun a H Q _ => GraphAt K C H a.1 a.2.2 ∧ GraphAt K C H a.2.1 a.2.2 ∧ GOk a.2.2 ∧ Q (.bl true) H
section
variable {gd : Bool} {P : Program} {w : World} {K : PySem.W.Frag} {mg : Str → Option Value} {base : Heap} {a : AdsG}
theorem ok_known (F : Rd.Has K mg "require_known" s_require_known) (g : Glob mg) : Rd.Fn gd P w K mg base CX0 1 "require_known" (spKnown K) := by
  refine F.fn sc_require_known (fun _ => rfl) (fun _ _ _ _ _ _ us hl => match us, hl with | [_, _], _ => rfl) fun f cdv A outer s H Q E b hr h => ?_
  obtain ⟨p, xs, x⟩ := b
  obtain ⟨hS, hm, k⟩ := h
  dsimp only at hS hm k
  refine ⟨_, (pss_one (ps_if (PW.pt (pw_or (pt_not (pt_val (pe_callB Rd.c_isi (by rfl) g.isinstance (by decide +kernel) (pa_cons (pv 1) (pa_cons (pe_bltn (v := .ty "str") (by rfl) g.str (by decide +kernel) rfl) pa_nil))))) (pw_or1 (pt_cmpR op_notIn_seq (pv 1) (pv 0) (by rfl))))) (pss_one ps_never) pss_nil)), ?_⟩
  try simp only [Rd.noxK, Rd.cxK]
  refine Rd.rd_start [some (V.ref p), some (V.str x)] rfl ?_
  walk_at "rd"
  refine Rd.rd_isi (Rd.isi_str (b := true) (by decide +kernel)) ?_
  walk_at "rd"
  refine Rd.if_f rfl ?_
  walk_at "rd"
  refine Rd.rd_inTx (.inl hS) ?_
  rw [if_pos rfl, decide_eq_true hm]
  walk_at "rd"
  refine Rd.if_f rfl ?_
  walk_at "rd"
  exact k
theorem ok_gget (T : GraphC K mg a) (g : Glob mg) (F : Rd.HasAt K a.gi "__getitem__" "Graph.__getitem__" s_Graph___getitem__) (c_require_known : Rd.Fn false P w K mg base CX0 1 "require_known" (spKnown K)) : FnR P w K mg base CX0 2 a.gi (spGGet K a.C) := by
  refine Rd.FnG.toR (F.fn sc_Graph___getitem__ (fun _ => rfl) (fun _ _ _ _ _ _ us hl => match us, hl with | [_, _], _ => rfl) fun cdv A outer s H Q E b hr h => ?_)
  obtain ⟨x, G, t⟩ := b
  obtain ⟨⟨dx, pc, ps, pt, pn, pr, rs, hx, hG⟩, GO, ht, k⟩ := h
  dsimp only at hx hG ht k GO
  refine ⟨_, (pss_cons (ps_expr (Rd.pe_fn c_require_known (hr.mono (by decide)) (by rfl) (pa_cons (pe_fld (pv 0) rfl) (pa_cons (pv 1) pa_nil))))
      (pss_one (ps_ret (pe_dget (hu_of hr.toRoom) (pe_fld (pv 0) rfl) (pv 1) (fun _ _ => rfl))))), ?_⟩
  try simp only [Rd.noxK, Rd.cxK]
  refine Rd.rd_start [some (V.ref x), some (V.str t.nm)] rfl ?_
  walk_at "rd"
  refine ⟨x, a.C, dx, _, V.ref pn, rfl, hx, T.cl, T.nN, rfl, ?_⟩
  walk_at "rd"
  refine Rd.rd_sp (pn, G.ts.map (·.nm), t.nm) rfl ⟨hG.n, List.mem_map.mpr ⟨t, ht, rfl⟩, ?_⟩
  walk_at "rd"
  refine ⟨x, a.C, dx, _, V.ref pr, rfl, hx, T.cl, T.nR, rfl, ?_⟩
  walk_at "rd"
  obtain ⟨r, hv, hrow⟩ := val_rows hG.tP GO.tA.nodup t ht
  exact ⟨pr, V.ref r, rfl, hv ▸ Rd.dg_s hG.r, k r hrow⟩
theorem ok_gchange (T : GraphC K mg a) (g : Glob mg) (F : Rd.HasAt K a.ch "change" "Graph.change" s_Graph_change) (c_get : FnR P w K mg base CX0 2 a.gi (spGGet K a.C)) : FnR P w K mg base CX0 4 a.ch (spGChg K a.C) := by
  refine Rd.FnG.toR (F.fn sc_Graph_change (fun _ => rfl) (fun _ _ _ _ _ _ us hl => match us, hl with | [_, _], _ => rfl) fun cdv A outer s H Q E b hr h => ?_)
  obtain ⟨x, G, t⟩ := b
  obtain ⟨hGA, GO, ht, k⟩ := h
  have hGA' := hGA
  obtain ⟨dx, pc, ps, pt, pn, pr, rs, hx, hG⟩ := hGA
  dsimp only at hx hG ht k GO hGA'
  have hC : SqT K H pc (G.cs.map V.str) := hG.c
  refine ⟨_, (pss_cons (Rd.ps_setDc (i := 2) (own := [("counter", 3)]) (by rfl) sc_Graph_change.nd rfl rfl (Rd.sw_trueD rfl rfl rfl (by decide +kernel)) (pi_tup (pe_fld (pv 0) rfl)) (blkOk_by (own := [("counter", 3)]) (N := ["self", "name", "found", "counter"]) (sc := defScope s_Graph_change) (by decide +kernel)) (fun _ _ _ _ _ => (pg_name (i := 3) sc_Graph_change.nd rfl (Or.inl rfl))) (fun _ _ _ _ _ => pts_nil) (fun _ _ _ _ _ => (pv 3)) (fun _ _ _ _ _ => pe_int))
      (pss_cons (ps_expr (pe_bm PySem.F.plainAttrs_dict PySem.F.slot_dict_update PySem.F.type_dict_update Rd.mt_upd (pv 2) (pa_cons (pe_callTy (Rd.c_dictT rfl) (by rfl) g.dict (by decide +kernel) (pa_cons (pe_ix ix_tup (Rd.pe_ixO T.gi T.gif T.gin c_get (hr.mono (by decide)).toRoom pass0 (pv 0) (pv 1) (fun _ _ => rfl)) pe_int (fun _ _ => rfl)) pa_nil)) pa_nil)))
      (pss_one (ps_ret (pv 2))))), ?_⟩
  try simp only [Rd.noxK, Rd.cxK]
  refine Rd.rd_start [some (V.ref x), some (V.str t.nm), none, none] rfl ?_
  walk_at "rd"
  refine ⟨x, a.C, dx, _, V.ref pc, rfl, hx, T.cl, T.nC, rfl, ?_⟩
  walk_at "rd"
  refine Rd.dc_tup' (K := K) keyS (fun _ => V.int 0) (by rw [List.length_map]; have := GO.c5; omega) hC (fun v H1 N hv s1 hN => ?_) (fun D H1 hD s1 h1 => ?_)
  · obtain ⟨c, hc, rfl⟩ := List.mem_map.mp hv
    refine Rd.rd_start' [some (V.ref x), some (V.str t.nm), none, none] rfl ?_
    walk_at "rd"
    refine ⟨rfl, ?_⟩
    walk_at "rd"
    exact hN _ (Same.refl _)
  rw [map_keyS, nodup_zeros GO.cA.nodup] at h1
  walk_at "rd"
  refine ⟨Rd.tyD h1, ?_⟩
  walk_at "rd"
  refine ⟨x, dx, _, rfl, s1 _ _ hx, ?_⟩
  refine Rd.rd_sp (x, G, t) rfl ⟨hGA'.same s1, GO, ht, fun r hrow => ?_⟩
  obtain ⟨c, hrow, cs, hcF, hcP⟩ := hrow
  walk_at "rd"
  refine Rd.rd_dictT (kvs := chgK t.chg) hcF ?_ fun D2 H2 hD2 s2 h2 => ?_
  · exact paired_chgK hcP
  rw [nodup_chgK (GO.tO t ht).2.2.2.1] at h2
  walk_at "rd"
  refine Rd.rd_upd (ne_of_none h1 hD2) (s2 _ _ h1) h2 (Rd.small64 ?_) ?_
  · unfold zeros chgK
    rw [List.length_map, List.length_map]
    have h5 := GO.c5
    have h6 : t.chg.length ≤ 5 := (GO.tO t ht).2.2.2.2
    omega
  walk_at "rd"
  refine k D _ hD (fun b o e => ?_) upd_same
  rw [upd_ne (ne_of_none e hD)]
  exact s2 _ _ (s1 _ _ e)
theorem ok_gnames (T : GraphC K mg a) (F : Rd.HasAt K a.gn "names" "Graph.names" s_Graph_names) : FnR P w K mg base CX0 1 a.gn (spGNames K a.C) := by
  refine Rd.FnG.toR (F.fn sc_Graph_names (fun _ => rfl) (fun _ _ _ _ _ _ us hl => match us, hl with | [_], _ => rfl) fun cdv A outer s H Q E b hr h => ?_)
  obtain ⟨x, G⟩ := b
  obtain ⟨⟨dx, pc, ps, pt, pn, pr, rs, hx, hG⟩, k⟩ := h
  dsimp only at hx hG k
  refine ⟨_, (pss_one (ps_ret (pe_fld (pv 0) rfl))), ?_⟩
  try simp only [Rd.noxK, Rd.cxK]
  refine Rd.rd_start [some (V.ref x)] rfl ?_
  walk_at "rd"
  exact ⟨x, a.C, dx, _, V.ref pn, rfl, hx, T.cl, T.nN, rfl, k pn hG.n⟩
theorem ok_gtransitions (T : GraphC K mg a) (F : Rd.HasAt K a.gt "transitions" "Graph.transitions" s_Graph_transitions) : FnR P w K mg base CX0 1 a.gt (spGTrans K a.C) := by
  refine Rd.FnG.toR (F.fn sc_Graph_transitions (fun _ => rfl) (fun _ _ _ _ _ _ us hl => match us, hl with | [_], _ => rfl) fun cdv A outer s H Q E b hr h => ?_)
  obtain ⟨x, G⟩ := b
  obtain ⟨⟨dx, pc, ps, pt, pn, pr, rs, hx, hG⟩, k⟩ := h
  dsimp only at hx hG k
  refine ⟨_, (pss_one (ps_ret (pe_fld (pv 0) rfl))), ?_⟩
  try simp only [Rd.noxK, Rd.cxK]
  refine Rd.rd_start [some (V.ref x)] rfl ?_
  walk_at "rd"
  exact ⟨x, a.C, dx, _, V.ref pt, rfl, hx, T.cl, T.nT, rfl, k pt ⟨rs, hG.t, hG.tP⟩⟩
theorem ok_geq (T : GraphC K mg a) (g : Glob mg) (F : Rd.HasAt K a.eq "__eq__" "Graph.__eq__" s_Graph___eq__) : FnR P w K mg base CX0 1 a.eq (spGEq K a.C) := by
  refine Rd.FnG.toR (F.fn sc_Graph___eq__ (fun _ => rfl) (fun _ _ _ _ _ _ us hl => match us, hl with | [_, _], _ => rfl) fun cdv A outer s H Q E b hr h => ?_)
  obtain ⟨x, y, G⟩ := b
  obtain ⟨hA, hB, GO, k⟩ := h
  have ty := T.ty hB
  obtain ⟨dx, pc, ps, pt, pn, pr, rs, hx, hG⟩ := hA
  obtain ⟨dy, qc, qs, qt, qn, qr, us, hy, hJ⟩ := hB
  dsimp only at hx hG hy hJ k GO ty
  refine ⟨_, (pss_cons (ps_if (PW.pt (pw_or (pt_not (pt_val (pe_callB Rd.c_isi (by rfl) g.isinstance (by decide +kernel) (pa_cons (pv 1) (pa_cons (Rd.pe_glr (by rfl) T.mgC) pa_nil))))) (pw_or1 (pt_cmpR (op_neD hr.units) (pe_fld (pv 0) rfl) (pe_fld (pv 1) rfl) (nomark _))))) (pss_one (ps_ret pe_bl)) pss_nil)
      (pss_one (ps_ret (pe_and (pe_cmpR (op_eqD hr.units) (pe_fld (pv 0) rfl) (pe_fld (pv 1) rfl) (nomark _)) (pe_one (pe_cmpR (op_eqD hr.units) (pe_fld (pv 0) rfl) (pe_fld (pv 1) rfl) (nomark _))))))), ?_⟩
  try simp only [Rd.noxK, Rd.cxK]
  refine Rd.rd_start [some (V.ref x), some (V.ref y)] rfl ?_
  walk_at "rd"
  refine Rd.rd_isiC ty T.i1 ?_
  walk_at "rd"
  refine Rd.if_f rfl ?_
  walk_at "rd"
  refine ⟨x, a.C, dx, _, V.ref pc, rfl, hx, T.cl, T.nC, rfl, ?_⟩
  walk_at "rd"
  refine ⟨y, a.C, dy, _, V.ref qc, rfl, hy, T.cl, T.nC, rfl, ?_⟩
  have sc := can_strs GO.cN
  have sn := can_strs GO.nN
  have st := can_rows GO.tO
  walk_at "rd"
  refine Rd.rd_neD (Rd.Dt.dp _ _ hG.c.dt) (Rd.Dt.dp _ _ hJ.c.dt) (shaped_of sc (by decide)) (shaped_of sc (by decide)) ?_
  rw [SeqAt.eqv_refl _ sc.1]
  walk_at "rd"
  refine Rd.if_f rfl ?_
  walk_at "rd"
  refine ⟨x, a.C, dx, _, V.ref ps, rfl, hx, T.cl, T.nS, rfl, ?_⟩
  walk_at "rd"
  refine ⟨y, a.C, dy, _, V.ref qs, rfl, hy, T.cl, T.nS, rfl, ?_⟩
  walk_at "rd"
  refine Rd.rd_eqD (Rd.Dt.dp _ _ hG.s.dt) (Rd.Dt.dp _ _ hJ.s.dt) (shaped_of sn (by decide)) (shaped_of sn (by decide)) ?_
  rw [SeqAt.eqv_refl _ sn.1]
  walk_at "rd"
  refine Rd.if_t rfl ?_
  walk_at "rd"
  refine ⟨x, a.C, dx, _, V.ref pt, rfl, hx, T.cl, T.nT, rfl, ?_⟩
  walk_at "rd"
  refine ⟨y, a.C, dy, _, V.ref qt, rfl, hy, T.cl, T.nT, rfl, ?_⟩
  walk_at "rd"
  refine Rd.rd_eqD (Rd.Dt.dp _ _ (RowsAt.dt ⟨rs, hG.t, hG.tP⟩)) (Rd.Dt.dp _ _ (RowsAt.dt ⟨us, hJ.t, hJ.tP⟩)) (shaped_of st (by decide)) (shaped_of st (by decide)) ?_
  rw [SeqAt.eqv_refl _ st.1]
  exact k
end
end M
set_option Elab.async false
set_option linter.all false
set_option maxRecDepth 100000
set_option maxHeartbeats 4000000
namespace M
open PySem L2
local macro_rules | `(tactic| walk_at "rdc") => `(tactic| first | exact Or.inl ⟨by decide, by decide⟩ | exact Or.inr ⟨by decide, by decide⟩ | exact ⟨by decide, by decide, by decide⟩ | exact ⟨by decide, by decide⟩ | decide | omega | assumption | (refine Or.inl ⟨?_, ?_⟩ <;> omega) | (refine Or.inr ⟨?_, ?_⟩ <;> omega) | (refine ⟨?_, ?_⟩ <;> omega))
local macro_rules | `(tactic| walk_at "rd1") => `(tactic| with_reducible first
  | refine Rd.rd_seq ?_ | refine Rd.rd_asg ?_ | refine Rd.rd_op ?_ | (refine' Rd.rd_var ?vh ?_; (case vh => with_unfolding_all rfl)) | refine Rd.rd_c ?_ | refine Rd.rd_I0 ?_ | refine Rd.rd_name0 ?_ | refine Rd.rd_nameS ?_ | refine Rd.rd_fn ?_
  | refine Rd.rd_cb ?_ | refine Rd.rd_cons ?_ | refine Rd.rd_nil ?_ | refine Rd.rd_int ?_ | refine Rd.rd_intB ?_ | refine Rd.rd_abs ?_ | refine Rd.rd_max2 ?_ | refine Rd.rd_min2 ?_
  | refine Rd.rd_call ?_ | refine Rd.rd_ifE ?_ | refine Rd.rd_test ?_ | refine Rd.rd_tB ?_ | refine Rd.rd_blV ?_ | refine Rd.rd_and ?_ | refine Rd.rd_or ?_ | refine Rd.rd_not ?_
  | refine Rd.rd_andV ?_ | refine Rd.rd_orV ?_ | refine Rd.rd_notV ?_ | refine Rd.rd_next ?_ | refine Rd.rd_ret ?_ | refine Rd.rd_drop ?_ | refine Rd.rd_ifS ?_ | refine Rd.rd_nx ?_ | refine Rd.rd_rt ?_ | refine Rd.rd_tMatch ?_ | refine Rd.rd_tCO ?_ | refine Rd.rd_tRevL ?_ | refine Rd.rd_tStar ?_ | refine Rd.rd_joined ?_ | refine Rd.rd_js1 ?_ | refine Rd.rd_js0 ?_ | refine Rd.rd_fmt ?_ | refine Rd.rd_propR ?_ | refine Rd.rd_iZipA ?_ | refine Rd.rd_iEnumT ?_ | refine Rd.rd_iOwn ?_ | (refine' Rd.rd_IET ?ln ?_; (case ln => with_unfolding_all walk_at "at")) | refine Rd.rd_chain ?_ | refine Rd.rd_tPar ?_ | refine Rd.rd_par ?_ | refine Rd.rd_sl ?_ | refine Rd.rd_noPart ?_ | refine Rd.rd_part ?_ | refine Rd.rd_intV ?_ | refine Rd.rd_lc ?_ | (refine' Rd.rd_aug ?vh ?_; (case vh => with_unfolding_all rfl)) | refine Rd.rd_ipI ?_ | refine Rd.rd_for ?_ | (refine' Rd.rd_IT ?ln ?_; (case ln => with_unfolding_all walk_at "at")) | (refine' Rd.rd_IL ?ln ?_; (case ln => with_unfolding_all walk_at "at")) | refine Rd.rd_iTup ?_ | refine Rd.rd_iList ?_ | refine Rd.rd_iRng1 ?_ | refine Rd.rd_iRng2 ?_ | refine Rd.rd_isi (Rd.isi_int Rd.kk_int_int) ?_ | refine Rd.rd_isi (Rd.isi_int Rd.kk_int_bool) ?_ | refine Rd.rd_dget ?_ | refine Rd.rd_din ?_ | refine Rd.rd_dnotin ?_ | refine Rd.rd_dput ?_ | refine Rd.rd_dc ?_ | refine Rd.rd_lc2 ?_ | refine Rd.rd_ltS ?_ | refine Rd.rd_inSg ?_ | refine Rd.rd_iStr ?_ | refine Rd.rd_IS ?_ | refine Rd.rd_prC ?_ | refine Rd.rd_prN ?_ | refine Rd.rd_methR ?_ | refine Rd.rd_cmeth ?_ | refine Rd.rd_fldS ?_ | refine Rd.rd_fld ?_ | (refine' Rd.rd_mkVS ?vh ?_; (case vh => with_unfolding_all rfl)) | (refine' Rd.rd_starT ?ln ?_; (case ln => with_unfolding_all walk_at "at")) | refine Rd.rd_iEnum ?_ | refine Rd.rd_iZip ?_ | (refine' Rd.rd_IE ?ln ?_; (case ln => with_unfolding_all walk_at "at")) | (refine' Rd.rd_IZ ?ln ?lm ?_; (case ln => with_unfolding_all walk_at "at"); (case lm => with_unfolding_all walk_at "at")) | (refine' Rd.rd_gTup ?ln ?lk ?_; (case ln => with_unfolding_all walk_at "at"); (case lk => with_unfolding_all rfl)) | refine Rd.rd_gCons ?_ | refine Rd.rd_gNil ?_ | refine Rd.rd_m1 ?_ | refine Rd.rd_strV ?_ | refine Rd.rd_tXiM ?_ | refine Rd.rd_tXiB ?_ | refine Rd.rd_tXiS ?_ | refine Rd.rd_bm ?_ | refine Rd.rd_bm0 ?_ | refine Rd.rd_isN ?_ | refine Rd.rd_notN ?_ | refine Rd.rd_sub ?_ | refine Rd.rd_un ?_ | refine Rd.rd_U ?_
  | (refine' Rd.rd_eq ?sc ?_; (case sc => with_unfolding_all rfl)) | (refine' Rd.rd_ne ?sc ?_; (case sc => with_unfolding_all rfl))
  | (refine' Rd.rd_I ?cc ?_; (case cc => with_unfolding_all walk_at "rdc"))
  | (refine' Rd.rd_lenL ?ln ?_; (case ln => with_unfolding_all walk_at "at")) | (refine' Rd.rd_lenT ?ln ?_; (case ln => with_unfolding_all walk_at "at"))
  | (refine' Rd.rd_ixL ?ln ?ia ?_; (case ln => with_unfolding_all walk_at "at"); (case ia => with_unfolding_all first | exact Rd.at0 | exact Rd.at1 | exact Rd.at2 | exact Rd.at3 | exact Rd.at4 | rfl)) | (refine' Rd.rd_ixT ?ln ?ia ?_; (case ln => with_unfolding_all walk_at "at"); (case ia => with_unfolding_all first | exact Rd.at0 | exact Rd.at1 | exact Rd.at2 | exact Rd.at3 | exact Rd.at4 | rfl)))
local macro_rules | `(tactic| walk_at "at") => `(tactic| first | assumption | (apply SqL.of; assumption) | (apply SqT.of; assumption) | (apply SqL.of; exact upd_same) | (apply SqT.of; exact upd_same))
local macro_rules | `(tactic| walk_at "rd") => `(tactic| repeat walk_at "rd1")
/-! ### what the law draws -/
abbrev s__law_mixed : Stmt := top 29
theorem sc__law_mixed : FnScope ["_law_dice_here", "_law_items", "_law_left", "_law_turn"] ["_law_dice_here", "_law_items"] (defScope s__law_mixed) := ⟨rfl, rfl, rfl, by decide +kernel, rfl, by decide +kernel, by decide +kernel⟩
abbrev s__law_change : Stmt := top 31
theorem sc__law_change : FnScope ["_law_dice_here", "_law_counters", "_law_found", "_law_turn", "_law_counter"] ["_law_dice_here", "_law_counters"] (defScope s__law_change) := ⟨rfl, rfl, rfl, by decide +kernel, rfl, by decide +kernel, by decide +kernel⟩
theorem none_pre {H H1 : Hp} {D : Addr} (s : Same H H1) (h : H1 D = none) : H D = none := by
  cases e : H D with
  | none => rfl
  | some o => rw [s _ _ e] at h; cases h
theorem none_rol {H H1 : Hp} {d D : Addr} (r : Rolled d H H1) (hD : Dice H d) (h : H1 D = none) : H D = none := by
  cases e : H D with
  | none => rfl
  | some o =>
    by_cases q : D = d
    · obtain ⟨x, y, z, w⟩ := r.dice
      rw [q, w] at h; cases h
    · rw [r.keep _ _ q e] at h; cases h
theorem erase_perm {α : Type} : ∀ (l : List α) (j : Nat) (h : j < l.length), (l[j] :: l.eraseIdx j).Perm l
  | x :: l, 0, _ => List.Perm.refl _
  | x :: l, j + 1, h => by
    have ih := erase_perm l j (by simpa using h)
    exact (List.Perm.swap _ _ _).trans (ih.cons x)
theorem ints_of {ns : List Int} {v : V} {p : Int → Bool} (hp : ns.all p = true) (h : v ∈ ns.map V.int) : ∃ i : Int, v = .int i ∧ p i = true := by
  obtain ⟨i, hi, rfl⟩ := List.mem_map.mp h
  exact ⟨i, rfl, List.all_eq_true.mp hp i hi⟩
theorem strs_of {ns : List Str} {v : V} (h : v ∈ ns.map V.str) : ∃ x, v = .str x ∧ x ∈ ns := by
  obtain ⟨i, hi, rfl⟩ := List.mem_map.mp h
  exact ⟨i, rfl, hi⟩
/-- pairs sorted by their text -/
theorem pairs_sorted {K : PySem.W.Frag} {H : Hp} {ps : List Addr} {chg : List (Str × Int)} (hP : Paired (PairAt K H) ps chg) {ys : List (Str × Addr)} (hp : ys.Perm ((chg.zip ps).map fun z => (z.1.1, z.2))) (ha : Rd.Asc (ys.map (·.1))) :
    ∃ chg', chg'.Perm chg ∧ Rd.Asc (chg'.map (·.1)) ∧ Paired (PairAt K H) (ys.map (·.2)) chg' := by
  obtain ⟨zs, p1, e1⟩ := perm_map_inv (fun z : (Str × Int) × Addr => (z.1.1, z.2)) hp _ rfl
  have hl : chg.length = ps.length := hP.length.symm
  refine ⟨zs.map (·.1), ?_, ?_, ?_⟩
  · have := p1.map (·.1)
    rw [zip_fst hl] at this
    exact this
  · have e2 : ys.map (·.1) = (zs.map (·.1)).map (·.1) := by rw [e1, List.map_map, List.map_map]; rfl
    rw [← e2]; exact ha
  · have e4 : ys.map (·.2) = zs.map (·.2) := by rw [e1, List.map_map]; rfl
    rw [e4]
    exact paired_map2 _ _ fun z hz => paired_zip hP z (p1.mem_iff.mp hz)
/-- the items in some order -/
def spMixP (K : PySem.W.Frag) : Sp := Rd.mkSp (fun (a : Addr × Addr × List V) => [.ref a.1, .ref a.2.1]) fun a H Q _ => Dice H a.1 ∧ a.2.1 ≠ a.1 ∧ SqL K H a.2.1 a.2.2 ∧ a.2.2.length < 1000 ∧
  ∀ D ys H', H D = none → ys.Perm a.2.2 → Rolled a.1 H H' → H' D = some (.lst ys) → Q (.ref D) H'
def spDrawChg (K : PySem.W.Frag) : Sp := Rd.mkSp (fun (a : Addr × Addr × List Str) => [.ref a.1, .ref a.2.1]) fun a H Q _ => Dice H a.1 ∧ a.2.1 ≠ a.1 ∧ SqL K H a.2.1 (a.2.2.map V.str) ∧ (a.2.2 ≠ [] ∧ a.2.2.length ≤ 5 ∧ ∀ c ∈ a.2.2, isName c = true) ∧
  ∀ p H' chg, Rolled a.1 H H' → ChgAt K H' p chg → ChgOk chg → (∀ kv ∈ chg, kv.1 ∈ a.2.2) → chg.length ≤ 5 → Q (.ref p) H'
theorem rd_keys {td : TE} {σ : L2.St} {H : Hp} {R : It → Hp → Prop} (h : td σ H fun x H1 => ∃ d o, x = .ref d ∧ ((∃ kvs, H1 d = some (.frz o (.dK kvs)) ∧ R (Itk d o kvs) H1) ∨ ∃ kvs, H1 d = some (.frz o (.dT kvs)) ∧ R (Itkt d o kvs) H1)) : iKeys td σ H R := h
theorem val_chgK : ∀ {chg : List (Str × Int)}, (chg.map (·.1)).Nodup → ∀ kv ∈ chg, valV (chgK chg) (Sum.inr kv.1 : Key) = some (V.int kv.2)
  | [], _, kv, h => nomatch h
  | x :: chg, nd, kv, h => by
    obtain ⟨n1, n2⟩ := List.nodup_cons.mp nd
    by_cases e : x.1 = kv.1
    · rcases List.mem_cons.mp h with z | z
      · subst z
        unfold valV chgK
        rw [List.map_cons, List.find?_cons_of_pos (by simp)]; rfl
      · exact absurd (List.mem_map.mpr ⟨kv, z, e.symm⟩) n1
    · rcases List.mem_cons.mp h with z | z
      · exact absurd (congrArg Prod.fst z).symm e
      · have ih := val_chgK n2 kv z
        unfold valV chgK at ih ⊢
        rw [List.map_cons, List.find?_cons_of_neg (by simpa using e)]
        exact ih
/-- one more entry -/
theorem put_chgK {chg : List (Str × Int)} (nd : (chg.map (·.1)).Nodup) (c : Str) (i : Int) : ∃ chg', putK (chgK chg) (Sum.inr c) (V.int i) = chgK chg' ∧ (chg'.map (·.1)).Nodup ∧ (∀ kv ∈ chg', kv ∈ chg ∨ kv = (c, i)) ∧ chg'.length ≤ chg.length + 1 := by
  unfold putK
  by_cases h : ((chgK chg).any fun kv => decide (kv.1 = (Sum.inr c : Key))) = true
  · rw [if_pos h]
    refine ⟨chg.map fun kv => if kv.1 = c then (kv.1, i) else kv, ?_, ?_, ?_, ?_⟩
    · unfold chgK
      rw [List.map_map, List.map_map]
      refine List.map_congr_left fun kv _ => ?_
      by_cases e : kv.1 = c
      · simp [e]
      · simp [e]
    · rw [List.map_map]
      have e : chg.map ((fun x : Str × Int => x.1) ∘ fun kv => if kv.1 = c then (kv.1, i) else kv) = chg.map (·.1) := List.map_congr_left fun kv _ => by
        by_cases e : kv.1 = c <;> simp [e]
      rw [e]; exact nd
    · intro kv hkv
      obtain ⟨x, hx, rfl⟩ := List.mem_map.mp hkv
      by_cases e : x.1 = c
      · exact .inr (by simp [e])
      · exact .inl (by simpa [e] using hx)
    · rw [List.length_map]; omega
  · rw [if_neg h]
    refine ⟨chg ++ [(c, i)], ?_, ?_, ?_, ?_⟩
    · unfold chgK; rw [List.map_append]; rfl
    · rw [List.map_append]
      refine List.nodup_append.mpr ⟨nd, by simp, fun a ha b hb e => h ?_⟩
      obtain ⟨x, hx, rfl⟩ := List.mem_map.mp ha
      rw [List.mem_singleton.mp hb] at e
      exact List.any_eq_true.mpr ⟨(Sum.inr x.1, V.int x.2), List.mem_map.mpr ⟨x, hx, rfl⟩, decide_eq_true (by rw [e])⟩
    · intro kv hkv
      rcases List.mem_append.mp hkv with q | q
      · exact .inl q
      · exact .inr (List.mem_singleton.mp q)
    · rw [List.length_append]; exact Nat.le_refl _
section
variable {gd : Bool} {P : Program} {w : World} {K : PySem.W.Frag} {mg : Str → Option Value} {base : Heap}
theorem ok_mixP (F : Rd.Has K mg "_law_mixed" s__law_mixed) (g : Glob mg) (c__law_roll : Rd.Fn gd P w K mg base CX0 1 "_law_roll" spRoll) : Rd.Fn gd P w K mg base CX0 2 "_law_mixed" (spMixP K) := by
  refine F.fn sc__law_mixed (fun _ => rfl) (fun _ _ _ _ _ _ us hl => match us, hl with | [_, _], _ => rfl) fun f cdv A outer s H Q E a hr h => ?_
  obtain ⟨d, a, xs⟩ := a
  obtain ⟨hD, hne, hS, hz, k⟩ := h
  dsimp only at hD hne hS hz k
  refine ⟨_, (pss_cons (ps_set (i := 2) sc__law_mixed.nd rfl (Or.inr rfl) (pe_callTy Rd.c_list (by rfl) g.list (by decide +kernel) (pa_cons (pv 1) pa_nil)))
      (pss_one (ps_ret (pe_lc (own := [("_law_turn", 3)]) (by rfl) sc__law_mixed.nd (pi_range1 (by rfl) g.range (pa_cons (pe_callB Rd.c_len (by rfl) g.len (by decide +kernel) (pa_cons (pv 1) pa_nil)) pa_nil)) (blkOk_by (own := [("_law_turn", 3)]) (N := ["_law_dice_here", "_law_items", "_law_left", "_law_turn"]) (sc := defScope s__law_mixed) (by decide +kernel)) (fun _ _ _ _ _ => (pg_name (i := 3) sc__law_mixed.nd rfl (Or.inl rfl))) (fun _ _ _ _ _ => pts_nil) (fun _ _ _ _ _ => (Rd.pe_bmK (K := K) (by rfl) PySem.F.plainAttrs_list PySem.F.slot_list_pop PySem.F.type_list_pop mt_popAt (pv 2) (pa_cons (Rd.pe_fn c__law_roll (hr.mono (by decide)) (by rfl) (pa_cons (pv 0) (pa_cons (pe_callB (Rd.c_lenK (K := K) (by rfl)) (by rfl) g.len (by decide +kernel) (pa_cons (pv 2) pa_nil)) pa_nil))) pa_nil))))))), ?_⟩
  try simp only [Rd.noxK, Rd.cxK]
  refine Rd.rd_start [some (V.ref d), some (V.ref a), none, none] rfl ?_
  walk_at "rd"
  refine Rd.rd_listL hS fun l H1 hl s1 h1 => ?_
  have hS1 : SqL K H1 a xs := L2.Same.seq s1 hS
  have hld : l ≠ d := hD.ne hl
  walk_at "rd"
  refine Rd.rd_IR1 (by omega) (by omega) ?_
  rw [show ((xs.length : Nat) : Int).toNat = xs.length from Int.toNat_natCast _]
  refine Rd.lc_rngI (lo := 0) (fun i D acc H2 => ∃ zs : List V, acc.length = i ∧ (acc ++ zs).Perm xs ∧ Rolled d H H2 ∧ H2 l = some (.lst zs) ∧ H2 D = some (.lst acc) ∧ D ≠ l ∧ D ≠ d) (fun D hD1 => ?_) (fun i D acc H2 N hi hD1 p hN => ?_) (fun D acc H2 hD1 p => ?_)
  · have n1 : D ≠ l := (ne_of_none h1 hD1).symm
    have n2 : D ≠ d := (hD.same s1).ne hD1
    exact ⟨xs, rfl, List.Perm.refl _, ((Rolled.refl hD).same s1).same (Rd.same_new hD1), by rw [upd_ne n1.symm]; exact h1, upd_same, n1, n2⟩
  · obtain ⟨zs, e2, pm, R, hl2, hD2, n1, n2⟩ := p
    have e1 : zs.length + i = xs.length := by have := pm.length_eq; rw [List.length_append] at this; omega
    have hL : SqL K H2 l zs := SqL.of hl2
    refine Rd.rd_start' [some (V.ref d), some (V.ref a), some (V.ref l), none] rfl ?_
    walk_at "rd"
    refine ⟨rfl, ?_⟩
    walk_at "rd"
    refine ⟨Rd.tyL hL, ?_⟩
    walk_at "rd"
    refine rd_roll R.dice (by omega) (by omega) fun r H3 r0 r1 R3 => ?_
    walk_at "rd"
    obtain ⟨j, rfl⟩ : ∃ j : Nat, r = (j : Int) := ⟨r.toNat, by omega⟩
    have hj : j < zs.length := by omega
    have h3 : H3 l = some (.lst zs) := R3.keep _ _ hld hl2
    refine Rd.rd_popAt h3 hj (by omega) ?_
    have hDa : H3 D = some (.lst acc) := R3.keep _ _ n2 hD2
    have R4 : Rolled d H (upd H3 l (.lst (zs.eraseIdx j))) := (R.trans R3).mut hl hld
    refine hN _ _ (by rw [upd_ne n1]; exact hDa) (by rw [e2]; exact Rd.small64 (by omega)) ⟨zs.eraseIdx j, ?_, ?_, R4.mut (none_pre s1 hD1) n2, ?_, upd_same, n1, n2⟩
    · rw [List.length_append, e2]; rfl
    · rw [List.append_assoc]
      exact ((erase_perm zs j hj).append_left acc).trans pm
    · rw [upd_ne n1.symm, upd_same]
  · obtain ⟨zs, e2, pm, R, hl2, hD2, n1, n2⟩ := p
    have e1 : zs.length = 0 := by have := pm.length_eq; rw [List.length_append] at this; omega
    rw [List.eq_nil_of_length_eq_zero e1, List.append_nil] at pm
    exact k D acc H2 (none_pre s1 hD1) pm R hD2
theorem ok_drawChg (F : Rd.Has K mg "_law_change" s__law_change) (g : Glob mg) (c__law_one_of : Rd.Fn gd P w K mg base CX0 2 "_law_one_of" (spOneOf K)) : Rd.Fn gd P w K mg base CX0 3 "_law_change" (spDrawChg K) := by
  refine F.fn sc__law_change (fun _ => rfl) (fun _ _ _ _ _ _ us hl => match us, hl with | [_, _], _ => rfl) fun f cdv A outer s H Q E a hr h => ?_
  obtain ⟨d, c, cs⟩ := a
  obtain ⟨hD, hne, hS, ⟨hc0, hc5, hcn⟩, k⟩ := h
  dsimp only at hD hne hS hc0 hc5 hcn k
  refine ⟨_, (pss_cons (ps_set (i := 2) sc__law_change.nd rfl (Or.inr rfl) pe_dnewK)
      (pss_cons (ps_for PassesOwn.never rfl (pi_range1 (by rfl) g.range (pa_cons (Rd.pe_fn c__law_one_of (hr.mono (by decide)) (by rfl) (pa_cons (pv 0) (pa_cons (Rd.pe_lst (pa_cons pe_int (pa_cons pe_int (pa_cons pe_int (pa_cons pe_int (pa_cons pe_int (pa_cons pe_int pa_nil))))))) pa_nil))) pa_nil)) (pg_name (i := 3) sc__law_change.nd rfl (Or.inl rfl)) (pss_one (ps_dput (hu_of hr.toRoom) (pv 2) (Rd.pe_fn c__law_one_of (hr.mono (by decide)) (by rfl) (pa_cons (pv 0) (pa_cons (pv 1) pa_nil))) (Rd.pe_fn c__law_one_of (hr.mono (by decide)) (by rfl) (pa_cons (pv 0) (pa_cons (Rd.pe_lst (pa_cons (pe_un un_neg pe_int) (pa_cons (pe_un un_neg pe_int) (pa_cons pe_int (pa_cons pe_int (pa_cons (pe_un un_neg pe_int) (pa_cons pe_int (pa_cons (pe_un un_neg pe_int) (pa_cons pe_int (pa_cons (pe_un un_neg pe_int) pa_nil)))))))))) pa_nil))) (by rfl))))
      (pss_one (ps_ret (pe_callTy Rd.c_tupleF (by rfl) g.tuple (by decide +kernel) (pa_cons (pe_callB Rd.c_sortK (by rfl) g.sorted (by decide +kernel) (pa_cons (pe_lock (pe_lc (own := [("_law_counter", 4)]) (by rfl) sc__law_change.nd (pi_keys (pv 2)) (blkOk_by (own := [("_law_counter", 4)]) (N := ["_law_dice_here", "_law_counters", "_law_found", "_law_turn", "_law_counter"]) (sc := defScope s__law_change) (by decide +kernel)) (fun _ _ _ _ _ => (pg_name (i := 4) sc__law_change.nd rfl (Or.inl rfl))) (fun _ _ _ _ _ => pts_nil) (fun _ _ _ _ _ => (Rd.pe_tup (pa_cons (pv 4) (pa_cons (pe_dget (hu_of hr.toRoom) (pv 2) (pv 4) (fun _ _ => rfl)) pa_nil)))))) pa_nil)) pa_nil)))))), ?_⟩
  try simp only [Rd.noxK, Rd.cxK]
  refine Rd.rd_start [some (V.ref d), some (V.ref c), none, none, none] rfl ?_
  walk_at "rd"
  intro F hF
  have hFd : F ≠ d := hD.ne hF
  have s1 : Same H (upd H F (.dK [])) := Rd.same_new hF
  have h1 : upd H F (.dK []) F = some (.dK (chgK [])) := upd_same
  generalize upd H F (.dK []) = H1 at s1 h1
  walk_at "rd"
  refine Rd.rd_mkLst (by show 6 ≤ sizeLine; decide) fun l H2 hl s2 h2 => ?_
  walk_at "rd"
  have D2 : Dice H2 d := (hD.same s1).same s2
  refine rd_one D2 ((hD.same s1).ne hl) (SqL.of h2) (by show 0 < 6; decide) (by show 6 < 1000; decide) fun v H3 hv R3 => ?_
  obtain ⟨n, rfl, hn⟩ := ints_of (ns := [0, 1, 1, 2, 2, 3]) (p := fun i => decide (0 ≤ i ∧ i ≤ 3)) (by decide) hv
  have hn : 0 ≤ n ∧ n ≤ 3 := of_decide_eq_true hn
  walk_at "rd"
  refine Rd.rd_IR1 (by omega) (by omega) ?_
  have R03 : Rolled d H H3 := Rolled.pre (s1.trans s2) R3
  refine Rd.for_range (fun i σ' H' => ∃ (chg : List (Str × Int)) (t : Option V), σ' = [some (V.ref d), some (V.ref c), some (V.ref F), t, none] ∧ Rolled d H H' ∧ H' F = some (.dK (chgK chg)) ∧ (chg.map (·.1)).Nodup ∧ (∀ kv ∈ chg, kv.1 ∈ cs ∧ -9 ≤ kv.2 ∧ kv.2 ≤ 9 ∧ kv.2 ≠ 0) ∧ chg.length ≤ i) ?_ (fun i σ' H4 hi p => ?_) (fun σ' H4 p => ?_)
  · exact ⟨[], none, rfl, R03, R3.keep _ _ hFd (s2 _ _ h1), List.nodup_nil, fun kv z => (List.not_mem_nil z).elim, Nat.le_refl _⟩
  · obtain ⟨chg, t, rfl, R4, h4, nd, hok, hlen⟩ := p
    refine Rd.rd_start' [some (V.ref d), some (V.ref c), some (V.ref F), t, none] rfl ?_
    walk_at "rd"
    refine Rd.rd_mkLst (by show 9 ≤ sizeLine; decide) fun l5 H5 hl5 s5 h5 => ?_
    walk_at "rd"
    have R5 := R4.same s5
    refine rd_one R5.dice (R4.dice.ne hl5) (SqL.of h5) (by show 0 < 9; decide) (by show 9 < 1000; decide) fun v H6 hv R6 => ?_
    obtain ⟨m, rfl, hm⟩ := ints_of (ns := [-1, -1, 1, 1, -2, 2, -3, 9, -9]) (p := fun i => decide (-9 ≤ i ∧ i ≤ 9 ∧ i ≠ 0)) (by decide) hv
    have hm : -9 ≤ m ∧ m ≤ 9 ∧ m ≠ 0 := of_decide_eq_true hm
    have R06 := R5.trans R6
    walk_at "rd"
    refine rd_one R06.dice hne (R06.sqL hne hS) (by rw [List.length_map]; exact List.length_pos_iff.mpr hc0) (by rw [List.length_map]; omega) fun v H7 hv R7 => ?_
    obtain ⟨x, rfl, hx⟩ := strs_of hv
    have R07 := R06.trans R7
    have h7 : H7 F = some (.dK (chgK chg)) := R7.keep _ _ hFd (R6.keep _ _ hFd (s5 _ _ h4))
    obtain ⟨chg', e', nd', hm', hl'⟩ := put_chgK nd x m
    refine ⟨F, _, rfl, Rd.dp_s h7 (by unfold chgK; rw [List.length_map]; exact Nat.lt_of_le_of_lt (show chg.length ≤ 3 by omega) (by decide)), ?_⟩
    rw [e']
    refine ⟨chg', _, rfl, R07.mut hF hFd, upd_same, nd', fun kv hkv => ?_, by omega⟩
    rcases hm' kv hkv with q | q
    · exact hok kv q
    · rw [q]; exact ⟨hx, hm⟩
  · obtain ⟨chg, t, rfl, R4, h4, nd, hok, hlen⟩ := p
    have hlen : chg.length ≤ 3 := by omega
    walk_at "rd"
    refine ⟨F, _, h4, trivial, fun od => ?_⟩
    walk_at "rd"
    have b5 : SameBut F H4 (upd H4 F (.frz od (.dK (chgK chg)))) := SameBut.upd
    have h5 : upd H4 F (.frz od (.dK (chgK chg))) F = some (.frz od (.dK (chgK chg))) := upd_same
    generalize upd H4 F (.frz od (.dK (chgK chg))) = H5 at b5 h5
    refine rd_keys ?_
    walk_at "rd"
    refine ⟨F, od, rfl, .inl ⟨chgK chg, h5, ?_⟩⟩
    have lk : (chgK chg).length = chg.length := by unfold chgK; rw [List.length_map]
    refine Rd.lc_invI (n := chg.length) (fun i x => ∃ kv, chg[i]? = some kv ∧ x = .str kv.1) (fun i D acc H' => ∃ ps : List Addr, acc = ps.map V.ref ∧ Paired (PairAt K H') ps (chg.take i) ∧ Same H5 H' ∧ H' D = some (.lst acc)) (fun i D acc H' hi p => ?_) (fun D acc H' p => ?_) (fun i D acc H' x H2 p y => ?_) (fun D hD5 => ?_) (fun i x D acc H6 N hi hx hD5 p hN => ?_) (fun D acc H6 hD5 p => ?_)
    · obtain ⟨ps, e1, e2, s6, e3⟩ := p
      exact ⟨s6 _ _ h5, by rw [lk]; exact hi⟩
    · obtain ⟨ps, e1, e2, s6, e3⟩ := p
      exact ⟨s6 _ _ h5, by rw [lk]; exact Nat.le_refl _⟩
    · obtain ⟨rfl, kk, vv, hk, rfl⟩ := y
      refine ⟨rfl, ?_⟩
      unfold chgK at hk
      rw [List.getElem?_map] at hk
      obtain ⟨kv, hkv, e⟩ := Option.map_eq_some_iff.mp hk
      exact ⟨kv, hkv, by rw [← (Prod.mk.inj e).1]; rfl⟩
    · exact ⟨[], rfl, .nil, Rd.same_new hD5, upd_same⟩
    · obtain ⟨ps, e1, e2, s6, e3⟩ := p
      obtain ⟨kv, hkv, rfl⟩ := hx
      refine Rd.rd_start' [some (V.ref d), some (V.ref c), some (V.ref F), t, none] rfl ?_
      walk_at "rd"
      refine ⟨rfl, ?_⟩
      walk_at "rd"
      refine ⟨F, V.int kv.2, rfl, .inl ⟨chgK chg, Sum.inr kv.1, .inr ⟨od, s6 _ _ h5⟩, rfl, (val_chgK nd kv (List.mem_of_getElem? hkv)).symm⟩, ?_⟩
      walk_at "rd"
      refine Rd.rd_mkTup (by show 2 ≤ sizeLine; decide) fun q H7 hq s7 h7 => ?_
      have le : acc.length ≤ 3 := by rw [e1, List.length_map, e2.length, List.length_take]; omega
      refine hN _ _ (s7 _ _ e3) (Nat.lt_of_le_of_lt le (by decide)) ⟨ps ++ [q], by rw [e1, List.map_append]; rfl, ?_, fun b o e => ?_, upd_same⟩
      · have kp8 : Kp H7 (upd H7 D (.lst (acc ++ [V.ref q]))) := kp_upd (s7 _ _ e3) rfl
        rw [List.take_add_one, hkv]
        refine paired_app (L2.Paired.mapP e2 fun _ _ z => kp8.sqT ((kpS s7).sqT z)) (.cons ?_ .nil)
        exact kp8.sqT (SqT.of h7)
      · rw [upd_ne (ne_of_none e hD5)]
        exact s7 _ _ (s6 _ _ e)
    · obtain ⟨ps, e1, e2, s6, e3⟩ := p
      rw [List.take_length] at e2
      have h6 := s6 _ _ h5
      refine ⟨h6, ?_⟩
      have hDF : D ≠ F := (ne_of_none h5 hD5).symm
      have kp7 : Kp H6 (upd H6 F (.dK (chgK chg))) := kp_upd h6 rfl
      have h7D : upd H6 F (.dK (chgK chg)) D = some (.lst acc) := by rw [upd_ne hDF]; exact e3
      have R7 : Rolled d H (upd H6 F (.dK (chgK chg))) := ⟨fun b o hb e => by
        have hbF : b ≠ F := ne_of_none e hF
        rw [upd_ne hbF]
        exact s6 _ _ (b5 _ _ hbF (R4.keep b o hb e)), by
        obtain ⟨x, y, z, q⟩ := R4.dice
        exact ⟨x, y, z, by rw [upd_ne hFd.symm]; exact s6 _ _ (b5 _ _ hFd.symm q)⟩⟩
      have hP7 : Paired (PairAt K (upd H6 F (.dK (chgK chg)))) ps chg := L2.Paired.mapP e2 fun _ _ z => kp7.sqT z
      generalize upd H6 F (.dK (chgK chg)) = H7 at kp7 h7D R7 hP7
      rw [e1] at h7D
      have lp : chg.length = ps.length := hP7.length.symm
      have en : ((chg.zip ps).map fun z => (z.1.1, z.2)).map (fun z => V.ref z.2) = ps.map V.ref := by
        rw [List.map_map, ← zip_snd lp, List.map_map]
        simp only [Function.comp_def, zip_snd lp]
      have en1 : ((chg.zip ps).map fun z => (z.1.1, z.2)).map (fun z => z.1) = chg.map (·.1) := by
        rw [List.map_map, ← zip_fst lp, List.map_map]
        simp only [Function.comp_def, zip_fst lp]
      walk_at "rd"
      refine Rd.rd_sortK (zs := (chg.zip ps).map fun z => (z.1.1, z.2)) (.inr (by rw [en]; exact SqL.of h7D)) (by rw [List.length_map, List.length_zip]; omega) (fun z hz => ?_) (by rw [en1]; exact nd) fun ys p8 H8 py ya hn8 s8 h8 => ?_
      · obtain ⟨y, hy, rfl⟩ := List.mem_map.mp hz
        exact ⟨_, paired_zip hP7 y hy⟩
      obtain ⟨chg', pm, asc, hP'⟩ := pairs_sorted hP7 py ya
      have e8 : (ys.map fun z => V.ref z.2) = (ys.map (·.2)).map V.ref := by rw [List.map_map]; rfl
      rw [e8] at h8
      walk_at "rd"
      refine Rd.rd_tupleF (SqL.of h8) fun q H9 hq s9 h9 => ?_
      refine k q H9 chg' ((R7.same s8).same s9) ⟨_, h9, L2.Paired.mapP hP' fun _ _ z => (kpS (s8.trans s9)).sqT z⟩ ⟨asc, fun kv hkv => ?_⟩ (fun kv hkv => (hok kv (pm.mem_iff.mp hkv)).1) (by rw [pm.length_eq]; omega)
      have := hok kv (pm.mem_iff.mp hkv)
      exact ⟨hcn _ this.1, this.2⟩
end
end M
set_option Elab.async false
set_option linter.all false
set_option maxRecDepth 100000
set_option maxHeartbeats 4000000
namespace M
open PySem L2
local macro_rules | `(tactic| walk_at "rdc") => `(tactic| first | exact Or.inl ⟨by decide, by decide⟩ | exact Or.inr ⟨by decide, by decide⟩ | exact ⟨by decide, by decide, by decide⟩ | exact ⟨by decide, by decide⟩ | decide | omega | assumption | (refine Or.inl ⟨?_, ?_⟩ <;> omega) | (refine Or.inr ⟨?_, ?_⟩ <;> omega) | (refine ⟨?_, ?_⟩ <;> omega))
local macro_rules | `(tactic| walk_at "rd1") => `(tactic| with_reducible first
  | refine Rd.rd_seq ?_ | refine Rd.rd_asg ?_ | refine Rd.rd_op ?_ | (refine' Rd.rd_var ?vh ?_; (case vh => with_unfolding_all rfl)) | refine Rd.rd_c ?_ | refine Rd.rd_I0 ?_ | refine Rd.rd_name0 ?_ | refine Rd.rd_nameS ?_ | refine Rd.rd_fn ?_
  | refine Rd.rd_cb ?_ | refine Rd.rd_cons ?_ | refine Rd.rd_nil ?_ | refine Rd.rd_int ?_ | refine Rd.rd_intB ?_ | refine Rd.rd_abs ?_ | refine Rd.rd_max2 ?_ | refine Rd.rd_min2 ?_
  | refine Rd.rd_call ?_ | refine Rd.rd_ifE ?_ | refine Rd.rd_test ?_ | refine Rd.rd_tB ?_ | refine Rd.rd_blV ?_ | refine Rd.rd_and ?_ | refine Rd.rd_or ?_ | refine Rd.rd_not ?_
  | refine Rd.rd_andV ?_ | refine Rd.rd_orV ?_ | refine Rd.rd_notV ?_ | refine Rd.rd_next ?_ | refine Rd.rd_ret ?_ | refine Rd.rd_drop ?_ | refine Rd.rd_ifS ?_ | refine Rd.rd_nx ?_ | refine Rd.rd_rt ?_ | refine Rd.rd_tMatch ?_ | refine Rd.rd_tCO ?_ | refine Rd.rd_tRevL ?_ | refine Rd.rd_tStar ?_ | refine Rd.rd_joined ?_ | refine Rd.rd_js1 ?_ | refine Rd.rd_js0 ?_ | refine Rd.rd_fmt ?_ | refine Rd.rd_propR ?_ | refine Rd.rd_iZipA ?_ | refine Rd.rd_iEnumT ?_ | refine Rd.rd_iOwn ?_ | (refine' Rd.rd_IET ?ln ?_; (case ln => with_unfolding_all walk_at "at")) | refine Rd.rd_chain ?_ | refine Rd.rd_tPar ?_ | refine Rd.rd_par ?_ | refine Rd.rd_sl ?_ | refine Rd.rd_noPart ?_ | refine Rd.rd_part ?_ | refine Rd.rd_intV ?_ | refine Rd.rd_lc ?_ | (refine' Rd.rd_aug ?vh ?_; (case vh => with_unfolding_all rfl)) | refine Rd.rd_ipI ?_ | refine Rd.rd_for ?_ | (refine' Rd.rd_IT ?ln ?_; (case ln => with_unfolding_all walk_at "at")) | (refine' Rd.rd_IL ?ln ?_; (case ln => with_unfolding_all walk_at "at")) | refine Rd.rd_iTup ?_ | refine Rd.rd_iList ?_ | refine Rd.rd_iRng1 ?_ | refine Rd.rd_iRng2 ?_ | refine Rd.rd_isi (Rd.isi_int Rd.kk_int_int) ?_ | refine Rd.rd_isi (Rd.isi_int Rd.kk_int_bool) ?_ | refine Rd.rd_dget ?_ | refine Rd.rd_din ?_ | refine Rd.rd_dnotin ?_ | refine Rd.rd_dput ?_ | refine Rd.rd_dc ?_ | refine Rd.rd_lc2 ?_ | refine Rd.rd_ltS ?_ | refine Rd.rd_inSg ?_ | refine Rd.rd_iStr ?_ | refine Rd.rd_IS ?_ | refine Rd.rd_prC ?_ | refine Rd.rd_prN ?_ | refine Rd.rd_methR ?_ | refine Rd.rd_cmeth ?_ | refine Rd.rd_fldS ?_ | refine Rd.rd_fld ?_ | (refine' Rd.rd_mkVS ?vh ?_; (case vh => with_unfolding_all rfl)) | (refine' Rd.rd_starT ?ln ?_; (case ln => with_unfolding_all walk_at "at")) | refine Rd.rd_iEnum ?_ | refine Rd.rd_iZip ?_ | (refine' Rd.rd_IE ?ln ?_; (case ln => with_unfolding_all walk_at "at")) | (refine' Rd.rd_IZ ?ln ?lm ?_; (case ln => with_unfolding_all walk_at "at"); (case lm => with_unfolding_all walk_at "at")) | (refine' Rd.rd_gTup ?ln ?lk ?_; (case ln => with_unfolding_all walk_at "at"); (case lk => with_unfolding_all rfl)) | refine Rd.rd_gCons ?_ | refine Rd.rd_gNil ?_ | refine Rd.rd_m1 ?_ | refine Rd.rd_strV ?_ | refine Rd.rd_tXiM ?_ | refine Rd.rd_tXiB ?_ | refine Rd.rd_tXiS ?_ | refine Rd.rd_bm ?_ | refine Rd.rd_bm0 ?_ | refine Rd.rd_isN ?_ | refine Rd.rd_notN ?_ | refine Rd.rd_sub ?_ | refine Rd.rd_un ?_ | refine Rd.rd_U ?_
  | (refine' Rd.rd_eq ?sc ?_; (case sc => with_unfolding_all rfl)) | (refine' Rd.rd_ne ?sc ?_; (case sc => with_unfolding_all rfl))
  | (refine' Rd.rd_I ?cc ?_; (case cc => with_unfolding_all walk_at "rdc"))
  | (refine' Rd.rd_lenL ?ln ?_; (case ln => with_unfolding_all walk_at "at")) | (refine' Rd.rd_lenT ?ln ?_; (case ln => with_unfolding_all walk_at "at"))
  | (refine' Rd.rd_ixL ?ln ?ia ?_; (case ln => with_unfolding_all walk_at "at"); (case ia => with_unfolding_all first | exact Rd.at0 | exact Rd.at1 | exact Rd.at2 | exact Rd.at3 | exact Rd.at4 | rfl)) | (refine' Rd.rd_ixT ?ln ?ia ?_; (case ln => with_unfolding_all walk_at "at"); (case ia => with_unfolding_all first | exact Rd.at0 | exact Rd.at1 | exact Rd.at2 | exact Rd.at3 | exact Rd.at4 | rfl)))
local macro_rules | `(tactic| walk_at "at") => `(tactic| first | assumption | (apply SqL.of; assumption) | (apply SqT.of; assumption) | (apply SqL.of; exact upd_same) | (apply SqT.of; exact upd_same))
local macro_rules | `(tactic| walk_at "rd") => `(tactic| repeat walk_at "rd1")
/-! ### kinds of changes, words -/
abbrev s__law_kind : Stmt := top 32
theorem sc__law_kind : FnScope ["_law_dice_here", "_law_counters", "_law_one", "_law_other", "_law_choice"] ["_law_dice_here", "_law_counters"] (defScope s__law_kind) := ⟨rfl, rfl, rfl, by decide +kernel, rfl, by decide +kernel, by decide +kernel⟩
abbrev s__law_words : Stmt := top 33
theorem sc__law_words : FnScope ["_law_dice_here", "_law_much", "_law_found"] ["_law_dice_here", "_law_much"] (defScope s__law_words) := ⟨rfl, rfl, rfl, by decide +kernel, rfl, by decide +kernel, by decide +kernel⟩
/-- tuple(sorted(l)), l a list of pairs -/
theorem fin_sorted {K : PySem.W.Frag} {H : Hp} {Q : VK} {σ : L2.St} {L : Addr} {ps : List Addr} {chg : List (Str × Int)} (hL : SqL K H L (ps.map V.ref)) (hP : Paired (PairAt K H) ps chg) (nd : (chg.map (·.1)).Nodup) (hl : chg.length < 1000)
    (q : ∀ p H' chg', Same H H' → ChgAt K H' p chg' → chg'.Perm chg → Rd.Asc (chg'.map (·.1)) → Q (.ref p) H') : Rd.rSortK K [.ref L] H fun x H1 => tNil σ H1 fun xs H2 => Rd.rTupleF K (x :: xs) H2 Q := by
  have lp : chg.length = ps.length := hP.length.symm
  have en : ((chg.zip ps).map fun z => (z.1.1, z.2)).map (fun z => V.ref z.2) = ps.map V.ref := by
    rw [List.map_map, ← zip_snd lp, List.map_map]
    simp only [Function.comp_def, zip_snd lp]
  have en1 : ((chg.zip ps).map fun z => (z.1.1, z.2)).map (fun z => z.1) = chg.map (·.1) := by
    rw [List.map_map, ← zip_fst lp, List.map_map]
    simp only [Function.comp_def, zip_fst lp]
  refine Rd.rd_sortK (zs := (chg.zip ps).map fun z => (z.1.1, z.2)) (.inr (by rw [en]; exact hL)) (by rw [List.length_map, List.length_zip]; omega) (fun z hz => ?_) (by rw [en1]; exact nd) fun ys p8 H8 py ya hn8 s8 h8 => ?_
  · obtain ⟨y, hy, rfl⟩ := List.mem_map.mp hz
    exact ⟨_, paired_zip hP y hy⟩
  obtain ⟨chg', pm, asc, hP'⟩ := pairs_sorted hP py ya
  have e8 : (ys.map fun z => V.ref z.2) = (ys.map (·.2)).map V.ref := by rw [List.map_map]; rfl
  rw [e8] at h8
  refine Rd.rd_nil ?_
  refine Rd.rd_tupleF (SqL.of h8) fun q9 H9 hq s9 h9 => ?_
  exact q q9 H9 chg' (s8.trans s9) ⟨_, h9, L2.Paired.mapP hP' fun _ _ z => (kpS (s8.trans s9)).sqT z⟩ pm asc
theorem cut_take {xs : List V} {n : Nat} (h : n ≤ xs.length) : cutV xs none (some (n : Int)) = xs.take n := Rd.cut_to xs n h
def words : List Str := [("a" : Str), ("aa" : Str), ("ab" : Str), ("b" : Str), ("back" : Str), ("ba" : Str), ("c" : Str), ("d" : Str), ("go" : Str), ("k" : Str), ("on" : Str), ("step" : Str), ("to" : Str), ("w" : Str), ("m" : Str), ("zzzzzzzz" : Str)]
def spWords : Sp := Rd.mkSp (fun (a : Addr × Nat) => [.ref a.1, .int a.2]) fun a H Q _ => Dice H a.1 ∧ a.2 ≤ 16 ∧ ∀ (D : Addr) (H' : Hp) (ws : List Str), H D = none → Rolled a.1 H H' → H' D = some (.lst (ws.map V.str)) → ws.Nodup → (∀ x ∈ ws, x ∈ words) → ws.length = a.2 → Q (.ref D) H'
section
variable {gd : Bool} {P : Program} {w : World} {K : PySem.W.Frag} {mg : Str → Option Value} {base : Heap}
theorem ok_kind (F : Rd.Has K mg "_law_kind" s__law_kind) (g : Glob mg) (c__law_roll : Rd.Fn gd P w K mg base CX0 1 "_law_roll" spRoll) (c__law_one_of : Rd.Fn gd P w K mg base CX0 2 "_law_one_of" (spOneOf K)) (c__law_change : Rd.Fn gd P w K mg base CX0 3 "_law_change" (spDrawChg K)) : Rd.Fn gd P w K mg base CX0 4 "_law_kind" (spDrawChg K) := by
  refine F.fn sc__law_kind (fun _ => rfl) (fun _ _ _ _ _ _ us hl => match us, hl with | [_, _], _ => rfl) fun f cdv A outer s H Q E a hr h => ?_
  obtain ⟨d, c, cs⟩ := a
  obtain ⟨hD, hne, hS, hcs, k⟩ := h
  obtain ⟨hc0, hc5, hcn⟩ := hcs
  dsimp only at hD hne hS hc0 hc5 hcn k
  refine ⟨_, (pss_cons (ps_par (i := 2) (j := 3) (by rfl) sc__law_kind.nd rfl rfl (by decide) rfl rfl (pa_cons (Rd.pe_fn c__law_one_of (hr.mono (by decide)) (by rfl) (pa_cons (pv 0) (pa_cons (pv 1) pa_nil))) (pa_cons (Rd.pe_fn c__law_one_of (hr.mono (by decide)) (by rfl) (pa_cons (pv 0) (pa_cons (pv 1) pa_nil))) pa_nil)) (by rfl))
      (pss_cons (ps_set (i := 4) sc__law_kind.nd rfl (Or.inl rfl) (Rd.pe_fn c__law_roll (hr.mono (by decide)) (by rfl) (pa_cons (pv 0) (pa_cons pe_int pa_nil))))
      (pss_cons (ps_if (PW.pt (pw_or (pt_cmpR op_eq (pv 2) (pv 3) (nomark _)) (pw_or1 (pt_cmpR op_gt (pv 4) pe_int (nomark _))))) (pss_one (ps_ret (pe_ifExp (pt_cmpR op_lt (pv 4) pe_int (nomark _)) (Rd.pe_tupF (pa_cons (Rd.pe_tup (pa_cons (pv 2) (pa_cons (pe_un un_neg pe_int) pa_nil))) pa_nil)) (Rd.pe_fn c__law_change (hr.mono (by decide)) (by rfl) (pa_cons (pv 0) (pa_cons (pv 1) pa_nil)))))) pss_nil)
      (pss_one (ps_ret (pe_callTy Rd.c_tupleF (by rfl) g.tuple (by decide +kernel) (pa_cons (pe_callB Rd.c_sortK (by rfl) g.sorted (by decide +kernel) (pa_cons (pe_ix ix_list (Rd.pe_lst (pa_cons (Rd.pe_lst (pa_cons (Rd.pe_tup (pa_cons (pv 2) (pa_cons (pe_un un_neg pe_int) pa_nil))) (pa_cons (Rd.pe_tup (pa_cons (pv 3) (pa_cons pe_int pa_nil))) pa_nil))) (pa_cons (Rd.pe_lst (pa_cons (Rd.pe_tup (pa_cons (pv 2) (pa_cons (pe_un un_neg pe_int) pa_nil))) (pa_cons (Rd.pe_tup (pa_cons (pv 3) (pa_cons pe_int pa_nil))) pa_nil))) (pa_cons (Rd.pe_lst (pa_cons (Rd.pe_tup (pa_cons (pv 2) (pa_cons (pe_un un_neg pe_int) pa_nil))) (pa_cons (Rd.pe_tup (pa_cons (pv 3) (pa_cons pe_int pa_nil))) pa_nil))) (pa_cons (Rd.pe_lst (pa_cons (Rd.pe_tup (pa_cons (pv 2) (pa_cons pe_int pa_nil))) pa_nil)) (pa_cons (Rd.pe_lst (pa_cons (Rd.pe_tup (pa_cons (pv 2) (pa_cons (pe_un un_neg pe_int) pa_nil))) pa_nil)) (pa_cons (Rd.pe_lst (pa_cons (Rd.pe_tup (pa_cons (pv 2) (pa_cons (pe_un un_neg pe_int) pa_nil))) (pa_cons (Rd.pe_tup (pa_cons (pv 3) (pa_cons (pe_un un_neg pe_int) pa_nil))) pa_nil))) pa_nil))))))) (pv 4) (fun _ _ => rfl)) pa_nil)) pa_nil))))))), ?_⟩
  try simp only [Rd.noxK, Rd.cxK]
  refine Rd.rd_start [some (V.ref d), some (V.ref c), none, none, none] rfl ?_
  have c1 : 0 < (cs.map V.str).length := by rw [List.length_map]; exact List.length_pos_iff.mpr hc0
  have c2 : (cs.map V.str).length < 1000 := by rw [List.length_map]; omega
  walk_at "rd"
  refine rd_one hD hne hS c1 c2 fun v H1 hv R1 => ?_
  obtain ⟨x, rfl, hx⟩ := strs_of hv
  walk_at "rd"
  refine rd_one R1.dice hne (R1.sqL hne hS) c1 c2 fun v H2 hv R2 => ?_
  obtain ⟨y, rfl, hy⟩ := strs_of hv
  have R02 := R1.trans R2
  walk_at "rd"
  simp only [List.set_cons_zero, List.set_cons_succ]
  refine rd_roll R02.dice (by omega) (by omega) fun r H3 r0 r1 R3 => ?_
  have R03 := R02.trans R3
  walk_at "rd"
  have ok2 : ∀ (chg chg' : List (Str × Int)) H', Rolled d H H' → ∀ p, ChgAt K H' p chg' → chg'.Perm chg → Rd.Asc (chg'.map (·.1)) → chg.length ≤ 2 → (∀ kv ∈ chg, kv.1 ∈ cs ∧ -9 ≤ kv.2 ∧ kv.2 ≤ 9 ∧ kv.2 ≠ 0) → Q (.ref p) H' := fun chg chg' H' R p hp pm asc hl hok => k p H' chg' R hp ⟨asc, fun kv hkv => ⟨hcn _ (hok kv (pm.mem_iff.mp hkv)).1, (hok kv (pm.mem_iff.mp hkv)).2⟩⟩ (fun kv hkv => (hok kv (pm.mem_iff.mp hkv)).1) (by rw [pm.length_eq]; omega)
  have vals : (-9 : Int) ≤ -1 ∧ (-1 : Int) ≤ 9 ∧ (-1 : Int) ≠ 0 := by decide
  have one : ∀ H' q p, Rolled d H H' → SqT K H' q [.str x, .int (-1)] → Rd.SqF H' p [.ref q] → Q (.ref p) H' := fun H' q p R hq hp => ok2 [(x, -1)] [(x, -1)] H' R p ⟨[q], hp, .cons hq .nil⟩ (List.Perm.refl _) (List.pairwise_singleton _ _) (Nat.le_succ 1) fun kv hkv => by rw [List.mem_singleton.mp hkv]; exact ⟨hx, vals⟩
  have drawn : ∀ H', Rolled d H H' → spDrawChg K [.ref d, .ref c] H' Q E0 := fun H' R => Rd.rd_sp (d, c, cs) rfl ⟨R.dice, hne, R.sqL hne hS, ⟨hc0, hc5, hcn⟩, fun p H2 chg R2 h1 h2 h3 h4 => k p H2 chg (R.trans R2) h1 h2 h3 h4⟩
  by_cases exy : x = y
  · subst exy
    refine Rd.if_t (decide_eq_true rfl) ?_
    refine Rd.if_t rfl ?_
    walk_at "rd"
    refine ite2 (fun h4 => ?_) (fun h4 => ?_)
    · walk_at "rd"
      refine Rd.rd_mkTup (by show 2 ≤ sizeLine; decide) fun q H4 hq s4 h4 => ?_
      walk_at "rd"
      refine Rd.rd_mkTupF (by show 1 ≤ sizeLine; decide) fun p H5 hp s5 h5 => ?_
      exact one H5 q p ((R03.same s4).same s5) (Rd.Same.sqT s5 (SqT.of h4)) h5
    · walk_at "rd"
      exact drawn _ R03
  refine Rd.if_f (decide_eq_false fun z => exy (V.str.inj z)) ?_
  walk_at "rd"
  by_cases g5 : 5 < r
  · refine Rd.if_t (decide_eq_true g5) ?_
    walk_at "rd"
    refine ite2 (fun h4 => ?_) (fun h4 => ?_)
    · walk_at "rd"
      refine Rd.rd_mkTup (by show 2 ≤ sizeLine; decide) fun q H4 hq s4 h4 => ?_
      walk_at "rd"
      refine Rd.rd_mkTupF (by show 1 ≤ sizeLine; decide) fun p H5 hp s5 h5 => ?_
      exact one H5 q p ((R03.same s4).same s5) (Rd.Same.sqT s5 (SqT.of h4)) h5
    · walk_at "rd"
      exact drawn _ R03
  refine Rd.if_f (decide_eq_false g5) ?_
  walk_at "rd"
  refine Rd.rd_mkTup (by show 2 ≤ sizeLine; decide) fun q3 H4 n4 s4 h4 => ?_
  walk_at "rd"
  refine Rd.rd_mkTup (by show 2 ≤ sizeLine; decide) fun q4 H5 n5 s5 h5 => ?_
  walk_at "rd"
  refine Rd.rd_mkLst (by show 2 ≤ sizeLine; decide) fun l0 H6 n6 s6 h6 => ?_
  walk_at "rd"
  refine Rd.rd_mkTup (by show 2 ≤ sizeLine; decide) fun q6 H7 n7 s7 h7 => ?_
  walk_at "rd"
  refine Rd.rd_mkTup (by show 2 ≤ sizeLine; decide) fun q7 H8 n8 s8 h8 => ?_
  walk_at "rd"
  refine Rd.rd_mkLst (by show 2 ≤ sizeLine; decide) fun l1 H9 n9 s9 h9 => ?_
  walk_at "rd"
  refine Rd.rd_mkTup (by show 2 ≤ sizeLine; decide) fun q9 H10 n10 s10 h10 => ?_
  walk_at "rd"
  refine Rd.rd_mkTup (by show 2 ≤ sizeLine; decide) fun q10 H11 n11 s11 h11 => ?_
  walk_at "rd"
  refine Rd.rd_mkLst (by show 2 ≤ sizeLine; decide) fun l2 H12 n12 s12 h12 => ?_
  walk_at "rd"
  refine Rd.rd_mkTup (by show 2 ≤ sizeLine; decide) fun q12 H13 n13 s13 h13 => ?_
  walk_at "rd"
  refine Rd.rd_mkLst (by show 1 ≤ sizeLine; decide) fun l3 H14 n14 s14 h14 => ?_
  walk_at "rd"
  refine Rd.rd_mkTup (by show 2 ≤ sizeLine; decide) fun q14 H15 n15 s15 h15 => ?_
  walk_at "rd"
  refine Rd.rd_mkLst (by show 1 ≤ sizeLine; decide) fun l4 H16 n16 s16 h16 => ?_
  walk_at "rd"
  refine Rd.rd_mkTup (by show 2 ≤ sizeLine; decide) fun q16 H17 n17 s17 h17 => ?_
  walk_at "rd"
  refine Rd.rd_mkTup (by show 2 ≤ sizeLine; decide) fun q17 H18 n18 s18 h18 => ?_
  walk_at "rd"
  refine Rd.rd_mkLst (by show 2 ≤ sizeLine; decide) fun l5 H19 n19 s19 h19 => ?_
  walk_at "rd"
  refine Rd.rd_mkLst (by show 6 ≤ sizeLine; decide) fun L H20 n20 s20 h20 => ?_
  walk_at "rd"
  have t20 : Same H20 H20 := Same.refl _
  have t19 : Same H19 H20 := s20.trans t20
  have t18 : Same H18 H20 := s19.trans t19
  have t17 : Same H17 H20 := s18.trans t18
  have t16 : Same H16 H20 := s17.trans t17
  have t15 : Same H15 H20 := s16.trans t16
  have t14 : Same H14 H20 := s15.trans t15
  have t13 : Same H13 H20 := s14.trans t14
  have t12 : Same H12 H20 := s13.trans t13
  have t11 : Same H11 H20 := s12.trans t12
  have t10 : Same H10 H20 := s11.trans t11
  have t9 : Same H9 H20 := s10.trans t10
  have t8 : Same H8 H20 := s9.trans t9
  have t7 : Same H7 H20 := s8.trans t8
  have t6 : Same H6 H20 := s7.trans t7
  have t5 : Same H5 H20 := s6.trans t6
  have t4 : Same H4 H20 := s5.trans t5
  have t3 : Same H3 H20 := s4.trans t4
  have RN : Rolled d H H20 := R03.same t3
  obtain ⟨j, rfl⟩ : ∃ j : Nat, r = (j : Int) := ⟨r.toNat, by omega⟩
  have nxy : ∀ a b : Int, (([(x, a), (y, b)] : List (Str × Int)).map (·.1)).Nodup := fun a b => List.nodup_cons.mpr ⟨fun z => exy (List.mem_singleton.mp z), by simp⟩
  have okl : ∀ chg : List (Str × Int), (∀ kv ∈ chg, (kv.1 = x ∨ kv.1 = y) ∧ (kv.2 = -1 ∨ kv.2 = 1 ∨ kv.2 = 2)) → ∀ kv ∈ chg, kv.1 ∈ cs ∧ -9 ≤ kv.2 ∧ kv.2 ≤ 9 ∧ kv.2 ≠ 0 := fun chg hh kv hkv => by
    obtain ⟨e1, e2⟩ := hh kv hkv
    exact ⟨by rcases e1 with e | e <;> rw [e] <;> assumption, by omega⟩
  match j, r1, g5 with
  | 0, _, _ =>
    refine Rd.rd_ixL (SqL.of h20) (atI_nat rfl) ?_
    walk_at "rd"
    refine fin_sorted (ps := [q3, q4]) (chg := [(x, -1), (y, 1)]) (SqL.of (t6 _ _ h6)) (.cons (Rd.Same.sqT t4 (SqT.of h4)) (.cons (Rd.Same.sqT t5 (SqT.of h5)) .nil)) (nxy _ _) (by simp) fun p H' chg' s' hp pm asc => ?_
    exact ok2 _ chg' H' (RN.same s') p hp pm asc (by simp) (okl _ (by simp))
  | 1, _, _ =>
    refine Rd.rd_ixL (SqL.of h20) (atI_nat rfl) ?_
    walk_at "rd"
    refine fin_sorted (ps := [q6, q7]) (chg := [(x, -1), (y, 1)]) (SqL.of (t9 _ _ h9)) (.cons (Rd.Same.sqT t7 (SqT.of h7)) (.cons (Rd.Same.sqT t8 (SqT.of h8)) .nil)) (nxy _ _) (by simp) fun p H' chg' s' hp pm asc => ?_
    exact ok2 _ chg' H' (RN.same s') p hp pm asc (by simp) (okl _ (by simp))
  | 2, _, _ =>
    refine Rd.rd_ixL (SqL.of h20) (atI_nat rfl) ?_
    walk_at "rd"
    refine fin_sorted (ps := [q9, q10]) (chg := [(x, -1), (y, 2)]) (SqL.of (t12 _ _ h12)) (.cons (Rd.Same.sqT t10 (SqT.of h10)) (.cons (Rd.Same.sqT t11 (SqT.of h11)) .nil)) (nxy _ _) (by simp) fun p H' chg' s' hp pm asc => ?_
    exact ok2 _ chg' H' (RN.same s') p hp pm asc (by simp) (okl _ (by simp))
  | 3, _, _ =>
    refine Rd.rd_ixL (SqL.of h20) (atI_nat rfl) ?_
    walk_at "rd"
    refine fin_sorted (ps := [q12]) (chg := [(x, 1)]) (SqL.of (t14 _ _ h14)) (.cons (Rd.Same.sqT t13 (SqT.of h13)) .nil) (by simp) (by simp) fun p H' chg' s' hp pm asc => ?_
    exact ok2 _ chg' H' (RN.same s') p hp pm asc (by simp) (okl _ (by simp))
  | 4, _, _ =>
    refine Rd.rd_ixL (SqL.of h20) (atI_nat rfl) ?_
    walk_at "rd"
    refine fin_sorted (ps := [q14]) (chg := [(x, -1)]) (SqL.of (t16 _ _ h16)) (.cons (Rd.Same.sqT t15 (SqT.of h15)) .nil) (by simp) (by simp) fun p H' chg' s' hp pm asc => ?_
    exact ok2 _ chg' H' (RN.same s') p hp pm asc (by simp) (okl _ (by simp))
  | 5, _, _ =>
    refine Rd.rd_ixL (SqL.of h20) (atI_nat rfl) ?_
    walk_at "rd"
    refine fin_sorted (ps := [q16, q17]) (chg := [(x, -1), (y, -1)]) (SqL.of (t19 _ _ h19)) (.cons (Rd.Same.sqT t17 (SqT.of h17)) (.cons (Rd.Same.sqT t18 (SqT.of h18)) .nil)) (nxy _ _) (by simp) fun p H' chg' s' hp pm asc => ?_
    exact ok2 _ chg' H' (RN.same s') p hp pm asc (by simp) (okl _ (by simp))
  | n + 6, _, g5 => exact absurd g5 (by omega)
theorem ok_words (F : Rd.Has K mg "_law_words" s__law_words) (g : Glob mg) (c__law_mixed : Rd.Fn gd P w K mg base CX0 2 "_law_mixed" (spMixP K)) : Rd.Fn gd P w K mg base CX0 3 "_law_words" spWords := by
  refine F.fn sc__law_words (fun _ => rfl) (fun _ _ _ _ _ _ us hl => match us, hl with | [_, _], _ => rfl) fun f cdv A outer s H Q E a hr h => ?_
  obtain ⟨d, n⟩ := a
  obtain ⟨hD, hn, k⟩ := h
  dsimp only at hD hn k
  refine ⟨_, (pss_cons (ps_set (i := 2) sc__law_words.nd rfl (Or.inl rfl) (Rd.pe_lst (pa_cons pe_str (pa_cons pe_str (pa_cons pe_str (pa_cons pe_str (pa_cons pe_str (pa_cons pe_str (pa_cons pe_str (pa_cons pe_str (pa_cons pe_str (pa_cons pe_str (pa_cons pe_str (pa_cons pe_str (pa_cons pe_str (pa_cons pe_str (pa_cons pe_str pa_nil)))))))))))))))))
      (pss_one (ps_ret (pe_slice sl_list (Rd.pe_fn c__law_mixed (hr.mono (by decide)) (by rfl) (pa_cons (pv 0) (pa_cons (pe_op op_cat (pv 2) (Rd.pe_lst (pa_cons pe_str pa_nil))) pa_nil))) po_none (po_some (pv 1)))))), ?_⟩
  try simp only [Rd.noxK, Rd.cxK]
  refine Rd.rd_start [some (V.ref d), some (V.int n), none] rfl ?_
  walk_at "rd"
  refine Rd.rd_mkLst (by show 15 ≤ sizeLine; decide) fun l H1 hl s1 h1 => ?_
  walk_at "rd"
  refine Rd.rd_mkLst (by show 1 ≤ sizeLine; decide) fun l2 H2 hl2 s2 h2 => ?_
  walk_at "rd"
  refine Rd.rd_cat (s2 _ _ h1) h2 (by show 16 ≤ sizeLine; decide) fun l3 H3 hl3 s3 h3 => ?_
  have s03 := (s1.trans s2).trans s3
  have D3 : Dice H3 d := hD.same s03
  have nd3 : l3 ≠ d := (hD.same (s1.trans s2)).ne hl3
  walk_at "rd"
  refine Rd.rd_sp (d, l3, words.map V.str) rfl ⟨D3, nd3, SqL.of h3, by show 16 < 1000; decide, fun D ys H4 hD4 pm R4 h4 => ?_⟩
  walk_at "rd"
  refine Rd.rd_slL (SqL.of h4) fun D5 H5 hD5 s5 h5 => ?_
  have R05 : Rolled d H H5 := (Rolled.pre s03 R4).same s5
  obtain ⟨ws, pw, rfl⟩ := perm_map_inv V.str pm words rfl
  have lw : ws.length = 16 := pw.length_eq
  have nw : ws.Nodup := pw.nodup_iff.mpr (by decide +kernel)
  rw [cut_take (by rw [List.length_map, lw]; exact hn), ← List.map_take] at h5
  refine k D5 H5 (ws.take n) (none_rol (Rolled.pre s03 R4) hD hD5) R05 h5 (nw.sublist (List.take_sublist _ _)) (fun x hx => pw.mem_iff.mp (List.mem_of_mem_take hx)) (by rw [List.length_take, lw]; omega)
end
end M
set_option Elab.async false
set_option linter.all false
set_option maxRecDepth 100000
set_option maxHeartbeats 4000000
namespace M
open PySem L2
local macro_rules | `(tactic| walk_at "rdc") => `(tactic| first | exact Or.inl ⟨by decide, by decide⟩ | exact Or.inr ⟨by decide, by decide⟩ | exact ⟨by decide, by decide, by decide⟩ | exact ⟨by decide, by decide⟩ | decide | omega | assumption | (refine Or.inl ⟨?_, ?_⟩ <;> omega) | (refine Or.inr ⟨?_, ?_⟩ <;> omega) | (refine ⟨?_, ?_⟩ <;> omega))
local macro_rules | `(tactic| walk_at "rd1") => `(tactic| with_reducible first
  | refine Rd.rd_seq ?_ | refine Rd.rd_asg ?_ | refine Rd.rd_op ?_ | (refine' Rd.rd_var ?vh ?_; (case vh => with_unfolding_all rfl)) | refine Rd.rd_c ?_ | refine Rd.rd_I0 ?_ | refine Rd.rd_name0 ?_ | refine Rd.rd_nameS ?_ | refine Rd.rd_fn ?_
  | refine Rd.rd_cb ?_ | refine Rd.rd_cons ?_ | refine Rd.rd_nil ?_ | refine Rd.rd_int ?_ | refine Rd.rd_intB ?_ | refine Rd.rd_abs ?_ | refine Rd.rd_max2 ?_ | refine Rd.rd_min2 ?_
  | refine Rd.rd_call ?_ | refine Rd.rd_ifE ?_ | refine Rd.rd_test ?_ | refine Rd.rd_tB ?_ | refine Rd.rd_blV ?_ | refine Rd.rd_and ?_ | refine Rd.rd_or ?_ | refine Rd.rd_not ?_
  | refine Rd.rd_andV ?_ | refine Rd.rd_orV ?_ | refine Rd.rd_notV ?_ | refine Rd.rd_next ?_ | refine Rd.rd_ret ?_ | refine Rd.rd_drop ?_ | refine Rd.rd_ifS ?_ | refine Rd.rd_nx ?_ | refine Rd.rd_rt ?_ | refine Rd.rd_tMatch ?_ | refine Rd.rd_tCO ?_ | refine Rd.rd_tRevL ?_ | refine Rd.rd_tStar ?_ | refine Rd.rd_joined ?_ | refine Rd.rd_js1 ?_ | refine Rd.rd_js0 ?_ | refine Rd.rd_fmt ?_ | refine Rd.rd_propR ?_ | refine Rd.rd_iZipA ?_ | refine Rd.rd_iEnumT ?_ | refine Rd.rd_iOwn ?_ | (refine' Rd.rd_IET ?ln ?_; (case ln => with_unfolding_all walk_at "at")) | refine Rd.rd_chain ?_ | refine Rd.rd_tPar ?_ | refine Rd.rd_par ?_ | refine Rd.rd_sl ?_ | refine Rd.rd_noPart ?_ | refine Rd.rd_part ?_ | refine Rd.rd_intV ?_ | refine Rd.rd_lc ?_ | (refine' Rd.rd_aug ?vh ?_; (case vh => with_unfolding_all rfl)) | refine Rd.rd_ipI ?_ | refine Rd.rd_for ?_ | (refine' Rd.rd_IT ?ln ?_; (case ln => with_unfolding_all walk_at "at")) | (refine' Rd.rd_IL ?ln ?_; (case ln => with_unfolding_all walk_at "at")) | refine Rd.rd_iTup ?_ | refine Rd.rd_iList ?_ | refine Rd.rd_iRng1 ?_ | refine Rd.rd_iRng2 ?_ | refine Rd.rd_isi (Rd.isi_int Rd.kk_int_int) ?_ | refine Rd.rd_isi (Rd.isi_int Rd.kk_int_bool) ?_ | refine Rd.rd_dget ?_ | refine Rd.rd_din ?_ | refine Rd.rd_dnotin ?_ | refine Rd.rd_dput ?_ | refine Rd.rd_dc ?_ | refine Rd.rd_lc2 ?_ | refine Rd.rd_ltS ?_ | refine Rd.rd_inSg ?_ | refine Rd.rd_iStr ?_ | refine Rd.rd_IS ?_ | refine Rd.rd_prC ?_ | refine Rd.rd_prN ?_ | refine Rd.rd_methR ?_ | refine Rd.rd_cmeth ?_ | refine Rd.rd_fldS ?_ | refine Rd.rd_fld ?_ | (refine' Rd.rd_mkVS ?vh ?_; (case vh => with_unfolding_all rfl)) | (refine' Rd.rd_starT ?ln ?_; (case ln => with_unfolding_all walk_at "at")) | refine Rd.rd_iEnum ?_ | refine Rd.rd_iZip ?_ | (refine' Rd.rd_IE ?ln ?_; (case ln => with_unfolding_all walk_at "at")) | (refine' Rd.rd_IZ ?ln ?lm ?_; (case ln => with_unfolding_all walk_at "at"); (case lm => with_unfolding_all walk_at "at")) | (refine' Rd.rd_gTup ?ln ?lk ?_; (case ln => with_unfolding_all walk_at "at"); (case lk => with_unfolding_all rfl)) | refine Rd.rd_gCons ?_ | refine Rd.rd_gNil ?_ | refine Rd.rd_m1 ?_ | refine Rd.rd_strV ?_ | refine Rd.rd_tXiM ?_ | refine Rd.rd_tXiB ?_ | refine Rd.rd_tXiS ?_ | refine Rd.rd_bm ?_ | refine Rd.rd_bm0 ?_ | refine Rd.rd_isN ?_ | refine Rd.rd_notN ?_ | refine Rd.rd_sub ?_ | refine Rd.rd_un ?_ | refine Rd.rd_U ?_
  | (refine' Rd.rd_eq ?sc ?_; (case sc => with_unfolding_all rfl)) | (refine' Rd.rd_ne ?sc ?_; (case sc => with_unfolding_all rfl))
  | (refine' Rd.rd_I ?cc ?_; (case cc => with_unfolding_all walk_at "rdc"))
  | (refine' Rd.rd_lenL ?ln ?_; (case ln => with_unfolding_all walk_at "at")) | (refine' Rd.rd_lenT ?ln ?_; (case ln => with_unfolding_all walk_at "at"))
  | (refine' Rd.rd_ixL ?ln ?ia ?_; (case ln => with_unfolding_all walk_at "at"); (case ia => with_unfolding_all first | exact Rd.at0 | exact Rd.at1 | exact Rd.at2 | exact Rd.at3 | exact Rd.at4 | rfl)) | (refine' Rd.rd_ixT ?ln ?ia ?_; (case ln => with_unfolding_all walk_at "at"); (case ia => with_unfolding_all first | exact Rd.at0 | exact Rd.at1 | exact Rd.at2 | exact Rd.at3 | exact Rd.at4 | rfl)))
local macro_rules | `(tactic| walk_at "at") => `(tactic| first | assumption | (apply SqL.of; assumption) | (apply SqT.of; assumption) | (apply SqL.of; exact upd_same) | (apply SqT.of; exact upd_same))
local macro_rules | `(tactic| walk_at "rd") => `(tactic| repeat walk_at "rd1")
/-! ### a drawn graph: the plain part -/
theorem ring_loop {ts : List Tr} {ns : List Str} (ne : ns ≠ []) (nd : ns.Nodup) (ends : ∀ t ∈ ts, t.src ∈ ns ∧ t.tgt ∈ ns) (h1 : ∀ i, i + 1 < ns.length → ∃ t ∈ ts, ns[i]? = some t.src ∧ ns[i + 1]? = some t.tgt) (h2 : 1 < ns.length → ∃ t ∈ ts, ns[ns.length - 1]? = some t.src ∧ ns[0]? = some t.tgt) : Loop1 ts ns := by
  have n0 : 0 < ns.length := List.length_pos_iff.mpr ne
  refine ⟨ne, nd, ends, fun h S s0 st x hx => ?_, fun h S s0 st x hx => ?_⟩
  · have key : ∀ (i : Nat) (y : Str), ns[i]? = some y → S y := by
      intro i
      induction i with
      | zero => intro y hy; rw [List.getElem?_eq_getElem h] at hy; exact Option.some.inj hy ▸ s0
      | succ i ih =>
        intro y hy
        have hi : i + 1 < ns.length := (List.getElem?_eq_some_iff.mp hy).1
        obtain ⟨t, ht, e1, e2⟩ := h1 i hi
        rw [e2] at hy
        exact Option.some.inj hy ▸ st t ht (ih _ e1)
    obtain ⟨i, hi⟩ := List.getElem?_of_mem hx
    exact key i x hi
  · have key : ∀ (j i : Nat) (y : Str), i + j + 1 = ns.length → ns[i]? = some y → S y := by
      intro j
      induction j with
      | zero =>
        intro i y e hy
        by_cases h3 : 1 < ns.length
        · obtain ⟨t, ht, e1, e2⟩ := h2 h3
          rw [show ns.length - 1 = i by omega, hy] at e1
          rw [List.getElem?_eq_getElem h] at e2
          rw [Option.some.inj e1]
          exact st t ht (Option.some.inj e2 ▸ s0)
        · rw [show i = 0 by omega, List.getElem?_eq_getElem h] at hy
          exact Option.some.inj hy ▸ s0
      | succ j ih =>
        intro i y e hy
        obtain ⟨t, ht, e1, e2⟩ := h1 i (by omega)
        rw [hy] at e1
        rw [Option.some.inj e1]
        exact st t ht (ih (i + 1) t.tgt (by omega) e2)
    obtain ⟨i, hi⟩ := List.getElem?_of_mem hx
    have hl := (List.getElem?_eq_some_iff.mp hi).1
    exact key (ns.length - 1 - i) i x (by omega) hi
/-- the pairs of the ring -/
def ringAt (ns : List Str) (i : Nat) : Str × Str := (ns.getD (if i = 0 then ns.length - 1 else i - 1) Str.empty, ns.getD i Str.empty)
def ring (ns : List Str) : List (Str × Str) := if 1 < ns.length then (List.range ns.length).map (ringAt ns) else []
theorem ring_len (ns : List Str) : (ring ns).length ≤ ns.length := by
  unfold ring
  split
  · rw [List.length_map, List.length_range]; exact Nat.le_refl _
  · exact Nat.zero_le _
theorem ring_mem {ns : List Str} (st : Str × Str) (h : st ∈ ring ns) : st.1 ∈ ns ∧ st.2 ∈ ns := by
  unfold ring at h
  split at h
  next hn =>
    obtain ⟨i, hi, rfl⟩ := List.mem_map.mp h
    have hi := List.mem_range.mp hi
    have g : ∀ j, j < ns.length → ns.getD j Str.empty ∈ ns := fun j hj => by
      rw [List.getD_eq_getElem?_getD, List.getElem?_eq_getElem hj]; exact List.getElem_mem hj
    exact ⟨g _ (by split <;> omega), g _ hi⟩
  next => exact (List.not_mem_nil h).elim
/-- rows over the ring and more pairs -/
theorem ring_rows {ts : List Tr} {ns : List Str} {sts : List (Str × Str)} (ne : ns ≠ []) (nd : ns.Nodup) (e : ts.map (fun t => (t.src, t.tgt)) = ring ns ++ sts) (hs : ∀ st ∈ sts, st.1 ∈ ns ∧ st.2 ∈ ns) : Loop1 ts ns := by
  have hmem : ∀ st ∈ ring ns, ∃ t ∈ ts, t.src = st.1 ∧ t.tgt = st.2 := fun st hst => by
    have : st ∈ ts.map (fun t => (t.src, t.tgt)) := by rw [e]; exact List.mem_append_left _ hst
    obtain ⟨t, ht, rfl⟩ := List.mem_map.mp this
    exact ⟨t, ht, rfl, rfl⟩
  have g : ∀ j, j < ns.length → ns[j]? = some (ns.getD j Str.empty) := fun j hj => by
    rw [List.getD_eq_getElem?_getD, List.getElem?_eq_getElem hj]; rfl
  have hring : ∀ i, 1 < ns.length → i < ns.length → ringAt ns i ∈ ring ns := fun i h1 hi => by
    unfold ring
    rw [if_pos h1]
    exact List.mem_map.mpr ⟨i, List.mem_range.mpr hi, rfl⟩
  refine ring_loop ne nd (fun t ht => ?_) (fun i hi => ?_) (fun h1 => ?_)
  · have : (t.src, t.tgt) ∈ ring ns ++ sts := by rw [← e]; exact List.mem_map.mpr ⟨t, ht, rfl⟩
    rcases List.mem_append.mp this with q | q
    · exact ring_mem _ q
    · exact hs _ q
  · obtain ⟨t, ht, e1, e2⟩ := hmem _ (hring (i + 1) (by omega) hi)
    refine ⟨t, ht, ?_, ?_⟩
    · rw [e1, g i (by omega)]; rfl
    · rw [e2, g (i + 1) hi]; rfl
  · obtain ⟨t, ht, e1, e2⟩ := hmem _ (hring 0 h1 (by omega))
    refine ⟨t, ht, ?_, ?_⟩
    · rw [e1, g _ (by omega)]; rfl
    · rw [e2, g 0 (by omega)]; rfl
def nodeNames : List Str := [("p" : Str), ("q" : Str), ("r" : Str), ("a" : Str)]
def counterNames : List Str := [("x" : Str), ("y" : Str), ("z" : Str), ("u" : Str), ("v" : Str)]
theorem names_ok : (∀ x ∈ nodeNames, isName x = true) ∧ (∀ x ∈ counterNames, isName x = true) ∧ (∀ x ∈ words, isName x = true) ∧ (∀ x ∈ words, x ∉ counterNames) := by
  refine ⟨?_, ?_, ?_, ?_⟩ <;> decide +kernel
/-- what else is known of a drawn graph -/
structure Drawn (m1 m2 m3 : Nat) (G : Gr) : Prop where
  tn : G.ts ≠ []
  ns : ∀ z ∈ G.ns, z ∈ nodeNames
  cs : ∀ z ∈ G.cs, z ∈ counterNames
  nm : ∀ t ∈ G.ts, t.nm ∈ words
  ln : G.ns.length ≤ m1
  lc : G.cs.length ≤ m2
  lt : G.ts.length ≤ m1 + m3
def spGraph (K : PySem.W.Frag) : Sp := Rd.mkSp (fun (a : Addr × Nat × Nat × Nat) => [.ref a.1, .int a.2.1, .int a.2.2.1, .int a.2.2.2]) fun a H Q _ => Dice H a.1 ∧ (1 ≤ a.2.1 ∧ a.2.1 ≤ 4) ∧ (1 ≤ a.2.2.1 ∧ a.2.2.1 ≤ 5) ∧ (1 ≤ a.2.2.2 ∧ a.2.2.2 ≤ 12) ∧
  ∀ p H' G, Rolled a.1 H H' → PlainAt K H' p G → GOk G → Drawn a.2.1 a.2.2.1 a.2.2.2 G → Q (.ref p) H'
end M
set_option Elab.async false
set_option linter.all false
set_option maxRecDepth 100000
set_option maxHeartbeats 4000000
namespace M
open PySem L2
local macro_rules | `(tactic| walk_at "rdc") => `(tactic| first | exact Or.inl ⟨by decide, by decide⟩ | exact Or.inr ⟨by decide, by decide⟩ | exact ⟨by decide, by decide, by decide⟩ | exact ⟨by decide, by decide⟩ | decide | omega | assumption | (refine Or.inl ⟨?_, ?_⟩ <;> omega) | (refine Or.inr ⟨?_, ?_⟩ <;> omega) | (refine ⟨?_, ?_⟩ <;> omega))
local macro_rules | `(tactic| walk_at "rd1") => `(tactic| with_reducible first
  | refine Rd.rd_seq ?_ | refine Rd.rd_asg ?_ | refine Rd.rd_op ?_ | (refine' Rd.rd_var ?vh ?_; (case vh => with_unfolding_all rfl)) | refine Rd.rd_c ?_ | refine Rd.rd_I0 ?_ | refine Rd.rd_name0 ?_ | refine Rd.rd_nameS ?_ | refine Rd.rd_fn ?_
  | refine Rd.rd_cb ?_ | refine Rd.rd_cons ?_ | refine Rd.rd_nil ?_ | refine Rd.rd_int ?_ | refine Rd.rd_intB ?_ | refine Rd.rd_abs ?_ | refine Rd.rd_max2 ?_ | refine Rd.rd_min2 ?_
  | refine Rd.rd_call ?_ | refine Rd.rd_ifE ?_ | refine Rd.rd_test ?_ | refine Rd.rd_tB ?_ | refine Rd.rd_blV ?_ | refine Rd.rd_and ?_ | refine Rd.rd_or ?_ | refine Rd.rd_not ?_
  | refine Rd.rd_andV ?_ | refine Rd.rd_orV ?_ | refine Rd.rd_notV ?_ | refine Rd.rd_next ?_ | refine Rd.rd_ret ?_ | refine Rd.rd_drop ?_ | refine Rd.rd_ifS ?_ | refine Rd.rd_nx ?_ | refine Rd.rd_rt ?_ | refine Rd.rd_tMatch ?_ | refine Rd.rd_tCO ?_ | refine Rd.rd_tRevL ?_ | refine Rd.rd_tStar ?_ | refine Rd.rd_joined ?_ | refine Rd.rd_js1 ?_ | refine Rd.rd_js0 ?_ | refine Rd.rd_fmt ?_ | refine Rd.rd_propR ?_ | refine Rd.rd_iZipA ?_ | refine Rd.rd_iEnumT ?_ | refine Rd.rd_iOwn ?_ | (refine' Rd.rd_IET ?ln ?_; (case ln => with_unfolding_all walk_at "at")) | refine Rd.rd_chain ?_ | refine Rd.rd_tPar ?_ | refine Rd.rd_par ?_ | refine Rd.rd_sl ?_ | refine Rd.rd_noPart ?_ | refine Rd.rd_part ?_ | refine Rd.rd_intV ?_ | refine Rd.rd_lc ?_ | (refine' Rd.rd_aug ?vh ?_; (case vh => with_unfolding_all rfl)) | refine Rd.rd_ipI ?_ | refine Rd.rd_for ?_ | (refine' Rd.rd_IT ?ln ?_; (case ln => with_unfolding_all walk_at "at")) | (refine' Rd.rd_IL ?ln ?_; (case ln => with_unfolding_all walk_at "at")) | refine Rd.rd_iTup ?_ | refine Rd.rd_iList ?_ | refine Rd.rd_iRng1 ?_ | refine Rd.rd_iRng2 ?_ | refine Rd.rd_isi (Rd.isi_int Rd.kk_int_int) ?_ | refine Rd.rd_isi (Rd.isi_int Rd.kk_int_bool) ?_ | refine Rd.rd_dget ?_ | refine Rd.rd_din ?_ | refine Rd.rd_dnotin ?_ | refine Rd.rd_dput ?_ | refine Rd.rd_dc ?_ | refine Rd.rd_lc2 ?_ | refine Rd.rd_ltS ?_ | refine Rd.rd_inSg ?_ | refine Rd.rd_iStr ?_ | refine Rd.rd_IS ?_ | refine Rd.rd_prC ?_ | refine Rd.rd_prN ?_ | refine Rd.rd_methR ?_ | refine Rd.rd_cmeth ?_ | refine Rd.rd_fldS ?_ | refine Rd.rd_fld ?_ | (refine' Rd.rd_mkVS ?vh ?_; (case vh => with_unfolding_all rfl)) | (refine' Rd.rd_starT ?ln ?_; (case ln => with_unfolding_all walk_at "at")) | refine Rd.rd_iEnum ?_ | refine Rd.rd_iZip ?_ | (refine' Rd.rd_IE ?ln ?_; (case ln => with_unfolding_all walk_at "at")) | (refine' Rd.rd_IZ ?ln ?lm ?_; (case ln => with_unfolding_all walk_at "at"); (case lm => with_unfolding_all walk_at "at")) | (refine' Rd.rd_gTup ?ln ?lk ?_; (case ln => with_unfolding_all walk_at "at"); (case lk => with_unfolding_all rfl)) | refine Rd.rd_gCons ?_ | refine Rd.rd_gNil ?_ | refine Rd.rd_m1 ?_ | refine Rd.rd_strV ?_ | refine Rd.rd_tXiM ?_ | refine Rd.rd_tXiB ?_ | refine Rd.rd_tXiS ?_ | refine Rd.rd_bm ?_ | refine Rd.rd_bm0 ?_ | refine Rd.rd_isN ?_ | refine Rd.rd_notN ?_ | refine Rd.rd_sub ?_ | refine Rd.rd_un ?_ | refine Rd.rd_U ?_
  | (refine' Rd.rd_eq ?sc ?_; (case sc => with_unfolding_all rfl)) | (refine' Rd.rd_ne ?sc ?_; (case sc => with_unfolding_all rfl))
  | (refine' Rd.rd_I ?cc ?_; (case cc => with_unfolding_all walk_at "rdc"))
  | (refine' Rd.rd_lenL ?ln ?_; (case ln => with_unfolding_all walk_at "at")) | (refine' Rd.rd_lenT ?ln ?_; (case ln => with_unfolding_all walk_at "at"))
  | (refine' Rd.rd_ixL ?ln ?ia ?_; (case ln => with_unfolding_all walk_at "at"); (case ia => with_unfolding_all first | exact Rd.at0 | exact Rd.at1 | exact Rd.at2 | exact Rd.at3 | exact Rd.at4 | rfl)) | (refine' Rd.rd_ixT ?ln ?ia ?_; (case ln => with_unfolding_all walk_at "at"); (case ia => with_unfolding_all first | exact Rd.at0 | exact Rd.at1 | exact Rd.at2 | exact Rd.at3 | exact Rd.at4 | rfl)))
local macro_rules | `(tactic| walk_at "at") => `(tactic| first | assumption | (apply SqL.of; assumption) | (apply SqT.of; assumption) | (apply SqL.of; exact upd_same) | (apply SqT.of; exact upd_same))
local macro_rules | `(tactic| walk_at "rd") => `(tactic| repeat walk_at "rd1")
/-! ### a drawn graph: the walk -/
abbrev s__law_graph : Stmt := top 34
theorem sc__law_graph : FnScope ["_law_dice_here", "_law_most_states", "_law_most_counters", "_law_more", "_law_nodes", "_law_counters", "_law_pairs", "_law_spots", "_law_turn", "_law_source", "_law_names", "_law_found", "_law_at", "_law_pair", "_law_change_here"] ["_law_dice_here", "_law_most_states", "_law_most_counters", "_law_more"] (defScope s__law_graph) := ⟨rfl, rfl, rfl, by decide +kernel, rfl, by decide +kernel, by decide +kernel⟩
/-- sorted(l[:n]) -/
theorem cut_sorted {K : PySem.W.Frag} {P : Program} {w : World} {H : Hp} {Q : VK} {σ : L2.St} {l : Addr} {ws : List Str} {i : Int} {n : Nat} (e : i = n) (h : H l = some (.lst (ws.map V.str))) (nd : ws.Nodup) (hn : n ≤ ws.length) (hl : ws.length < 1000)
    (q : ∀ (zs : List Str) (p : Addr) (H' : Hp), Rd.Asc zs → zs.length = n → (∀ z ∈ zs, z ∈ ws) → H p = none → Same H H' → H' p = some (.lst (zs.map V.str)) → Q (.ref p) H') : rSlL K (.ref l) none (some i) H fun x H1 => tNil σ H1 fun xs H2 => Rd.rSortT K P w (x :: xs) H2 Q := by
  subst e
  refine Rd.rd_slL (SqL.of h) fun p H1 hp s1 h1 => ?_
  rw [cut_take (by rw [List.length_map]; exact hn), ← List.map_take] at h1
  refine Rd.rd_nil ?_
  refine Rd.rd_sortT (.inl (.inr (SqL.of h1))) (by rw [List.length_take]; omega) fun ys p2 H2 py pw hp2 s2 h2 => ?_
  have nd2 : (ws.take n).Nodup := nd.sublist (List.take_sublist _ _)
  exact q ys p2 H2 (Rd.asc_of pw (py.nodup_iff.mpr nd2)) (by rw [py.length_eq, List.length_take]; omega) (fun z hz => List.mem_of_mem_take (py.mem_iff.mp hz)) (none_pre s1 hp2) (s1.trans s2) h2
theorem at_prev {ns : List Str} (gd : ∀ j, j < ns.length → (ns.map V.str)[j]? = some (V.str (ns.getD j Str.empty))) (n1 : 0 < ns.length) {i : Nat} (hi : i < ns.length) : atI (ns.map V.str) (0 + (i : Int) - 1) = some (V.str (ringAt ns i).1) := by
  unfold ringAt
  match i, hi with
  | 0, _ =>
    show atI (ns.map V.str) (-1) = _
    have e : ixN (ns.map V.str).length (-1) = some (ns.length - 1) := by
      rw [List.length_map]
      unfold ixN
      simp
      omega
    unfold atI
    rw [e]
    exact gd _ (by omega)
  | i + 1, hi =>
    rw [show (0 + ((i + 1 : Nat) : Int) - 1) = (i : Int) by omega]
    exact atI_nat (gd i (by omega))
/-- the ring's pairs -/
theorem ring_draw {K : PySem.W.Frag} {H : Hp} {Q : VK} {pn : Addr} {ns : List Str} {a b c e f : Option V} (n1 : 0 < ns.length) (n4 : ns.length ≤ 8) (hN : H pn = some (.lst (ns.map V.str)))
    (q : ∀ (pp : Addr) (H' : Hp) (ps : List Addr), H pp = none → Same H H' → H' pp = some (.lst (ps.map V.ref)) → Paired (StepAt K H') ps (ring ns) → Q (.ref pp) H') :
    if decide (1 < (ns.length : Int)) = true then
      tLc (iRng1 (tCons (tCB (Rd.rLen K) (tCons (tVar 4) tNil)) tNil)) (gName 12) tYes (tCB Rd.rMkTup (tCons (tOp (rIxL K) (tVar 4) (tOp (rI0 fun i j => V.int (i - j)) (tVar 12) (tC (V.int 1)))) (tCons (tOp (rIxL K) (tVar 4) (tVar 12)) tNil))) (List.map (fun x => x.snd) [(("_law_at" : Str), 12)]) [a, b, c, e, some (V.ref pn), f, none, none, none, none, none, none, none, none, none] H Q
    else tCB Rd.rMkLst tNil [a, b, c, e, some (V.ref pn), f, none, none, none, none, none, none, none, none, none] H Q := by
  have hN' : SqL K H pn (ns.map V.str) := SqL.of hN
  have gd : ∀ j, j < ns.length → (ns.map V.str)[j]? = some (V.str (ns.getD j Str.empty)) := fun j hj => by
    rw [List.getElem?_map, List.getElem?_eq_getElem hj, List.getD_eq_getElem?_getD, List.getElem?_eq_getElem hj]; rfl
  by_cases h1 : 1 < ns.length
  · rw [if_pos (decide_eq_true (by omega))]
    walk_at "rd"
    rw [List.length_map]
    refine Rd.rd_IR1 (by omega) (by omega) ?_
    rw [show ((ns.length : Nat) : Int).toNat = ns.length from Int.toNat_natCast _]
    have er : ring ns = (List.range ns.length).map (ringAt ns) := by unfold ring; rw [if_pos h1]
    refine Rd.lc_rngI (lo := 0) (fun i D acc H' => ∃ ps : List Addr, acc = ps.map V.ref ∧ Paired (StepAt K H') ps ((List.range i).map (ringAt ns)) ∧ Same H H' ∧ H' D = some (.lst acc)) (fun D hD => ?_) (fun i D acc H6 N hi hD5 p hN2 => ?_) (fun D acc H6 hD5 p => ?_)
    · exact ⟨[], rfl, .nil, Rd.same_new hD, upd_same⟩
    · obtain ⟨ps, e1, e2, s6, e3⟩ := p
      have hN6 : SqL K H6 pn (ns.map V.str) := SqL.of (s6 _ _ hN)
      refine Rd.rd_start' [a, b, c, e, some (V.ref pn), f, none, none, none, none, none, none, none, none, none] rfl ?_
      walk_at "rd"
      refine ⟨rfl, ?_⟩
      walk_at "rd"
      refine Rd.rd_ixL hN6 (at_prev gd n1 hi) ?_
      walk_at "rd"
      refine Rd.rd_ixL hN6 (by rw [Int.zero_add]; exact atI_nat (gd i hi)) ?_
      walk_at "rd"
      refine Rd.rd_mkTup (by show 2 ≤ sizeLine; decide) fun q7 H7 hq s7 h7 => ?_
      have le : acc.length ≤ 8 := by rw [e1, List.length_map, e2.length, List.length_map, List.length_range]; omega
      refine hN2 _ _ (s7 _ _ e3) (Nat.lt_of_le_of_lt le (by decide)) ⟨ps ++ [q7], by rw [e1, List.map_append]; rfl, ?_, fun b o e => ?_, upd_same⟩
      · have kp8 : Kp H7 (upd H7 D (.lst (acc ++ [V.ref q7]))) := kp_upd (s7 _ _ e3) rfl
        rw [List.range_succ, List.map_append]
        exact paired_app (L2.Paired.mapP e2 fun _ _ z => kp8.sqT ((kpS s7).sqT z)) (.cons (kp8.sqT (SqT.of h7)) .nil)
      · rw [upd_ne (ne_of_none e hD5)]
        exact s7 _ _ (s6 _ _ e)
    · obtain ⟨ps, e1, e2, s6, e3⟩ := p
      exact q D H6 ps hD5 s6 (by rw [e3, e1]) (by rw [er]; exact e2)
  · rw [if_neg (by rw [decide_eq_true_eq]; omega)]
    walk_at "rd"
    refine Rd.rd_mkLst (by show 0 ≤ sizeLine; decide) fun l5 H5 hl5 s5 h5 => ?_
    exact q l5 H5 [] hl5 s5 h5 (by unfold ring; rw [if_neg h1]; exact .nil)
/-- rows sorted by name, the order not yet known -/
theorem rows_sorted' {K : PySem.W.Frag} {H : Hp} {rs : List Addr} {ts0 : List Tr} (hP : Paired (RowAt K H) rs ts0) {ys : List (Str × Addr)} (hp : ys.Perm ((ts0.zip rs).map fun z => (z.1.nm, z.2))) (ha : Rd.Asc (ys.map (·.1))) :
    ∃ ts : List Tr, ts.Perm ts0 ∧ Rd.Asc (ts.map (·.nm)) ∧ Paired (RowAt K H) (ys.map (·.2)) ts := by
  obtain ⟨zs, p1, e1⟩ := perm_map_inv (fun z : Tr × Addr => (z.1.nm, z.2)) hp _ rfl
  have hl : ts0.length = rs.length := hP.length.symm
  refine ⟨zs.map (·.1), ?_, ?_, ?_⟩
  · have := p1.map (·.1)
    rw [zip_fst hl] at this
    exact this
  · have e2 : ys.map (·.1) = (zs.map (·.1)).map (·.nm) := by rw [e1, List.map_map, List.map_map]; rfl
    rw [← e2]; exact ha
  · have e4 : ys.map (·.2) = zs.map (·.2) := by rw [e1, List.map_map]; rfl
    rw [e4]
    exact paired_map2 _ _ fun z hz => paired_zip hP z (p1.mem_iff.mp hz)
/-- found.append((names[at], pair[0], pair[1], change)) -/
theorem row_tail {K : PySem.W.Frag} {H : Hp} {D : Ends} {pw pf q ch : Addr} {i : Nat} {nm : Str} {st : Str × Str} {wd : List Str} {rs : List Addr} {a0 a1 a2 a3 a4 a5 a6 a7 a8 a9 : Option V} (hpw : H pw = some (.lst (wd.map V.str))) (hpf : H pf = some (.lst (rs.map V.ref))) (hq : StepAt K H q st) (hw : wd[i]? = some nm) (hl : rs.length ≤ 30)
    (k : ∀ (r : Addr) (H' : Hp), SameBut pf H H' → Kp H H' → H' pf = some (.lst ((rs ++ [r]).map V.ref)) → SqT K H' r [.str nm, .str st.1, .str st.2, .ref ch] → D.nx [a0, a1, a2, a3, a4, a5, a6, a7, a8, a9, some (V.ref pw), some (V.ref pf), some (V.int i), some (V.ref q), some (V.ref ch)] H') :
    tDrop (tBM K "list" rAppend (tVar 11) (tCons (tCB Rd.rMkTup (tCons (tOp (rIxL K) (tVar 10) (tVar 12)) (tCons (tOp (rIxT K) (tVar 13) (tC (V.int 0))) (tCons (tOp (rIxT K) (tVar 13) (tC (V.int 1))) (tCons (tVar 14) tNil))))) tNil)) D [a0, a1, a2, a3, a4, a5, a6, a7, a8, a9, some (V.ref pw), some (V.ref pf), some (V.int i), some (V.ref q), some (V.ref ch)] H := by
  have hq' : SqT K H q [.str st.1, .str st.2] := hq
  walk_at "rd"
  refine ⟨Rd.tyL (SqL.of (K := K) hpf), ?_⟩
  walk_at "rd"
  refine Rd.rd_ixL (SqL.of hpw) (atI_nat (v := V.str nm) (by rw [List.getElem?_map, hw]; rfl)) ?_
  walk_at "rd"
  refine Rd.rd_mkTup (by show 4 ≤ sizeLine; decide) fun r H1 hr s1 h1 => ?_
  walk_at "rd"
  refine Rd.rd_append (s1 _ _ hpf) (by rw [List.length_map]; exact Nat.lt_of_le_of_lt hl (by decide)) ?_
  have kp : Kp H1 (upd H1 pf (.lst (rs.map V.ref ++ [V.ref r]))) := kp_upd (s1 _ _ hpf) rfl
  refine k r _ ((SameBut.of s1).trans SameBut.upd) ((kpS s1).trans kp) ?_ (kp.sqT (SqT.of h1))
  rw [upd_same, List.map_append]; rfl
section
variable {gd : Bool} {P : Program} {w : World} {K : PySem.W.Frag} {mg : Str → Option Value} {base : Heap}
theorem ok_graph (F : Rd.Has K mg "_law_graph" s__law_graph) (g : Glob mg) (c__law_roll : Rd.Fn gd P w K mg base CX0 1 "_law_roll" spRoll) (c__law_one_of : Rd.Fn gd P w K mg base CX0 2 "_law_one_of" (spOneOf K)) (c__law_mixed : Rd.Fn gd P w K mg base CX0 2 "_law_mixed" (spMixP K)) (c__law_kind : Rd.Fn gd P w K mg base CX0 4 "_law_kind" (spDrawChg K)) (c__law_words : Rd.Fn gd P w K mg base CX0 3 "_law_words" spWords) :
    Rd.Fn gd P w K mg base CX0 5 "_law_graph" (spGraph K) := by
  refine F.fn sc__law_graph (fun _ => rfl) (fun _ _ _ _ _ _ us hl => match us, hl with | [_, _, _, _], _ => rfl) fun f cdv A outer s H Q E b hr h => ?_
  obtain ⟨d, m1, m2, m3⟩ := b
  obtain ⟨hD, ⟨a1, a2⟩, ⟨b1, b2⟩, ⟨c1, c2⟩, k⟩ := h
  dsimp only at hD a1 a2 b1 b2 c1 c2 k
  refine ⟨_, (pss_cons (ps_set (i := 4) sc__law_graph.nd rfl (Or.inr rfl) (pe_callB (Rd.c_sortT rfl) (by rfl) g.sorted (by decide +kernel) (pa_cons (pe_slice sl_list (Rd.pe_fn c__law_mixed (hr.mono (by decide)) (by rfl) (pa_cons (pv 0) (pa_cons (Rd.pe_lst (pa_cons pe_str (pa_cons pe_str (pa_cons pe_str (pa_cons pe_str pa_nil))))) pa_nil))) po_none (po_some (pe_op op_add pe_int (Rd.pe_fn c__law_roll (hr.mono (by decide)) (by rfl) (pa_cons (pv 0) (pa_cons (pv 1) pa_nil)))))) pa_nil)))
      (pss_cons (ps_set (i := 5) sc__law_graph.nd rfl (Or.inl rfl) (pe_callB (Rd.c_sortT rfl) (by rfl) g.sorted (by decide +kernel) (pa_cons (pe_slice sl_list (Rd.pe_fn c__law_mixed (hr.mono (by decide)) (by rfl) (pa_cons (pv 0) (pa_cons (Rd.pe_lst (pa_cons pe_str (pa_cons pe_str (pa_cons pe_str (pa_cons pe_str (pa_cons pe_str pa_nil)))))) pa_nil))) po_none (po_some (pe_op op_add pe_int (Rd.pe_fn c__law_roll (hr.mono (by decide)) (by rfl) (pa_cons (pv 0) (pa_cons (pv 2) pa_nil)))))) pa_nil)))
      (pss_cons (ps_set (i := 6) sc__law_graph.nd rfl (Or.inl rfl) (pe_ifExp (pt_cmpR op_gt (pe_callB Rd.c_len (by rfl) g.len (by decide +kernel) (pa_cons (pv 4) pa_nil)) pe_int (nomark _)) (pe_lc (own := [("_law_at", 12)]) (by rfl) sc__law_graph.nd (pi_range1 (by rfl) g.range (pa_cons (pe_callB Rd.c_len (by rfl) g.len (by decide +kernel) (pa_cons (pv 4) pa_nil)) pa_nil)) (blkOk_by (own := [("_law_at", 12)]) (N := ["_law_dice_here", "_law_most_states", "_law_most_counters", "_law_more", "_law_nodes", "_law_counters", "_law_pairs", "_law_spots", "_law_turn", "_law_source", "_law_names", "_law_found", "_law_at", "_law_pair", "_law_change_here"]) (sc := defScope s__law_graph) (by decide +kernel)) (fun _ _ _ _ _ => (pg_name (i := 12) sc__law_graph.nd rfl (Or.inl rfl))) (fun _ _ _ _ _ => pts_nil) (fun _ _ _ _ _ => (Rd.pe_tup (pa_cons (pe_ix (Rd.ix_listK (K := K) (by rfl)) (pv 4) (pe_op op_sub (pv 12) pe_int) (fun _ _ => rfl)) (pa_cons (pe_ix (Rd.ix_listK (K := K) (by rfl)) (pv 4) (pv 12) (fun _ _ => rfl)) pa_nil))))) (Rd.pe_lst pa_nil)))
      (pss_cons (ps_set (i := 7) sc__law_graph.nd rfl (Or.inl rfl) (pe_callB Rd.c_len (by rfl) g.len (by decide +kernel) (pa_cons (pv 6) pa_nil)))
      (pss_cons (ps_for PassesOwn.never rfl (pi_range1 (by rfl) g.range (pa_cons (pe_op op_add pe_int (Rd.pe_fn c__law_roll (hr.mono (by decide)) (by rfl) (pa_cons (pv 0) (pa_cons (pv 3) pa_nil)))) pa_nil)) (pg_name (i := 8) sc__law_graph.nd rfl (Or.inl rfl)) (pss_cons (ps_set (i := 9) sc__law_graph.nd rfl (Or.inl rfl) (Rd.pe_fn c__law_one_of (hr.mono (by decide)) (by rfl) (pa_cons (pv 0) (pa_cons (pv 4) pa_nil))))
      (pss_one (ps_expr (pe_bm PySem.F.plainAttrs_list PySem.F.slot_list_append PySem.F.type_list_append mt_append (pv 6) (pa_cons (Rd.pe_tup (pa_cons (pv 9) (pa_cons (Rd.pe_fn c__law_one_of (hr.mono (by decide)) (by rfl) (pa_cons (pv 0) (pa_cons (Rd.pe_lst (pa_cons (pv 9) (pa_cons (pv 9) (pa_cons (Rd.pe_fn c__law_one_of (hr.mono (by decide)) (by rfl) (pa_cons (pv 0) (pa_cons (pv 4) pa_nil))) pa_nil)))) pa_nil))) pa_nil))) pa_nil))))))
      (pss_cons (ps_par (i := 10) (j := 11) (by rfl) sc__law_graph.nd rfl rfl (by decide) rfl rfl (pa_cons (Rd.pe_fn c__law_words (hr.mono (by decide)) (by rfl) (pa_cons (pv 0) (pa_cons (pe_callB Rd.c_len (by rfl) g.len (by decide +kernel) (pa_cons (pv 6) pa_nil)) pa_nil))) (pa_cons (Rd.pe_lst pa_nil) pa_nil)) (by rfl))
      (pss_cons (ps_for PassesOwn.never rfl (pi_enum (by rfl) g.enumerate (pa_cons (pv 6) pa_nil)) (pg_tup rfl (pgs_cons (pg_name (i := 12) sc__law_graph.nd rfl (Or.inl rfl)) (pgs_cons (pg_name (i := 13) sc__law_graph.nd rfl (Or.inl rfl)) pgs_nil))) (pss_cons (ps_set (i := 14) sc__law_graph.nd rfl (Or.inl rfl) (Rd.pe_fn c__law_kind (hr.mono (by decide)) (by rfl) (pa_cons (pv 0) (pa_cons (pv 5) pa_nil))))
      (pss_cons (ps_if (PW.pt (pw_and (pt_cmpR op_lt (pv 12) (pv 7) (nomark _)) (pw_and1 (pt_cmpR op_eq (Rd.pe_fn c__law_roll (hr.mono (by decide)) (by rfl) (pa_cons (pv 0) (pa_cons pe_int pa_nil))) pe_int (nomark _))))) (pss_one (ps_set (i := 14) sc__law_graph.nd rfl (Or.inl rfl) (Rd.pe_tupF pa_nil))) pss_nil)
      (pss_one (ps_expr (pe_bm PySem.F.plainAttrs_list PySem.F.slot_list_append PySem.F.type_list_append mt_append (pv 11) (pa_cons (Rd.pe_tup (pa_cons (pe_ix ix_list (pv 10) (pv 12) (fun _ _ => rfl)) (pa_cons (pe_ix ix_tup (pv 13) pe_int (fun _ _ => rfl)) (pa_cons (pe_ix ix_tup (pv 13) pe_int (fun _ _ => rfl)) (pa_cons (pv 14) pa_nil))))) pa_nil)))))))
      (pss_one (ps_ret (Rd.pe_tup (pa_cons (pe_callTy Rd.c_tuple (by rfl) g.tuple (by decide +kernel) (pa_cons (pv 5) pa_nil)) (pa_cons (pe_callTy Rd.c_tuple (by rfl) g.tuple (by decide +kernel) (pa_cons (pv 4) pa_nil)) (pa_cons (pe_callTy Rd.c_tuple (by rfl) g.tuple (by decide +kernel) (pa_cons (pe_callB Rd.c_sortK (by rfl) g.sorted (by decide +kernel) (pa_cons (pv 11) pa_nil)) pa_nil)) pa_nil))))))))))))), ?_⟩
  try simp only [Rd.noxK, Rd.cxK]
  refine Rd.rd_start [some (V.ref d), some (V.int m1), some (V.int m2), some (V.int m3), none, none, none, none, none, none, none, none, none, none, none] rfl ?_
  walk_at "rd"
  refine Rd.rd_mkLst (by show 4 ≤ sizeLine; decide) fun l1 H1 hl1 s1 h1 => ?_
  walk_at "rd"
  refine Rd.rd_sp (d, l1, nodeNames.map V.str) rfl ⟨hD.same s1, hD.ne hl1, SqL.of h1, by show 4 < 1000; decide, fun l2 ys H2 hl2 pm R2 h2 => ?_⟩
  have R02 : Rolled d H H2 := Rolled.pre s1 R2
  have nl2 : l2 ≠ d := (hD.same s1).ne hl2
  obtain ⟨ws, pw, rfl⟩ := perm_map_inv V.str pm nodeNames rfl
  walk_at "rd"
  refine rd_roll R02.dice (by omega) (by omega) fun r H3 r0 r1 R3 => ?_
  walk_at "rd"
  have nd1 : ws.Nodup := pw.nodup_iff.mpr (by decide +kernel)
  have lw : ws.length = 4 := pw.length_eq
  have R03 := R02.trans R3
  refine cut_sorted (n := 1 + r.toNat) (by omega) (R3.keep _ _ nl2 h2) nd1 (by omega) (by omega) fun ns pn H4 na nlen nm hpn s4 h4 => ?_
  have R04 := R03.same s4
  have hpn0 : H pn = none := none_rol R03 hD hpn
  have npn : pn ≠ d := hD.ne hpn0
  have nsN : ∀ z ∈ ns, z ∈ nodeNames := fun z hz => pw.mem_iff.mp (nm z hz)
  clear h1 h2 pm nm hl1 hl2
  walk_at "rd"
  refine Rd.rd_mkLst (by show 5 ≤ sizeLine; decide) fun l5 H5 hl5 s5 h5 => ?_
  walk_at "rd"
  have D5 := R04.dice.same s5
  refine Rd.rd_sp (d, l5, counterNames.map V.str) rfl ⟨D5, R04.dice.ne hl5, SqL.of h5, by show 5 < 1000; decide, fun l6 ys H6 hl6 pm6 R6 h6 => ?_⟩
  have R06 : Rolled d H H6 := (R04.same s5).trans R6
  have nl6 : l6 ≠ d := D5.ne hl6
  obtain ⟨vs, pv, rfl⟩ := perm_map_inv V.str pm6 counterNames rfl
  walk_at "rd"
  refine rd_roll R06.dice (by omega) (by omega) fun r7 H7 r70 r71 R7 => ?_
  walk_at "rd"
  have nd6 : vs.Nodup := pv.nodup_iff.mpr (by decide +kernel)
  have lv : vs.length = 5 := pv.length_eq
  have R07 := R06.trans R7
  refine cut_sorted (n := 1 + r7.toNat) (by omega) (R7.keep _ _ nl6 h6) nd6 (by omega) (by omega) fun cs pc H8 ca clen cm hpc s8 h8 => ?_
  have R08 := R07.same s8
  have hpc0 : H pc = none := none_rol R07 hD hpc
  have npc : pc ≠ d := hD.ne hpc0
  have csN : ∀ z ∈ cs, z ∈ counterNames := fun z hz => pv.mem_iff.mp (cm z hz)
  have h8n : H8 pn = some (.lst (ns.map V.str)) := s8 _ _ (R7.keep _ _ npn (R6.keep _ _ npn (s5 _ _ h4)))
  have nN8 : SqL K H8 pn (ns.map V.str) := SqL.of h8n
  clear h5 h6 pm6 cm hl5 hl6
  walk_at "rd"
  rw [List.length_map]
  refine ring_draw (by omega) (by omega) h8n fun pp H9 ps hpp s9 h9 hP9 => ?_
  have R09 := R08.same s9
  have hpp0 : H pp = none := none_rol R08 hD hpp
  have npp : pp ≠ d := hD.ne hpp0
  have h9n : H9 pn = some (.lst (ns.map V.str)) := s9 _ _ h8n
  have h9c : H9 pc = some (.lst (cs.map V.str)) := s9 _ _ h8
  have h9L : SqL K H9 pp (ps.map V.ref) := SqL.of h9
  walk_at "rd"
  rw [List.length_map]
  refine rd_roll R09.dice (by omega) (by omega) fun r10 H10 r100 r101 R10 => ?_
  walk_at "rd"
  refine Rd.rd_IR1 (by omega) (by omega) ?_
  have lring := ring_len ns
  have lps : ps.length = (ring ns).length := hP9.length
  have n1 : 0 < (ns.map V.str).length := by rw [List.length_map]; omega
  have n2 : (ns.map V.str).length < 1000 := by rw [List.length_map]; omega
  refine Rd.for_range (fun i σ' H' => ∃ (qs : List Addr) (sts : List (Str × Str)) (t u : Option V), σ' = [some (V.ref d), some (V.int m1), some (V.int m2), some (V.int m3), some (V.ref pn), some (V.ref pc), some (V.ref pp), some (V.int ps.length), t, u, none, none, none, none, none] ∧ Rolled d H H' ∧ H' pn = some (.lst (ns.map V.str)) ∧ H' pc = some (.lst (cs.map V.str)) ∧ H' pp = some (.lst (qs.map V.ref)) ∧ Paired (StepAt K H') qs (ring ns ++ sts) ∧ sts.length = i ∧ ∀ st ∈ sts, st.1 ∈ ns ∧ st.2 ∈ ns) ?_ (fun i σ' H11 hi p => ?_) (fun σ' H11 p => ?_)
  · exact ⟨ps, [], none, none, rfl, R09.trans R10, R10.keep _ _ npn h9n, R10.keep _ _ npc h9c, R10.keep _ _ npp h9, by rw [List.append_nil]; exact L2.Paired.mapP hP9 fun _ _ z => (R10.kp R09.dice).sqT z, rfl, fun _ z => (List.not_mem_nil z).elim⟩
  · obtain ⟨qs, sts, t, u, rfl, R11, h11n, h11c, h11, hP11, hl11, hs11⟩ := p
    refine Rd.rd_start' [some (V.ref d), some (V.int m1), some (V.int m2), some (V.int m3), some (V.ref pn), some (V.ref pc), some (V.ref pp), some (V.int ps.length), t, u, none, none, none, none, none] rfl ?_
    walk_at "rd"
    refine rd_one R11.dice npn (SqL.of h11n) n1 n2 fun v H12 hv R12 => ?_
    obtain ⟨x, rfl, hx⟩ := strs_of hv
    have k12 := R12.kp R11.dice
    have R012 := R11.trans R12
    walk_at "rd"
    have h12n := R12.keep _ _ npn h11n
    have h12 := R12.keep _ _ npp h11
    refine ⟨Rd.tyL (SqL.of (K := K) h12), ?_⟩
    walk_at "rd"
    refine rd_one R012.dice npn (SqL.of h12n) n1 n2 fun v H13 hv R13 => ?_
    obtain ⟨y, rfl, hy⟩ := strs_of hv
    have R013 := R012.trans R13
    walk_at "rd"
    refine Rd.rd_mkLst (by show 3 ≤ sizeLine; decide) fun l14 H14 hl14 s14 h14 => ?_
    have R014 := R013.same s14
    walk_at "rd"
    refine rd_one R014.dice (R013.dice.ne hl14) (SqL.of h14) (by show 0 < 3; decide) (by show 3 < 1000; decide) fun v H15 hv R15 => ?_
    obtain ⟨z, rfl, hz⟩ : ∃ z, v = .str z ∧ z ∈ ns := by
      obtain ⟨z, e, hz⟩ := strs_of (ns := [x, x, y]) hv
      refine ⟨z, e, ?_⟩
      simp only [List.mem_cons, List.not_mem_nil, or_false] at hz
      rcases hz with e | e | e <;> rw [e] <;> assumption
    have R015 := R014.trans R15
    walk_at "rd"
    refine Rd.rd_mkTup (by show 2 ≤ sizeLine; decide) fun q16 H16 hq16 s16 h16 => ?_
    have R016 := R015.same s16
    have k16 : Kp H11 H16 := ((k12.trans (R13.kp R012.dice)).trans (kpS s14)).trans ((R15.kp R014.dice).trans (kpS s16))
    have kk : ∀ b o, b ≠ d → H11 b = some o → H16 b = some o := fun b o hb e => s16 _ _ (R15.keep _ _ hb (s14 _ _ (R13.keep _ _ hb (R12.keep _ _ hb e))))
    have h16p : H16 pp = some (.lst (qs.map V.ref)) := kk _ _ npp h11
    have lq : qs.length ≤ 30 := by rw [hP11.length, List.length_append]; omega
    walk_at "rd"
    refine Rd.rd_append h16p (by rw [List.length_map]; exact Nat.lt_of_le_of_lt lq (by decide)) ?_
    walk_at "rd"
    have kp17 : Kp H16 (upd H16 pp (.lst (qs.map V.ref ++ [V.ref q16]))) := kp_upd h16p rfl
    have nnp : pn ≠ pp := (ne_of_none h8n hpp)
    have ncp : pc ≠ pp := (ne_of_none h8 hpp)
    refine ⟨qs ++ [q16], sts ++ [(x, z)], _, _, rfl, R016.mut hpp0 npp, by rw [upd_ne nnp]; exact kk _ _ npn h11n, by rw [upd_ne ncp]; exact kk _ _ npc h11c, by rw [upd_same, List.map_append]; rfl, ?_, by rw [List.length_append, hl11]; rfl, fun st hst => ?_⟩
    · rw [← List.append_assoc]
      exact paired_app (L2.Paired.mapP hP11 fun _ _ z => kp17.sqT (k16.sqT z)) (.cons (kp17.sqT (SqT.of h16)) .nil)
    · rcases List.mem_append.mp hst with e | e
      · exact hs11 st e
      · rw [List.mem_singleton.mp e]; exact ⟨hx, hz⟩
  · obtain ⟨qs, sts, t, u, rfl, R11, h11n, h11c, h11, hP11, hl11, hs11⟩ := p
    have h11L : SqL K H11 pp (qs.map V.ref) := SqL.of h11
    have lq : qs.length = (ring ns).length + sts.length := by rw [hP11.length, List.length_append]
    walk_at "rd"
    rw [List.length_map]
    refine Rd.rd_sp (d, qs.length) rfl ⟨R11.dice, by show qs.length ≤ 16; omega, fun pw2 H12 wd hpw R12 h12 wnd wmem wlen => ?_⟩
    dsimp only at wlen
    have R012 := R11.trans R12
    have hpw0 : H pw2 = none := none_rol R11 hD hpw
    have npw : pw2 ≠ d := hD.ne hpw0
    walk_at "rd"
    refine Rd.rd_mkLst (by show 0 ≤ sizeLine; decide) fun pf H13 hpf s13 h13 => ?_
    have R013 := R012.same s13
    have hpf0 : H pf = none := none_rol R012 hD hpf
    have npf : pf ≠ d := hD.ne hpf0
    have k13 : Kp H11 H13 := (R12.kp R11.dice).trans (kpS s13)
    have kk : ∀ b o, b ≠ d → H11 b = some o → H13 b = some o := fun b o hb e => s13 _ _ (R12.keep _ _ hb e)
    have h13p : SqL K H13 pp (qs.map V.ref) := SqL.of (kk _ _ npp h11)
    walk_at "rd"
    refine Rd.for_enum (K := K) (xs := qs.map V.ref) (fun i σ' H' => ∃ (rs : List Addr) (ts : List Tr) (v1 v2 v3 : Option V), σ' = [some (V.ref d), some (V.int m1), some (V.int m2), some (V.int m3), some (V.ref pn), some (V.ref pc), some (V.ref pp), some (V.int ps.length), t, u, some (V.ref pw2), some (V.ref pf), v1, v2, v3] ∧ Rolled d H H' ∧ H' pn = some (.lst (ns.map V.str)) ∧ H' pc = some (.lst (cs.map V.str)) ∧ H' pp = some (.lst (qs.map V.ref)) ∧ H' pw2 = some (.lst (wd.map V.str)) ∧ H' pf = some (.lst (rs.map V.ref)) ∧ Paired (StepAt K H') qs (ring ns ++ sts) ∧ Paired (RowAt K H') rs ts ∧ ts.map (·.nm) = wd.take i ∧ ts.map (fun t => (t.src, t.tgt)) = (ring ns ++ sts).take i ∧ ∀ t ∈ ts, ChgOk t.chg ∧ t.chg.length ≤ 5 ∧ ∀ kv ∈ t.chg, kv.1 ∈ cs) ?_ (fun i σ' H' _ p => ?_) (fun i x σ' H14 T H15 hx p hT s15 h15 => ?_) (fun σ' H14 p => ?_)
    · exact ⟨[], [], none, none, none, rfl, R013, kk _ _ npn h11n, kk _ _ npc h11c, kk _ _ npp h11, s13 _ _ h12, h13, L2.Paired.mapP hP11 fun _ _ z => k13.sqT z, .nil, rfl, rfl, fun _ z => (List.not_mem_nil z).elim⟩
    · obtain ⟨rs, ts, v1, v2, v3, _, _, _, _, q5, _⟩ := p
      exact SqL.of q5
    · obtain ⟨rs, ts, v1, v2, v3, rfl, R14, q1, q2, q3, q4, q5, hP14, hR14, en, ee, hok⟩ := p
      rw [List.getElem?_map] at hx
      obtain ⟨q, hq, rfl⟩ := Option.map_eq_some_iff.mp hx
      obtain ⟨st, hst, hqs⟩ := paired_get hP14 hq
      have hT15 : SqT K H15 T [.int (i : Nat), .ref q] := SqT.of h15
      refine Rd.rd_start' [some (V.ref d), some (V.int m1), some (V.int m2), some (V.int m3), some (V.ref pn), some (V.ref pc), some (V.ref pp), some (V.int ps.length), t, u, some (V.ref pw2), some (V.ref pf), v1, v2, v3] rfl ?_
      walk_at "rd"
      have csO : cs ≠ [] ∧ cs.length ≤ 5 ∧ ∀ c ∈ cs, isName c = true := ⟨List.length_pos_iff.mp (by omega), by omega, fun c hc => names_ok.2.1 c (csN c hc)⟩
      have R15 := R14.same s15
      refine Rd.rd_sp (d, pc, cs) rfl ⟨R15.dice, npc, SqL.of (s15 _ _ q2), csO, fun ch H16 chg R16 hchg cok cmem clen => ?_⟩
      have R016 := R15.trans R16
      walk_at "rd"
      have lqi : i < qs.length := (List.getElem?_eq_some_iff.mp hq).1
      obtain ⟨nm, hnm⟩ : ∃ nm, wd[i]? = some nm := ⟨wd[i]'(by omega), List.getElem?_eq_getElem (by omega)⟩
      have lrs : rs.length ≤ 30 := by
        have h1 : ts.length ≤ wd.length := by
          have := congrArg List.length en
          rw [List.length_map, List.length_take] at this; omega
        rw [hR14.length]; omega
      have nfn : pn ≠ pf := fun z => by rw [z] at h11n; exact absurd (R12.keep _ _ npf h11n) (by rw [hpf]; exact nofun)
      have nfc : pc ≠ pf := fun z => by rw [z] at h11c; exact absurd (R12.keep _ _ npf h11c) (by rw [hpf]; exact nofun)
      have nfp : pp ≠ pf := fun z => by rw [z] at h11; exact absurd (R12.keep _ _ npf h11) (by rw [hpf]; exact nofun)
      have nfw : pw2 ≠ pf := ne_of_none h12 hpf
      have fin : ∀ (ch2 : Addr) (chg2 : List (Str × Int)) (Hx : Hp) (r : Addr) (Hy : Hp) (σx : L2.St), (∃ v1 v2 v3, σx = [some (V.ref d), some (V.int m1), some (V.int m2), some (V.int m3), some (V.ref pn), some (V.ref pc), some (V.ref pp), some (V.int ps.length), t, u, some (V.ref pw2), some (V.ref pf), v1, v2, v3]) → Rolled d H14 Hx → ChgAt K Hx ch2 chg2 → ChgOk chg2 → chg2.length ≤ 5 → (∀ kv ∈ chg2, kv.1 ∈ cs) → SameBut pf Hx Hy → Kp Hx Hy → Hy pf = some (.lst ((rs ++ [r]).map V.ref)) → SqT K Hy r [.str nm, .str st.1, .str st.2, .ref ch2] → ∃ (rs : List Addr) (ts : List Tr) (v1 v2 v3 : Option V), σx = [some (V.ref d), some (V.int m1), some (V.int m2), some (V.int m3), some (V.ref pn), some (V.ref pc), some (V.ref pp), some (V.int ps.length), t, u, some (V.ref pw2), some (V.ref pf), v1, v2, v3] ∧ Rolled d H Hy ∧ Hy pn = some (.lst (ns.map V.str)) ∧ Hy pc = some (.lst (cs.map V.str)) ∧ Hy pp = some (.lst (qs.map V.ref)) ∧ Hy pw2 = some (.lst (wd.map V.str)) ∧ Hy pf = some (.lst (rs.map V.ref)) ∧ Paired (StepAt K Hy) qs (ring ns ++ sts) ∧ Paired (RowAt K Hy) rs ts ∧ ts.map (·.nm) = wd.take (i + 1) ∧ ts.map (fun t => (t.src, t.tgt)) = (ring ns ++ sts).take (i + 1) ∧ ∀ t ∈ ts, ChgOk t.chg ∧ t.chg.length ≤ 5 ∧ ∀ kv ∈ t.chg, kv.1 ∈ cs := by
        intro ch2 chg2 Hx r Hy σx hσ Rx hch cok2 clen2 cmem2 bx kx hf hrow
        obtain ⟨w1, w2, w3, rfl⟩ := hσ
        have kx0 : Kp H14 Hy := (Rx.kp R14.dice).trans kx
        have go : ∀ b o, b ≠ d → b ≠ pf → H14 b = some o → Hy b = some o := fun b o h1 h2 e => bx _ _ h2 (Rx.keep _ _ h1 e)
        have R0x := R14.trans Rx
        refine ⟨rs ++ [r], ts ++ [⟨nm, st.1, st.2, chg2⟩], w1, w2, w3, rfl, ⟨fun b o hb e => bx _ _ (ne_of_none e hpf0) (R0x.keep b o hb e), by
          obtain ⟨x, y, z, q⟩ := R0x.dice
          exact ⟨x, y, z, bx _ _ npf.symm q⟩⟩, go _ _ npn nfn q1, go _ _ npc nfc q2, go _ _ npp nfp q3, go _ _ npw nfw q4, hf, L2.Paired.mapP hP14 fun _ _ z => kx0.sqT z, ?_, ?_, ?_, fun t ht => ?_⟩
        · exact paired_app (L2.Paired.mapP hR14 fun _ _ z => z.kp kx0) (.cons ⟨ch2, hrow, hch.kp kx⟩ .nil)
        · rw [List.map_append, en, List.take_add_one, hnm]; rfl
        · rw [List.map_append, ee, List.take_add_one, hst]; rfl
        · rcases List.mem_append.mp ht with e | e
          · exact hok t e
          · rw [List.mem_singleton.mp e]; exact ⟨cok2, clen2, cmem2⟩
      have q16w := R16.keep _ _ npw (s15 _ _ q4)
      have q16f := R16.keep _ _ npf (s15 _ _ q5)
      have R1416 : Rolled d H14 H16 := Rolled.pre s15 R16
      have st16 : StepAt K H16 q st := (R1416.kp R14.dice).sqT hqs
      refine ite2 (fun hc => ?_) (fun hc => ?_)
      · walk_at "rd"
        refine rd_roll R016.dice (by omega) (by omega) fun r17 H17 r170 r171 R17 => ?_
        have R1417 := R1416.trans R17
        have q17w := R17.keep _ _ npw q16w
        have q17f := R17.keep _ _ npf q16f
        have st17 : StepAt K H17 q st := (R1417.kp R14.dice).sqT hqs
        walk_at "rd"
        refine ite2 (fun hc2 => ?_) (fun hc2 => ?_)
        · walk_at "rd"
          refine Rd.rd_mkTupF (by show 0 ≤ sizeLine; decide) fun e18 H18 he18 s18 h18 => ?_
          refine Rd.rd_nx (Rd.rd_start [some (V.ref d), some (V.int m1), some (V.int m2), some (V.int m3), some (V.ref pn), some (V.ref pc), some (V.ref pp), some (V.int ps.length), t, u, some (V.ref pw2), some (V.ref pf), some (V.int i), some (V.ref q), some (V.ref e18)] rfl ?_)
          refine row_tail (st := st) (s18 _ _ q17w) (s18 _ _ q17f) ((kpS s18).sqT st17) hnm lrs fun r H19 b19 k19 hf hrow => ?_
          exact fin _ [] H18 r H19 _ ⟨_, _, _, rfl⟩ (R1417.same s18) ⟨[], h18, .nil⟩ ⟨List.Pairwise.nil, fun _ z => (List.not_mem_nil z).elim⟩ (Nat.zero_le _) (fun _ z => (List.not_mem_nil z).elim) b19 k19 hf hrow
        · refine Rd.rd_next ?_
          refine Rd.rd_nx ?_
          refine row_tail (st := st) q17w q17f st17 hnm lrs fun r H19 b19 k19 hf hrow => ?_
          exact fin _ chg H17 r H19 _ ⟨_, _, _, rfl⟩ R1417 (hchg.kp (R17.kp R016.dice)) cok clen cmem b19 k19 hf hrow
      · refine Rd.rd_next ?_
        refine Rd.rd_nx ?_
        refine row_tail (st := st) q16w q16f st16 hnm lrs fun r H19 b19 k19 hf hrow => ?_
        exact fin _ chg H16 r H19 _ ⟨_, _, _, rfl⟩ R1416 hchg cok clen cmem b19 k19 hf hrow
    · obtain ⟨rs, ts, v1, v2, v3, rfl, R14, q1, q2, q3, q4, q5, hP14, hR14, en, ee, hok⟩ := p
      rw [List.length_map, ← wlen, List.take_length] at en
      rw [List.length_map, hP11.length, List.take_length] at ee
      have lts : ts.length = wd.length := by rw [← en, List.length_map]
      have lp : ts.length = rs.length := hR14.length.symm
      have n1' : ns ≠ [] := List.length_pos_iff.mp (by omega)
      walk_at "rd"
      refine Rd.rd_tupleL (SqL.of q2) fun tc H15 htc s15 h15 => ?_
      walk_at "rd"
      refine Rd.rd_tupleL (SqL.of (s15 _ _ q1)) fun tn H16 htn s16 h16 => ?_
      walk_at "rd"
      have s1416 := s15.trans s16
      have hP16 : Paired (RowAt K H16) rs ts := L2.Paired.mapP hR14 fun _ _ z => z.kp (kpS s1416)
      have en' : ((ts.zip rs).map fun z => (z.1.nm, z.2)).map (fun z => V.ref z.2) = rs.map V.ref := by
        rw [List.map_map, ← zip_snd lp, List.map_map]
        simp only [Function.comp_def, zip_snd lp]
      have en1 : ((ts.zip rs).map fun z => (z.1.nm, z.2)).map (fun z => z.1) = ts.map (·.nm) := by
        rw [List.map_map, ← zip_fst lp, List.map_map]
        simp only [Function.comp_def, zip_fst lp]
      refine Rd.rd_sortK (zs := (ts.zip rs).map fun z => (z.1.nm, z.2)) (.inr (by rw [en']; exact SqL.of (s1416 _ _ q5))) (by rw [List.length_map, List.length_zip]; omega) (fun z hz => ?_) (by rw [en1, en]; exact wnd) fun ys p8 H17 py ya hn17 s17 h17 => ?_
      · obtain ⟨y, hy, rfl⟩ := List.mem_map.mp hz
        obtain ⟨c, hrow, _⟩ := paired_zip hP16 y hy
        exact ⟨_, hrow⟩
      obtain ⟨ts2, pm2, asc2, hP2⟩ := rows_sorted' hP16 py ya
      have e8 : (ys.map fun z => V.ref z.2) = (ys.map (·.2)).map V.ref := by rw [List.map_map]; rfl
      rw [e8] at h17
      walk_at "rd"
      refine Rd.rd_tupleL (SqL.of h17) fun tt H18 htt s18 h18 => ?_
      walk_at "rd"
      refine Rd.rd_mkTup (by show 3 ≤ sizeLine; decide) fun pl H19 hpl s19 h19 => ?_
      have s1719 := s18.trans s19
      have s1619 := s17.trans s1719
      have LP : Loop1 ts2 ns := (ring_rows n1' na.nodup ee hs11).perm pm2.symm
      have mem2 : ∀ x ∈ ts2, x ∈ ts := fun x hx => pm2.mem_iff.mp hx
      have nmW : ∀ x ∈ ts, x.nm ∈ words := fun x hx => wmem _ (by rw [← en]; exact List.mem_map.mpr ⟨x, hx, rfl⟩)
      refine k pl H19 ⟨cs, ns, ts2⟩ (((R14.same s1416).same s17).same s1719) ⟨tc, tn, tt, SqT.of h19, TxT.kp (kpS (s16.trans s1619)) (SqT.of h15), TxT.kp (kpS s1619) (SqT.of h16), ⟨_, (kpS s19).sqT (SqT.of h18), L2.Paired.mapP hP2 fun _ _ z => z.kp (kpS s1619)⟩⟩ ?_ ⟨?_, nsN, csN, fun x hx => nmW x (mem2 x hx), by show ns.length ≤ m1; omega, by show cs.length ≤ m2; omega, by show ts2.length ≤ m1 + m3; rw [pm2.length_eq]; omega⟩
      rotate_left
      · show ts2 ≠ []
        exact List.length_pos_iff.mp (by rw [pm2.length_eq]; omega)
      refine ⟨List.length_pos_iff.mp (by show 0 < cs.length; omega), by show cs.length ≤ 5; omega, ca, fun x hx => names_ok.2.1 x (csN x hx), by show ns.length ≤ 8; omega, na, fun x hx => names_ok.1 x (nsN x hx), by show ts2.length ≤ 16; rw [pm2.length_eq]; omega, asc2, fun x hx => ?_, fun x hx => (hok x (mem2 x hx)).2.2, fun x hx hc => names_ok.2.2.2 _ (nmW x (mem2 x hx)) (csN _ hc), LP⟩
      obtain ⟨o1, o2, o3⟩ := hok x (mem2 x hx)
      obtain ⟨l1, l2⟩ := LP.ends x hx
      exact ⟨names_ok.2.2.1 _ (nmW x (mem2 x hx)), names_ok.1 _ (nsN _ l1), names_ok.1 _ (nsN _ l2), o1, o2⟩
end
end M
set_option Elab.async false
set_option linter.all false
set_option maxRecDepth 100000
set_option maxHeartbeats 4000000
namespace M
open PySem L2
local macro_rules | `(tactic| walk_at "rdc") => `(tactic| first | exact Or.inl ⟨by decide, by decide⟩ | exact Or.inr ⟨by decide, by decide⟩ | exact ⟨by decide, by decide, by decide⟩ | exact ⟨by decide, by decide⟩ | decide | omega | assumption | (refine Or.inl ⟨?_, ?_⟩ <;> omega) | (refine Or.inr ⟨?_, ?_⟩ <;> omega) | (refine ⟨?_, ?_⟩ <;> omega))
local macro_rules | `(tactic| walk_at "rd1") => `(tactic| with_reducible first
  | refine Rd.rd_seq ?_ | refine Rd.rd_asg ?_ | refine Rd.rd_op ?_ | (refine' Rd.rd_var ?vh ?_; (case vh => with_unfolding_all rfl)) | refine Rd.rd_c ?_ | refine Rd.rd_I0 ?_ | refine Rd.rd_name0 ?_ | refine Rd.rd_nameS ?_ | refine Rd.rd_fn ?_
  | refine Rd.rd_cb ?_ | refine Rd.rd_cons ?_ | refine Rd.rd_nil ?_ | refine Rd.rd_int ?_ | refine Rd.rd_intB ?_ | refine Rd.rd_abs ?_ | refine Rd.rd_max2 ?_ | refine Rd.rd_min2 ?_
  | refine Rd.rd_call ?_ | refine Rd.rd_ifE ?_ | refine Rd.rd_test ?_ | refine Rd.rd_tB ?_ | refine Rd.rd_blV ?_ | refine Rd.rd_and ?_ | refine Rd.rd_or ?_ | refine Rd.rd_not ?_
  | refine Rd.rd_andV ?_ | refine Rd.rd_orV ?_ | refine Rd.rd_notV ?_ | refine Rd.rd_next ?_ | refine Rd.rd_ret ?_ | refine Rd.rd_drop ?_ | refine Rd.rd_ifS ?_ | refine Rd.rd_nx ?_ | refine Rd.rd_rt ?_ | refine Rd.rd_tMatch ?_ | refine Rd.rd_tCO ?_ | refine Rd.rd_tRevL ?_ | refine Rd.rd_tStar ?_ | refine Rd.rd_joined ?_ | refine Rd.rd_js1 ?_ | refine Rd.rd_js0 ?_ | refine Rd.rd_fmt ?_ | refine Rd.rd_propR ?_ | refine Rd.rd_iZipA ?_ | refine Rd.rd_iEnumT ?_ | refine Rd.rd_iOwn ?_ | (refine' Rd.rd_IET ?ln ?_; (case ln => with_unfolding_all walk_at "at")) | refine Rd.rd_chain ?_ | refine Rd.rd_tPar ?_ | refine Rd.rd_par ?_ | refine Rd.rd_sl ?_ | refine Rd.rd_noPart ?_ | refine Rd.rd_part ?_ | refine Rd.rd_intV ?_ | refine Rd.rd_lc ?_ | (refine' Rd.rd_aug ?vh ?_; (case vh => with_unfolding_all rfl)) | refine Rd.rd_ipI ?_ | refine Rd.rd_for ?_ | (refine' Rd.rd_IT ?ln ?_; (case ln => with_unfolding_all walk_at "at")) | (refine' Rd.rd_IL ?ln ?_; (case ln => with_unfolding_all walk_at "at")) | refine Rd.rd_iTup ?_ | refine Rd.rd_iList ?_ | refine Rd.rd_iRng1 ?_ | refine Rd.rd_iRng2 ?_ | refine Rd.rd_isi (Rd.isi_int Rd.kk_int_int) ?_ | refine Rd.rd_isi (Rd.isi_int Rd.kk_int_bool) ?_ | refine Rd.rd_dget ?_ | refine Rd.rd_din ?_ | refine Rd.rd_dnotin ?_ | refine Rd.rd_dput ?_ | refine Rd.rd_dc ?_ | refine Rd.rd_lc2 ?_ | refine Rd.rd_ltS ?_ | refine Rd.rd_inSg ?_ | refine Rd.rd_iStr ?_ | refine Rd.rd_IS ?_ | refine Rd.rd_prC ?_ | refine Rd.rd_prN ?_ | refine Rd.rd_methR ?_ | refine Rd.rd_cmeth ?_ | refine Rd.rd_fldS ?_ | refine Rd.rd_fld ?_ | (refine' Rd.rd_mkVS ?vh ?_; (case vh => with_unfolding_all rfl)) | (refine' Rd.rd_starT ?ln ?_; (case ln => with_unfolding_all walk_at "at")) | refine Rd.rd_iEnum ?_ | refine Rd.rd_iZip ?_ | (refine' Rd.rd_IE ?ln ?_; (case ln => with_unfolding_all walk_at "at")) | (refine' Rd.rd_IZ ?ln ?lm ?_; (case ln => with_unfolding_all walk_at "at"); (case lm => with_unfolding_all walk_at "at")) | (refine' Rd.rd_gTup ?ln ?lk ?_; (case ln => with_unfolding_all walk_at "at"); (case lk => with_unfolding_all rfl)) | refine Rd.rd_gCons ?_ | refine Rd.rd_gNil ?_ | refine Rd.rd_m1 ?_ | refine Rd.rd_strV ?_ | refine Rd.rd_tXiM ?_ | refine Rd.rd_tXiB ?_ | refine Rd.rd_tXiS ?_ | refine Rd.rd_bm ?_ | refine Rd.rd_bm0 ?_ | refine Rd.rd_isN ?_ | refine Rd.rd_notN ?_ | refine Rd.rd_sub ?_ | refine Rd.rd_un ?_ | refine Rd.rd_U ?_
  | (refine' Rd.rd_eq ?sc ?_; (case sc => with_unfolding_all rfl)) | (refine' Rd.rd_ne ?sc ?_; (case sc => with_unfolding_all rfl))
  | (refine' Rd.rd_I ?cc ?_; (case cc => with_unfolding_all walk_at "rdc"))
  | (refine' Rd.rd_lenL ?ln ?_; (case ln => with_unfolding_all walk_at "at")) | (refine' Rd.rd_lenT ?ln ?_; (case ln => with_unfolding_all walk_at "at"))
  | (refine' Rd.rd_ixL ?ln ?ia ?_; (case ln => with_unfolding_all walk_at "at"); (case ia => with_unfolding_all first | exact Rd.at0 | exact Rd.at1 | exact Rd.at2 | exact Rd.at3 | exact Rd.at4 | rfl)) | (refine' Rd.rd_ixT ?ln ?ia ?_; (case ln => with_unfolding_all walk_at "at"); (case ia => with_unfolding_all first | exact Rd.at0 | exact Rd.at1 | exact Rd.at2 | exact Rd.at3 | exact Rd.at4 | rfl)))
local macro_rules | `(tactic| walk_at "at") => `(tactic| first | assumption | (apply SqL.of; assumption) | (apply SqT.of; assumption) | (apply SqL.of; exact upd_same) | (apply SqT.of; exact upd_same))
local macro_rules | `(tactic| walk_at "rd") => `(tactic| repeat walk_at "rd1")
/-! ### the graph of a plain one -/
abbrev s__law_built : Stmt := top 35
theorem sc__law_built : FnScope ["_law_plain"] ["_law_plain"] (defScope s__law_built) := ⟨rfl, rfl, rfl, by decide +kernel, rfl, by decide +kernel, by decide +kernel⟩
def spBuilt (K : PySem.W.Frag) (C : Addr) : Sp := Rd.mkSp (fun (a : Addr × Gr) => [.ref a.1]) fun a H Q _ => PlainAt K H a.1 a.2 ∧ GOk a.2 ∧ ∀ x H', Same H H' → GraphAt K C H' x a.2 → Q (.ref x) H'
theorem hu64 {gd : Bool} {k : Nat} {A : Around} (hr : Rd.RoomG gd k A) : A.units + 64 < cLine := hr.units
section
variable {gd : Bool} {P : Program} {w : World} {K : PySem.W.Frag} {mg : Str → Option Value} {base : Heap} {a : AdsG}
theorem ok_built (T : GraphC K mg a) (F : Rd.Has K mg "_law_built" s__law_built) (g : Glob mg) (c_Graph_of : FnR P w K mg base CX0 9 a.fo (spGOf K a.C)) : Rd.Fn gd P w K mg base CX0 11 "_law_built" (spBuilt K a.C) := by
  refine F.fn sc__law_built (fun _ => rfl) (fun _ _ _ _ _ _ us hl => match us, hl with | [_], _ => rfl) fun f cdv A outer s H Q E b hr h => ?_
  obtain ⟨p, G⟩ := b
  obtain ⟨⟨c, n, t, h0, hC, hN, hT⟩, GO, k⟩ := h
  dsimp only at h0 hC hN hT GO k
  refine ⟨_, (pss_one (ps_ret (ClX.pe_cmeth (Rd.pe_glr (by rfl) T.mgC) T.cr T.cm_of c_Graph_of (hr.mono (by decide)).toRoom pass0 (pa_cons (pe_ix ix_tup (pv 0) pe_int (fun _ _ => rfl)) (pa_cons (pe_ix ix_tup (pv 0) pe_int (fun _ _ => rfl)) (pa_cons (pe_ix ix_tup (pv 0) pe_int (fun _ _ => rfl)) pa_nil)))))), ?_⟩
  try simp only [Rd.noxK, Rd.cxK]
  refine Rd.rd_start [some (V.ref p)] rfl ?_
  walk_at "rd"
  refine ⟨rfl, ?_⟩
  walk_at "rd"
  exact Rd.rd_sp ((c, t, n), (G.cs, G.ns, G.ts), G) rfl ⟨hC, hT, hN, GO.norm fun _ _ => trivial, GO, k⟩
end
end M
set_option Elab.async false
set_option linter.all false
set_option maxRecDepth 100000
set_option maxHeartbeats 4000000
namespace M
open PySem L2
local macro_rules | `(tactic| walk_at "rdc") => `(tactic| first | exact Or.inl ⟨by decide, by decide⟩ | exact Or.inr ⟨by decide, by decide⟩ | exact ⟨by decide, by decide, by decide⟩ | exact ⟨by decide, by decide⟩ | decide | omega | assumption | (refine Or.inl ⟨?_, ?_⟩ <;> omega) | (refine Or.inr ⟨?_, ?_⟩ <;> omega) | (refine ⟨?_, ?_⟩ <;> omega))
local macro_rules | `(tactic| walk_at "rd1") => `(tactic| with_reducible first
  | refine Rd.rd_seq ?_ | refine Rd.rd_asg ?_ | refine Rd.rd_op ?_ | (refine' Rd.rd_var ?vh ?_; (case vh => with_unfolding_all rfl)) | refine Rd.rd_c ?_ | refine Rd.rd_I0 ?_ | refine Rd.rd_name0 ?_ | refine Rd.rd_nameS ?_ | refine Rd.rd_fn ?_
  | refine Rd.rd_cb ?_ | refine Rd.rd_cons ?_ | refine Rd.rd_nil ?_ | refine Rd.rd_int ?_ | refine Rd.rd_intB ?_ | refine Rd.rd_abs ?_ | refine Rd.rd_max2 ?_ | refine Rd.rd_min2 ?_
  | refine Rd.rd_call ?_ | refine Rd.rd_ifE ?_ | refine Rd.rd_test ?_ | refine Rd.rd_tB ?_ | refine Rd.rd_blV ?_ | refine Rd.rd_and ?_ | refine Rd.rd_or ?_ | refine Rd.rd_not ?_
  | refine Rd.rd_andV ?_ | refine Rd.rd_orV ?_ | refine Rd.rd_notV ?_ | refine Rd.rd_next ?_ | refine Rd.rd_ret ?_ | refine Rd.rd_drop ?_ | refine Rd.rd_ifS ?_ | refine Rd.rd_nx ?_ | refine Rd.rd_rt ?_ | refine Rd.rd_tMatch ?_ | refine Rd.rd_tCO ?_ | refine Rd.rd_tRevL ?_ | refine Rd.rd_tStar ?_ | refine Rd.rd_joined ?_ | refine Rd.rd_js1 ?_ | refine Rd.rd_js0 ?_ | refine Rd.rd_fmt ?_ | refine Rd.rd_propR ?_ | refine Rd.rd_iZipA ?_ | refine Rd.rd_iEnumT ?_ | refine Rd.rd_iOwn ?_ | (refine' Rd.rd_IET ?ln ?_; (case ln => with_unfolding_all walk_at "at")) | refine Rd.rd_chain ?_ | refine Rd.rd_tPar ?_ | refine Rd.rd_par ?_ | refine Rd.rd_sl ?_ | refine Rd.rd_noPart ?_ | refine Rd.rd_part ?_ | refine Rd.rd_intV ?_ | refine Rd.rd_lc ?_ | (refine' Rd.rd_aug ?vh ?_; (case vh => with_unfolding_all rfl)) | refine Rd.rd_ipI ?_ | refine Rd.rd_for ?_ | (refine' Rd.rd_IT ?ln ?_; (case ln => with_unfolding_all walk_at "at")) | (refine' Rd.rd_IL ?ln ?_; (case ln => with_unfolding_all walk_at "at")) | refine Rd.rd_iTup ?_ | refine Rd.rd_iList ?_ | refine Rd.rd_iRng1 ?_ | refine Rd.rd_iRng2 ?_ | refine Rd.rd_isi (Rd.isi_int Rd.kk_int_int) ?_ | refine Rd.rd_isi (Rd.isi_int Rd.kk_int_bool) ?_ | refine Rd.rd_dget ?_ | refine Rd.rd_din ?_ | refine Rd.rd_dnotin ?_ | refine Rd.rd_dput ?_ | refine Rd.rd_dc ?_ | refine Rd.rd_lc2 ?_ | refine Rd.rd_ltS ?_ | refine Rd.rd_inSg ?_ | refine Rd.rd_iStr ?_ | refine Rd.rd_IS ?_ | refine Rd.rd_prC ?_ | refine Rd.rd_prN ?_ | refine Rd.rd_methR ?_ | refine Rd.rd_cmeth ?_ | refine Rd.rd_fldS ?_ | refine Rd.rd_fld ?_ | (refine' Rd.rd_mkVS ?vh ?_; (case vh => with_unfolding_all rfl)) | (refine' Rd.rd_starT ?ln ?_; (case ln => with_unfolding_all walk_at "at")) | refine Rd.rd_iEnum ?_ | refine Rd.rd_iZip ?_ | (refine' Rd.rd_IE ?ln ?_; (case ln => with_unfolding_all walk_at "at")) | (refine' Rd.rd_IZ ?ln ?lm ?_; (case ln => with_unfolding_all walk_at "at"); (case lm => with_unfolding_all walk_at "at")) | (refine' Rd.rd_gTup ?ln ?lk ?_; (case ln => with_unfolding_all walk_at "at"); (case lk => with_unfolding_all rfl)) | refine Rd.rd_gCons ?_ | refine Rd.rd_gNil ?_ | refine Rd.rd_m1 ?_ | refine Rd.rd_strV ?_ | refine Rd.rd_tXiM ?_ | refine Rd.rd_tXiB ?_ | refine Rd.rd_tXiS ?_ | refine Rd.rd_bm ?_ | refine Rd.rd_bm0 ?_ | refine Rd.rd_isN ?_ | refine Rd.rd_notN ?_ | refine Rd.rd_sub ?_ | refine Rd.rd_un ?_ | refine Rd.rd_U ?_
  | (refine' Rd.rd_eq ?sc ?_; (case sc => with_unfolding_all rfl)) | (refine' Rd.rd_ne ?sc ?_; (case sc => with_unfolding_all rfl))
  | (refine' Rd.rd_I ?cc ?_; (case cc => with_unfolding_all walk_at "rdc"))
  | (refine' Rd.rd_lenL ?ln ?_; (case ln => with_unfolding_all walk_at "at")) | (refine' Rd.rd_lenT ?ln ?_; (case ln => with_unfolding_all walk_at "at"))
  | (refine' Rd.rd_ixL ?ln ?ia ?_; (case ln => with_unfolding_all walk_at "at"); (case ia => with_unfolding_all first | exact Rd.at0 | exact Rd.at1 | exact Rd.at2 | exact Rd.at3 | exact Rd.at4 | rfl)) | (refine' Rd.rd_ixT ?ln ?ia ?_; (case ln => with_unfolding_all walk_at "at"); (case ia => with_unfolding_all first | exact Rd.at0 | exact Rd.at1 | exact Rd.at2 | exact Rd.at3 | exact Rd.at4 | rfl)))
local macro_rules | `(tactic| walk_at "at") => `(tactic| first | assumption | (apply SqL.of; assumption) | (apply SqT.of; assumption) | (apply SqL.of; exact upd_same) | (apply SqT.of; exact upd_same))
local macro_rules | `(tactic| walk_at "rd") => `(tactic| repeat walk_at "rd1")
/-! ### what is short enough to be shown -/
structure Shw (m n : Nat) (d : PyData) : Prop where
  sh : d.showable = true
  dp : d.depth ≤ m
  lf : d.leavesShort 300 = true
  wt : d.weight ≤ n
theorem Shw.len {m n : Nat} {d : PyData} (h : Shw m n d) (hn : n ≤ 30000) : d.shown.length ≤ sizeLine := by
  have := PyData.shown_le 300 (by decide) d h.lf
  have e := sizeLine_eq
  have h5 : (300 + 2) * d.weight ≤ 302 * 30000 := Nat.mul_le_mul (Nat.le_refl _) (Nat.le_trans h.wt hn)
  omega
theorem shw_name {x : Str} (h : isName x = true) : Shw 0 8 (.str x) := by
  refine ⟨rfl, Nat.le_refl _, ?_, (name_len h).2⟩
  have h2 := name_ok h
  unfold isName at h
  rw [Bool.and_eq_true] at h
  show (x.cps.toList.all fun c => decide (c < 16 ^ 8)) = true
  refine List.all_eq_true.mpr fun c hc => ?_
  have hm : c ∈ letters.cps.toList := of_decide_eq_true (List.all_eq_true.mp h.2 c hc)
  have hall : ∀ d ∈ letters.cps.toList, decide (d < 16 ^ 8) = true := by decide +kernel
  exact hall c hm
theorem shw_int {i : Int} (h1 : -100 ≤ i) (h2 : i ≤ 100) : Shw 0 8 (.int i) := by
  have hl : i.natAbs.log2 < 7 := by
    by_cases h0 : i.natAbs = 0
    · rw [h0]; decide
    · exact (Nat.log2_lt h0).mpr (by omega)
  obtain ⟨a, b, c, d⟩ := Rd.small_int (i := i) (by omega)
  refine ⟨a, Nat.le_refl _, c, ?_⟩
  show (if i == 0 then 0 else i.natAbs.log2 + 1) ≤ 8
  split <;> omega
theorem shw_all {β : Type} (f : β → PyData) (m n : Nat) : ∀ l : List β, (∀ b ∈ l, Shw m n (f b)) → PyData.showableAll (l.map f) = true ∧ PyData.depthAll (l.map f) ≤ m ∧ PyData.leavesShortAll 300 (l.map f) = true ∧ PyData.weightAll (l.map f) ≤ (n + 1) * l.length
  | [], _ => ⟨rfl, Nat.zero_le _, rfl, Nat.zero_le _⟩
  | d :: ds, h => by
    obtain ⟨h1, h2, h3, h4⟩ := shw_all f m n ds fun e he => h e (List.mem_cons_of_mem _ he)
    have hd := h d List.mem_cons_self
    refine ⟨?_, Nat.max_le.mpr ⟨hd.dp, h2⟩, ?_, ?_⟩
    · show ((f d).showable && PyData.showableAll (ds.map f)) = true
      rw [hd.sh, h1]; rfl
    · show ((f d).leavesShort 300 && PyData.leavesShortAll 300 (ds.map f)) = true
      rw [hd.lf, h3]; rfl
    · show (f d).weight + 1 + PyData.weightAll (ds.map f) ≤ (n + 1) * (ds.length + 1)
      have := hd.wt
      rw [Nat.mul_succ]
      omega
theorem shw_tup {β : Type} {f : β → PyData} {m n k : Nat} {l : List β} (h : ∀ b ∈ l, Shw m n (f b)) (hk : l.length ≤ k) : Shw (m + 1) ((n + 1) * k) (.tuple (l.map f)) := by
  obtain ⟨h1, h2, h3, h4⟩ := shw_all f m n l h
  exact ⟨h1, Nat.succ_le_succ h2, h3, Nat.le_trans h4 (Nat.mul_le_mul (Nat.le_refl _) hk)⟩
theorem shw_lst {β : Type} {f : β → PyData} {m n k : Nat} {l : List β} (h : ∀ b ∈ l, Shw m n (f b)) (hk : l.length ≤ k) : Shw (m + 1) ((n + 1) * k) (.list (l.map f)) := by
  obtain ⟨h1, h2, h3, h4⟩ := shw_all f m n l h
  exact ⟨h1, Nat.succ_le_succ h2, h3, Nat.le_trans h4 (Nat.mul_le_mul (Nat.le_refl _) hk)⟩
theorem Shw.mono {m n m' n' : Nat} {d : PyData} (h : Shw m n d) (hm : m ≤ m') (hn : n ≤ n') : Shw m' n' d := ⟨h.sh, Nat.le_trans h.dp hm, h.lf, Nat.le_trans h.wt hn⟩
theorem shw_names {l : List Str} (h : ∀ x ∈ l, isName x = true) (hl : l.length ≤ 40) : Shw 1 360 (.tuple (l.map PyData.str)) := shw_tup (fun x hx => shw_name (h x hx)) hl
theorem shw_chg {chg : List (Str × Int)} (h : ChgOk chg) (hl : chg.length ≤ 5) : Shw 2 95 (.tuple (chg.map chgP)) := by
  refine shw_tup (m := 1) (n := 18) (fun kv hkv => ?_) hl
  have hk := h.2 kv hkv
  have a := shw_name hk.1
  have b := shw_int (i := kv.2) (by omega) (by omega)
  refine ⟨?_, Nat.le_refl _, ?_, ?_⟩
  · show (PyData.showable (.str kv.1) && (PyData.showable (.int kv.2) && true)) = true
    rw [a.sh, b.sh]; rfl
  · show (PyData.leavesShort 300 (.str kv.1) && (PyData.leavesShort 300 (.int kv.2) && true)) = true
    rw [a.lf, b.lf]; rfl
  · show PyData.weight (.str kv.1) + 1 + (PyData.weight (.int kv.2) + 1 + 0) ≤ 18
    have := a.wt
    have := b.wt
    omega
theorem shw_tr {t : Tr} (h : TrOk t) : Shw 3 123 (trP t) := by
  obtain ⟨h1, h2, h3, h4, h5⟩ := h
  have a := shw_name h1
  have b := shw_name h2
  have c := shw_name h3
  have d := shw_chg h4 h5
  refine ⟨?_, ?_, ?_, ?_⟩
  · show (PyData.showable (.str t.nm) && (PyData.showable (.str t.src) && (PyData.showable (.str t.tgt) && (PyData.showable (.tuple (t.chg.map chgP)) && true)))) = true
    rw [a.sh, b.sh, c.sh, d.sh]; rfl
  · show max 0 (max 0 (max 0 (max (PyData.depth (.tuple (t.chg.map chgP))) 0))) + 1 ≤ 3
    have := d.dp
    omega
  · show (PyData.leavesShort 300 (.str t.nm) && (PyData.leavesShort 300 (.str t.src) && (PyData.leavesShort 300 (.str t.tgt) && (PyData.leavesShort 300 (.tuple (t.chg.map chgP)) && true)))) = true
    rw [a.lf, b.lf, c.lf, d.lf]; rfl
  · show PyData.weight (.str t.nm) + 1 + (PyData.weight (.str t.src) + 1 + (PyData.weight (.str t.tgt) + 1 + (PyData.weight (.tuple (t.chg.map chgP)) + 1 + 0))) ≤ 123
    have := a.wt
    have := b.wt
    have := c.wt
    have := d.wt
    omega
theorem shw_rows {ts : List Tr} (h : ∀ t ∈ ts, TrOk t) (hl : ts.length ≤ 16) : Shw 4 1984 (.tuple (ts.map trP)) := shw_tup (fun t ht => shw_tr (h t ht)) hl
/-- a dict of texts and small numbers -/
def chgDt (chg : List (Str × Int)) : PyData := .dict (chg.map fun kv => (PyData.str kv.1, PyData.int kv.2))
theorem shw_dict {chg : List (Str × Int)} (h : ∀ kv ∈ chg, isName kv.1 = true ∧ -100 ≤ kv.2 ∧ kv.2 ≤ 100) (hl : chg.length ≤ 20) : Shw 1 360 (chgDt chg) := by
  have key : ∀ l : List (Str × Int), (∀ kv ∈ l, isName kv.1 = true ∧ -100 ≤ kv.2 ∧ kv.2 ≤ 100) → PyData.showableKv (l.map fun kv => (PyData.str kv.1, PyData.int kv.2)) = true ∧ PyData.depthKv (l.map fun kv => (PyData.str kv.1, PyData.int kv.2)) = 0 ∧ PyData.leavesShortKv 300 (l.map fun kv => (PyData.str kv.1, PyData.int kv.2)) = true ∧ PyData.weightKv (l.map fun kv => (PyData.str kv.1, PyData.int kv.2)) ≤ 18 * l.length := by
    intro l
    induction l with
    | nil => exact fun _ => ⟨rfl, rfl, rfl, Nat.zero_le _⟩
    | cons kv r ih =>
      intro hh
      obtain ⟨i1, i2, i3, i4⟩ := ih fun y hy => hh y (List.mem_cons_of_mem _ hy)
      obtain ⟨k1, k2, k3⟩ := hh kv List.mem_cons_self
      have a := shw_name k1
      have b := shw_int k2 k3
      refine ⟨?_, ?_, ?_, ?_⟩
      · show (PyData.showable (.str kv.1) && PyData.showable (.int kv.2) && PyData.showableKv (r.map fun kv => (PyData.str kv.1, PyData.int kv.2))) = true
        rw [a.sh, b.sh, i1]; rfl
      · show max (max 0 0) (PyData.depthKv (r.map fun kv => (PyData.str kv.1, PyData.int kv.2))) = 0
        rw [i2]; rfl
      · show (PyData.leavesShort 300 (.str kv.1) && PyData.leavesShort 300 (.int kv.2) && PyData.leavesShortKv 300 (r.map fun kv => (PyData.str kv.1, PyData.int kv.2))) = true
        rw [a.lf, b.lf, i3]; rfl
      · show PyData.weight (.str kv.1) + PyData.weight (.int kv.2) + 2 + PyData.weightKv (r.map fun kv => (PyData.str kv.1, PyData.int kv.2)) ≤ 18 * (r.length + 1)
        have := a.wt
        have := b.wt
        omega
  obtain ⟨h1, h2, h3, h4⟩ := key chg h
  refine ⟨h1, ?_, h3, Nat.le_trans h4 (by omega)⟩
  show PyData.depthKv (chg.map fun kv => (PyData.str kv.1, PyData.int kv.2)) + 1 ≤ 1
  rw [h2]; exact Nat.le_refl _
theorem dz_chgK {K : PySem.W.Frag} {H : Hp} {a : Addr} {chg : List (Str × Int)} (h : H a = some (.dK (chgK chg))) : Rd.Dz K H (.ref a) (chgDt chg) := by
  have e1 : ∀ l : List (Str × Int), Rd.DzAll K H ((chgK l).map (·.2)) (l.map fun kv => PyData.int kv.2) := fun l => by
    induction l with
    | nil => exact .nil
    | cons x r ih => exact .cons (.base (.int _)) ih
  have q := Rd.Dz.dic h (e1 chg)
  have e2 : ((chgK chg).map fun kv => (match kv.1 with | .inl i => PyData.int i | .inr x => PyData.str x : PyData)).zip (chg.map fun kv => PyData.int kv.2) = chg.map fun kv => (PyData.str kv.1, PyData.int kv.2) := by
    clear q h
    induction chg with
    | nil => rfl
    | cons x r ih => exact congrArg (List.cons _) ih
  unfold chgDt
  rw [← e2]
  exact q
/-- the entries of one, then of the other -/
theorem merge_chgK : ∀ (m l : List (Str × Int)), (l.map (·.1)).Nodup → ∃ r, mergeK (chgK l) (chgK m) = chgK r ∧ (r.map (·.1)).Nodup ∧ (∀ kv ∈ r, kv ∈ l ∨ kv ∈ m) ∧ r.length ≤ l.length + m.length
  | [], l, nd => ⟨l, rfl, nd, fun _ h => .inl h, Nat.le_refl _⟩
  | x :: m, l, nd => by
    obtain ⟨l', e, nd', hm, hl⟩ := put_chgK nd x.1 x.2
    obtain ⟨r, e2, nd2, hm2, hl2⟩ := merge_chgK m l' nd'
    refine ⟨r, ?_, nd2, fun kv hkv => ?_, by rw [List.length_cons]; omega⟩
    · show mergeK (putK (chgK l) (Sum.inr x.1) (V.int x.2)) (chgK m) = _
      rw [e, e2]
    · rcases hm2 kv hkv with q | q
      · rcases hm kv q with z | z
        · exact .inl z
        · exact .inr (z ▸ List.mem_cons_self)
      · exact .inr (List.mem_cons_of_mem _ q)
theorem chgD_ok {G : Gr} (GO : GOk G) {t : Tr} (ht : t ∈ G.ts) : ∃ r, chgD G.cs t.chg = chgK r ∧ (∀ kv ∈ r, isName kv.1 = true ∧ -100 ≤ kv.2 ∧ kv.2 ≤ 100) ∧ r.length ≤ 20 := by
  have e0 : zeros G.cs = chgK (G.cs.map fun c => (c, 0)) := by unfold zeros chgK; rw [List.map_map]; rfl
  have nd : ((G.cs.map fun c => (c, (0 : Int))).map (·.1)).Nodup := by
    rw [List.map_map]
    have : G.cs.map ((fun x : Str × Int => x.1) ∘ fun c => (c, 0)) = G.cs := by simp [Function.comp_def]
    rw [this]; exact GO.cA.nodup
  obtain ⟨r, e, _, hm, hl⟩ := merge_chgK t.chg _ nd
  obtain ⟨_, _, _, hc, hc5⟩ := GO.tO t ht
  refine ⟨r, by unfold chgD; rw [e0, e], fun kv hkv => ?_, ?_⟩
  · rcases hm kv hkv with q | q
    · obtain ⟨c, hc, rfl⟩ := List.mem_map.mp q
      exact ⟨GO.cN c hc, by show (-100 : Int) ≤ 0; decide, by show (0 : Int) ≤ 100; decide⟩
    · have := hc.2 kv q
      exact ⟨this.1, by omega, by omega⟩
  · rw [List.length_map] at hl
    have := GO.c5
    omega
section
variable {K : PySem.W.Frag} {H : Hp}
/-- [a new tuple for each item] -/
theorem lc_newT {α : Type} {σ : L2.St} {Q : VK} {g : TG} {te : TE} {vs : List Nat} {a : Addr} (zs : List α) (val : α → V) (f : α → List V) (hz : zs.length ≤ 100000) (hS : SqT K H a (zs.map val))
    (step : ∀ z H1 (N : V → Hp → Prop), z ∈ zs → Same H H1 → (∀ p H2, Same H1 H2 → H2 p = some (.tup (f z)) → N (.ref p) H2) → g (val z) (wipe σ vs) H1 fun σ2 H2 => wipe σ2 vs = wipe σ vs ∧ te σ2 H2 N)
    (done : ∀ D H' (ps : List Addr), H D = none → Same H H' → H' D = some (.lst (ps.map V.ref)) → Paired (fun p z => SqT K H' p (f z)) ps zs → Q (.ref D) H') : Rd.rLc g tYes te vs σ Q (Itt K a) H := by
  refine Rd.lc_tupI (xs := zs.map val) (fun i D acc H' => ∃ ps : List Addr, acc = ps.map V.ref ∧ Paired (fun p z => SqT K H' p (f z)) ps (zs.take i) ∧ Same H H' ∧ H' D = some (.lst acc)) (fun i D acc H1 p => ?_) (fun D hD => ?_) (fun i x D acc H1 N hx hD p hN => ?_) (fun D acc H1 hD p => ?_)
  · obtain ⟨ps, _, _, s1, _⟩ := p
    exact Rd.Same.sqT s1 hS
  · exact ⟨[], rfl, .nil, Rd.same_new hD, upd_same⟩
  · obtain ⟨ps, e1, e2, s1, e3⟩ := p
    rw [List.getElem?_map] at hx
    obtain ⟨z, hz1, rfl⟩ := Option.map_eq_some_iff.mp hx
    refine step z H1 N (List.mem_of_getElem? hz1) s1 fun p H2 s2 h2 => ?_
    have le : acc.length ≤ 100000 := by rw [e1, List.length_map, e2.length, List.length_take]; omega
    refine hN _ _ (s2 _ _ e3) (Nat.lt_of_le_of_lt le (by decide)) ⟨ps ++ [p], by rw [e1, List.map_append]; rfl, ?_, same_mut (s1.trans s2) hD, upd_same⟩
    have kp : Kp H2 (upd H2 D (.lst (acc ++ [V.ref p]))) := kp_upd (s2 _ _ e3) rfl
    rw [List.take_add_one, hz1]
    exact paired_app (L2.Paired.mapP e2 fun _ _ q => kp.sqT ((kpS s2).sqT q)) (.cons (kp.sqT (SqT.of h2)) .nil)
  · obtain ⟨ps, e1, e2, s1, e3⟩ := p
    rw [List.length_map, List.take_length] at e2
    exact done D H1 ps hD s1 (by rw [e3, e1]) e2
end
end M
set_option Elab.async false
set_option linter.all false
set_option maxRecDepth 100000
set_option maxHeartbeats 4000000
namespace M
open PySem L2
local macro_rules | `(tactic| walk_at "rdc") => `(tactic| first | exact Or.inl ⟨by decide, by decide⟩ | exact Or.inr ⟨by decide, by decide⟩ | exact ⟨by decide, by decide, by decide⟩ | exact ⟨by decide, by decide⟩ | decide | omega | assumption | (refine Or.inl ⟨?_, ?_⟩ <;> omega) | (refine Or.inr ⟨?_, ?_⟩ <;> omega) | (refine ⟨?_, ?_⟩ <;> omega))
local macro_rules | `(tactic| walk_at "rd1") => `(tactic| with_reducible first
  | refine Rd.rd_seq ?_ | refine Rd.rd_asg ?_ | refine Rd.rd_op ?_ | (refine' Rd.rd_var ?vh ?_; (case vh => with_unfolding_all rfl)) | refine Rd.rd_c ?_ | refine Rd.rd_I0 ?_ | refine Rd.rd_name0 ?_ | refine Rd.rd_nameS ?_ | refine Rd.rd_fn ?_
  | refine Rd.rd_cb ?_ | refine Rd.rd_cons ?_ | refine Rd.rd_nil ?_ | refine Rd.rd_int ?_ | refine Rd.rd_intB ?_ | refine Rd.rd_abs ?_ | refine Rd.rd_max2 ?_ | refine Rd.rd_min2 ?_
  | refine Rd.rd_call ?_ | refine Rd.rd_ifE ?_ | refine Rd.rd_test ?_ | refine Rd.rd_tB ?_ | refine Rd.rd_blV ?_ | refine Rd.rd_and ?_ | refine Rd.rd_or ?_ | refine Rd.rd_not ?_
  | refine Rd.rd_andV ?_ | refine Rd.rd_orV ?_ | refine Rd.rd_notV ?_ | refine Rd.rd_next ?_ | refine Rd.rd_ret ?_ | refine Rd.rd_drop ?_ | refine Rd.rd_ifS ?_ | refine Rd.rd_nx ?_ | refine Rd.rd_rt ?_ | refine Rd.rd_tMatch ?_ | refine Rd.rd_tCO ?_ | refine Rd.rd_tRevL ?_ | refine Rd.rd_tStar ?_ | refine Rd.rd_joined ?_ | refine Rd.rd_js1 ?_ | refine Rd.rd_js0 ?_ | refine Rd.rd_fmt ?_ | refine Rd.rd_propR ?_ | refine Rd.rd_iZipA ?_ | refine Rd.rd_iEnumT ?_ | refine Rd.rd_iOwn ?_ | (refine' Rd.rd_IET ?ln ?_; (case ln => with_unfolding_all walk_at "at")) | refine Rd.rd_chain ?_ | refine Rd.rd_tPar ?_ | refine Rd.rd_par ?_ | refine Rd.rd_sl ?_ | refine Rd.rd_noPart ?_ | refine Rd.rd_part ?_ | refine Rd.rd_intV ?_ | refine Rd.rd_lc ?_ | (refine' Rd.rd_aug ?vh ?_; (case vh => with_unfolding_all rfl)) | refine Rd.rd_ipI ?_ | refine Rd.rd_for ?_ | (refine' Rd.rd_IT ?ln ?_; (case ln => with_unfolding_all walk_at "at")) | (refine' Rd.rd_IL ?ln ?_; (case ln => with_unfolding_all walk_at "at")) | refine Rd.rd_iTup ?_ | refine Rd.rd_iList ?_ | refine Rd.rd_iRng1 ?_ | refine Rd.rd_iRng2 ?_ | refine Rd.rd_isi (Rd.isi_int Rd.kk_int_int) ?_ | refine Rd.rd_isi (Rd.isi_int Rd.kk_int_bool) ?_ | refine Rd.rd_dget ?_ | refine Rd.rd_din ?_ | refine Rd.rd_dnotin ?_ | refine Rd.rd_dput ?_ | refine Rd.rd_dc ?_ | refine Rd.rd_lc2 ?_ | refine Rd.rd_ltS ?_ | refine Rd.rd_inSg ?_ | refine Rd.rd_iStr ?_ | refine Rd.rd_IS ?_ | refine Rd.rd_prC ?_ | refine Rd.rd_prN ?_ | refine Rd.rd_methR ?_ | refine Rd.rd_cmeth ?_ | refine Rd.rd_fldS ?_ | refine Rd.rd_fld ?_ | (refine' Rd.rd_mkVS ?vh ?_; (case vh => with_unfolding_all rfl)) | (refine' Rd.rd_starT ?ln ?_; (case ln => with_unfolding_all walk_at "at")) | refine Rd.rd_iEnum ?_ | refine Rd.rd_iZip ?_ | (refine' Rd.rd_IE ?ln ?_; (case ln => with_unfolding_all walk_at "at")) | (refine' Rd.rd_IZ ?ln ?lm ?_; (case ln => with_unfolding_all walk_at "at"); (case lm => with_unfolding_all walk_at "at")) | (refine' Rd.rd_gTup ?ln ?lk ?_; (case ln => with_unfolding_all walk_at "at"); (case lk => with_unfolding_all rfl)) | refine Rd.rd_gCons ?_ | refine Rd.rd_gNil ?_ | refine Rd.rd_m1 ?_ | refine Rd.rd_strV ?_ | refine Rd.rd_tXiM ?_ | refine Rd.rd_tXiB ?_ | refine Rd.rd_tXiS ?_ | refine Rd.rd_bm ?_ | refine Rd.rd_bm0 ?_ | refine Rd.rd_isN ?_ | refine Rd.rd_notN ?_ | refine Rd.rd_sub ?_ | refine Rd.rd_un ?_ | refine Rd.rd_U ?_
  | (refine' Rd.rd_eq ?sc ?_; (case sc => with_unfolding_all rfl)) | (refine' Rd.rd_ne ?sc ?_; (case sc => with_unfolding_all rfl))
  | (refine' Rd.rd_I ?cc ?_; (case cc => with_unfolding_all walk_at "rdc"))
  | (refine' Rd.rd_lenL ?ln ?_; (case ln => with_unfolding_all walk_at "at")) | (refine' Rd.rd_lenT ?ln ?_; (case ln => with_unfolding_all walk_at "at"))
  | (refine' Rd.rd_ixL ?ln ?ia ?_; (case ln => with_unfolding_all walk_at "at"); (case ia => with_unfolding_all first | exact Rd.at0 | exact Rd.at1 | exact Rd.at2 | exact Rd.at3 | exact Rd.at4 | rfl)) | (refine' Rd.rd_ixT ?ln ?ia ?_; (case ln => with_unfolding_all walk_at "at"); (case ia => with_unfolding_all first | exact Rd.at0 | exact Rd.at1 | exact Rd.at2 | exact Rd.at3 | exact Rd.at4 | rfl)))
local macro_rules | `(tactic| walk_at "at") => `(tactic| first | assumption | (apply SqL.of; assumption) | (apply SqT.of; assumption) | (apply SqL.of; exact upd_same) | (apply SqT.of; exact upd_same))
local macro_rules | `(tactic| walk_at "rd") => `(tactic| repeat walk_at "rd1")
/-! ### heaps, step by step -/
/-- a's object changes -/
structure Mut (a : Addr) (H H' : Hp) : Prop where
  keep : ∀ b o, b ≠ a → H b = some o → H' b = some o
  kp : Kp H H'
theorem mut_upd {a : Addr} {H : Hp} {u o : HO} (h : H a = some u) (hu : Imm u = false) : Mut a H (upd H a o) := ⟨fun b v hb e => by rw [upd_ne hb]; exact e, kp_upd h hu⟩
theorem same_mutM {H H1 H2 : Hp} {a : Addr} (s : Same H H1) (n : H a = none) (m : Mut a H1 H2) : Same H H2 := fun b o e => m.keep b o (ne_of_none e n) (s b o e)
theorem Rolled.mutM {d a : Addr} {H H1 H2 : Hp} (r : Rolled d H H1) (n : H a = none) (e : a ≠ d) (m : Mut a H1 H2) : Rolled d H H2 := by
  obtain ⟨x, y, z, q⟩ := r.dice
  exact ⟨fun b o hb w => m.keep b o (ne_of_none w n) (r.keep b o hb w), x, y, z, m.keep _ _ e.symm q⟩
theorem Dice.nel {H : Hp} {d b : Addr} {o : HO} (hD : Dice H d) (h : H b = some o) (ho : ∀ xs, o ≠ .lst xs) : b ≠ d := fun z => by
  obtain ⟨x, y, w, q⟩ := hD
  rw [z, q] at h
  exact ho _ (Option.some.inj h).symm
theorem GraphAt.rolled {K : PySem.W.Frag} {C d : Addr} {H H' : Hp} {x : Addr} {G : Gr} (r : Rolled d H H') (hD : Dice H d) (h : GraphAt K C H x G) : GraphAt K C H' x G := by
  obtain ⟨dx, pc, ps, pt, pn, pr, rs, h1, h2⟩ := h
  have k := r.kp hD
  exact ⟨dx, pc, ps, pt, pn, pr, rs, r.keep _ _ (hD.nel h1 fun _ => nofun) h1, ⟨h2.c.kp k, h2.s.kp k, k.sqT h2.t, L2.Paired.mapP h2.tP fun _ _ q => q.kp k, h2.n.kp k, r.keep _ _ (hD.nel h2.r fun _ => nofun) h2.r⟩⟩
theorem GraphAt.ins {K : PySem.W.Frag} {C : Addr} {H : Hp} {x : Addr} {G : Gr} (h : GraphAt K C H x G) : ∃ dx pc ps pt pn pr, H x = some (.ins C dx (flds pc ps pt pn pr)) := by
  obtain ⟨dx, pc, ps, pt, pn, pr, _, e, _⟩ := h
  exact ⟨dx, pc, ps, pt, pn, pr, e⟩
theorem kk_str_str : kitB "str" "str" = some true := by decide +kernel
/-! ### the fields of a graph -/
section
variable {K : PySem.W.Frag} {mg : Str → Option Value} {a : AdsG} {H : Hp} {x : Addr} {G : Gr} {σ : L2.St} {Q : VK} {ta : TE} {c : Addr → Prop}
theorem fld_c (T : GraphC K mg a) (h : GraphAt K a.C H x G) (q : ∀ p, TxT K H p G.cs → Q (.ref p) H) : Rd.rFld K "own_counters" (.ref x) H Q := by
  obtain ⟨dx, pc, ps, pt, pn, pr, rs, h1, h2⟩ := h
  exact ⟨x, a.C, dx, _, V.ref pc, rfl, h1, T.cl, T.nC, rfl, q pc h2.c⟩
theorem fld_s (T : GraphC K mg a) (h : GraphAt K a.C H x G) (q : ∀ p, TxT K H p G.ns → Q (.ref p) H) : Rd.rFld K "own_states" (.ref x) H Q := by
  obtain ⟨dx, pc, ps, pt, pn, pr, rs, h1, h2⟩ := h
  exact ⟨x, a.C, dx, _, V.ref ps, rfl, h1, T.cl, T.nS, rfl, q ps h2.s⟩
theorem fld_t (T : GraphC K mg a) (h : GraphAt K a.C H x G) (q : ∀ (p : Addr) (rs : List Addr), SqT K H p (rs.map V.ref) → Paired (RowAt K H) rs G.ts → Q (.ref p) H) : Rd.rFld K "own_transitions" (.ref x) H Q := by
  obtain ⟨dx, pc, ps, pt, pn, pr, rs, h1, h2⟩ := h
  exact ⟨x, a.C, dx, _, V.ref pt, rfl, h1, T.cl, T.nT, rfl, q pt rs h2.t h2.tP⟩
theorem fld_n (T : GraphC K mg a) (h : GraphAt K a.C H x G) (q : ∀ p, TxT K H p (G.ts.map (·.nm)) → Q (.ref p) H) : Rd.rFld K "own_names" (.ref x) H Q := by
  obtain ⟨dx, pc, ps, pt, pn, pr, rs, h1, h2⟩ := h
  exact ⟨x, a.C, dx, _, V.ref pn, rfl, h1, T.cl, T.nN, rfl, q pn h2.n⟩
theorem fld_r (T : GraphC K mg a) (h : GraphAt K a.C H x G) (q : ∀ (p : Addr) (rs : List Addr), H p = some (.dK (rowsD G.ts rs)) → Paired (RowAt K H) rs G.ts → Q (.ref p) H) : Rd.rFld K "own_rows" (.ref x) H Q := by
  obtain ⟨dx, pc, ps, pt, pn, pr, rs, h1, h2⟩ := h
  exact ⟨x, a.C, dx, _, V.ref pr, rfl, h1, T.cl, T.nR, rfl, q pr rs h2.r h2.tP⟩
end
/-! ### one of the items, the items mixed: of a list or a tuple -/
/-- a tuple, or a list that is none of the dice -/
def SqD (K : PySem.W.Frag) (H : Hp) (d a : Addr) (xs : List V) : Prop := (SqL K H a xs ∧ a ≠ d) ∨ SqT K H a xs
theorem SqD.s {K : PySem.W.Frag} {H : Hp} {d a : Addr} {xs : List V} (h : SqD K H d a xs) : Rd.SqS K H a xs := h.imp (fun h => h.1) id
theorem SqD.same {K : PySem.W.Frag} {H H' : Hp} {d a : Addr} {xs : List V} (s : Same H H') (h : SqD K H d a xs) : SqD K H' d a xs := h.imp (fun h => ⟨L2.Same.seq s h.1, h.2⟩) fun h => Rd.Same.sqT s h
theorem Rolled.sqD {K : PySem.W.Frag} {d a : Addr} {H H' : Hp} {xs : List V} (r : Rolled d H H') (hD : Dice H d) (h : SqD K H d a xs) : SqD K H' d a xs := h.imp (fun h => ⟨r.sqL h.2 h.1, h.2⟩) fun h => r.sqT hD h
def spOneOfS (K : PySem.W.Frag) : Sp := Rd.mkSp (fun (a : Addr × Addr × List V) => [.ref a.1, .ref a.2.1]) fun a H Q _ => Dice H a.1 ∧ SqD K H a.1 a.2.1 a.2.2 ∧ 0 < a.2.2.length ∧ a.2.2.length < 1000 ∧
  ∀ v H', v ∈ a.2.2 → Rolled a.1 H H' → Q v H'
def spMixS (K : PySem.W.Frag) : Sp := Rd.mkSp (fun (a : Addr × Addr × List V) => [.ref a.1, .ref a.2.1]) fun a H Q _ => Dice H a.1 ∧ SqD K H a.1 a.2.1 a.2.2 ∧ a.2.2.length < 1000 ∧
  ∀ D ys H', H D = none → ys.Perm a.2.2 → Rolled a.1 H H' → H' D = some (.lst ys) → Q (.ref D) H'
theorem rd_oneS {K : PySem.W.Frag} {H : Hp} {Q : VK} {E : XK} {d m : Addr} {xs : List V} (hD : Dice H d) (h : SqD K H d m xs) (h0 : 0 < xs.length) (h1 : xs.length < 1000) (q : ∀ v H', v ∈ xs → Rolled d H H' → Q v H') : spOneOfS K [.ref d, .ref m] H Q E :=
  Rd.rd_sp (d, m, xs) rfl ⟨hD, h, h0, h1, q⟩
theorem Rolled.sqS {K : PySem.W.Frag} {d a : Addr} {H H' : Hp} {xs : List V} (r : Rolled d H H') (hD : Dice H d) (n : a ≠ d) (h : Rd.SqS K H a xs) : Rd.SqS K H' a xs := h.imp (fun h => r.sqL n h) fun h => r.sqT hD h
/-- a tuple is not the dice -/
theorem Dice.neT {K : PySem.W.Frag} {X : Cx} {H : Hp} {d b : Addr} {xs : List V} (hD : Dice H d) (h : H b = some (.tup xs)) : b ≠ d := hD.nel h fun _ => nofun
section
variable {gd : Bool} {P : Program} {w : World} {K : PySem.W.Frag} {mg : Str → Option Value} {base : Heap}
theorem ok_oneS (F : Rd.Has K mg "_law_one_of" s__law_one_of) (g : Glob mg) (c__law_roll : Rd.Fn gd P w K mg base CX0 1 "_law_roll" spRoll) : Rd.Fn gd P w K mg base CX0 2 "_law_one_of" (spOneOfS K) := by
  refine F.fn sc__law_one_of (fun _ => rfl) (fun _ _ _ _ _ _ us hl => match us, hl with | [_, _], _ => rfl) fun f cdv A outer s H Q E a hr h => ?_
  obtain ⟨d, m, xs⟩ := a
  obtain ⟨hD, hS, h0, h1, k⟩ := h
  dsimp only at hD hS h0 h1 k
  refine ⟨_, (pss_one (ps_ret (pe_ix Rd.ix_seq (pv 1) (Rd.pe_fn c__law_roll (hr.mono (by decide)) (by rfl) (pa_cons (pv 0) (pa_cons (pe_callB Rd.c_len (by rfl) g.len (by decide +kernel) (pa_cons (pv 1) pa_nil)) pa_nil))) (fun _ _ => rfl)))), ?_⟩
  try simp only [Rd.noxK, Rd.cxK]
  refine Rd.rd_start [some (V.ref d), some (V.ref m)] rfl ?_
  walk_at "rd"
  refine Rd.rd_lenS2 hS.s ?_
  walk_at "rd"
  refine rd_roll hD (by omega) (by omega) fun r H1 r0 r1 R1 => ?_
  obtain ⟨j, rfl⟩ : ∃ j : Nat, r = (j : Int) := ⟨r.toNat, by omega⟩
  have hj : j < xs.length := by omega
  refine Rd.rd_ixS (R1.sqD hD hS).s (atI_nat (List.getElem?_eq_getElem hj)) ?_
  exact k _ _ (List.getElem_mem hj) R1
theorem oneS_L (h : Rd.Fn gd P w K mg base CX0 2 "_law_one_of" (spOneOfS K)) : Rd.Fn gd P w K mg base CX0 2 "_law_one_of" (spOneOf K) := by
  obtain ⟨f, F, hm, hk⟩ := h
  refine ⟨f, F.imp fun vs H Q E hs => ?_, hm, hk⟩
  obtain ⟨⟨d, m, xs⟩, rfl, h1, h2, h3, h4, h5, h6⟩ := hs
  exact ⟨(d, m, xs), rfl, h1, .inl ⟨h3, h2⟩, h4, h5, h6⟩
theorem ok_mixS (F : Rd.Has K mg "_law_mixed" s__law_mixed) (g : Glob mg) (c__law_roll : Rd.Fn gd P w K mg base CX0 1 "_law_roll" spRoll) : Rd.Fn gd P w K mg base CX0 2 "_law_mixed" (spMixS K) := by
  refine F.fn sc__law_mixed (fun _ => rfl) (fun _ _ _ _ _ _ us hl => match us, hl with | [_, _], _ => rfl) fun f cdv A outer s H Q E a hr h => ?_
  obtain ⟨d, a, xs⟩ := a
  obtain ⟨hD, hS, hz, k⟩ := h
  dsimp only at hD hS hz k
  refine ⟨_, (pss_cons (ps_set (i := 2) sc__law_mixed.nd rfl (Or.inr rfl) (pe_callTy Rd.c_list (by rfl) g.list (by decide +kernel) (pa_cons (pv 1) pa_nil)))
      (pss_one (ps_ret (pe_lc (own := [("_law_turn", 3)]) (by rfl) sc__law_mixed.nd (pi_range1 (by rfl) g.range (pa_cons (pe_callB Rd.c_len (by rfl) g.len (by decide +kernel) (pa_cons (pv 1) pa_nil)) pa_nil)) (blkOk_by (own := [("_law_turn", 3)]) (N := ["_law_dice_here", "_law_items", "_law_left", "_law_turn"]) (sc := defScope s__law_mixed) (by decide +kernel)) (fun _ _ _ _ _ => (pg_name (i := 3) sc__law_mixed.nd rfl (Or.inl rfl))) (fun _ _ _ _ _ => pts_nil) (fun _ _ _ _ _ => (Rd.pe_bmK (K := K) (by rfl) PySem.F.plainAttrs_list PySem.F.slot_list_pop PySem.F.type_list_pop mt_popAt (pv 2) (pa_cons (Rd.pe_fn c__law_roll (hr.mono (by decide)) (by rfl) (pa_cons (pv 0) (pa_cons (pe_callB (Rd.c_lenK (K := K) (by rfl)) (by rfl) g.len (by decide +kernel) (pa_cons (pv 2) pa_nil)) pa_nil))) pa_nil))))))), ?_⟩
  try simp only [Rd.noxK, Rd.cxK]
  refine Rd.rd_start [some (V.ref d), some (V.ref a), none, none] rfl ?_
  walk_at "rd"
  refine Rd.rd_listS hS.s fun l H1 hl s1 h1 => ?_
  have hS1 : Rd.SqS K H1 a xs := hS.s.same s1
  have hld : l ≠ d := hD.ne hl
  walk_at "rd"
  refine Rd.rd_lenS2 hS1 ?_
  refine Rd.rd_IR1 (by omega) (by omega) ?_
  rw [show ((xs.length : Nat) : Int).toNat = xs.length from Int.toNat_natCast _]
  refine Rd.lc_rngI (lo := 0) (fun i D acc H2 => ∃ zs : List V, acc.length = i ∧ (acc ++ zs).Perm xs ∧ Rolled d H H2 ∧ H2 l = some (.lst zs) ∧ H2 D = some (.lst acc) ∧ D ≠ l ∧ D ≠ d) (fun D hD1 => ?_) (fun i D acc H2 N hi hD1 p hN => ?_) (fun D acc H2 hD1 p => ?_)
  · have n1 : D ≠ l := (ne_of_none h1 hD1).symm
    have n2 : D ≠ d := (hD.same s1).ne hD1
    exact ⟨xs, rfl, List.Perm.refl _, ((Rolled.refl hD).same s1).same (Rd.same_new hD1), by rw [upd_ne n1.symm]; exact h1, upd_same, n1, n2⟩
  · obtain ⟨zs, e2, pm, R, hl2, hD2, n1, n2⟩ := p
    have e1 : zs.length + i = xs.length := by have := pm.length_eq; rw [List.length_append] at this; omega
    have hL : SqL K H2 l zs := SqL.of hl2
    refine Rd.rd_start' [some (V.ref d), some (V.ref a), some (V.ref l), none] rfl ?_
    walk_at "rd"
    refine ⟨rfl, ?_⟩
    walk_at "rd"
    refine ⟨Rd.tyL hL, ?_⟩
    walk_at "rd"
    refine rd_roll R.dice (by omega) (by omega) fun r H3 r0 r1 R3 => ?_
    walk_at "rd"
    obtain ⟨j, rfl⟩ : ∃ j : Nat, r = (j : Int) := ⟨r.toNat, by omega⟩
    have hj : j < zs.length := by omega
    have h3 : H3 l = some (.lst zs) := R3.keep _ _ hld hl2
    refine Rd.rd_popAt h3 hj (by omega) ?_
    have hDa : H3 D = some (.lst acc) := R3.keep _ _ n2 hD2
    have R4 : Rolled d H (upd H3 l (.lst (zs.eraseIdx j))) := (R.trans R3).mut hl hld
    refine hN _ _ (by rw [upd_ne n1]; exact hDa) (by rw [e2]; exact Rd.small64 (by omega)) ⟨zs.eraseIdx j, ?_, ?_, R4.mut (none_pre s1 hD1) n2, ?_, upd_same, n1, n2⟩
    · rw [List.length_append, e2]; rfl
    · rw [List.append_assoc]
      exact ((erase_perm zs j hj).append_left acc).trans pm
    · rw [upd_ne n1.symm, upd_same]
  · obtain ⟨zs, e2, pm, R, hl2, hD2, n1, n2⟩ := p
    have e1 : zs.length = 0 := by have := pm.length_eq; rw [List.length_append] at this; omega
    rw [List.eq_nil_of_length_eq_zero e1, List.append_nil] at pm
    exact k D acc H2 (none_pre s1 hD1) pm R hD2
theorem mixS_L (h : Rd.Fn gd P w K mg base CX0 2 "_law_mixed" (spMixS K)) : Rd.Fn gd P w K mg base CX0 2 "_law_mixed" (spMixP K) := by
  obtain ⟨f, F, hm, hk⟩ := h
  refine ⟨f, F.imp fun vs H Q E hs => ?_, hm, hk⟩
  obtain ⟨⟨d, m, xs⟩, rfl, h1, h2, h3, h5, h6⟩ := hs
  exact ⟨(d, m, xs), rfl, h1, .inl ⟨h3, h2⟩, h5, h6⟩
end
end M
set_option Elab.async false
set_option linter.all false
set_option maxRecDepth 100000
set_option maxHeartbeats 4000000
namespace M
open PySem L2
local macro_rules | `(tactic| walk_at "rdc") => `(tactic| first | exact Or.inl ⟨by decide, by decide⟩ | exact Or.inr ⟨by decide, by decide⟩ | exact ⟨by decide, by decide, by decide⟩ | exact ⟨by decide, by decide⟩ | decide | omega | assumption | (refine Or.inl ⟨?_, ?_⟩ <;> omega) | (refine Or.inr ⟨?_, ?_⟩ <;> omega) | (refine ⟨?_, ?_⟩ <;> omega))
local macro_rules | `(tactic| walk_at "rd1") => `(tactic| with_reducible first
  | refine Rd.rd_seq ?_ | refine Rd.rd_asg ?_ | refine Rd.rd_op ?_ | (refine' Rd.rd_var ?vh ?_; (case vh => with_unfolding_all rfl)) | refine Rd.rd_c ?_ | refine Rd.rd_I0 ?_ | refine Rd.rd_name0 ?_ | refine Rd.rd_nameS ?_ | refine Rd.rd_fn ?_
  | refine Rd.rd_cb ?_ | refine Rd.rd_cons ?_ | refine Rd.rd_nil ?_ | refine Rd.rd_int ?_ | refine Rd.rd_intB ?_ | refine Rd.rd_abs ?_ | refine Rd.rd_max2 ?_ | refine Rd.rd_min2 ?_
  | refine Rd.rd_call ?_ | refine Rd.rd_ifE ?_ | refine Rd.rd_test ?_ | refine Rd.rd_tB ?_ | refine Rd.rd_blV ?_ | refine Rd.rd_and ?_ | refine Rd.rd_or ?_ | refine Rd.rd_not ?_
  | refine Rd.rd_andV ?_ | refine Rd.rd_orV ?_ | refine Rd.rd_notV ?_ | refine Rd.rd_next ?_ | refine Rd.rd_ret ?_ | refine Rd.rd_drop ?_ | refine Rd.rd_ifS ?_ | refine Rd.rd_nx ?_ | refine Rd.rd_rt ?_ | refine Rd.rd_tMatch ?_ | refine Rd.rd_tCO ?_ | refine Rd.rd_tRevL ?_ | refine Rd.rd_tStar ?_ | refine Rd.rd_joined ?_ | refine Rd.rd_js1 ?_ | refine Rd.rd_js0 ?_ | refine Rd.rd_fmt ?_ | refine Rd.rd_propR ?_ | refine Rd.rd_iZipA ?_ | refine Rd.rd_iEnumT ?_ | refine Rd.rd_iOwn ?_ | (refine' Rd.rd_IET ?ln ?_; (case ln => with_unfolding_all walk_at "at")) | refine Rd.rd_chain ?_ | refine Rd.rd_tPar ?_ | refine Rd.rd_par ?_ | refine Rd.rd_sl ?_ | refine Rd.rd_noPart ?_ | refine Rd.rd_part ?_ | refine Rd.rd_intV ?_ | refine Rd.rd_lc ?_ | (refine' Rd.rd_aug ?vh ?_; (case vh => with_unfolding_all rfl)) | refine Rd.rd_ipI ?_ | refine Rd.rd_for ?_ | (refine' Rd.rd_IT ?ln ?_; (case ln => with_unfolding_all walk_at "at")) | (refine' Rd.rd_IL ?ln ?_; (case ln => with_unfolding_all walk_at "at")) | refine Rd.rd_iTup ?_ | refine Rd.rd_iList ?_ | refine Rd.rd_iRng1 ?_ | refine Rd.rd_iRng2 ?_ | refine Rd.rd_isi (Rd.isi_int Rd.kk_int_int) ?_ | refine Rd.rd_isi (Rd.isi_int Rd.kk_int_bool) ?_ | refine Rd.rd_dget ?_ | refine Rd.rd_din ?_ | refine Rd.rd_dnotin ?_ | refine Rd.rd_dput ?_ | refine Rd.rd_dc ?_ | refine Rd.rd_lc2 ?_ | refine Rd.rd_ltS ?_ | refine Rd.rd_inSg ?_ | refine Rd.rd_iStr ?_ | refine Rd.rd_IS ?_ | refine Rd.rd_prC ?_ | refine Rd.rd_prN ?_ | refine Rd.rd_methR ?_ | refine Rd.rd_cmeth ?_ | refine Rd.rd_fldS ?_ | refine Rd.rd_fld ?_ | (refine' Rd.rd_mkVS ?vh ?_; (case vh => with_unfolding_all rfl)) | (refine' Rd.rd_starT ?ln ?_; (case ln => with_unfolding_all walk_at "at")) | refine Rd.rd_iEnum ?_ | refine Rd.rd_iZip ?_ | (refine' Rd.rd_IE ?ln ?_; (case ln => with_unfolding_all walk_at "at")) | (refine' Rd.rd_IZ ?ln ?lm ?_; (case ln => with_unfolding_all walk_at "at"); (case lm => with_unfolding_all walk_at "at")) | (refine' Rd.rd_gTup ?ln ?lk ?_; (case ln => with_unfolding_all walk_at "at"); (case lk => with_unfolding_all rfl)) | refine Rd.rd_gCons ?_ | refine Rd.rd_gNil ?_ | refine Rd.rd_m1 ?_ | refine Rd.rd_strV ?_ | refine Rd.rd_tXiM ?_ | refine Rd.rd_tXiB ?_ | refine Rd.rd_tXiS ?_ | refine Rd.rd_bm ?_ | refine Rd.rd_bm0 ?_ | refine Rd.rd_isN ?_ | refine Rd.rd_notN ?_ | refine Rd.rd_sub ?_ | refine Rd.rd_un ?_ | refine Rd.rd_U ?_
  | (refine' Rd.rd_eq ?sc ?_; (case sc => with_unfolding_all rfl)) | (refine' Rd.rd_ne ?sc ?_; (case sc => with_unfolding_all rfl))
  | (refine' Rd.rd_I ?cc ?_; (case cc => with_unfolding_all walk_at "rdc"))
  | (refine' Rd.rd_lenL ?ln ?_; (case ln => with_unfolding_all walk_at "at")) | (refine' Rd.rd_lenT ?ln ?_; (case ln => with_unfolding_all walk_at "at"))
  | (refine' Rd.rd_ixL ?ln ?ia ?_; (case ln => with_unfolding_all walk_at "at"); (case ia => with_unfolding_all first | exact Rd.at0 | exact Rd.at1 | exact Rd.at2 | exact Rd.at3 | exact Rd.at4 | rfl)) | (refine' Rd.rd_ixT ?ln ?ia ?_; (case ln => with_unfolding_all walk_at "at"); (case ia => with_unfolding_all first | exact Rd.at0 | exact Rd.at1 | exact Rd.at2 | exact Rd.at3 | exact Rd.at4 | rfl)))
local macro_rules | `(tactic| walk_at "at") => `(tactic| first | assumption | (apply SqL.of; assumption) | (apply SqT.of; assumption) | (apply SqL.of; exact upd_same) | (apply SqT.of; exact upd_same))
local macro_rules | `(tactic| walk_at "rd") => `(tactic| repeat walk_at "rd1")
local macro_rules | `(tactic| walk_at "ne") => `(tactic| first | assumption | exact Ne.symm (by assumption) | (refine' Dice.ne ?D ?h; (case h => assumption); (case D => walk_at "fa")))
local macro_rules | `(tactic| walk_at "kp1") => `(tactic| first | exact kpS (by assumption) | exact Mut.kp (by assumption) | (refine' Rolled.kp ?r ?D; (case r => assumption); (case D => walk_at "fa")))
local macro_rules | `(tactic| walk_at "fa") => `(tactic| first
  | assumption | exact SqT.of (by assumption) | exact SqL.of (by assumption)
  | (refine' Dice.same ?h ?s; (case s => assumption); (case h => walk_at "fa")) | exact Rolled.dice (by assumption)
  | (refine' L2.Same.seq ?s ?h; (case s => assumption); (case h => walk_at "fa")) | (refine' Rolled.sqL ?r ?n ?h; (case r => assumption); (case n => walk_at "ne"); (case h => walk_at "fa"))
  | (refine' Kp.sqT ?k ?h; (case k => walk_at "kp1"); (case h => walk_at "fa")) | (refine' RowAt.kp ?k ?h; (case k => walk_at "kp1"); (case h => walk_at "fa")) | (refine' RowsAt.kp ?k ?h; (case k => walk_at "kp1"); (case h => walk_at "fa")) | (refine' ChgAt.kp ?k ?h; (case k => walk_at "kp1"); (case h => walk_at "fa")) | (refine' PlainAt.kp ?k ?h; (case k => walk_at "kp1"); (case h => walk_at "fa"))
  | (refine' GraphAt.same ?h ?s; (case s => assumption); (case h => walk_at "fa")) | (refine' GraphAt.rolled ?r ?D ?h; (case r => assumption); (case D => walk_at "fa"); (case h => walk_at "fa"))
  | (refine' Rd.Same.at ?s ?h; (case s => assumption); (case h => walk_at "fa")) | (refine' Mut.keep ?m _ _ ?n ?h; (case m => assumption); (case n => walk_at "ne"); (case h => walk_at "fa")) | (refine' Rolled.keep ?r _ _ ?n ?h; (case r => assumption); (case n => walk_at "ne"); (case h => walk_at "fa")))
local macro_rules | `(tactic| walk_at "sm") => `(tactic| first | assumption | exact Same.refl _ | (refine' L2.Same.trans ?h ?s; (case s => assumption); (case h => walk_at "sm")) | (refine' same_mutM ?a ?b ?c; (case c => assumption); (case b => walk_at "nn"); (case a => walk_at "sm")))
local macro_rules | `(tactic| walk_at "rl") => `(tactic| first | assumption | exact Rolled.refl (by walk_at "fa") | (refine' Rolled.trans ?a ?b; (case b => assumption); (case a => walk_at "rl")) | (refine' Rolled.same ?a ?b; (case b => assumption); (case a => walk_at "rl")) | (refine' Rolled.mutM ?a ?n ?e ?m; (case m => assumption); (case n => walk_at "nn"); (case e => walk_at "ne"); (case a => walk_at "rl")))
local macro_rules | `(tactic| walk_at "nn") => `(tactic| first | assumption | (refine' none_pre ?s ?h; (case h => assumption); (case s => walk_at "sm")) | (refine' none_rol ?r ?D ?h; (case h => assumption); (case D => walk_at "fa"); (case r => walk_at "rl")))
local macro_rules | `(tactic| walk_at "sz") => `(tactic| first | (simp only [List.length_cons, List.length_nil]; decide) | (refine Rd.small64 ?_; simp only [List.length_map, List.length_append, List.length_cons, List.length_nil]; omega))
local macro_rules | `(tactic| walk_at "at") => `(tactic| walk_at "fa")
local macro_rules | `(tactic| walk_at "rd1") => `(tactic| with_reducible first
  | (refine' Rd.rd_mkTup ?sz fun _ _ _ _ _ => ?_; (case sz => with_unfolding_all walk_at "sz")) | (refine' Rd.rd_mkLst ?sz fun _ _ _ _ _ => ?_; (case sz => with_unfolding_all walk_at "sz")) | (refine' Rd.rd_mkTupF ?sz fun _ _ _ _ _ => ?_; (case sz => with_unfolding_all walk_at "sz"))
  | (refine' Rd.rd_tupleL ?ln fun _ _ _ _ _ => ?_; (case ln => with_unfolding_all walk_at "at")) | (refine' Rd.rd_tupleT ?ln ?_; (case ln => with_unfolding_all walk_at "at")) | (refine' Rd.rd_listL ?ln fun _ _ _ _ _ => ?_; (case ln => with_unfolding_all walk_at "at")) | (refine' Rd.rd_listT ?ln fun _ _ _ _ _ => ?_; (case ln => with_unfolding_all walk_at "at"))
  | (refine' fld_c ?T ?h fun _ _ => ?_; (case T => assumption); (case h => with_unfolding_all walk_at "fa")) | (refine' fld_s ?T ?h fun _ _ => ?_; (case T => assumption); (case h => with_unfolding_all walk_at "fa")) | (refine' fld_n ?T ?h fun _ _ => ?_; (case T => assumption); (case h => with_unfolding_all walk_at "fa"))
  | refine Rd.rd_get2 ?_ | (refine' Rd.rd_getA ?ln ?_; (case ln => with_unfolding_all first | exact Or.inl (by walk_at "at") | exact Or.inr ⟨_, by walk_at "at"⟩)) | (refine' Rd.rd_getE ?ln ?_; (case ln => with_unfolding_all first | exact Or.inl (by walk_at "at") | exact Or.inr ⟨_, by walk_at "at"⟩)) | refine Rd.rd_daug ?_ | refine Rd.rd_items ?_ | refine Rd.rd_frz ?_ | refine Rd.rd_vals ?_ | refine Rd.rd_kw0 ?_ | refine Rd.rd_callN ?_
  | (refine' Rd.rd_isi (Rd.isi_tup ?ln Rd.kk_tup_tup) ?_; (case ln => with_unfolding_all walk_at "at")) | refine Rd.rd_isi (Rd.isi_str (b := true) kk_str_str) ?_)
local macro_rules | `(tactic| walk_at "st") => `(tactic| (simp only [List.map_cons, List.map_nil, L2.wipe, List.set_cons_zero, List.set_cons_succ]; walk_at "rd"; refine ⟨rfl, ?_⟩; walk_at "rd"))
/-! ### rows by a test, layers and distances, _law_some, require_graph -/
abbrev s__law_some : Stmt := top 30
theorem sc__law_some : FnScope ["_law_dice_here", "_law_items"] ["_law_dice_here", "_law_items"] (defScope s__law_some) := ⟨rfl, rfl, rfl, by decide +kernel, rfl, by decide +kernel, by decide +kernel⟩
theorem paired_filter {α β : Type} {F : α → β → Prop} (pr : β → Bool) : ∀ {l : List α} {m : List β}, Paired F l m → Paired F (((m.zip l).filter fun z => pr z.1).map (·.2)) (m.filter pr)
  | _, _, .nil => .nil
  | a :: l, b :: m, .cons r t => by
    have ih := paired_filter pr t
    rw [List.zip_cons_cons]
    by_cases e : pr b = true
    · rw [List.filter_cons_of_pos (by simpa using e), List.filter_cons_of_pos e, List.map_cons]; exact .cons r ih
    · rw [List.filter_cons_of_neg (by simpa using e), List.filter_cons_of_neg e]; exact ih
section
variable {K : PySem.W.Frag} {σ : L2.St} {H : Hp} {Q : VK} {g : TG} {te : TE} {tt : TT} {vs : List Nat} {a : Addr}
/-- [row for row in rows if ..] -/
theorem lc_rowsR {ps : List Addr} {ts : List Tr} (pr : Tr → Bool) (hz : ts.length ≤ 100000) (hS : SqT K H a (ps.map V.ref)) (hP : Paired (RowAt K H) ps ts)
    (step : ∀ t r H1 (N : Hp → Prop) (M : V → Hp → Prop), t ∈ ts → Same H H1 → RowAt K H1 r t → (pr t = false → ∀ H2, Same H1 H2 → N H2) → (pr t = true → ∀ H2, Same H1 H2 → M (.ref r) H2) → g (.ref r) (wipe σ vs) H1 fun σ2 H2 => wipe σ2 vs = wipe σ vs ∧ tt σ2 H2 fun b H3 => if b = true then te σ2 H3 M else N H3)
    (done : ∀ D H' (rs : List Addr), H D = none → Same H H' → H' D = some (.lst (rs.map V.ref)) → Paired (RowAt K H') rs (ts.filter pr) → Q (.ref D) H') : Rd.rLc g tt te vs σ Q (Itt K a) H := by
  have lp : ps.length = ts.length := hP.length
  refine Rd.lc_gen (ts.zip ps) (fun z v H1 => v = .ref z.2 ∧ RowAt K H1 z.2 z.1) (fun z => pr z.1) (fun z => V.ref z.2) (by rw [List.length_zip]; omega) (fun i H1 hi s1 => ?_) (fun H1 s1 => ?_) (fun i H1 x H2 z et s1 y => ?_) (fun z x H1 N M hz1 s1 hx hN hM => ?_) fun D H' h1 h2 h3 => ?_
  · rw [List.length_zip] at hi
    exact ⟨_, V.ref (ps[i]'(by omega)), Rd.Same.sqT s1 hS, by rw [List.getElem?_map, List.getElem?_eq_getElem (by omega)]; rfl⟩
  · exact ⟨_, Rd.Same.sqT s1 hS, by rw [List.length_map, List.length_zip]; omega⟩
  · obtain ⟨rfl, y⟩ := y
    have e := y _ (Rd.Same.sqT s1 hS)
    rw [List.getElem?_map] at e
    obtain ⟨r, hr, rfl⟩ := Option.map_eq_some_iff.mp e
    obtain ⟨e1, e2⟩ := List.getElem?_zip_eq_some.mp et
    rw [hr] at e2
    have e3 : r = z.2 := Option.some.inj e2
    subst e3
    obtain ⟨t', ht', q⟩ := paired_get hP hr
    rw [e1] at ht'
    have e4 : z.1 = t' := Option.some.inj ht'
    subst e4
    exact ⟨Same.refl _, rfl, q.kp (kpS s1)⟩
  · obtain ⟨rfl, hr⟩ := hx
    exact step z.1 z.2 H1 N M (List.of_mem_zip hz1).1 s1 hr hN hM
  · have e : ((ts.zip ps).filter fun z => pr z.1).map (fun z => V.ref z.2) = (((ts.zip ps).filter fun z => pr z.1).map (·.2)).map V.ref := by rw [List.map_map]; rfl
    rw [e] at h3
    exact done D H' _ h1 h2 h3 (L2.Paired.mapP (paired_filter pr hP) fun _ _ q => q.kp (kpS h2))
/-- [f(row) for row in a list of rows] -/
theorem lc_rowsL {ps : List Addr} {ts : List Tr} (f : Tr → V) (hz : ts.length ≤ 100000) (hS : SqL K H a (ps.map V.ref)) (hP : Paired (RowAt K H) ps ts)
    (step : ∀ t r H1 (M : V → Hp → Prop), t ∈ ts → Same H H1 → RowAt K H1 r t → (∀ H2, Same H1 H2 → M (f t) H2) → g (.ref r) (wipe σ vs) H1 fun σ2 H2 => wipe σ2 vs = wipe σ vs ∧ te σ2 H2 M)
    (done : ∀ D H', H D = none → Same H H' → H' D = some (.lst (ts.map f)) → Q (.ref D) H') : Rd.rLc g tYes te vs σ Q (Itl K a) H := by
  have lp : ps.length = ts.length := hP.length
  refine Rd.lc_gen ts (fun t v H1 => ∃ r, v = .ref r ∧ RowAt K H1 r t) (fun _ => true) f hz (fun i H1 hi s1 => ?_) (fun H1 s1 => ?_) (fun i H1 x H2 t et s1 y => ?_) (fun t x H1 N M ht s1 hx hN hM => ?_) fun D H' h1 h2 h3 => done D H' h1 h2 (by rw [h3, List.filter_eq_self.mpr fun _ _ => rfl])
  · exact ⟨_, V.ref (ps[i]'(by omega)), L2.Same.seq s1 hS, by rw [List.getElem?_map, List.getElem?_eq_getElem (by omega)]; rfl⟩
  · exact ⟨_, L2.Same.seq s1 hS, by rw [List.length_map]; omega⟩
  · obtain ⟨rfl, y⟩ := y
    have e := y _ (L2.Same.seq s1 hS)
    rw [List.getElem?_map] at e
    obtain ⟨r, hr, rfl⟩ := Option.map_eq_some_iff.mp e
    obtain ⟨t', ht', q⟩ := paired_get hP hr
    rw [ht'] at et
    cases et
    exact ⟨Same.refl _, r, rfl, q.kp (kpS s1)⟩
  · obtain ⟨r, rfl, hr⟩ := hx
    exact step t r H1 M ht s1 hr (hM rfl)
end
section
variable {K : PySem.W.Frag} {σ : L2.St} {H : Hp} {Q : VK} {g : TG} {te : TE} {tt : TT} {vs : List Nat} {a : Addr}
/-- [row for row in a list of rows if ..] -/
theorem lc_rowsLR {ps : List Addr} {ts : List Tr} (pr : Tr → Bool) (hz : ts.length ≤ 100000) (hS : SqL K H a (ps.map V.ref)) (hP : Paired (RowAt K H) ps ts)
    (step : ∀ t r H1 (N : Hp → Prop) (M : V → Hp → Prop), t ∈ ts → Same H H1 → RowAt K H1 r t → (pr t = false → ∀ H2, Same H1 H2 → N H2) → (pr t = true → ∀ H2, Same H1 H2 → M (.ref r) H2) → g (.ref r) (wipe σ vs) H1 fun σ2 H2 => wipe σ2 vs = wipe σ vs ∧ tt σ2 H2 fun b H3 => if b = true then te σ2 H3 M else N H3)
    (done : ∀ D H' (rs : List Addr), H D = none → Same H H' → H' D = some (.lst (rs.map V.ref)) → Paired (RowAt K H') rs (ts.filter pr) → Q (.ref D) H') : Rd.rLc g tt te vs σ Q (Itl K a) H := by
  have lp : ps.length = ts.length := hP.length
  refine Rd.lc_gen (ts.zip ps) (fun z v H1 => v = .ref z.2 ∧ RowAt K H1 z.2 z.1) (fun z => pr z.1) (fun z => V.ref z.2) (by rw [List.length_zip]; omega) (fun i H1 hi s1 => ?_) (fun H1 s1 => ?_) (fun i H1 x H2 z et s1 y => ?_) (fun z x H1 N M hz1 s1 hx hN hM => ?_) fun D H' h1 h2 h3 => ?_
  · rw [List.length_zip] at hi
    exact ⟨_, V.ref (ps[i]'(by omega)), L2.Same.seq s1 hS, by rw [List.getElem?_map, List.getElem?_eq_getElem (by omega)]; rfl⟩
  · exact ⟨_, L2.Same.seq s1 hS, by rw [List.length_map, List.length_zip]; omega⟩
  · obtain ⟨rfl, y⟩ := y
    have e := y _ (L2.Same.seq s1 hS)
    rw [List.getElem?_map] at e
    obtain ⟨r, hr, rfl⟩ := Option.map_eq_some_iff.mp e
    obtain ⟨e1, e2⟩ := List.getElem?_zip_eq_some.mp et
    rw [hr] at e2
    have e3 : r = z.2 := Option.some.inj e2
    subst e3
    obtain ⟨t', ht', q⟩ := paired_get hP hr
    rw [e1] at ht'
    have e4 : z.1 = t' := Option.some.inj ht'
    subst e4
    exact ⟨Same.refl _, rfl, q.kp (kpS s1)⟩
  · obtain ⟨rfl, hr⟩ := hx
    exact step z.1 z.2 H1 N M (List.of_mem_zip hz1).1 s1 hr hN hM
  · have e : ((ts.zip ps).filter fun z => pr z.1).map (fun z => V.ref z.2) = (((ts.zip ps).filter fun z => pr z.1).map (·.2)).map V.ref := by rw [List.map_map]; rfl
    rw [e] at h3
    exact done D H' _ h1 h2 h3 (L2.Paired.mapP (paired_filter pr hP) fun _ _ q => q.kp (kpS h2))
end
def lay (ts : List Tr) (q : Str) : Nat → List Str
  | 0 => [q]
  | k + 1 => lay ts q k ++ (ts.filter fun t => decide (t.src ∈ lay ts q k)).map (·.tgt)
section
variable {ts : List Tr} {ns : List Str} {q r x : Str}
theorem lay_succ {k : Nat} (h : x ∈ lay ts q k) : x ∈ lay ts q (k + 1) := List.mem_append_left _ h
theorem lay_mono {k j : Nat} (h : x ∈ lay ts q k) (hk : k ≤ j) : x ∈ lay ts q j := by
  induction hk with
  | refl => exact h
  | step _ ih => exact lay_succ ih
theorem lay_step {t : Tr} {k : Nat} (ht : t ∈ ts) (h : t.src ∈ lay ts q k) : t.tgt ∈ lay ts q (k + 1) := List.mem_append_right _ (List.mem_map.mpr ⟨t, List.mem_filter.mpr ⟨ht, decide_eq_true h⟩, rfl⟩)
theorem lay_inv {k : Nat} (h : x ∈ lay ts q (k + 1)) : x ∈ lay ts q k ∨ ∃ t ∈ ts, t.src ∈ lay ts q k ∧ x = t.tgt := by
  rcases List.mem_append.mp h with e | e
  · exact .inl e
  · obtain ⟨t, ht, rfl⟩ := List.mem_map.mp e
    obtain ⟨h1, h2⟩ := List.mem_filter.mp ht
    exact .inr ⟨t, h1, of_decide_eq_true h2, rfl⟩
theorem lay_cl (S : Str → Prop) (hq : S q) (hs : ∀ t ∈ ts, S t.src → S t.tgt) : ∀ (k : Nat) (x : Str), x ∈ lay ts q k → S x
  | 0, x, h => by rw [show x = q from List.mem_singleton.mp h]; exact hq
  | k + 1, x, h => by
    rcases lay_inv h with e | ⟨t, ht, h1, rfl⟩
    · exact lay_cl S hq hs k x e
    · exact hs t ht (lay_cl S hq hs k _ h1)
theorem lay_trans {k : Nat} (h : r ∈ lay ts q k) : ∀ (j : Nat) (x : Str), x ∈ lay ts r j → x ∈ lay ts q (k + j)
  | 0, x, hx => by rw [show x = r from List.mem_singleton.mp hx]; exact h
  | j + 1, x, hx => by
    rcases lay_inv hx with e | ⟨t, ht, h1, rfl⟩
    · exact lay_succ (lay_trans h j x e)
    · exact lay_step ht (lay_trans h j _ h1)
theorem lay_first : ∀ (k : Nat) (x : Str), x ∈ lay ts q (k + 1) → x = q ∨ ∃ t ∈ ts, t.src = q ∧ x ∈ lay ts t.tgt k
  | 0, x, h => by
    rcases lay_inv h with e | ⟨t, ht, h1, rfl⟩
    · exact .inl (List.mem_singleton.mp e)
    · exact .inr ⟨t, ht, List.mem_singleton.mp h1, List.mem_singleton.mpr rfl⟩
  | k + 1, x, h => by
    rcases lay_inv h with e | ⟨t, ht, h1, rfl⟩
    · rcases lay_first k x e with e | ⟨u, hu, h2, h3⟩
      · exact .inl e
      · exact .inr ⟨u, hu, h2, lay_succ h3⟩
    · rcases lay_first k _ h1 with e | ⟨u, hu, h2, h3⟩
      · exact .inr ⟨t, ht, e, lay_mono (k := 0) (List.mem_singleton.mpr rfl) (Nat.zero_le _)⟩
      · exact .inr ⟨u, hu, h2, lay_step ht h3⟩
theorem lay_self {k : Nat} : q ∈ lay ts q k := lay_mono (k := 0) (List.mem_singleton.mpr rfl) (Nat.zero_le _)
theorem lay_ex (L : Loop1 ts ns) (hq : q ∈ ns) (hx : x ∈ ns) : ∃ k, x ∈ lay ts q k := by
  have h0 : 0 < ns.length := List.length_pos_iff.mpr L.ne
  obtain ⟨k, hk⟩ := L.bwd h0 (fun y => ∃ k, ns[0] ∈ lay ts y k) ⟨0, lay_self⟩ (fun t ht ⟨k, hk⟩ => ⟨1 + k, lay_trans (lay_step ht lay_self) k _ hk⟩) q hq
  exact L.fwd h0 (fun y => ∃ k, y ∈ lay ts q k) ⟨k, hk⟩ (fun t ht ⟨k, hk⟩ => ⟨k + 1, lay_step ht hk⟩) x hx
theorem lay_bound (L : Loop1 ts ns) (hq : q ∈ ns) : ∀ k : Nat, (∀ x ∈ ns, x ∈ lay ts q k) ∨ k + 1 ≤ (ns.filter fun y => decide (y ∈ lay ts q k)).length
  | 0 => .inr (List.length_pos_iff.mpr fun e => by
    have : q ∈ ns.filter fun y => decide (y ∈ lay ts q 0) := List.mem_filter.mpr ⟨hq, decide_eq_true lay_self⟩
    rw [e] at this
    cases this)
  | k + 1 => by
    rcases lay_bound L hq k with h | h
    · exact .inl fun x hx => lay_succ (h x hx)
    · by_cases c : ∃ t ∈ ts, t.src ∈ lay ts q k ∧ t.tgt ∉ lay ts q k
      · obtain ⟨t, ht, h1, h2⟩ := c
        have := len_nodup_sub (t.tgt :: ns.filter fun y => decide (y ∈ lay ts q k)) (ns.filter fun y => decide (y ∈ lay ts q (k + 1))) (List.nodup_cons.mpr ⟨fun z => h2 (of_decide_eq_true (List.mem_filter.mp z).2), L.nd.filter _⟩) fun y hy => by
          rcases List.mem_cons.mp hy with e | e
          · rw [e]; exact List.mem_filter.mpr ⟨(L.ends t ht).2, decide_eq_true (lay_step ht h1)⟩
          · obtain ⟨e1, e2⟩ := List.mem_filter.mp e
            exact List.mem_filter.mpr ⟨e1, decide_eq_true (lay_succ (of_decide_eq_true e2))⟩
        rw [List.length_cons] at this
        exact .inr (by omega)
      · refine .inl fun x hx => lay_succ ?_
        obtain ⟨j, hj⟩ := lay_ex L hq hx
        exact lay_cl (fun y => y ∈ lay ts q k) lay_self (fun t ht h1 => Classical.byContradiction fun z => c ⟨t, ht, h1, z⟩) j x hj
theorem lay_len (k : Nat) : (lay ts q k).length ≤ 1 + ts.length * k := by
  induction k with
  | zero => exact Nat.le_refl _
  | succ k ih =>
    show (lay ts q k ++ _).length ≤ _
    rw [List.length_append, List.length_map, Nat.mul_succ]
    have := List.length_filter_le (fun t : Tr => decide (t.src ∈ lay ts q k)) ts
    omega
def IsD (ts : List Tr) (q x : Str) (m : Nat) : Prop := x ∈ lay ts q m ∧ ∀ j, j < m → x ∉ lay ts q j
theorem least_ex (p : Nat → Prop) : ∀ k, p k → ∃ m, m ≤ k ∧ p m ∧ ∀ j, j < m → ¬ p j := by
  intro k
  induction k using Nat.strongRecOn with
  | _ k ih =>
    intro hk
    by_cases c : ∃ j, j < k ∧ p j
    · obtain ⟨j, hj, pj⟩ := c
      obtain ⟨m, h1, h2, h3⟩ := ih j hj pj
      exact ⟨m, by omega, h2, h3⟩
    · exact ⟨k, Nat.le_refl _, hk, fun j hj pj => c ⟨j, hj, pj⟩⟩
theorem IsD.uniq {m n : Nat} (h : IsD ts q x m) (h' : IsD ts q x n) : m = n := by
  rcases Nat.lt_trichotomy m n with e | e | e
  · exact absurd h.1 (h'.2 m e)
  · exact e
  · exact absurd h'.1 (h.2 n e)
noncomputable def dst (ts : List Tr) (q x : Str) : Nat := Classical.epsilon (IsD ts q x)
theorem dst_ok (L : Loop1 ts ns) (hq : q ∈ ns) (hx : x ∈ ns) : IsD ts q x (dst ts q x) ∧ dst ts q x ≤ ns.length := by
  have hb : x ∈ lay ts q ns.length := by
    rcases lay_bound L hq ns.length with h | h
    · exact h x hx
    · have := List.length_filter_le (fun y => decide (y ∈ lay ts q ns.length)) ns
      omega
  obtain ⟨m, h1, h2, h3⟩ := least_ex (fun k => x ∈ lay ts q k) ns.length hb
  have e : IsD ts q x (dst ts q x) := Classical.epsilon_spec (p := IsD ts q x) ⟨m, h2, h3⟩
  exact ⟨e, by rw [e.uniq ⟨h2, h3⟩]; exact h1⟩
theorem dst_less (L : Loop1 ts ns) (hq : q ∈ ns) (hx : x ∈ ns) (ne : q ≠ x) : ∃ t ∈ ts, t.src = q ∧ dst ts t.tgt x < dst ts q x := by
  obtain ⟨⟨h1, h2⟩, _⟩ := dst_ok L hq hx
  cases e : dst ts q x with
  | zero =>
    rw [e] at h1
    exact absurd (List.mem_singleton.mp h1).symm ne
  | succ m =>
    rw [e] at h1
    rcases lay_first m x h1 with z | ⟨t, ht, h3, h4⟩
    · exact absurd z.symm ne
    · obtain ⟨k, h5, h6, h7⟩ := least_ex (fun k => x ∈ lay ts t.tgt k) m h4
      have d := (dst_ok L (L.ends t ht).2 hx).1
      exact ⟨t, ht, h3, by rw [d.uniq ⟨h6, h7⟩]; omega⟩
theorem leaves (L : Loop1 ts ns) (ne : ts ≠ []) (hq : q ∈ ns) : ∃ t ∈ ts, t.src = q := by
  refine Classical.byContradiction fun c => ?_
  have h0 : 0 < ns.length := List.length_pos_iff.mpr L.ne
  have c' : ∀ t ∈ ts, t.src ≠ q := fun t ht e => c ⟨t, ht, e⟩
  by_cases e : ns[0] = q
  · obtain ⟨t, ht⟩ := List.exists_mem_of_ne_nil ts ne
    have := L.fwd h0 (fun y => y = q) e (fun t ht h => absurd h (c' t ht)) t.src (L.ends t ht).1
    exact c' t ht this
  · exact L.bwd h0 (fun y => y ≠ q) e (fun t ht _ => c' t ht) q hq rfl
end
def spSome (K : PySem.W.Frag) : Sp := Rd.mkSp (fun (a : Addr × Addr × List V) => [.ref a.1, .ref a.2.1]) fun a H Q _ => Dice H a.1 ∧ SqD K H a.1 a.2.1 a.2.2 ∧ a.2.2.length < 1000 ∧
  ∀ D ys zs H', H D = none → (ys ++ zs).Perm a.2.2 → Rolled a.1 H H' → H' D = some (.lst ys) → Q (.ref D) H'
section
variable {gd : Bool} {P : Program} {w : World} {K : PySem.W.Frag} {mg : Str → Option Value} {base : Heap} {a : AdsG}
theorem ok_some (F : Rd.Has K mg "_law_some" s__law_some) (g : Glob mg) (c__law_roll : Rd.Fn gd P w K mg base CX0 1 "_law_roll" spRoll) (c__law_mixed : Rd.Fn gd P w K mg base CX0 2 "_law_mixed" (spMixS K)) : Rd.Fn gd P w K mg base CX0 3 "_law_some" (spSome K) := by
  refine F.fn sc__law_some (fun _ => rfl) (fun _ _ _ _ _ _ us hl => match us, hl with | [_, _], _ => rfl) fun f cdv A outer s H Q E b hr h => ?_
  obtain ⟨d, m, xs⟩ := b
  obtain ⟨hD, hS, hz, k⟩ := h
  dsimp only at hD hS hz k
  refine ⟨_, (pss_one (ps_ret (pe_slice sl_list (Rd.pe_fn c__law_mixed (hr.mono (by decide)) (by rfl) (pa_cons (pv 0) (pa_cons (pv 1) pa_nil))) po_none (po_some (Rd.pe_fn c__law_roll (hr.mono (by decide)) (by rfl) (pa_cons (pv 0) (pa_cons (pe_op op_add (pe_callB Rd.c_len (by rfl) g.len (by decide +kernel) (pa_cons (pv 1) pa_nil)) pe_int) pa_nil))))))), ?_⟩
  try simp only [Rd.noxK, Rd.cxK]
  refine Rd.rd_start [some (V.ref d), some (V.ref m)] rfl ?_
  walk_at "rd"
  refine Rd.rd_sp (d, m, xs) rfl ⟨hD, hS, hz, fun l ys H1 hl pm R1 h1 => ?_⟩
  have lne := hD.ne hl
  walk_at "rd"
  refine Rd.rd_lenS2 (R1.sqD hD hS).s ?_
  walk_at "rd"
  refine rd_roll R1.dice (by omega) (by omega) fun r H2 r0 r1 R2 => ?_
  walk_at "rd"
  obtain ⟨j, rfl⟩ : ∃ j : Nat, r = (j : Int) := ⟨r.toNat, by omega⟩
  refine Rd.rd_slL (SqL.of (R2.keep _ _ lne h1)) fun D3 H3 hD3 s3 h3 => ?_
  have ly : ys.length = xs.length := pm.length_eq
  rw [cut_take (by omega)] at h3
  exact k D3 (ys.take j) (ys.drop j) H3 (none_rol (R1.trans R2) hD hD3) (by rw [List.take_append_drop]; exact pm) ((R1.trans R2).same s3) h3
end
end M
set_option Elab.async false
set_option linter.all false
set_option maxRecDepth 100000
set_option maxHeartbeats 4000000
namespace M
open PySem L2
local macro_rules | `(tactic| walk_at "rdc") => `(tactic| first | exact Or.inl ⟨by decide, by decide⟩ | exact Or.inr ⟨by decide, by decide⟩ | exact ⟨by decide, by decide, by decide⟩ | exact ⟨by decide, by decide⟩ | decide | omega | assumption | (refine Or.inl ⟨?_, ?_⟩ <;> omega) | (refine Or.inr ⟨?_, ?_⟩ <;> omega) | (refine ⟨?_, ?_⟩ <;> omega))
local macro_rules | `(tactic| walk_at "rd1") => `(tactic| with_reducible first
  | refine Rd.rd_seq ?_ | refine Rd.rd_asg ?_ | refine Rd.rd_op ?_ | (refine' Rd.rd_var ?vh ?_; (case vh => with_unfolding_all rfl)) | refine Rd.rd_c ?_ | refine Rd.rd_I0 ?_ | refine Rd.rd_name0 ?_ | refine Rd.rd_nameS ?_ | refine Rd.rd_fn ?_
  | refine Rd.rd_cb ?_ | refine Rd.rd_cons ?_ | refine Rd.rd_nil ?_ | refine Rd.rd_int ?_ | refine Rd.rd_intB ?_ | refine Rd.rd_abs ?_ | refine Rd.rd_max2 ?_ | refine Rd.rd_min2 ?_
  | refine Rd.rd_call ?_ | refine Rd.rd_ifE ?_ | refine Rd.rd_test ?_ | refine Rd.rd_tB ?_ | refine Rd.rd_blV ?_ | refine Rd.rd_and ?_ | refine Rd.rd_or ?_ | refine Rd.rd_not ?_
  | refine Rd.rd_andV ?_ | refine Rd.rd_orV ?_ | refine Rd.rd_notV ?_ | refine Rd.rd_next ?_ | refine Rd.rd_ret ?_ | refine Rd.rd_drop ?_ | refine Rd.rd_ifS ?_ | refine Rd.rd_nx ?_ | refine Rd.rd_rt ?_ | refine Rd.rd_tMatch ?_ | refine Rd.rd_tCO ?_ | refine Rd.rd_tRevL ?_ | refine Rd.rd_tStar ?_ | refine Rd.rd_joined ?_ | refine Rd.rd_js1 ?_ | refine Rd.rd_js0 ?_ | refine Rd.rd_fmt ?_ | refine Rd.rd_propR ?_ | refine Rd.rd_iZipA ?_ | refine Rd.rd_iEnumT ?_ | refine Rd.rd_iOwn ?_ | (refine' Rd.rd_IET ?ln ?_; (case ln => with_unfolding_all walk_at "at")) | refine Rd.rd_chain ?_ | refine Rd.rd_tPar ?_ | refine Rd.rd_par ?_ | refine Rd.rd_sl ?_ | refine Rd.rd_noPart ?_ | refine Rd.rd_part ?_ | refine Rd.rd_intV ?_ | refine Rd.rd_lc ?_ | (refine' Rd.rd_aug ?vh ?_; (case vh => with_unfolding_all rfl)) | refine Rd.rd_ipI ?_ | refine Rd.rd_for ?_ | (refine' Rd.rd_IT ?ln ?_; (case ln => with_unfolding_all walk_at "at")) | (refine' Rd.rd_IL ?ln ?_; (case ln => with_unfolding_all walk_at "at")) | refine Rd.rd_iTup ?_ | refine Rd.rd_iList ?_ | refine Rd.rd_iRng1 ?_ | refine Rd.rd_iRng2 ?_ | refine Rd.rd_isi (Rd.isi_int Rd.kk_int_int) ?_ | refine Rd.rd_isi (Rd.isi_int Rd.kk_int_bool) ?_ | refine Rd.rd_dget ?_ | refine Rd.rd_din ?_ | refine Rd.rd_dnotin ?_ | refine Rd.rd_dput ?_ | refine Rd.rd_dc ?_ | refine Rd.rd_lc2 ?_ | refine Rd.rd_ltS ?_ | refine Rd.rd_inSg ?_ | refine Rd.rd_iStr ?_ | refine Rd.rd_IS ?_ | refine Rd.rd_prC ?_ | refine Rd.rd_prN ?_ | refine Rd.rd_methR ?_ | refine Rd.rd_cmeth ?_ | refine Rd.rd_fldS ?_ | refine Rd.rd_fld ?_ | (refine' Rd.rd_mkVS ?vh ?_; (case vh => with_unfolding_all rfl)) | (refine' Rd.rd_starT ?ln ?_; (case ln => with_unfolding_all walk_at "at")) | refine Rd.rd_iEnum ?_ | refine Rd.rd_iZip ?_ | (refine' Rd.rd_IE ?ln ?_; (case ln => with_unfolding_all walk_at "at")) | (refine' Rd.rd_IZ ?ln ?lm ?_; (case ln => with_unfolding_all walk_at "at"); (case lm => with_unfolding_all walk_at "at")) | (refine' Rd.rd_gTup ?ln ?lk ?_; (case ln => with_unfolding_all walk_at "at"); (case lk => with_unfolding_all rfl)) | refine Rd.rd_gCons ?_ | refine Rd.rd_gNil ?_ | refine Rd.rd_m1 ?_ | refine Rd.rd_strV ?_ | refine Rd.rd_tXiM ?_ | refine Rd.rd_tXiB ?_ | refine Rd.rd_tXiS ?_ | refine Rd.rd_bm ?_ | refine Rd.rd_bm0 ?_ | refine Rd.rd_isN ?_ | refine Rd.rd_notN ?_ | refine Rd.rd_sub ?_ | refine Rd.rd_un ?_ | refine Rd.rd_U ?_
  | (refine' Rd.rd_eq ?sc ?_; (case sc => with_unfolding_all rfl)) | (refine' Rd.rd_ne ?sc ?_; (case sc => with_unfolding_all rfl))
  | (refine' Rd.rd_I ?cc ?_; (case cc => with_unfolding_all walk_at "rdc"))
  | (refine' Rd.rd_lenL ?ln ?_; (case ln => with_unfolding_all walk_at "at")) | (refine' Rd.rd_lenT ?ln ?_; (case ln => with_unfolding_all walk_at "at"))
  | (refine' Rd.rd_ixL ?ln ?ia ?_; (case ln => with_unfolding_all walk_at "at"); (case ia => with_unfolding_all first | exact Rd.at0 | exact Rd.at1 | exact Rd.at2 | exact Rd.at3 | exact Rd.at4 | rfl)) | (refine' Rd.rd_ixT ?ln ?ia ?_; (case ln => with_unfolding_all walk_at "at"); (case ia => with_unfolding_all first | exact Rd.at0 | exact Rd.at1 | exact Rd.at2 | exact Rd.at3 | exact Rd.at4 | rfl)))
local macro_rules | `(tactic| walk_at "at") => `(tactic| first | assumption | (apply SqL.of; assumption) | (apply SqT.of; assumption) | (apply SqL.of; exact upd_same) | (apply SqT.of; exact upd_same))
local macro_rules | `(tactic| walk_at "rd") => `(tactic| repeat walk_at "rd1")
/-! ### class Graph: properties, in, iteration, length, text, == in full -/
abbrev s_Graph_counters : Stmt := inClass (top 23) 2
theorem sc_Graph_counters : FnScope ["self"] ["self"] (defScope s_Graph_counters) := ⟨rfl, rfl, rfl, by decide +kernel, rfl, by decide +kernel, by decide +kernel⟩
abbrev s_Graph_states : Stmt := inClass (top 23) 3
theorem sc_Graph_states : FnScope ["self"] ["self"] (defScope s_Graph_states) := ⟨rfl, rfl, rfl, by decide +kernel, rfl, by decide +kernel, by decide +kernel⟩
abbrev s_Graph___contains__ : Stmt := inClass (top 23) 15
theorem sc_Graph___contains__ : FnScope ["self", "value"] ["self", "value"] (defScope s_Graph___contains__) := ⟨rfl, rfl, rfl, by decide +kernel, rfl, by decide +kernel, by decide +kernel⟩
abbrev s_Graph___iter__ : Stmt := inClass (top 23) 16
theorem sc_Graph___iter__ : FnScope ["self"] ["self"] (defScope s_Graph___iter__) := ⟨rfl, rfl, rfl, by decide +kernel, rfl, by decide +kernel, by decide +kernel⟩
abbrev s_Graph___len__ : Stmt := inClass (top 23) 17
theorem sc_Graph___len__ : FnScope ["self"] ["self"] (defScope s_Graph___len__) := ⟨rfl, rfl, rfl, by decide +kernel, rfl, by decide +kernel, by decide +kernel⟩
abbrev s_Graph___str__ : Stmt := inClass (top 23) 19
theorem sc_Graph___str__ : FnScope ["self", "sizes"] ["self"] (defScope s_Graph___str__) := ⟨rfl, rfl, rfl, by decide +kernel, rfl, by decide +kernel, by decide +kernel⟩
structure AdsH where
  (it ln ct st : Addr)
structure GraphH (K : PySem.W.Frag) (C : Addr) (d : AdsH) : Prop where
  it : Rd.OwnIt K C d.it
  ln : PySem.W.findIn K (.ref C) "__len__" = some (some (.ref d.ln))
  lnf : PySem.W.isFn K (.ref d.ln) = true
  bo : PySem.W.findIn K (.ref C) "__bool__" = some none
  ct : PySem.W.findIn K (.ref C) "__contains__" = some (some (.ref d.ct))
  ctf : PySem.W.isFn K (.ref d.ct) = true
  st : PySem.W.findIn K (.ref C) "__str__" = some (some (.ref d.st))
  stf : PySem.W.isFn K (.ref d.st) = true
  sub : ∀ T ∈ ["int", "NoneType", "str", "tuple"], PySem.W.subIn K (.type T) (.ref C) = some false ∧ PySem.W.kitOne K (.type T) (.ref C) = some false
def strI (i : Int) : Str := Str.ofString (toString i)
/-- the text of a graph -/
def graphT (G : Gr) : Str := Str.empty ++ ("graph of " : Str) ++ (Str.empty ++ strI G.ns.length ++ (" states, " : Str) ++ strI G.cs.length ++ (" counters" : Str)) ++ (", " : Str) ++ strI G.ts.length ++ (" transitions" : Str)
def spGCnt (K : PySem.W.Frag) (C : Addr) (f : Gr → List Str) : Sp := Rd.mkSp (fun (a : Addr × Gr) => [.ref a.1]) fun a H Q _ => GraphAt K C H a.1 a.2 ∧ ∀ p, TxT K H p (f a.2) → Q (.ref p) H
def spGIn (K : PySem.W.Frag) (C : Addr) : Sp := Rd.mkSp (fun (a : Addr × V × Gr) => [.ref a.1, a.2.1]) fun a H Q _ => GraphAt K C H a.1 a.2.2 ∧ ((∃ z, a.2.1 = .str z ∧ ∀ b : Bool, (b = true ↔ z ∈ a.2.2.ts.map (·.nm)) → Q (.bl b) H) ∨ (Rd.Isi K H a.2.1 "str" false ∧ Q (.bl false) H))
def spGIter (K : PySem.W.Frag) (C : Addr) (n : Nat) : Sp := Rd.mkSp (fun (a : Addr × Gr) => [.ref a.1]) fun a H Q _ => GraphAt K C H a.1 a.2 ∧ ∀ it p rs, SqT K H p (rs.map V.ref) → Paired (RowAt K H) rs a.2.ts → H it = none → n ≤ it → Q (.ref it) (upd H it (Rd.ItT p it))
def spGLen (K : PySem.W.Frag) (C : Addr) : Sp := Rd.mkSp (fun (a : Addr × Gr) => [.ref a.1]) fun a H Q _ => GraphAt K C H a.1 a.2 ∧ Q (.int a.2.ts.length) H
def spGStr (K : PySem.W.Frag) (C : Addr) : Sp := Rd.mkSp (fun (a : Addr × Gr) => [.ref a.1]) fun a H Q _ => GraphAt K C H a.1 a.2 ∧ GOk a.2 ∧ Q (.str (graphT a.2)) H
def spGEq2 (K : PySem.W.Frag) (C : Addr) : Sp := Rd.mkSp (fun (a : Addr × Addr × Gr × Gr) => [.ref a.1, .ref a.2.1]) fun a H Q _ => GraphAt K C H a.1 a.2.2.1 ∧ GraphAt K C H a.2.1 a.2.2.2 ∧ GOk a.2.2.1 ∧ GOk a.2.2.2 ∧ ∀ b : Bool, (b = true ↔ a.2.2.1 = a.2.2.2) → Q (.bl b) H
def spGEqF (K : PySem.W.Frag) (C : Addr) : Sp := Rd.mkSp (fun (a : Addr × V) => [.ref a.1, a.2]) fun a H Q _ => (∃ tb, TyX K H a.2 tb ∧ PySem.W.kitOne K tb (.ref C) = some false) ∧ Q (.bl false) H
/-! == of data that are made of tuples -/
theorem eqv_map {β : Type} (f : β → PyData) (h : ∀ a b, PyData.eqv (f a) (f b) = true ↔ a = b) : ∀ l m : List β, PyData.eqv (.tuple (l.map f)) (.tuple (m.map f)) = true ↔ l = m
  | [], [] => ⟨fun _ => rfl, fun _ => rfl⟩
  | [], _ :: _ => ⟨fun e => absurd (show false = true from e) (by decide), nofun⟩
  | _ :: _, [] => ⟨fun e => absurd (show false = true from e) (by decide), nofun⟩
  | x :: l, y :: m => by
    have ih := eqv_map f h l m
    have e : PyData.eqv (.tuple ((x :: l).map f)) (.tuple ((y :: m).map f)) = (PyData.eqv (f x) (f y) && PyData.eqv (.tuple (l.map f)) (.tuple (m.map f))) := rfl
    rw [e, Bool.and_eq_true, h, ih]
    constructor
    · rintro ⟨rfl, rfl⟩; rfl
    · intro z; exact List.cons.inj z
theorem eqv_s (x y : Str) : PyData.eqv (.str x) (.str y) = true ↔ x = y := by
  simp only [PyData.eqv]
  exact decide_eq_true_iff
theorem eqv_i (x y : Int) : PyData.eqv (.int x) (.int y) = true ↔ x = y := by
  simp only [PyData.eqv]
  exact decide_eq_true_iff
theorem eqv_chg (x y : Str × Int) : PyData.eqv (chgP x) (chgP y) = true ↔ x = y := by
  have e : PyData.eqv (chgP x) (chgP y) = (PyData.eqv (.str x.1) (.str y.1) && (PyData.eqv (.int x.2) (.int y.2) && true)) := rfl
  rw [e, Bool.and_true, Bool.and_eq_true, eqv_s, eqv_i]
  exact ⟨fun h => Prod.ext h.1 h.2, fun h => by rw [h]; exact ⟨rfl, rfl⟩⟩
theorem eqv_tr (x y : Tr) : PyData.eqv (trP x) (trP y) = true ↔ x = y := by
  have e : PyData.eqv (trP x) (trP y) = (PyData.eqv (.str x.nm) (.str y.nm) && (PyData.eqv (.str x.src) (.str y.src) && (PyData.eqv (.str x.tgt) (.str y.tgt) && (PyData.eqv (.tuple (x.chg.map chgP)) (.tuple (y.chg.map chgP)) && true)))) := rfl
  rw [e, Bool.and_true, Bool.and_eq_true, Bool.and_eq_true, Bool.and_eq_true, eqv_s, eqv_s, eqv_s, eqv_map chgP eqv_chg]
  constructor
  · rintro ⟨h1, h2, h3, h4⟩
    cases x
    cases y
    dsimp only at h1 h2 h3 h4
    rw [h1, h2, h3, h4]
  · intro h; rw [h]; exact ⟨rfl, rfl, rfl, rfl⟩
theorem find_rows : ∀ {ts : List Tr} {rs : List Addr} (z : Str), ts.length = rs.length → ((valV (rowsD ts rs) (Sum.inr z : Key)).isSome = true ↔ z ∈ ts.map (·.nm))
  | [], [], z, _ => by constructor <;> intro h <;> cases h
  | t :: ts, r :: rs, z, e => by
    have ih := find_rows (ts := ts) (rs := rs) z (by simpa using e)
    by_cases h : t.nm = z
    · constructor
      · intro _; rw [List.map_cons, h]; exact List.mem_cons_self
      · intro _
        unfold valV rowsD
        rw [List.zip_cons_cons, List.map_cons, List.find?_cons_of_pos (by simpa using h)]
        rfl
    · have e2 : valV (rowsD (t :: ts) (r :: rs)) (Sum.inr z : Key) = valV (rowsD ts rs) (Sum.inr z : Key) := by
        unfold valV rowsD
        rw [List.zip_cons_cons, List.map_cons, List.find?_cons_of_neg (by simpa using h)]
      rw [e2, ih, List.map_cons, List.mem_cons]
      exact ⟨.inr, fun q => q.resolve_left fun w => h w.symm⟩
theorem log_len {n : Nat} (h : n < 2 ^ 60) : ((n : Nat) : Int).natAbs.log2 < 1920 := by
  rw [Int.natAbs_natCast]
  by_cases e : n = 0
  · rw [e]; decide
  · exact Nat.lt_trans ((Nat.log2_lt e).mpr h) (by decide)
theorem str_app6 (x y : Str) : (x ++ y).length = x.length + y.length := by
  show (x.cps ++ y.cps).size = x.cps.size + y.cps.size
  exact Array.size_append
theorem strI_len {n : Nat} (h : n < 2 ^ 60) : (strI n).length ≤ 100 := by
  have e := int_text_length_le (a := (n : Int)) (k := 60) (by decide) (by
    rw [Int.natAbs_natCast]
    by_cases e : n = 0
    · rw [e]; decide
    · exact (Nat.log2_lt e).mpr h)
  unfold strI
  rw [PySem.ofString_length]
  omega
section
variable {gd : Bool} {P : Program} {w : World} {K : PySem.W.Frag} {mg : Str → Option Value} {base : Heap} {a : AdsG} {d : AdsH}
theorem ok_gcounters (T : GraphC K mg a) (F : Rd.HasAt K a.gc "counters" "Graph.counters" s_Graph_counters) : FnR P w K mg base CX0 1 a.gc (spGCnt K a.C (·.cs)) := by
  refine Rd.FnG.toR (F.fn sc_Graph_counters (fun _ => rfl) (fun _ _ _ _ _ _ us hl => match us, hl with | [_], _ => rfl) fun cdv A outer s H Q E b hr h => ?_)
  obtain ⟨x, G⟩ := b
  obtain ⟨hx, k⟩ := h
  dsimp only at hx k
  refine ⟨_, (pss_one (ps_ret (pe_fld (pv 0) rfl))), ?_⟩
  try simp only [Rd.noxK, Rd.cxK]
  refine Rd.rd_start [some (V.ref x)] rfl ?_
  walk_at "rd"
  exact fld_c T hx k
theorem ok_gstates (T : GraphC K mg a) (F : Rd.HasAt K a.gs "states" "Graph.states" s_Graph_states) : FnR P w K mg base CX0 1 a.gs (spGCnt K a.C (·.ns)) := by
  refine Rd.FnG.toR (F.fn sc_Graph_states (fun _ => rfl) (fun _ _ _ _ _ _ us hl => match us, hl with | [_], _ => rfl) fun cdv A outer s H Q E b hr h => ?_)
  obtain ⟨x, G⟩ := b
  obtain ⟨hx, k⟩ := h
  dsimp only at hx k
  refine ⟨_, (pss_one (ps_ret (pe_fld (pv 0) rfl))), ?_⟩
  try simp only [Rd.noxK, Rd.cxK]
  refine Rd.rd_start [some (V.ref x)] rfl ?_
  walk_at "rd"
  exact fld_s T hx k
theorem ok_gin (T : GraphC K mg a) (g : Glob mg) (F : Rd.HasAt K d.ct "__contains__" "Graph.__contains__" s_Graph___contains__) : FnR P w K mg base CX0 1 d.ct (spGIn K a.C) := by
  refine Rd.FnG.toR (F.fn sc_Graph___contains__ (fun _ => rfl) (fun _ _ _ _ _ _ us hl => match us, hl with | [_, _], _ => rfl) fun cdv A outer s H Q E b hr h => ?_)
  obtain ⟨x, v, G⟩ := b
  obtain ⟨hx, k⟩ := h
  dsimp only at hx k
  refine ⟨_, (pss_one (ps_ret (pe_and (pe_callB Rd.c_isi (by rfl) g.isinstance (by decide +kernel) (pa_cons (pv 1) (pa_cons (pe_bltn (v := .ty "str") (by rfl) g.str (by decide +kernel) rfl) pa_nil))) (pe_one (pe_cmp (pc_din (hu_of hr.toRoom) (pv 1) (pe_fld (pv 0) rfl))))))), ?_⟩
  try simp only [Rd.noxK, Rd.cxK]
  refine Rd.rd_start [some (V.ref x), some v] rfl ?_
  walk_at "rd"
  rcases k with ⟨z, rfl, k⟩ | ⟨hi, k⟩
  · refine Rd.rd_isi (Rd.isi_str (b := true) (by decide +kernel)) ?_
    refine ⟨true, rfl, ?_⟩
    refine Rd.if_t rfl ?_
    walk_at "rd"
    refine fld_r T hx fun p rs hp hP => ?_
    walk_at "rd"
    exact ⟨p, _, rfl, Rd.dg_s hp, k _ (find_rows z hP.length.symm)⟩
  · refine Rd.rd_isi hi ?_
    refine ⟨false, rfl, ?_⟩
    exact Rd.if_f rfl k
theorem ok_giter (T : GraphC K mg a) (g : Glob mg) (F : Rd.HasAt K d.it "__iter__" "Graph.__iter__" s_Graph___iter__) : FnR P w K mg base CX0 1 d.it (spGIter K a.C base.objs.size) := by
  refine Rd.FnG.toR (F.fn sc_Graph___iter__ (fun _ => rfl) (fun _ _ _ _ _ _ us hl => match us, hl with | [_], _ => rfl) fun cdv A outer s H Q E b hr h => ?_)
  obtain ⟨x, G⟩ := b
  obtain ⟨hx, k⟩ := h
  dsimp only at hx k
  refine ⟨_, (pss_one (ps_ret (pe_callB Rd.c_iterT (by rfl) g.iter (by decide +kernel) (pa_cons (pe_fld (pv 0) rfl) pa_nil)))), ?_⟩
  try simp only [Rd.noxK, Rd.cxK]
  refine Rd.rd_start [some (V.ref x)] rfl ?_
  walk_at "rd"
  refine fld_t T hx fun p rs hp hP => ?_
  walk_at "rd"
  exact Rd.rd_iterT hp fun it h1 h2 => k it p rs hp hP h1 h2
theorem ok_glen (T : GraphC K mg a) (g : Glob mg) (F : Rd.HasAt K d.ln "__len__" "Graph.__len__" s_Graph___len__) : FnR P w K mg base CX0 1 d.ln (spGLen K a.C) := by
  refine Rd.FnG.toR (F.fn sc_Graph___len__ (fun _ => rfl) (fun _ _ _ _ _ _ us hl => match us, hl with | [_], _ => rfl) fun cdv A outer s H Q E b hr h => ?_)
  obtain ⟨x, G⟩ := b
  obtain ⟨hx, k⟩ := h
  dsimp only at hx k
  refine ⟨_, (pss_one (ps_ret (pe_callB Rd.c_len (by rfl) g.len (by decide +kernel) (pa_cons (pe_fld (pv 0) rfl) pa_nil)))), ?_⟩
  try simp only [Rd.noxK, Rd.cxK]
  refine Rd.rd_start [some (V.ref x)] rfl ?_
  walk_at "rd"
  refine fld_t T hx fun p rs hp hP => ?_
  walk_at "rd"
  rw [List.length_map, hP.length]
  exact k
theorem ok_gstr (T : GraphC K mg a) (g : Glob mg) (F : Rd.HasAt K d.st "__str__" "Graph.__str__" s_Graph___str__) : FnR P w K mg base CX0 1 d.st (spGStr K a.C) := by
  refine Rd.FnG.toR (F.fn sc_Graph___str__ (fun _ => rfl) (fun _ _ _ _ _ _ us hl => match us, hl with | [_], _ => rfl) fun cdv A outer s H Q E b hr h => ?_)
  obtain ⟨x, G⟩ := b
  obtain ⟨hx, GO, k⟩ := h
  dsimp only at hx k GO
  refine ⟨_, (pss_cons (ps_set (i := 1) sc_Graph___str__.nd rfl (Or.inl rfl) (Rd.pe_js (PJ.cons (pe_fmt (pe_callB Rd.c_len (by rfl) g.len (by decide +kernel) (pa_cons (pe_fld (pv 0) rfl) pa_nil))) (PJ.cons pe_str (PJ.cons (pe_fmt (pe_callB Rd.c_len (by rfl) g.len (by decide +kernel) (pa_cons (pe_fld (pv 0) rfl) pa_nil))) (PJ.cons pe_str PJ.nil))))))
      (pss_one (ps_ret (Rd.pe_js (PJ.cons pe_str (PJ.cons (pe_fmt (pv 1)) (PJ.cons pe_str (PJ.cons (pe_fmt (pe_callB Rd.c_len (by rfl) g.len (by decide +kernel) (pa_cons (pe_fld (pv 0) rfl) pa_nil))) (PJ.cons pe_str PJ.nil))))))))), ?_⟩
  try simp only [Rd.noxK, Rd.cxK]
  refine Rd.rd_start [some (V.ref x), none] rfl ?_
  walk_at "rd"
  refine fld_s T hx fun p hp => ?_
  walk_at "rd"
  rw [List.length_map]
  have l5 := GO.c5
  have l8 := GO.n8
  have l16 := GO.t16
  have len2 : ∀ {x y : Str} {m n : Nat}, x.length ≤ m → y.length ≤ n → (x ++ y).length ≤ m + n := fun h1 h2 => by rw [str_app6]; exact Nat.add_le_add h1 h2
  have q8 : (strI G.ns.length).length ≤ 100 := strI_len (Nat.lt_of_le_of_lt l8 (by decide))
  have q5 : (strI G.cs.length).length ≤ 100 := strI_len (Nat.lt_of_le_of_lt l5 (by decide))
  have q16 : (strI G.ts.length).length ≤ 100 := strI_len (Nat.lt_of_le_of_lt l16 (by decide))
  have a1 : (Str.empty ++ strI G.ns.length).length ≤ 0 + 100 := len2 (by decide) q8
  have a2 := len2 a1 (show (" states, " : Str).length ≤ 9 by decide +kernel)
  have a3 := len2 a2 q5
  have a4 := len2 a3 (show (" counters" : Str).length ≤ 9 by decide +kernel)
  have b1 : (Str.empty ++ ("graph of " : Str)).length ≤ 9 := by decide +kernel
  have b2 := len2 b1 a4
  have b3 := len2 b2 (show (", " : Str).length ≤ 2 by decide +kernel)
  have b4 := len2 b3 q16
  have b5 := len2 b4 (show (" transitions" : Str).length ≤ 12 by decide +kernel)
  refine Rd.rd_fmtI (log_len (Nat.lt_of_le_of_lt l8 (by decide))) ?_
  refine Rd.rd_js (Nat.le_trans a1 (by decide)) ?_
  walk_at "rd"
  refine Rd.rd_js (Nat.le_trans a2 (by decide)) ?_
  walk_at "rd"
  refine fld_c T hx fun p2 hp2 => ?_
  walk_at "rd"
  rw [List.length_map]
  refine Rd.rd_fmtI (log_len (Nat.lt_of_le_of_lt l5 (by decide))) ?_
  refine Rd.rd_js (Nat.le_trans a3 (by decide)) ?_
  walk_at "rd"
  refine Rd.rd_js (Nat.le_trans a4 (by decide)) ?_
  walk_at "rd"
  refine Rd.rd_js (Nat.le_trans b1 (by decide)) ?_
  walk_at "rd"
  refine Rd.rd_fmtS (Nat.le_trans a4 (by decide)) ?_
  refine Rd.rd_js (Nat.le_trans b2 (by decide)) ?_
  walk_at "rd"
  refine Rd.rd_js (Nat.le_trans b3 (by decide)) ?_
  walk_at "rd"
  refine fld_t T hx fun p3 rs hp3 hP => ?_
  walk_at "rd"
  rw [List.length_map, hP.length]
  refine Rd.rd_fmtI (log_len (Nat.lt_of_le_of_lt l16 (by decide))) ?_
  refine Rd.rd_js (Nat.le_trans b4 (by decide)) ?_
  walk_at "rd"
  refine Rd.rd_js (Nat.le_trans b5 (by decide)) ?_
  walk_at "rd"
  exact k
theorem ok_geq2 (T : GraphC K mg a) (g : Glob mg) (F : Rd.HasAt K a.eq "__eq__" "Graph.__eq__" s_Graph___eq__) : FnR P w K mg base CX0 1 a.eq (spGEq2 K a.C) := by
  refine Rd.FnG.toR (F.fn sc_Graph___eq__ (fun _ => rfl) (fun _ _ _ _ _ _ us hl => match us, hl with | [_, _], _ => rfl) fun cdv A outer s H Q E b hr h => ?_)
  obtain ⟨x, y, G, J⟩ := b
  obtain ⟨hA, hB, GO, JO, k⟩ := h
  dsimp only at hA hB GO JO k
  have ty := T.ty hB
  refine ⟨_, (pss_cons (ps_if (PW.pt (pw_or (pt_not (pt_val (pe_callB Rd.c_isi (by rfl) g.isinstance (by decide +kernel) (pa_cons (pv 1) (pa_cons (Rd.pe_glr (by rfl) T.mgC) pa_nil))))) (pw_or1 (pt_cmpR (op_neD hr.units) (pe_fld (pv 0) rfl) (pe_fld (pv 1) rfl) (nomark _))))) (pss_one (ps_ret pe_bl)) pss_nil)
      (pss_one (ps_ret (pe_and (pe_cmpR (op_eqD hr.units) (pe_fld (pv 0) rfl) (pe_fld (pv 1) rfl) (nomark _)) (pe_one (pe_cmpR (op_eqD hr.units) (pe_fld (pv 0) rfl) (pe_fld (pv 1) rfl) (nomark _))))))), ?_⟩
  try simp only [Rd.noxK, Rd.cxK]
  refine Rd.rd_start [some (V.ref x), some (V.ref y)] rfl ?_
  walk_at "rd"
  refine Rd.rd_isiC ty T.i1 ?_
  walk_at "rd"
  refine Rd.if_f rfl ?_
  walk_at "rd"
  refine fld_c T hA fun pc hpc => ?_
  walk_at "rd"
  refine fld_c T hB fun qc hqc => ?_
  walk_at "rd"
  refine Rd.rd_neD (Rd.Dt.dp _ _ hpc.dt) (Rd.Dt.dp _ _ hqc.dt) (shaped_of (can_strs GO.cN) (by decide)) (shaped_of (can_strs JO.cN) (by decide)) ?_
  have e1 := eqv_map PyData.str eqv_s G.cs J.cs
  generalize PyData.eqv (.tuple (G.cs.map PyData.str)) (.tuple (J.cs.map PyData.str)) = b1 at e1 ⊢
  cases b1 with
  | false =>
    refine ⟨_, rfl, ?_⟩
    refine Rd.if_t rfl ?_
    walk_at "rd"
    exact k false ⟨nofun, fun e => absurd (e1.mpr (congrArg Gr.cs e)) (by decide)⟩
  | true =>
  have e1 := e1.mp rfl
  refine ⟨_, rfl, ?_⟩
  refine Rd.if_f rfl ?_
  walk_at "rd"
  refine fld_s T hA fun ps hps => ?_
  walk_at "rd"
  refine fld_s T hB fun qs hqs => ?_
  walk_at "rd"
  refine Rd.rd_eqD (Rd.Dt.dp _ _ hps.dt) (Rd.Dt.dp _ _ hqs.dt) (shaped_of (can_strs GO.nN) (by decide)) (shaped_of (can_strs JO.nN) (by decide)) ?_
  have e2 := eqv_map PyData.str eqv_s G.ns J.ns
  generalize PyData.eqv (.tuple (G.ns.map PyData.str)) (.tuple (J.ns.map PyData.str)) = b2 at e2 ⊢
  cases b2 with
  | false =>
    refine ⟨_, rfl, ?_⟩
    exact Rd.if_f rfl (k false ⟨nofun, fun e => absurd (e2.mpr (congrArg Gr.ns e)) (by decide)⟩)
  | true =>
  have e2 := e2.mp rfl
  refine ⟨_, rfl, ?_⟩
  refine Rd.if_t rfl ?_
  walk_at "rd"
  refine fld_t T hA fun pt rs hpt hP => ?_
  walk_at "rd"
  refine fld_t T hB fun qt us hqt hP2 => ?_
  walk_at "rd"
  refine Rd.rd_eqD (Rd.Dt.dp _ _ (RowsAt.dt ⟨rs, hpt, hP⟩)) (Rd.Dt.dp _ _ (RowsAt.dt ⟨us, hqt, hP2⟩)) (shaped_of (can_rows GO.tO) (by decide)) (shaped_of (can_rows JO.tO) (by decide)) ?_
  refine k _ ((eqv_map trP eqv_tr G.ts J.ts).trans ⟨fun e3 => ?_, fun e => by rw [e]⟩)
  cases G
  cases J
  dsimp only at e1 e2 e3
  rw [e1, e2, e3]
theorem ok_geqF (T : GraphC K mg a) (g : Glob mg) (F : Rd.HasAt K a.eq "__eq__" "Graph.__eq__" s_Graph___eq__) : FnR P w K mg base CX0 1 a.eq (spGEqF K a.C) := by
  refine Rd.FnG.toR (F.fn sc_Graph___eq__ (fun _ => rfl) (fun _ _ _ _ _ _ us hl => match us, hl with | [_, _], _ => rfl) fun cdv A outer s H Q E b hr h => ?_)
  obtain ⟨x, v⟩ := b
  obtain ⟨⟨tb, ty, hk⟩, k⟩ := h
  dsimp only at ty hk k
  refine ⟨_, (pss_cons (ps_if (PW.pt (pw_or (pt_not (pt_val (pe_callB Rd.c_isi (by rfl) g.isinstance (by decide +kernel) (pa_cons (pv 1) (pa_cons (Rd.pe_glr (by rfl) T.mgC) pa_nil))))) (pw_or1 (pt_cmpR (op_neD hr.units) (pe_fld (pv 0) rfl) (pe_fld (pv 1) rfl) (nomark _))))) (pss_one (ps_ret pe_bl)) pss_nil)
      (pss_one (ps_ret (pe_and (pe_cmpR (op_eqD hr.units) (pe_fld (pv 0) rfl) (pe_fld (pv 1) rfl) (nomark _)) (pe_one (pe_cmpR (op_eqD hr.units) (pe_fld (pv 0) rfl) (pe_fld (pv 1) rfl) (nomark _))))))), ?_⟩
  try simp only [Rd.noxK, Rd.cxK]
  refine Rd.rd_start [some (V.ref x), some v] rfl ?_
  walk_at "rd"
  refine Rd.rd_isiC ty hk ?_
  walk_at "rd"
  exact k
end
end M
set_option Elab.async false
set_option linter.all false
set_option maxRecDepth 100000
set_option maxHeartbeats 4000000
namespace M
open PySem L2
local macro_rules | `(tactic| walk_at "rdc") => `(tactic| first | exact Or.inl ⟨by decide, by decide⟩ | exact Or.inr ⟨by decide, by decide⟩ | exact ⟨by decide, by decide, by decide⟩ | exact ⟨by decide, by decide⟩ | decide | omega | assumption | (refine Or.inl ⟨?_, ?_⟩ <;> omega) | (refine Or.inr ⟨?_, ?_⟩ <;> omega) | (refine ⟨?_, ?_⟩ <;> omega))
local macro_rules | `(tactic| walk_at "rd1") => `(tactic| with_reducible first
  | refine Rd.rd_seq ?_ | refine Rd.rd_asg ?_ | refine Rd.rd_op ?_ | (refine' Rd.rd_var ?vh ?_; (case vh => with_unfolding_all rfl)) | refine Rd.rd_c ?_ | refine Rd.rd_I0 ?_ | refine Rd.rd_name0 ?_ | refine Rd.rd_nameS ?_ | refine Rd.rd_fn ?_
  | refine Rd.rd_cb ?_ | refine Rd.rd_cons ?_ | refine Rd.rd_nil ?_ | refine Rd.rd_int ?_ | refine Rd.rd_intB ?_ | refine Rd.rd_abs ?_ | refine Rd.rd_max2 ?_ | refine Rd.rd_min2 ?_
  | refine Rd.rd_call ?_ | refine Rd.rd_ifE ?_ | refine Rd.rd_test ?_ | refine Rd.rd_tB ?_ | refine Rd.rd_blV ?_ | refine Rd.rd_and ?_ | refine Rd.rd_or ?_ | refine Rd.rd_not ?_
  | refine Rd.rd_andV ?_ | refine Rd.rd_orV ?_ | refine Rd.rd_notV ?_ | refine Rd.rd_next ?_ | refine Rd.rd_ret ?_ | refine Rd.rd_drop ?_ | refine Rd.rd_ifS ?_ | refine Rd.rd_nx ?_ | refine Rd.rd_rt ?_ | refine Rd.rd_tMatch ?_ | refine Rd.rd_tCO ?_ | refine Rd.rd_tRevL ?_ | refine Rd.rd_tStar ?_ | refine Rd.rd_joined ?_ | refine Rd.rd_js1 ?_ | refine Rd.rd_js0 ?_ | refine Rd.rd_fmt ?_ | refine Rd.rd_propR ?_ | refine Rd.rd_iZipA ?_ | refine Rd.rd_iEnumT ?_ | refine Rd.rd_iOwn ?_ | (refine' Rd.rd_IET ?ln ?_; (case ln => with_unfolding_all walk_at "at")) | refine Rd.rd_chain ?_ | refine Rd.rd_tPar ?_ | refine Rd.rd_par ?_ | refine Rd.rd_sl ?_ | refine Rd.rd_noPart ?_ | refine Rd.rd_part ?_ | refine Rd.rd_intV ?_ | refine Rd.rd_lc ?_ | (refine' Rd.rd_aug ?vh ?_; (case vh => with_unfolding_all rfl)) | refine Rd.rd_ipI ?_ | refine Rd.rd_for ?_ | (refine' Rd.rd_IT ?ln ?_; (case ln => with_unfolding_all walk_at "at")) | (refine' Rd.rd_IL ?ln ?_; (case ln => with_unfolding_all walk_at "at")) | refine Rd.rd_iTup ?_ | refine Rd.rd_iList ?_ | refine Rd.rd_iRng1 ?_ | refine Rd.rd_iRng2 ?_ | refine Rd.rd_isi (Rd.isi_int Rd.kk_int_int) ?_ | refine Rd.rd_isi (Rd.isi_int Rd.kk_int_bool) ?_ | refine Rd.rd_dget ?_ | refine Rd.rd_din ?_ | refine Rd.rd_dnotin ?_ | refine Rd.rd_dput ?_ | refine Rd.rd_dc ?_ | refine Rd.rd_lc2 ?_ | refine Rd.rd_ltS ?_ | refine Rd.rd_inSg ?_ | refine Rd.rd_iStr ?_ | refine Rd.rd_IS ?_ | refine Rd.rd_prC ?_ | refine Rd.rd_prN ?_ | refine Rd.rd_methR ?_ | refine Rd.rd_cmeth ?_ | refine Rd.rd_fldS ?_ | refine Rd.rd_fld ?_ | (refine' Rd.rd_mkVS ?vh ?_; (case vh => with_unfolding_all rfl)) | (refine' Rd.rd_starT ?ln ?_; (case ln => with_unfolding_all walk_at "at")) | refine Rd.rd_iEnum ?_ | refine Rd.rd_iZip ?_ | (refine' Rd.rd_IE ?ln ?_; (case ln => with_unfolding_all walk_at "at")) | (refine' Rd.rd_IZ ?ln ?lm ?_; (case ln => with_unfolding_all walk_at "at"); (case lm => with_unfolding_all walk_at "at")) | (refine' Rd.rd_gTup ?ln ?lk ?_; (case ln => with_unfolding_all walk_at "at"); (case lk => with_unfolding_all rfl)) | refine Rd.rd_gCons ?_ | refine Rd.rd_gNil ?_ | refine Rd.rd_m1 ?_ | refine Rd.rd_strV ?_ | refine Rd.rd_tXiM ?_ | refine Rd.rd_tXiB ?_ | refine Rd.rd_tXiS ?_ | refine Rd.rd_bm ?_ | refine Rd.rd_bm0 ?_ | refine Rd.rd_isN ?_ | refine Rd.rd_notN ?_ | refine Rd.rd_sub ?_ | refine Rd.rd_un ?_ | refine Rd.rd_U ?_
  | (refine' Rd.rd_eq ?sc ?_; (case sc => with_unfolding_all rfl)) | (refine' Rd.rd_ne ?sc ?_; (case sc => with_unfolding_all rfl))
  | (refine' Rd.rd_I ?cc ?_; (case cc => with_unfolding_all walk_at "rdc"))
  | (refine' Rd.rd_lenL ?ln ?_; (case ln => with_unfolding_all walk_at "at")) | (refine' Rd.rd_lenT ?ln ?_; (case ln => with_unfolding_all walk_at "at"))
  | (refine' Rd.rd_ixL ?ln ?ia ?_; (case ln => with_unfolding_all walk_at "at"); (case ia => with_unfolding_all first | exact Rd.at0 | exact Rd.at1 | exact Rd.at2 | exact Rd.at3 | exact Rd.at4 | rfl)) | (refine' Rd.rd_ixT ?ln ?ia ?_; (case ln => with_unfolding_all walk_at "at"); (case ia => with_unfolding_all first | exact Rd.at0 | exact Rd.at1 | exact Rd.at2 | exact Rd.at3 | exact Rd.at4 | rfl)))
local macro_rules | `(tactic| walk_at "at") => `(tactic| first | assumption | (apply SqL.of; assumption) | (apply SqT.of; assumption) | (apply SqL.of; exact upd_same) | (apply SqT.of; exact upd_same))
local macro_rules | `(tactic| walk_at "rd") => `(tactic| repeat walk_at "rd1")
local macro_rules | `(tactic| walk_at "ne") => `(tactic| first | assumption | exact Ne.symm (by assumption) | (refine' Dice.ne ?D ?h; (case h => assumption); (case D => walk_at "fa")))
local macro_rules | `(tactic| walk_at "kp1") => `(tactic| first | exact kpS (by assumption) | exact Mut.kp (by assumption) | (refine' Rolled.kp ?r ?D; (case r => assumption); (case D => walk_at "fa")))
local macro_rules | `(tactic| walk_at "fa") => `(tactic| first
  | assumption | exact SqT.of (by assumption) | exact SqL.of (by assumption)
  | (refine' Dice.same ?h ?s; (case s => assumption); (case h => walk_at "fa")) | exact Rolled.dice (by assumption)
  | (refine' L2.Same.seq ?s ?h; (case s => assumption); (case h => walk_at "fa")) | (refine' Rolled.sqL ?r ?n ?h; (case r => assumption); (case n => walk_at "ne"); (case h => walk_at "fa"))
  | (refine' Kp.sqT ?k ?h; (case k => walk_at "kp1"); (case h => walk_at "fa")) | (refine' RowAt.kp ?k ?h; (case k => walk_at "kp1"); (case h => walk_at "fa")) | (refine' RowsAt.kp ?k ?h; (case k => walk_at "kp1"); (case h => walk_at "fa")) | (refine' ChgAt.kp ?k ?h; (case k => walk_at "kp1"); (case h => walk_at "fa")) | (refine' PlainAt.kp ?k ?h; (case k => walk_at "kp1"); (case h => walk_at "fa"))
  | (refine' GraphAt.same ?h ?s; (case s => assumption); (case h => walk_at "fa")) | (refine' GraphAt.rolled ?r ?D ?h; (case r => assumption); (case D => walk_at "fa"); (case h => walk_at "fa"))
  | (refine' Rd.Same.at ?s ?h; (case s => assumption); (case h => walk_at "fa")) | (refine' Mut.keep ?m _ _ ?n ?h; (case m => assumption); (case n => walk_at "ne"); (case h => walk_at "fa")) | (refine' Rolled.keep ?r _ _ ?n ?h; (case r => assumption); (case n => walk_at "ne"); (case h => walk_at "fa")))
local macro_rules | `(tactic| walk_at "sm") => `(tactic| first | assumption | exact Same.refl _ | (refine' L2.Same.trans ?h ?s; (case s => assumption); (case h => walk_at "sm")) | (refine' same_mutM ?a ?b ?c; (case c => assumption); (case b => walk_at "nn"); (case a => walk_at "sm")))
local macro_rules | `(tactic| walk_at "rl") => `(tactic| first | assumption | exact Rolled.refl (by walk_at "fa") | (refine' Rolled.trans ?a ?b; (case b => assumption); (case a => walk_at "rl")) | (refine' Rolled.same ?a ?b; (case b => assumption); (case a => walk_at "rl")) | (refine' Rolled.mutM ?a ?n ?e ?m; (case m => assumption); (case n => walk_at "nn"); (case e => walk_at "ne"); (case a => walk_at "rl")))
local macro_rules | `(tactic| walk_at "nn") => `(tactic| first | assumption | (refine' none_pre ?s ?h; (case h => assumption); (case s => walk_at "sm")) | (refine' none_rol ?r ?D ?h; (case h => assumption); (case D => walk_at "fa"); (case r => walk_at "rl")))
local macro_rules | `(tactic| walk_at "sz") => `(tactic| first | (simp only [List.length_cons, List.length_nil]; decide) | (refine Rd.small64 ?_; simp only [List.length_map, List.length_append, List.length_cons, List.length_nil]; omega))
local macro_rules | `(tactic| walk_at "at") => `(tactic| walk_at "fa")
local macro_rules | `(tactic| walk_at "rd1") => `(tactic| with_reducible first
  | (refine' Rd.rd_mkTup ?sz fun _ _ _ _ _ => ?_; (case sz => with_unfolding_all walk_at "sz")) | (refine' Rd.rd_mkLst ?sz fun _ _ _ _ _ => ?_; (case sz => with_unfolding_all walk_at "sz")) | (refine' Rd.rd_mkTupF ?sz fun _ _ _ _ _ => ?_; (case sz => with_unfolding_all walk_at "sz"))
  | (refine' Rd.rd_tupleL ?ln fun _ _ _ _ _ => ?_; (case ln => with_unfolding_all walk_at "at")) | (refine' Rd.rd_tupleT ?ln ?_; (case ln => with_unfolding_all walk_at "at")) | (refine' Rd.rd_listL ?ln fun _ _ _ _ _ => ?_; (case ln => with_unfolding_all walk_at "at")) | (refine' Rd.rd_listT ?ln fun _ _ _ _ _ => ?_; (case ln => with_unfolding_all walk_at "at"))
  | (refine' fld_c ?T ?h fun _ _ => ?_; (case T => assumption); (case h => with_unfolding_all walk_at "fa")) | (refine' fld_s ?T ?h fun _ _ => ?_; (case T => assumption); (case h => with_unfolding_all walk_at "fa")) | (refine' fld_n ?T ?h fun _ _ => ?_; (case T => assumption); (case h => with_unfolding_all walk_at "fa"))
  | refine Rd.rd_get2 ?_ | (refine' Rd.rd_getA ?ln ?_; (case ln => with_unfolding_all first | exact Or.inl (by walk_at "at") | exact Or.inr ⟨_, by walk_at "at"⟩)) | (refine' Rd.rd_getE ?ln ?_; (case ln => with_unfolding_all first | exact Or.inl (by walk_at "at") | exact Or.inr ⟨_, by walk_at "at"⟩)) | refine Rd.rd_daug ?_ | refine Rd.rd_items ?_ | refine Rd.rd_frz ?_ | refine Rd.rd_vals ?_ | refine Rd.rd_kw0 ?_ | refine Rd.rd_callN ?_
  | (refine' Rd.rd_isi (Rd.isi_tup ?ln Rd.kk_tup_tup) ?_; (case ln => with_unfolding_all walk_at "at")) | refine Rd.rd_isi (Rd.isi_str (b := true) kk_str_str) ?_)
local macro_rules | `(tactic| walk_at "st") => `(tactic| (simp only [List.map_cons, List.map_nil, L2.wipe, List.set_cons_zero, List.set_cons_succ]; walk_at "rd"; refine ⟨rfl, ?_⟩; walk_at "rd"))
/-! ### _law_drawn, _law_by_hand -/
abbrev s__law_drawn : Stmt := top 36
theorem sc__law_drawn : FnScope ["_law_dice_here", "_law_plain"] ["_law_dice_here"] (defScope s__law_drawn) := ⟨rfl, rfl, rfl, by decide +kernel, rfl, by decide +kernel, by decide +kernel⟩
abbrev s__law_by_hand : Stmt := top 37
theorem sc__law_by_hand : FnScope ["_law_counters", "_law_rows", "_law_nodes"] ["_law_counters", "_law_rows", "_law_nodes"] (defScope s__law_by_hand) := ⟨rfl, rfl, rfl, by decide +kernel, rfl, by decide +kernel, by decide +kernel⟩
/-- what else is known of the graphs of this law -/
structure DrL (G : Gr) : Prop where
  ns : ∀ z ∈ G.ns, z ∈ nodeNames
  cs : ∀ z ∈ G.cs, z ∈ counterNames
  nm : ∀ t ∈ G.ts, t.nm ∈ words
  lt : G.ts.length ≤ 10
  ln : G.ns.length ≤ 4
theorem rmk_q6 {K : PySem.W.Frag} {C : Addr} {sp : Sp} {E : XK} {tk : TE} {σ : L2.St} {Q : VK} {vs : List V} {H : Hp} (h : ∀ QQ : VK, (∀ v H', Q v H' → QQ v H') → Rd.rMkSK K C sp E tk σ QQ vs H) : Rd.rMkSK K C sp E tk σ Q vs H := h Q fun _ _ q => q
theorem loop_one (n : Str) : Loop1 [] [n] := ⟨nofun, (by simp), fun _ h => (List.not_mem_nil h).elim, fun _ S s0 _ x hx => by rw [List.mem_singleton.mp hx]; exact s0, fun _ S s0 _ x hx => by rw [List.mem_singleton.mp hx]; exact s0⟩
/-- the same without transitions -/
def bare (G : Gr) : Gr := ⟨G.cs, G.ns.take 1, []⟩
theorem bare_ok {G : Gr} (h : GOk G) : GOk (bare G) ∧ ∃ n, (bare G).ns = [n] ∧ n ∈ G.ns := by
  obtain ⟨n, r, e⟩ : ∃ n r, G.ns = n :: r := by
    cases hn : G.ns with
    | nil => exact absurd hn h.lp.ne
    | cons n r => exact ⟨n, r, rfl⟩
  have e1 : (bare G).ns = [n] := by show G.ns.take 1 = _; rw [e]; rfl
  refine ⟨⟨h.c1, h.c5, h.cA, h.cN, by rw [e1]; exact Nat.le_of_ble_eq_true rfl, by rw [e1]; exact List.pairwise_singleton _ _, fun x hx => h.nN x (List.mem_of_mem_take hx), Nat.zero_le _, .nil, fun _ h => (List.not_mem_nil h).elim, fun _ h => (List.not_mem_nil h).elim, fun _ h => (List.not_mem_nil h).elim, ?_⟩, n, e1, by rw [e]; exact List.mem_cons_self⟩
  rw [e1]
  exact loop_one n
/-- a state of a graph with transitions is the end of one -/
theorem touched {G : Gr} (h : GOk G) (ne : G.ts ≠ []) {z : Str} (hz : z ∈ G.ns) : ∃ t ∈ G.ts, z = t.src ∨ z = t.tgt := by
  obtain ⟨t, ht, e⟩ := leaves h.lp ne hz
  exact ⟨t, ht, .inl e.symm⟩
def spDrawnL (K : PySem.W.Frag) : Sp := Rd.mkSp (fun (d : Addr) => [.ref d]) fun d H Q _ => Dice H d ∧ ∀ p H' G, Rolled d H H' → PlainAt K H' p G → GOk G → DrL G → Q (.ref p) H'
def spHand (K : PySem.W.Frag) (C : Addr) : Sp := Rd.mkSp (fun (a : (Addr × Addr × Addr) × (List Str × List Str × List Tr) × Gr) => [.ref a.1.1, .ref a.1.2.1, .ref a.1.2.2]) fun a H Q _ => TxT K H a.1.1 a.2.1.1 ∧ RowsAt K H a.1.2.1 a.2.1.2.2 ∧ TxT K H a.1.2.2 a.2.1.2.1 ∧ Norm a.2.1.1 a.2.1.2.1 a.2.1.2.2 a.2.2 ∧ GOk a.2.2 ∧ ∀ x H', Same H H' → GraphAt K C H' x a.2.2 → Q (.ref x) H'
theorem eqv_nilM {β : Type} (f : β → PyData) (l : List β) : PyData.eqv (.tuple (l.map f)) (.tuple []) = decide (l = []) := by cases l <;> rfl
section
variable {gd : Bool} {P : Program} {w : World} {K : PySem.W.Frag} {mg : Str → Option Value} {base : Heap} {a : AdsG}
theorem ok_drawn (F : Rd.Has K mg "_law_drawn" s__law_drawn) (g : Glob mg) (c__law_roll : Rd.Fn gd P w K mg base CX0 1 "_law_roll" spRoll) (c__law_graph : Rd.Fn gd P w K mg base CX0 5 "_law_graph" (spGraph K)) : Rd.Fn gd P w K mg base CX0 6 "_law_drawn" (spDrawnL K) := by
  refine F.fn sc__law_drawn (fun _ => rfl) (fun _ _ _ _ _ _ us hl => match us, hl with | [_], _ => rfl) fun f cdv A outer s H Q E d hr h => ?_
  obtain ⟨hD, k⟩ := h
  refine ⟨_, (pss_cons (ps_set (i := 1) sc__law_drawn.nd rfl (Or.inl rfl) (Rd.pe_fn c__law_graph (hr.mono (by decide)) (by rfl) (pa_cons (pv 0) (pa_cons pe_int (pa_cons pe_int (pa_cons pe_int pa_nil))))))
      (pss_one (ps_ret (pe_ifExp (pt_cmpR op_eq (Rd.pe_fn c__law_roll (hr.mono (by decide)) (by rfl) (pa_cons (pv 0) (pa_cons pe_int pa_nil))) pe_int (nomark _)) (Rd.pe_tup (pa_cons (pe_ix ix_tup (pv 1) pe_int (fun _ _ => rfl)) (pa_cons (pe_slice sl_tupA (pe_ix ix_tup (pv 1) pe_int (fun _ _ => rfl)) po_none (po_some pe_int)) (pa_cons (Rd.pe_tupF pa_nil) pa_nil)))) (pv 1))))), ?_⟩
  try simp only [Rd.noxK, Rd.cxK]
  refine Rd.rd_start [some (V.ref d), none] rfl ?_
  walk_at "rd"
  refine Rd.rd_sp (d, 4, 5, 5) rfl ⟨hD, ⟨by show 1 ≤ 4; decide, by show 4 ≤ 4; decide⟩, ⟨by show 1 ≤ 5; decide, by show 5 ≤ 5; decide⟩, ⟨by show 1 ≤ 5; decide, by show 5 ≤ 12; decide⟩, fun p H1 G R1 hp GO DR => ?_⟩
  have ln : G.ns.length ≤ 4 := DR.ln
  have lt : G.ts.length ≤ 4 + 5 := DR.lt
  walk_at "rd"
  refine rd_roll R1.dice (by decide) (by decide) fun r H2 r0 r1 R2 => ?_
  walk_at "rd"
  have R12 := R1.trans R2
  have hp2 := hp.kp (R2.kp R1.dice)
  refine ite2 (fun hc => ?_) (fun hc => ?_)
  · obtain ⟨c, n, t, h0, hC, hN, hT⟩ := hp2
    have hn1 : 1 ≤ G.ns.length := List.length_pos_iff.mpr GO.lp.ne
    walk_at "rd"
    refine Rd.rd_cut (xs := G.ns.map V.str) hN fun q H3 s3 h3 => ?_
    rw [show (1 : Int) = ((1 : Nat) : Int) from rfl, cut_take (by rw [List.length_map]; exact hn1), ← List.map_take] at h3
    walk_at "rd"
    rename_i p4 H4 np4 s4 h4 p5 H5 np5 s5 h5
    obtain ⟨GB, n1, en, hn⟩ := bare_ok GO
    have s35 := s3.trans (s4.trans s5)
    refine k p5 H5 (bare G) (R12.same s35) ⟨c, q, p4, SqT.of h5, hC.kp (kpS s35), TxT.kp (kpS (s4.trans s5)) h3, ⟨[], (h4.same s5).sq, .nil⟩⟩ GB ⟨fun z hz => ?_, DR.cs, fun _ h => (List.not_mem_nil h).elim, Nat.zero_le _, ?_⟩
    · rw [en, List.mem_singleton] at hz
      rw [hz]; exact DR.ns _ hn
    · rw [en]; exact Nat.le_of_ble_eq_true rfl
  · walk_at "rd"
    exact k p H2 G R12 hp2 GO ⟨DR.ns, DR.cs, DR.nm, by omega, ln⟩
theorem ok_hand (T : GraphC K mg a) (F : Rd.Has K mg "_law_by_hand" s__law_by_hand) (g : Glob mg) (c_Graph_of : FnR P w K mg base CX0 9 a.fo (spGOf K a.C)) (c_Graph : Rd.FnK P w K mg base CX0 7 a.fi "states" (Rd.spStarK (spGInit K a.C))) : Rd.Fn gd P w K mg base CX0 11 "_law_by_hand" (spHand K a.C) := by
  refine F.fn sc__law_by_hand (fun _ => rfl) (fun _ _ _ _ _ _ us hl => match us, hl with | [_, _, _], _ => rfl) fun f cdv A outer s H Q E b hr h => ?_
  obtain ⟨⟨pc, pr, pn⟩, ⟨cs0, ns0, ts0⟩, G⟩ := b
  obtain ⟨hC, hT, hN, NM, GO, k⟩ := h
  dsimp only at hC hT hN NM GO k
  refine ⟨_, (pss_cons (ps_if (pt_cmpR (op_eqD hr.units) (pv 1) (Rd.pe_tup pa_nil) (nomark _)) (pss_one (ps_ret (Rd.pe_mkKG T.mk_ c_Graph (hr.mono (by decide)).toRoom pass0 (by rfl) T.mgC (pa_cons (pv 0) pa_nil) (pv 2)))) pss_nil)
      (pss_cons (ps_if (pt_cmpR op_eq (pe_callB Rd.c_len (by rfl) g.len (by decide +kernel) (pa_cons (pv 1) pa_nil)) pe_int (nomark _)) (pss_one (ps_ret (Rd.pe_mkKG T.mk_ c_Graph (hr.mono (by decide)).toRoom pass0 (by rfl) T.mgC (pa_cons (pv 0) (pa_cons (pe_ix ix_tup (pv 1) pe_int (fun _ _ => rfl)) pa_nil)) (pv 2)))) pss_nil)
      (pss_cons (ps_if (pt_cmpR op_eq (pe_callB Rd.c_len (by rfl) g.len (by decide +kernel) (pa_cons (pv 1) pa_nil)) pe_int (nomark _)) (pss_one (ps_ret (Rd.pe_mkKG T.mk_ c_Graph (hr.mono (by decide)).toRoom pass0 (by rfl) T.mgC (pa_cons (pv 0) (pa_cons (pe_ix ix_tup (pv 1) pe_int (fun _ _ => rfl)) (pa_cons (pe_ix ix_tup (pv 1) pe_int (fun _ _ => rfl)) pa_nil))) (pv 2)))) pss_nil)
      (pss_cons (ps_if (pt_cmpR op_eq (pe_callB Rd.c_len (by rfl) g.len (by decide +kernel) (pa_cons (pv 1) pa_nil)) pe_int (nomark _)) (pss_one (ps_ret (Rd.pe_mkKG T.mk_ c_Graph (hr.mono (by decide)).toRoom pass0 (by rfl) T.mgC (pa_cons (pv 0) (pa_cons (pe_ix ix_tup (pv 1) pe_int (fun _ _ => rfl)) (pa_cons (pe_ix ix_tup (pv 1) pe_int (fun _ _ => rfl)) (pa_cons (pe_ix ix_tup (pv 1) pe_int (fun _ _ => rfl)) pa_nil)))) (pv 2)))) pss_nil)
      (pss_one (ps_ret (ClX.pe_cmeth (Rd.pe_glr (by rfl) T.mgC) T.cr T.cm_of c_Graph_of (hr.mono (by decide)).toRoom pass0 (pa_cons (pv 0) (pa_cons (pv 1) (pa_cons (pv 2) pa_nil)))))))))), ?_⟩
  try simp only [Rd.noxK, Rd.cxK]
  refine Rd.rd_start [some (V.ref pc), some (V.ref pr), some (V.ref pn)] rfl ?_
  have tO : ∀ t ∈ ts0, TrOk t := fun t ht => GO.tO t (NM.tp.mem_iff.mpr ht)
  have lt : ts0.length ≤ 16 := by rw [← NM.tp.length_eq]; exact GO.t16
  obtain ⟨rs, hS, hP⟩ := id hT
  have lr := hP.length
  walk_at "rd"
  rename_i p1 H1 np1 s1 h1
  have sh : SeqAt.shaped (.tuple (ts0.map trP)) = true := shaped_of (can_rows tO) (by decide)
  refine Rd.rd_eqD (hT.kp (kpS s1)).dt.dp (.tup (SqT.of h1) .nil) sh (show SeqAt.shaped (.tuple []) = true by decide +kernel) ?_
  rw [eqv_nilM]
  have hP1 := L2.Paired.mapP hP fun _ _ q => RowAt.kp (kpS s1) q
  have hC1 := hC.kp (kpS s1)
  have hN1 := hN.kp (kpS s1)
  have k1 : ∀ x H', Same H1 H' → GraphAt K a.C H' x G → Q (V.ref x) H' := fun x H' s h => k x H' (s1.trans s) h
  have hS1 := Rd.Same.sqT s1 hS
  clear hT hC hN hS hP h1
  refine ⟨_, rfl, ?_⟩
  refine ite2 (fun hc => ?_) (fun hc => ?_)
  · have e0 : ts0 = [] := of_decide_eq_true hc
    subst e0
    cases hP1
    walk_at "rd"
    refine Rd.rd_mkKG ?_
    walk_at "rd"
    refine rmk_q6 fun QQ hQQ => ?_
    unfold Rd.rMkSK
    walk_at "rd"
    exact make_graph (NM := NM) (GO := GO) hC1 hN1 .nil fun y H2 s2 hy => hQQ _ _ (k1 y H2 s2 hy)
  walk_at "rd"
  rw [List.length_map, lr]
  refine ite2 (fun hc => ?_) (fun hc => ?_)
  · have e1 : ts0.length = 1 := by
      have := V.int.inj (of_decide_eq_true hc)
      omega
    obtain ⟨r0, rfl⟩ : ∃ r0, rs = [r0] := List.length_eq_one_iff.mp (lr.trans e1)
    walk_at "rd"
    refine Rd.rd_mkKG ?_
    walk_at "rd"
    refine rmk_q6 fun QQ hQQ => ?_
    unfold Rd.rMkSK
    walk_at "rd"
    exact make_graph (NM := NM) (GO := GO) hC1 hN1 hP1 fun y H2 s2 hy => hQQ _ _ (k1 y H2 s2 hy)
  walk_at "rd"
  rw [List.length_map, lr]
  refine ite2 (fun hc => ?_) (fun hc => ?_)
  · have e1 : ts0.length = 2 := by
      have := V.int.inj (of_decide_eq_true hc)
      omega
    obtain ⟨r0, r1, rfl⟩ : ∃ r0 r1, rs = [r0, r1] := match rs, lr.trans e1 with
      | [r0, r1], _ => ⟨r0, r1, rfl⟩
    walk_at "rd"
    refine Rd.rd_mkKG ?_
    walk_at "rd"
    refine rmk_q6 fun QQ hQQ => ?_
    unfold Rd.rMkSK
    walk_at "rd"
    exact make_graph (NM := NM) (GO := GO) hC1 hN1 hP1 fun y H2 s2 hy => hQQ _ _ (k1 y H2 s2 hy)
  walk_at "rd"
  rw [List.length_map, lr]
  refine ite2 (fun hc => ?_) (fun hc => ?_)
  · have e1 : ts0.length = 3 := by
      have := V.int.inj (of_decide_eq_true hc)
      omega
    obtain ⟨r0, r1, r2, rfl⟩ : ∃ r0 r1 r2, rs = [r0, r1, r2] := match rs, lr.trans e1 with
      | [r0, r1, r2], _ => ⟨r0, r1, r2, rfl⟩
    walk_at "rd"
    refine Rd.rd_mkKG ?_
    walk_at "rd"
    refine rmk_q6 fun QQ hQQ => ?_
    unfold Rd.rMkSK
    walk_at "rd"
    exact make_graph (NM := NM) (GO := GO) hC1 hN1 hP1 fun y H2 s2 hy => hQQ _ _ (k1 y H2 s2 hy)
  walk_at "rd"
  refine ⟨rfl, ?_⟩
  walk_at "rd"
  exact Rd.rd_sp ((pc, pr, pn), (cs0, ns0, ts0), G) rfl ⟨hC1, ⟨rs, hS1, hP1⟩, hN1, NM, GO, k1⟩
end
end M
set_option Elab.async false
set_option linter.all false
set_option maxRecDepth 100000
set_option maxHeartbeats 4000000
namespace M
open PySem L2
local macro_rules | `(tactic| walk_at "rdc") => `(tactic| first | exact Or.inl ⟨by decide, by decide⟩ | exact Or.inr ⟨by decide, by decide⟩ | exact ⟨by decide, by decide, by decide⟩ | exact ⟨by decide, by decide⟩ | decide | omega | assumption | (refine Or.inl ⟨?_, ?_⟩ <;> omega) | (refine Or.inr ⟨?_, ?_⟩ <;> omega) | (refine ⟨?_, ?_⟩ <;> omega))
local macro_rules | `(tactic| walk_at "rd1") => `(tactic| with_reducible first
  | refine Rd.rd_seq ?_ | refine Rd.rd_asg ?_ | refine Rd.rd_op ?_ | (refine' Rd.rd_var ?vh ?_; (case vh => with_unfolding_all rfl)) | refine Rd.rd_c ?_ | refine Rd.rd_I0 ?_ | refine Rd.rd_name0 ?_ | refine Rd.rd_nameS ?_ | refine Rd.rd_fn ?_
  | refine Rd.rd_cb ?_ | refine Rd.rd_cons ?_ | refine Rd.rd_nil ?_ | refine Rd.rd_int ?_ | refine Rd.rd_intB ?_ | refine Rd.rd_abs ?_ | refine Rd.rd_max2 ?_ | refine Rd.rd_min2 ?_
  | refine Rd.rd_call ?_ | refine Rd.rd_ifE ?_ | refine Rd.rd_test ?_ | refine Rd.rd_tB ?_ | refine Rd.rd_blV ?_ | refine Rd.rd_and ?_ | refine Rd.rd_or ?_ | refine Rd.rd_not ?_
  | refine Rd.rd_andV ?_ | refine Rd.rd_orV ?_ | refine Rd.rd_notV ?_ | refine Rd.rd_next ?_ | refine Rd.rd_ret ?_ | refine Rd.rd_drop ?_ | refine Rd.rd_ifS ?_ | refine Rd.rd_nx ?_ | refine Rd.rd_rt ?_ | refine Rd.rd_tMatch ?_ | refine Rd.rd_tCO ?_ | refine Rd.rd_tRevL ?_ | refine Rd.rd_tStar ?_ | refine Rd.rd_joined ?_ | refine Rd.rd_js1 ?_ | refine Rd.rd_js0 ?_ | refine Rd.rd_fmt ?_ | refine Rd.rd_propR ?_ | refine Rd.rd_iZipA ?_ | refine Rd.rd_iEnumT ?_ | refine Rd.rd_iOwn ?_ | (refine' Rd.rd_IET ?ln ?_; (case ln => with_unfolding_all walk_at "at")) | refine Rd.rd_chain ?_ | refine Rd.rd_tPar ?_ | refine Rd.rd_par ?_ | refine Rd.rd_sl ?_ | refine Rd.rd_noPart ?_ | refine Rd.rd_part ?_ | refine Rd.rd_intV ?_ | refine Rd.rd_lc ?_ | (refine' Rd.rd_aug ?vh ?_; (case vh => with_unfolding_all rfl)) | refine Rd.rd_ipI ?_ | refine Rd.rd_for ?_ | (refine' Rd.rd_IT ?ln ?_; (case ln => with_unfolding_all walk_at "at")) | (refine' Rd.rd_IL ?ln ?_; (case ln => with_unfolding_all walk_at "at")) | refine Rd.rd_iTup ?_ | refine Rd.rd_iList ?_ | refine Rd.rd_iRng1 ?_ | refine Rd.rd_iRng2 ?_ | refine Rd.rd_isi (Rd.isi_int Rd.kk_int_int) ?_ | refine Rd.rd_isi (Rd.isi_int Rd.kk_int_bool) ?_ | refine Rd.rd_dget ?_ | refine Rd.rd_din ?_ | refine Rd.rd_dnotin ?_ | refine Rd.rd_dput ?_ | refine Rd.rd_dc ?_ | refine Rd.rd_lc2 ?_ | refine Rd.rd_ltS ?_ | refine Rd.rd_inSg ?_ | refine Rd.rd_iStr ?_ | refine Rd.rd_IS ?_ | refine Rd.rd_prC ?_ | refine Rd.rd_prN ?_ | refine Rd.rd_methR ?_ | refine Rd.rd_cmeth ?_ | refine Rd.rd_fldS ?_ | refine Rd.rd_fld ?_ | (refine' Rd.rd_mkVS ?vh ?_; (case vh => with_unfolding_all rfl)) | (refine' Rd.rd_starT ?ln ?_; (case ln => with_unfolding_all walk_at "at")) | refine Rd.rd_iEnum ?_ | refine Rd.rd_iZip ?_ | (refine' Rd.rd_IE ?ln ?_; (case ln => with_unfolding_all walk_at "at")) | (refine' Rd.rd_IZ ?ln ?lm ?_; (case ln => with_unfolding_all walk_at "at"); (case lm => with_unfolding_all walk_at "at")) | (refine' Rd.rd_gTup ?ln ?lk ?_; (case ln => with_unfolding_all walk_at "at"); (case lk => with_unfolding_all rfl)) | refine Rd.rd_gCons ?_ | refine Rd.rd_gNil ?_ | refine Rd.rd_m1 ?_ | refine Rd.rd_strV ?_ | refine Rd.rd_tXiM ?_ | refine Rd.rd_tXiB ?_ | refine Rd.rd_tXiS ?_ | refine Rd.rd_bm ?_ | refine Rd.rd_bm0 ?_ | refine Rd.rd_isN ?_ | refine Rd.rd_notN ?_ | refine Rd.rd_sub ?_ | refine Rd.rd_un ?_ | refine Rd.rd_U ?_
  | (refine' Rd.rd_eq ?sc ?_; (case sc => with_unfolding_all rfl)) | (refine' Rd.rd_ne ?sc ?_; (case sc => with_unfolding_all rfl))
  | (refine' Rd.rd_I ?cc ?_; (case cc => with_unfolding_all walk_at "rdc"))
  | (refine' Rd.rd_lenL ?ln ?_; (case ln => with_unfolding_all walk_at "at")) | (refine' Rd.rd_lenT ?ln ?_; (case ln => with_unfolding_all walk_at "at"))
  | (refine' Rd.rd_ixL ?ln ?ia ?_; (case ln => with_unfolding_all walk_at "at"); (case ia => with_unfolding_all first | exact Rd.at0 | exact Rd.at1 | exact Rd.at2 | exact Rd.at3 | exact Rd.at4 | rfl)) | (refine' Rd.rd_ixT ?ln ?ia ?_; (case ln => with_unfolding_all walk_at "at"); (case ia => with_unfolding_all first | exact Rd.at0 | exact Rd.at1 | exact Rd.at2 | exact Rd.at3 | exact Rd.at4 | rfl)))
local macro_rules | `(tactic| walk_at "at") => `(tactic| first | assumption | (apply SqL.of; assumption) | (apply SqT.of; assumption) | (apply SqL.of; exact upd_same) | (apply SqT.of; exact upd_same))
local macro_rules | `(tactic| walk_at "rd") => `(tactic| repeat walk_at "rd1")
local macro_rules | `(tactic| walk_at "ne") => `(tactic| first | assumption | exact Ne.symm (by assumption) | (refine' Dice.ne ?D ?h; (case h => assumption); (case D => walk_at "fa")))
local macro_rules | `(tactic| walk_at "kp1") => `(tactic| first | exact kpS (by assumption) | exact Mut.kp (by assumption) | (refine' Rolled.kp ?r ?D; (case r => assumption); (case D => walk_at "fa")))
local macro_rules | `(tactic| walk_at "fa") => `(tactic| first
  | assumption | exact SqT.of (by assumption) | exact SqL.of (by assumption)
  | (refine' Dice.same ?h ?s; (case s => assumption); (case h => walk_at "fa")) | exact Rolled.dice (by assumption)
  | (refine' L2.Same.seq ?s ?h; (case s => assumption); (case h => walk_at "fa")) | (refine' Rolled.sqL ?r ?n ?h; (case r => assumption); (case n => walk_at "ne"); (case h => walk_at "fa"))
  | (refine' Kp.sqT ?k ?h; (case k => walk_at "kp1"); (case h => walk_at "fa")) | (refine' RowAt.kp ?k ?h; (case k => walk_at "kp1"); (case h => walk_at "fa")) | (refine' RowsAt.kp ?k ?h; (case k => walk_at "kp1"); (case h => walk_at "fa")) | (refine' ChgAt.kp ?k ?h; (case k => walk_at "kp1"); (case h => walk_at "fa")) | (refine' PlainAt.kp ?k ?h; (case k => walk_at "kp1"); (case h => walk_at "fa"))
  | (refine' GraphAt.same ?h ?s; (case s => assumption); (case h => walk_at "fa")) | (refine' GraphAt.rolled ?r ?D ?h; (case r => assumption); (case D => walk_at "fa"); (case h => walk_at "fa"))
  | (refine' Rd.Same.at ?s ?h; (case s => assumption); (case h => walk_at "fa")) | (refine' Mut.keep ?m _ _ ?n ?h; (case m => assumption); (case n => walk_at "ne"); (case h => walk_at "fa")) | (refine' Rolled.keep ?r _ _ ?n ?h; (case r => assumption); (case n => walk_at "ne"); (case h => walk_at "fa")))
local macro_rules | `(tactic| walk_at "sm") => `(tactic| first | assumption | exact Same.refl _ | (refine' L2.Same.trans ?h ?s; (case s => assumption); (case h => walk_at "sm")) | (refine' same_mutM ?a ?b ?c; (case c => assumption); (case b => walk_at "nn"); (case a => walk_at "sm")))
local macro_rules | `(tactic| walk_at "rl") => `(tactic| first | assumption | exact Rolled.refl (by walk_at "fa") | (refine' Rolled.trans ?a ?b; (case b => assumption); (case a => walk_at "rl")) | (refine' Rolled.same ?a ?b; (case b => assumption); (case a => walk_at "rl")) | (refine' Rolled.mutM ?a ?n ?e ?m; (case m => assumption); (case n => walk_at "nn"); (case e => walk_at "ne"); (case a => walk_at "rl")))
local macro_rules | `(tactic| walk_at "nn") => `(tactic| first | assumption | (refine' none_pre ?s ?h; (case h => assumption); (case s => walk_at "sm")) | (refine' none_rol ?r ?D ?h; (case h => assumption); (case D => walk_at "fa"); (case r => walk_at "rl")))
local macro_rules | `(tactic| walk_at "sz") => `(tactic| first | (simp only [List.length_cons, List.length_nil]; decide) | (refine Rd.small64 ?_; simp only [List.length_map, List.length_append, List.length_cons, List.length_nil]; omega))
local macro_rules | `(tactic| walk_at "at") => `(tactic| walk_at "fa")
local macro_rules | `(tactic| walk_at "rd1") => `(tactic| with_reducible first
  | (refine' Rd.rd_mkTup ?sz fun _ _ _ _ _ => ?_; (case sz => with_unfolding_all walk_at "sz")) | (refine' Rd.rd_mkLst ?sz fun _ _ _ _ _ => ?_; (case sz => with_unfolding_all walk_at "sz")) | (refine' Rd.rd_mkTupF ?sz fun _ _ _ _ _ => ?_; (case sz => with_unfolding_all walk_at "sz"))
  | (refine' Rd.rd_tupleL ?ln fun _ _ _ _ _ => ?_; (case ln => with_unfolding_all walk_at "at")) | (refine' Rd.rd_tupleT ?ln ?_; (case ln => with_unfolding_all walk_at "at")) | (refine' Rd.rd_listL ?ln fun _ _ _ _ _ => ?_; (case ln => with_unfolding_all walk_at "at")) | (refine' Rd.rd_listT ?ln fun _ _ _ _ _ => ?_; (case ln => with_unfolding_all walk_at "at"))
  | (refine' fld_c ?T ?h fun _ _ => ?_; (case T => assumption); (case h => with_unfolding_all walk_at "fa")) | (refine' fld_s ?T ?h fun _ _ => ?_; (case T => assumption); (case h => with_unfolding_all walk_at "fa")) | (refine' fld_n ?T ?h fun _ _ => ?_; (case T => assumption); (case h => with_unfolding_all walk_at "fa"))
  | refine Rd.rd_get2 ?_ | (refine' Rd.rd_getA ?ln ?_; (case ln => with_unfolding_all first | exact Or.inl (by walk_at "at") | exact Or.inr ⟨_, by walk_at "at"⟩)) | (refine' Rd.rd_getE ?ln ?_; (case ln => with_unfolding_all first | exact Or.inl (by walk_at "at") | exact Or.inr ⟨_, by walk_at "at"⟩)) | refine Rd.rd_daug ?_ | refine Rd.rd_items ?_ | refine Rd.rd_frz ?_ | refine Rd.rd_vals ?_ | refine Rd.rd_kw0 ?_ | refine Rd.rd_callN ?_
  | (refine' Rd.rd_isi (Rd.isi_tup ?ln Rd.kk_tup_tup) ?_; (case ln => with_unfolding_all walk_at "at")) | refine Rd.rd_isi (Rd.isi_str (b := true) kk_str_str) ?_)
local macro_rules | `(tactic| walk_at "st") => `(tactic| (simp only [List.map_cons, List.map_nil, L2.wipe, List.set_cons_zero, List.set_cons_succ]; walk_at "rd"; refine ⟨rfl, ?_⟩; walk_at "rd"))
/-! ### plain graphs that are not equal to one -/
abbrev s__law_others : Stmt := top 39
theorem sc__law_others : FnScope ["_law_plain", "_law_found", "_law_at", "_law_row", "_law_change_here"] ["_law_plain"] (defScope s__law_others) := ⟨rfl, rfl, rfl, by decide +kernel, rfl, by decide +kernel, by decide +kernel⟩
def keyT (t : Tr) : Str × Str × Str := (t.nm, t.src, t.tgt)
theorem key_mem {ts ts' : List Tr} (e : ts'.map keyT = ts.map keyT) {t : Tr} (h : t ∈ ts') : ∃ u ∈ ts, u.nm = t.nm ∧ u.src = t.src ∧ u.tgt = t.tgt := by
  have : keyT t ∈ ts.map keyT := e ▸ List.mem_map_of_mem h
  obtain ⟨u, hu, q⟩ := List.mem_map.mp this
  unfold keyT at q
  exact ⟨u, hu, congrArg Prod.fst q, congrArg (fun z => z.2.1) q, congrArg (fun z => z.2.2) q⟩
/-- other changes, the same names and ends -/
theorem GOk.rechg {G : Gr} (h : GOk G) {ts' : List Tr} (e : ts'.map keyT = G.ts.map keyT) (hc : ∀ t ∈ ts', ChgOk t.chg ∧ t.chg.length ≤ 5 ∧ ∀ kv ∈ t.chg, kv.1 ∈ G.cs) : GOk ⟨G.cs, G.ns, ts'⟩ := by
  have en : ts'.map (·.nm) = G.ts.map (·.nm) := by
    have := congrArg (List.map fun z : Str × Str × Str => z.1) e
    rw [List.map_map, List.map_map] at this
    exact this
  have el : ts'.length = G.ts.length := by
    have := congrArg List.length e
    rwa [List.length_map, List.length_map] at this
  refine ⟨h.c1, h.c5, h.cA, h.cN, h.n8, h.nA, h.nN, by show ts'.length ≤ 16; rw [el]; exact h.t16, by show Rd.Asc (ts'.map (·.nm)); rw [en]; exact h.tA, fun t ht => ?_, fun t ht => (hc t ht).2.2, fun t ht => ?_, h.lp.ne, h.lp.nd, fun t ht => ?_, fun q S s0 st => h.lp.fwd q S s0 fun t ht s => ?_, fun q S s0 st => h.lp.bwd q S s0 fun t ht s => ?_⟩
  · obtain ⟨u, hu, e1, e2, e3⟩ := key_mem e ht
    obtain ⟨o1, o2, o3, _⟩ := h.tO u hu
    exact ⟨e1 ▸ o1, e2 ▸ o2, e3 ▸ o3, (hc t ht).1, (hc t ht).2.1⟩
  · obtain ⟨u, hu, e1, e2, e3⟩ := key_mem e ht
    exact e1 ▸ h.tC u hu
  · obtain ⟨u, hu, e1, e2, e3⟩ := key_mem e ht
    exact e2 ▸ e3 ▸ h.lp.ends u hu
  · obtain ⟨u, hu, e1, e2, e3⟩ := key_mem e.symm ht
    exact e3 ▸ st u hu (e2.symm ▸ s)
  · obtain ⟨u, hu, e1, e2, e3⟩ := key_mem e.symm ht
    exact e2 ▸ st u hu (e3.symm ▸ s)
/-- one change otherwise -/
def chgO (c : Str) (chg : List (Str × Int)) : List (Str × Int) := if chg = [(c, 1)] then [] else [(c, 1)]
theorem chgO_ne (c : Str) (chg : List (Str × Int)) : chgO c chg ≠ chg := by
  unfold chgO
  split
  · rename_i e; rw [e]; exact nofun
  · rename_i e; exact fun z => e z.symm
def otherT (c : Str) (t : Tr) : Tr := ⟨t.nm, t.src, t.tgt, chgO c t.chg⟩
def otherG (G : Gr) (c : Str) (i : Nat) (t : Tr) : Gr := ⟨G.cs, G.ns, G.ts.take i ++ [otherT c t] ++ G.ts.drop (i + 1)⟩
theorem cut_fromN (xs : List V) (n : Nat) : cutV xs (some ((n : Int) + 1)) none = xs.drop (n + 1) := by
  unfold cutV HT.sIx
  dsimp only
  rw [if_neg (by omega)]
  rcases Nat.lt_or_ge xs.length (n + 1) with h | h
  · rw [show min ((n : Int) + 1).toNat xs.length = xs.length by omega]
    rw [List.drop_of_length_le (by omega : xs.length ≤ n + 1)]
    simp
  · rw [show min ((n : Int) + 1).toNat xs.length = n + 1 by omega, List.take_of_length_le (by rw [List.length_drop]; omega)]
theorem split_at {α : Type} {l : List α} {i : Nat} {x : α} (h : l[i]? = some x) : l = l.take i ++ [x] ++ l.drop (i + 1) := by
  obtain ⟨hi, e⟩ := List.getElem?_eq_some_iff.mp h
  rw [← e, List.take_append_getElem, List.take_append_drop]
theorem other_ok {G : Gr} (h : GOk G) {c : Str} (hc : c ∈ G.cs) {i : Nat} {t : Tr} (ht : G.ts[i]? = some t) : GOk (otherG G c i t) ∧ otherG G c i t ≠ G := by
  have sp := split_at ht
  constructor
  · refine h.rechg ?_ fun u hu => ?_
    · have e2 := congrArg (List.map keyT) sp
      rw [List.map_append, List.map_append] at e2
      rw [List.map_append, List.map_append]
      exact e2.symm
    · have old : ∀ u ∈ G.ts, ChgOk u.chg ∧ u.chg.length ≤ 5 ∧ ∀ kv ∈ u.chg, kv.1 ∈ G.cs := fun u hu => ⟨(h.tO u hu).2.2.2.1, (h.tO u hu).2.2.2.2, h.tK u hu⟩
      rcases List.mem_append.mp hu with hu | hu
      · rcases List.mem_append.mp hu with hu | hu
        · exact old u (List.mem_of_mem_take hu)
        · rw [List.mem_singleton.mp hu]
          show ChgOk (chgO c t.chg) ∧ (chgO c t.chg).length ≤ 5 ∧ ∀ kv ∈ chgO c t.chg, kv.1 ∈ G.cs
          unfold chgO
          split
          · exact ⟨⟨.nil, fun _ h => (List.not_mem_nil h).elim⟩, by decide, fun _ h => (List.not_mem_nil h).elim⟩
          · refine ⟨⟨List.pairwise_singleton _ _, fun kv hk => ?_⟩, Nat.le_of_ble_eq_true rfl, fun kv hk => ?_⟩
            · rw [List.mem_singleton.mp hk]
              exact ⟨h.cN c hc, by show (-9 : Int) ≤ 1; decide, by show (1 : Int) ≤ 9; decide, by show (1 : Int) ≠ 0; decide⟩
            · rw [List.mem_singleton.mp hk]; exact hc
      · exact old u (List.mem_of_mem_drop hu)
  · intro e
    have e1 := congrArg (fun J : Gr => J.ts[i]?) e
    have e1 : (otherG G c i t).ts[i]? = G.ts[i]? := e1
    rw [ht] at e1
    have hi : i < G.ts.length := (List.getElem?_eq_some_iff.mp ht).1
    have e2 : (otherG G c i t).ts[i]? = some (otherT c t) := by
      show (G.ts.take i ++ [otherT c t] ++ G.ts.drop (i + 1))[i]? = _
      rw [List.append_assoc, List.getElem?_append_right (by rw [List.length_take]; omega), List.length_take, Nat.min_eq_left (by omega), Nat.sub_self]
      rfl
    rw [e2] at e1
    exact chgO_ne c t.chg (congrArg Tr.chg (Option.some.inj e1))
/-- one counter more -/
def moreG (G : Gr) : Gr := ⟨G.cs ++ [("zz" : Str)], G.ns, G.ts⟩
theorem zz_ok : isName ("zz" : Str) = true ∧ (∀ x ∈ counterNames, Rd.lts x ("zz" : Str) = true) ∧ ("zz" : Str) ∉ words ∧ ("zz" : Str) ∉ nodeNames ∧ ("b" : Str) ∉ counterNames ∧ isName ("b" : Str) = true := by
  refine ⟨?_, ?_, ?_, ?_, ?_, ?_⟩ <;> decide +kernel
theorem more_ok {G : Gr} (h : GOk G) (D : DrL G) (h5 : G.cs.length < 5) : GOk (moreG G) ∧ moreG G ≠ G := by
  constructor
  · refine ⟨by unfold moreG; simp, by show (G.cs ++ [_]).length ≤ 5; rw [List.length_append]; exact h5, ?_, fun x hx => ?_, h.n8, h.nA, h.nN, h.t16, h.tA, h.tO, fun t ht kv hk => List.mem_append_left _ (h.tK t ht kv hk), fun t ht q => ?_, h.lp⟩
    · refine List.pairwise_append.mpr ⟨h.cA, List.pairwise_singleton _ _, fun x hx y hy => ?_⟩
      rw [List.mem_singleton.mp hy]
      exact zz_ok.2.1 x (D.cs x hx)
    · rcases List.mem_append.mp hx with e | e
      · exact h.cN x e
      · rw [List.mem_singleton.mp e]; exact zz_ok.1
    · rcases List.mem_append.mp q with e | e
      · exact h.tC t ht e
      · exact zz_ok.2.2.1 (List.mem_singleton.mp e ▸ D.nm t ht)
  · intro e
    have := congrArg (fun J : Gr => J.cs.length) e
    simp [moreG] at this
def zzG (G : Gr) : Gr := ⟨G.cs, [("zz" : Str)], []⟩
def loopG (G : Gr) (n : Str) : Gr := ⟨G.cs, G.ns, [⟨("b" : Str), n, n, []⟩]⟩
theorem zz_G {G : Gr} (h : GOk G) (D : DrL G) : GOk (zzG G) ∧ zzG G ≠ G := by
  constructor
  · refine ⟨h.c1, h.c5, h.cA, h.cN, by show 1 ≤ 8; decide, List.pairwise_singleton _ _, fun x hx => ?_, Nat.zero_le _, .nil, fun _ h => (List.not_mem_nil h).elim, fun _ h => (List.not_mem_nil h).elim, fun _ h => (List.not_mem_nil h).elim, loop_one _⟩
    rw [List.mem_singleton.mp hx]; exact zz_ok.1
  · intro e
    have e1 := congrArg Gr.ns e
    exact zz_ok.2.2.2.1 (D.ns _ (e1 ▸ List.mem_singleton.mpr rfl))
theorem loop_G {G : Gr} (h : GOk G) (D : DrL G) (e0 : G.ts = []) {n : Str} (hn : n ∈ G.ns) : GOk (loopG G n) ∧ loopG G n ≠ G := by
  constructor
  · refine ⟨h.c1, h.c5, h.cA, h.cN, h.n8, h.nA, h.nN, by show 1 ≤ 16; decide, List.pairwise_singleton _ _, fun t ht => ?_, fun t ht kv hk => ?_, fun t ht => ?_, h.lp.ne, h.lp.nd, fun t ht => ?_, fun q S s0 _ => h.lp.fwd q S s0 fun t ht => ?_, fun q S s0 _ => h.lp.bwd q S s0 fun t ht => ?_⟩
    · rw [List.mem_singleton.mp ht]
      exact ⟨zz_ok.2.2.2.2.2, h.nN n hn, h.nN n hn, ⟨.nil, fun _ h => (List.not_mem_nil h).elim⟩, Nat.zero_le _⟩
    · rw [List.mem_singleton.mp ht] at hk
      exact (List.not_mem_nil hk).elim
    · rw [List.mem_singleton.mp ht]
      exact fun q => zz_ok.2.2.2.2.1 (D.cs _ q)
    · rw [List.mem_singleton.mp ht]; exact ⟨hn, hn⟩
    · rw [e0] at ht; exact (List.not_mem_nil ht).elim
    · rw [e0] at ht; exact (List.not_mem_nil ht).elim
  · intro e
    have e1 := congrArg Gr.ts e
    rw [e0] at e1
    cases e1
theorem paired_take {α β : Type} {F : α → β → Prop} : ∀ {l : List α} {m : List β}, Paired F l m → ∀ n, Paired F (l.take n) (m.take n)
  | _, _, _, 0 => by rw [List.take_zero, List.take_zero]; exact .nil
  | _, _, .nil, n + 1 => .nil
  | _, _, .cons r t, n + 1 => .cons r (paired_take t n)
theorem paired_drop {α β : Type} {F : α → β → Prop} : ∀ {l : List α} {m : List β}, Paired F l m → ∀ n, Paired F (l.drop n) (m.drop n)
  | _, _, h, 0 => h
  | _, _, .nil, n + 1 => .nil
  | _, _, .cons r t, n + 1 => paired_drop t n
def spOthers (K : PySem.W.Frag) : Sp := Rd.mkSp (fun (a : Addr × Gr) => [.ref a.1]) fun a H Q _ => PlainAt K H a.1 a.2 ∧ GOk a.2 ∧ DrL a.2 ∧ ∀ D ps Gs H', H D = none → Same H H' → H' D = some (.lst (ps.map V.ref)) → Paired (PlainAt K H') ps Gs → (∀ J ∈ Gs, GOk J ∧ J ≠ a.2) → Gs.length ≤ 20 → Q (.ref D) H'
section
variable {gd : Bool} {P : Program} {w : World} {K : PySem.W.Frag} {mg : Str → Option Value} {base : Heap} {a : AdsG}
set_option maxHeartbeats 40000000 in
theorem ok_others (F : Rd.Has K mg "_law_others" s__law_others) (g : Glob mg) : Rd.Fn gd P w K mg base CX0 1 "_law_others" (spOthers K) := by
  refine F.fn sc__law_others (fun _ => rfl) (fun _ _ _ _ _ _ us hl => match us, hl with | [_], _ => rfl) fun f cdv A outer s H Q E b hr h => ?_
  obtain ⟨p, G⟩ := b
  obtain ⟨hp, GO, DR, k⟩ := h
  dsimp only at hp GO DR k
  refine ⟨_, (pss_cons (ps_set (i := 1) sc__law_others.nd rfl (Or.inl rfl) (Rd.pe_lst pa_nil))
      (pss_cons (ps_for PassesOwn.never rfl (Rd.pi_enumT (by rfl) g.enumerate (pa_cons (pe_ix ix_tup (pv 0) pe_int (fun _ _ => rfl)) pa_nil)) (pg_tup rfl (pgs_cons (pg_name (i := 2) sc__law_others.nd rfl (Or.inl rfl)) (pgs_cons (pg_name (i := 3) sc__law_others.nd rfl (Or.inl rfl)) pgs_nil))) (C8.pss_cut (ps_set (i := 4) sc__law_others.nd rfl (Or.inl rfl) (pe_ifExp (pt_cmpR (op_neD hr.units) (pe_ix ix_tup (pv 3) pe_int (fun _ _ => rfl)) (Rd.pe_tupF (pa_cons (Rd.pe_tup (pa_cons (pe_ix ix_tup (pe_ix ix_tup (pv 0) pe_int (fun _ _ => rfl)) pe_int (fun _ _ => rfl)) (pa_cons pe_int pa_nil))) pa_nil)) (nomark _)) (Rd.pe_tupF (pa_cons (Rd.pe_tup (pa_cons (pe_ix ix_tup (pe_ix ix_tup (pv 0) pe_int (fun _ _ => rfl)) pe_int (fun _ _ => rfl)) (pa_cons pe_int pa_nil))) pa_nil)) (Rd.pe_tupF pa_nil)))
      (pss_one (ps_expr (pe_bm PySem.F.plainAttrs_list PySem.F.slot_list_append PySem.F.type_list_append mt_append (pv 1) (pa_cons (Rd.pe_tup (pa_cons (pe_ix ix_tup (pv 0) pe_int (fun _ _ => rfl)) (pa_cons (pe_ix ix_tup (pv 0) pe_int (fun _ _ => rfl)) (pa_cons (pe_op op_catA (pe_op op_catA (pe_slice sl_tupA (pe_ix ix_tup (pv 0) pe_int (fun _ _ => rfl)) po_none (po_some (pv 2))) (Rd.pe_tup (pa_cons (pe_op op_catA (pe_slice sl_tupA (pv 3) po_none (po_some pe_int)) (Rd.pe_tup (pa_cons (pv 4) pa_nil))) pa_nil))) (pe_slice sl_tupA (pe_ix ix_tup (pv 0) pe_int (fun _ _ => rfl)) (po_some (pe_op op_add (pv 2) pe_int)) po_none)) pa_nil)))) pa_nil))))))
      (C8.pss_cut (ps_if (pt_cmpR op_lt (pe_callB Rd.c_len (by rfl) g.len (by decide +kernel) (pa_cons (pe_ix ix_tup (pv 0) pe_int (fun _ _ => rfl)) pa_nil)) pe_int (nomark _)) (pss_one (ps_expr (pe_bm PySem.F.plainAttrs_list PySem.F.slot_list_append PySem.F.type_list_append mt_append (pv 1) (pa_cons (Rd.pe_tup (pa_cons (pe_op op_catA (pe_ix ix_tup (pv 0) pe_int (fun _ _ => rfl)) (Rd.pe_tup (pa_cons pe_str pa_nil))) (pa_cons (pe_ix ix_tup (pv 0) pe_int (fun _ _ => rfl)) (pa_cons (pe_ix ix_tup (pv 0) pe_int (fun _ _ => rfl)) pa_nil)))) pa_nil)))) pss_nil)
      (pss_cons (ps_if (pt_cmpR (op_eqD hr.units) (pe_ix ix_tup (pv 0) pe_int (fun _ _ => rfl)) (Rd.pe_tupF pa_nil) (nomark _)) (pss_one (ps_set (i := 1) sc__law_others.nd rfl (Or.inl rfl) (pe_op op_cat (pv 1) (Rd.pe_lst (pa_cons (Rd.pe_tup (pa_cons (pe_ix ix_tup (pv 0) pe_int (fun _ _ => rfl)) (pa_cons (Rd.pe_tup (pa_cons pe_str pa_nil)) (pa_cons (Rd.pe_tupF pa_nil) pa_nil)))) (pa_cons (Rd.pe_tup (pa_cons (pe_ix ix_tup (pv 0) pe_int (fun _ _ => rfl)) (pa_cons (pe_ix ix_tup (pv 0) pe_int (fun _ _ => rfl)) (pa_cons (Rd.pe_tup (pa_cons (Rd.pe_tup (pa_cons pe_str (pa_cons (pe_ix ix_tup (pe_ix ix_tup (pv 0) pe_int (fun _ _ => rfl)) pe_int (fun _ _ => rfl)) (pa_cons (pe_ix ix_tup (pe_ix ix_tup (pv 0) pe_int (fun _ _ => rfl)) pe_int (fun _ _ => rfl)) (pa_cons (Rd.pe_tupF pa_nil) pa_nil))))) pa_nil)) pa_nil)))) pa_nil)))))) pss_nil)
      (pss_one (ps_ret (pv 1))))))), ?_⟩
  try simp only [Rd.noxK, Rd.cxK]
  refine Rd.rd_start [some (V.ref p), none, none, none, none] rfl ?_
  obtain ⟨c, n, t, h0, hC, hN, hT⟩ := id hp
  have hC' : SqT K H c (G.cs.map V.str) := hC
  have hN' : SqT K H n (G.ns.map V.str) := hN
  obtain ⟨rs, hS, hP⟩ := id hT
  have lr := hP.length
  have lt := GO.t16
  obtain ⟨c0, cr, ec⟩ : ∃ c0 cr, G.cs = c0 :: cr := by
    cases hc : G.cs with
    | nil => exact absurd hc GO.c1
    | cons x y => exact ⟨x, y, rfl⟩
  have hc0 : c0 ∈ G.cs := by rw [ec]; exact List.mem_cons_self
  walk_at "rd"
  rename_i D H1 hD s1 h1
  have hC0 : SqT K H1 c (V.str c0 :: cr.map V.str) := by
    have := Rd.Same.sqT s1 hC'
    rw [ec] at this
    exact this
  have hS1 := Rd.Same.sqT s1 hS
  have h01 := Rd.Same.sqT s1 h0
  have hN1 := Rd.Same.sqT s1 hN'
  clear hS h0 hC' hN'
  refine Rd.for_enumT (K := K) (xs := rs.map V.ref) (fun i σ' H' => ∃ (ps : List Addr) (Gs : List Gr) (v2 v3 v4 : Option V), σ' = [some (V.ref p), some (V.ref D), v2, v3, v4] ∧ Mut D H1 H' ∧ H' D = some (.lst (ps.map V.ref)) ∧ Paired (PlainAt K H') ps Gs ∧ (∀ J ∈ Gs, GOk J ∧ J ≠ G) ∧ ps.length = i) ?_ (fun i σ' H' _ q => ?_) (fun i x T σ' H14 H15 hx q hT s15 h15 _ => ?_) (fun σ' H14 q => ?_)
  · exact ⟨[], [], none, none, none, rfl, ⟨fun _ _ _ e => e, Kp.refl _⟩, h1, .nil, fun _ h => (List.not_mem_nil h).elim, rfl⟩
  · obtain ⟨ps, Gs, v2, v3, v4, _, M, _⟩ := q
    exact M.kp.sqT hS1
  · obtain ⟨ps, Gs, v2, v3, v4, rfl, M, hd, hPs, hGs, lp⟩ := q
    rw [List.getElem?_map] at hx
    obtain ⟨r, hr1, rfl⟩ := Option.map_eq_some_iff.mp hx
    obtain ⟨tr, htr, hrow⟩ := paired_get hP hr1
    have k15 : Kp H1 H15 := M.kp.trans (kpS s15)
    obtain ⟨cc, hq, hcc⟩ := hrow.kp ((kpS s1).trans k15)
    have hT15 : SqT K H15 T [.int (i : Nat), .ref r] := SqT.of h15
    have hC15 := k15.sqT hC0
    have h015 := k15.sqT h01
    have hS15 := k15.sqT hS1
    have hd15 := s15 _ _ hd
    have li : i < rs.length := (List.getElem?_eq_some_iff.mp hr1).1
    refine Rd.rd_start' [some (V.ref p), some (V.ref D), v2, v3, v4] rfl ?_
    walk_at "rd"
    refine ⟨fun σ' H' => ∃ q, σ' = [some (V.ref p), some (V.ref D), some (V.int (i : Nat)), some (V.ref r), some (V.ref q)] ∧ Same H15 H' ∧ ChgAt K H' q (chgO c0 tr.chg), ?_, ?_⟩
    · walk_at "rd"
      rename_i p16 H16 np16 s16 h16 p17 H17 np17 s17 h17
      have pc17 : PairAt K H17 p16 (c0, 1) := SqT.of (s17 _ _ h16)
      have d1 := (hcc.kp (kpS (s16.trans s17))).dt
      have d2 : ChgAt K H17 p17 [(c0, 1)] := ⟨[p16], h17, .cons pc17 .nil⟩
      have tro := GO.tO tr (List.mem_of_getElem? htr)
      refine Rd.rd_neD d1.dp d2.dt.dp (shaped_of (can_chg tro.2.2.2.1) (by decide)) (shaped_of (can_chg (chg := [(c0, 1)]) ⟨List.pairwise_singleton _ _, fun kv hk => by
        rw [List.mem_singleton.mp hk]
        exact ⟨GO.cN c0 hc0, by show (-9 : Int) ≤ 1; decide, by show (1 : Int) ≤ 9; decide, by show (1 : Int) ≠ 0; decide⟩⟩) (by decide)) ?_
      have ee := eqv_map chgP eqv_chg tr.chg [(c0, 1)]
      generalize PyData.eqv (.tuple (tr.chg.map chgP)) (.tuple (List.map chgP [(c0, 1)])) = b1 at ee ⊢
      cases b1 with
      | false =>
        refine ⟨true, rfl, ?_⟩
        refine Rd.if_t rfl ?_
        have hC17 := (kpS (s16.trans s17)).sqT hC15
        have h017 := (kpS (s16.trans s17)).sqT h015
        walk_at "rd"
        rename_i p18 H18 np18 s18 h18 p19 H19 np19 s19 h19
        refine ⟨p19, rfl, (s16.trans s17).trans (s18.trans s19), ?_⟩
        have : chgO c0 tr.chg = [(c0, 1)] := by unfold chgO; rw [if_neg fun z => absurd (ee.mpr z) (by decide)]
        rw [this]
        exact ⟨[p18], h19, .cons (SqT.of (s19 _ _ h18)) .nil⟩
      | true =>
        refine ⟨false, rfl, ?_⟩
        refine Rd.if_f rfl ?_
        walk_at "rd"
        rename_i p18 H18 np18 s18 h18
        refine ⟨p18, rfl, (s16.trans s17).trans s18, ?_⟩
        have : chgO c0 tr.chg = [] := by unfold chgO; rw [if_pos (ee.mp rfl)]
        rw [this]
        exact ⟨[], h18, .nil⟩
    · rintro σ' H16 ⟨q, rfl, s16, hch⟩
      have h016 := (kpS s16).sqT h015
      have hS16 := (kpS s16).sqT hS15
      have hq16 := (kpS s16).sqT hq
      have hd16 := s16 _ _ hd15
      walk_at "rd"
      refine ⟨Rd.tyL (SqL.of (K := K) hd16), ?_⟩
      walk_at "rd"
      refine Rd.rd_cut (xs := rs.map V.ref) hS16 fun p17 H17 s17 h17 => ?_
      rw [cut_take (by rw [List.length_map]; omega), ← List.map_take] at h17
      have hq17 := (kpS s17).sqT hq16
      walk_at "rd"
      refine Rd.rd_cut hq17 fun p18 H18 s18 h18 => ?_
      rw [show (3 : Int) = ((3 : Nat) : Int) from rfl, cut_take (by show 3 ≤ 4; decide)] at h18
      walk_at "rd"
      rename_i p19 H19 np19 s19 h19
      refine Rd.rd_catA ((kpS s19).sqT h18) (SqT.of h19) (by show 3 + 1 ≤ sizeLine; decide) fun p20 H20 s20 h20 => ?_
      have h20' : SqT K H20 p20 [.str tr.nm, .str tr.src, .str tr.tgt, .ref q] := h20
      walk_at "rd"
      rename_i p21 H21 np21 s21 h21
      have s1821 := (s18.trans s19).trans (s20.trans s21)
      refine Rd.rd_catA ((kpS s1821).sqT h17) (SqT.of h21) (by rw [List.length_map, List.length_take]; exact Rd.small64 (show min i rs.length + 1 ≤ _ by omega)) fun p22 H22 s22 h22 => ?_
      have hS22 := (kpS (s17.trans (s1821.trans s22))).sqT hS16
      have h022 := (kpS (s17.trans (s1821.trans s22))).sqT h016
      walk_at "rd"
      refine Rd.rd_cut (xs := rs.map V.ref) hS22 fun p23 H23 s23 h23 => ?_
      rw [cut_fromN, ← List.map_drop] at h23
      walk_at "rd"
      refine Rd.rd_catA ((kpS s23).sqT h22) h23 (by rw [List.length_append, List.length_map, List.length_map, List.length_take, List.length_drop]; exact Rd.small64 (show min i rs.length + 1 + (rs.length - (i + 1)) ≤ _ by omega)) fun p24 H24 s24 h24 => ?_
      walk_at "rd"
      rename_i p25 H25 np25 s25 h25
      have s1624 := s17.trans (s1821.trans (s22.trans (s23.trans s24)))
      have s1625 := s1624.trans s25
      have s1425 := s15.trans (s16.trans s1625)
      have lps : ps.length ≤ 16 := by omega
      refine Rd.rd_append (s1425 _ _ hd) (by rw [List.length_map]; exact Nat.lt_of_le_of_lt lps (by decide)) ?_
      walk_at "rd"
      have hd25 := s1425 _ _ hd
      have mu : Mut D H25 (upd H25 D (.lst (ps.map V.ref ++ [V.ref p25]))) := mut_upd hd25 rfl
      have ku := mu.kp
      have k1425 : Kp H14 (upd H25 D (.lst (ps.map V.ref ++ [V.ref p25]))) := (kpS s1425).trans ku
      have k25 : Kp H (upd H25 D (.lst (ps.map V.ref ++ [V.ref p25]))) := (kpS s1).trans (M.kp.trans k1425)
      refine ⟨ps ++ [p25], Gs ++ [otherG G c0 i tr], _, _, _, rfl, ⟨fun b o hb e => mu.keep b o hb (s1425 _ _ (M.keep b o hb e)), (M.kp.trans (kpS s1425)).trans ku⟩, by rw [upd_same, List.map_append]; rfl, paired_app (L2.Paired.mapP hPs fun _ _ z => z.kp k1425) (.cons ?_ .nil), fun J hJ => ?_, by rw [List.length_append, lp]; rfl⟩
      · have hrw : RowAt K H24 p20 (otherT c0 tr) := ⟨q, Rd.Same.sqT ((s21.trans s22).trans (s23.trans s24)) h20', hch.kp (kpS s1624)⟩
        have e24 : List.map V.ref (rs.take i) ++ [V.ref p20] ++ List.map V.ref (rs.drop (i + 1)) = (rs.take i ++ [p20] ++ rs.drop (i + 1)).map V.ref := by rw [List.map_append, List.map_append]; rfl
        rw [e24] at h24
        have hP24 : Paired (RowAt K H24) rs G.ts := L2.Paired.mapP hP fun _ _ z => z.kp (((kpS s1).trans M.kp).trans (kpS (s15.trans (s16.trans s1624))))
        have rows : RowsAt K H24 p24 (otherG G c0 i tr).ts := ⟨_, h24, paired_app (paired_app (paired_take hP24 i) (.cons hrw .nil)) (paired_drop hP24 (i + 1))⟩
        exact ⟨c, n, p24, ku.sqT (SqT.of h25), hC.kp k25, hN.kp k25, rows.kp ((kpS s25).trans ku)⟩
      · rcases List.mem_append.mp hJ with e | e
        · exact hGs J e
        · rw [List.mem_singleton.mp e]
          exact other_ok GO hc0 htr
  · obtain ⟨ps, Gs, v2, v3, v4, rfl, M, hd, hPs, hGs, lp⟩ := q
    have hC14 := M.kp.sqT hC0
    have h014 := M.kp.sqT h01
    have hS14 := M.kp.sqT hS1
    have hN14 := M.kp.sqT hN1
    rw [List.length_map] at lp
    walk_at "rd"
    refine ⟨fun σ' H' => ∃ (ps : List Addr) (Gs : List Gr) (v2 v3 v4 : Option V), σ' = [some (V.ref p), some (V.ref D), v2, v3, v4] ∧ Mut D H1 H' ∧ H' D = some (.lst (ps.map V.ref)) ∧ Paired (PlainAt K H') ps Gs ∧ (∀ J ∈ Gs, GOk J ∧ J ≠ G) ∧ ps.length ≤ 17, ?_, ?_⟩
    · walk_at "rd"
      rw [show ((V.str c0 :: List.map V.str cr).length) = G.cs.length by rw [ec, List.length_cons, List.length_map, List.length_cons]]
      refine ite2 (fun hc => ?_) (fun hc => ?_)
      · have h5 : G.cs.length < 5 := by have := of_decide_eq_true hc; omega
        walk_at "rd"
        refine ⟨Rd.tyL (SqL.of (K := K) hd), ?_⟩
        walk_at "rd"
        rename_i p15 H15 np15 s15 h15
        refine Rd.rd_catA ((kpS s15).sqT hC14) (SqT.of h15) (by rw [List.length_cons, List.length_map]; rw [ec, List.length_cons] at h5; exact Rd.small64 (show cr.length + 1 + 1 ≤ _ by omega)) fun p16 H16 s16 h16 => ?_
        have h016 := (kpS (s15.trans s16)).sqT h014
        walk_at "rd"
        rename_i p17 H17 np17 s17 h17
        have s1417 := (s15.trans s16).trans s17
        have hd17 := s1417 _ _ hd
        refine Rd.rd_append hd17 (by rw [List.length_map, lp, lr]; exact Nat.lt_of_le_of_lt lt (by decide)) ?_
        walk_at "rd"
        have mu : Mut D H17 (upd H17 D (.lst (ps.map V.ref ++ [V.ref p17]))) := mut_upd hd17 rfl
        have ku := mu.kp
        have k14 := (kpS s1417).trans ku
        have k00 := (kpS s1).trans (M.kp.trans k14)
        refine ⟨ps ++ [p17], Gs ++ [moreG G], _, _, _, rfl, ⟨fun b o hb e => mu.keep b o hb (s1417 _ _ (M.keep b o hb e)), M.kp.trans k14⟩, by rw [upd_same, List.map_append]; rfl, paired_app (L2.Paired.mapP hPs fun _ _ z => z.kp k14) (.cons ?_ .nil), fun J hJ => ?_, by rw [List.length_append, lp]; show rs.length + 1 ≤ 17; omega⟩
        · refine ⟨p16, n, t, ku.sqT (SqT.of h17), ?_, hN.kp k00, hT.kp k00⟩
          have e16 : V.str c0 :: List.map V.str cr ++ [V.str ("zz" : Str)] = (G.cs ++ [("zz" : Str)]).map V.str := by rw [ec, List.map_append]; rfl
          rw [e16] at h16
          exact ((kpS s17).trans ku).sqT h16
        · rcases List.mem_append.mp hJ with e | e
          · exact hGs J e
          · rw [List.mem_singleton.mp e]
            exact more_ok GO DR h5
      · walk_at "rd"
        exact ⟨ps, Gs, _, _, _, rfl, M, hd, hPs, hGs, by omega⟩
    · clear hC14 h014 hS14 hN14 hd hPs hGs M lp
      rintro σ' H14 ⟨ps, Gs, v2, v3, v4, rfl, M, hd, hPs, hGs, lp⟩
      have hC14 := M.kp.sqT hC0
      have h014 := M.kp.sqT h01
      have hS14 := M.kp.sqT hS1
      have hN14 := M.kp.sqT hN1
      walk_at "rd"
      rename_i p15 H15 np15 s15 h15
      have hT15 : RowsAt K H15 t G.ts := hT.kp ((kpS s1).trans (M.kp.trans (kpS s15)))
      refine Rd.rd_eqD hT15.dt.dp (.tup h15.sq .nil) (shaped_of (can_rows GO.tO) (by decide)) (show SeqAt.shaped (.tuple []) = true by decide +kernel) ?_
      rw [eqv_nilM]
      refine ⟨_, rfl, ?_⟩
      have kk : Same H H15 := same_mutM s1 hD M |>.trans s15
      refine ite2 (fun hc => ?_) (fun hc => ?_)
      · have e0 : G.ts = [] := of_decide_eq_true hc
        obtain ⟨n0, nr, en⟩ : ∃ n0 nr, G.ns = n0 :: nr := by
          cases hn : G.ns with
          | nil => exact absurd hn GO.lp.ne
          | cons x y => exact ⟨x, y, rfl⟩
        rw [en] at hN1 hN14
        have hN15 := (kpS s15).sqT hN14
        have hC15 := (kpS s15).sqT hC14
        have h015 := (kpS s15).sqT h014
        have hd15 := s15 _ _ hd
        walk_at "rd"
        rename_i p16 H16 np16 s16 h16 p17 H17 np17 s17 h17 p18 H18 np18 s18 h18 p19 H19 np19 s19 h19 p20 H20 np20 s20 h20 p21 H21 np21 s21 h21 p22 H22 np22 s22 h22 l23 H23 nl23 s23 h23
        have t22 := s23
        have t21 := s22.trans t22
        have t20 := s21.trans t21
        have t19 := s20.trans t20
        have t18 := s19.trans t19
        have t17 := s18.trans t18
        have t16 := s17.trans t17
        have t15 := s16.trans t16
        refine Rd.rd_cat (t15 _ _ hd15) h23 (by rw [List.length_map]; exact Rd.small64 (show ps.length + 2 ≤ _ by omega)) fun l24 H24 nl24 s24 h24 => ?_
        walk_at "rd"
        have u15 := t15.trans s24
        have kk24 := kk.trans u15
        have hPs24 := L2.Paired.mapP hPs fun _ _ z => PlainAt.kp (kpS (s15.trans u15)) z
        have e24 : List.map V.ref ps ++ [V.ref p18, V.ref p22] = (ps ++ [p18, p22]).map V.ref := by rw [List.map_append]; rfl
        rw [e24] at h24
        refine k l24 (ps ++ [p18, p22]) (Gs ++ [zzG G, loopG G n0]) H24 (none_pre (kk.trans t15) nl24) kk24 h24 (paired_app hPs24 (.cons ?_ (.cons ?_ .nil))) (fun J hJ => ?_) (by rw [List.length_append, ← hPs.length]; show ps.length + 2 ≤ 20; omega)
        · exact ⟨c, p16, p17, SqT.of ((t18.trans s24) _ _ h18), hC.kp (kpS kk24), SqT.of ((t16.trans s24) _ _ h16), ⟨[], (h17.same (t17.trans s24)).sq, .nil⟩⟩
        · exact ⟨c, n, p21, SqT.of ((t22.trans s24) _ _ h22), hC.kp (kpS kk24), hN.kp (kpS kk24), ⟨[p20], SqT.of ((t21.trans s24) _ _ h21), .cons ⟨p19, SqT.of ((t20.trans s24) _ _ h20), [], h19.same (t19.trans s24), .nil⟩ .nil⟩⟩
        · rcases List.mem_append.mp hJ with e | e
          · exact hGs J e
          · rcases List.mem_cons.mp e with e | e
            · rw [e]; exact zz_G GO DR
            · rw [List.mem_singleton.mp e]
              exact loop_G GO DR e0 (by rw [en]; exact List.mem_cons_self)
      · have hPs15 := L2.Paired.mapP hPs fun _ _ z => PlainAt.kp (kpS s15) z
        walk_at "rd"
        exact k D ps Gs H15 hD kk (s15 _ _ hd) hPs15 hGs (by rw [← hPs.length]; omega)
end
end M
set_option Elab.async false
set_option linter.all false
set_option maxRecDepth 100000
set_option maxHeartbeats 4000000
namespace M
open PySem L2
local macro_rules | `(tactic| walk_at "rdc") => `(tactic| first | exact Or.inl ⟨by decide, by decide⟩ | exact Or.inr ⟨by decide, by decide⟩ | exact ⟨by decide, by decide, by decide⟩ | exact ⟨by decide, by decide⟩ | decide | omega | assumption | (refine Or.inl ⟨?_, ?_⟩ <;> omega) | (refine Or.inr ⟨?_, ?_⟩ <;> omega) | (refine ⟨?_, ?_⟩ <;> omega))
local macro_rules | `(tactic| walk_at "rd1") => `(tactic| with_reducible first
  | refine Rd.rd_seq ?_ | refine Rd.rd_asg ?_ | refine Rd.rd_op ?_ | (refine' Rd.rd_var ?vh ?_; (case vh => with_unfolding_all rfl)) | refine Rd.rd_c ?_ | refine Rd.rd_I0 ?_ | refine Rd.rd_name0 ?_ | refine Rd.rd_nameS ?_ | refine Rd.rd_fn ?_
  | refine Rd.rd_cb ?_ | refine Rd.rd_cons ?_ | refine Rd.rd_nil ?_ | refine Rd.rd_int ?_ | refine Rd.rd_intB ?_ | refine Rd.rd_abs ?_ | refine Rd.rd_max2 ?_ | refine Rd.rd_min2 ?_
  | refine Rd.rd_call ?_ | refine Rd.rd_ifE ?_ | refine Rd.rd_test ?_ | refine Rd.rd_tB ?_ | refine Rd.rd_blV ?_ | refine Rd.rd_and ?_ | refine Rd.rd_or ?_ | refine Rd.rd_not ?_
  | refine Rd.rd_andV ?_ | refine Rd.rd_orV ?_ | refine Rd.rd_notV ?_ | refine Rd.rd_next ?_ | refine Rd.rd_ret ?_ | refine Rd.rd_drop ?_ | refine Rd.rd_ifS ?_ | refine Rd.rd_nx ?_ | refine Rd.rd_rt ?_ | refine Rd.rd_tMatch ?_ | refine Rd.rd_tCO ?_ | refine Rd.rd_tRevL ?_ | refine Rd.rd_tStar ?_ | refine Rd.rd_joined ?_ | refine Rd.rd_js1 ?_ | refine Rd.rd_js0 ?_ | refine Rd.rd_fmt ?_ | refine Rd.rd_propR ?_ | refine Rd.rd_iZipA ?_ | refine Rd.rd_iEnumT ?_ | refine Rd.rd_iOwn ?_ | (refine' Rd.rd_IET ?ln ?_; (case ln => with_unfolding_all walk_at "at")) | refine Rd.rd_chain ?_ | refine Rd.rd_tPar ?_ | refine Rd.rd_par ?_ | refine Rd.rd_sl ?_ | refine Rd.rd_noPart ?_ | refine Rd.rd_part ?_ | refine Rd.rd_intV ?_ | refine Rd.rd_lc ?_ | (refine' Rd.rd_aug ?vh ?_; (case vh => with_unfolding_all rfl)) | refine Rd.rd_ipI ?_ | refine Rd.rd_for ?_ | (refine' Rd.rd_IT ?ln ?_; (case ln => with_unfolding_all walk_at "at")) | (refine' Rd.rd_IL ?ln ?_; (case ln => with_unfolding_all walk_at "at")) | refine Rd.rd_iTup ?_ | refine Rd.rd_iList ?_ | refine Rd.rd_iRng1 ?_ | refine Rd.rd_iRng2 ?_ | refine Rd.rd_isi (Rd.isi_int Rd.kk_int_int) ?_ | refine Rd.rd_isi (Rd.isi_int Rd.kk_int_bool) ?_ | refine Rd.rd_dget ?_ | refine Rd.rd_din ?_ | refine Rd.rd_dnotin ?_ | refine Rd.rd_dput ?_ | refine Rd.rd_dc ?_ | refine Rd.rd_lc2 ?_ | refine Rd.rd_ltS ?_ | refine Rd.rd_inSg ?_ | refine Rd.rd_iStr ?_ | refine Rd.rd_IS ?_ | refine Rd.rd_prC ?_ | refine Rd.rd_prN ?_ | refine Rd.rd_methR ?_ | refine Rd.rd_cmeth ?_ | refine Rd.rd_fldS ?_ | refine Rd.rd_fld ?_ | (refine' Rd.rd_mkVS ?vh ?_; (case vh => with_unfolding_all rfl)) | (refine' Rd.rd_starT ?ln ?_; (case ln => with_unfolding_all walk_at "at")) | refine Rd.rd_iEnum ?_ | refine Rd.rd_iZip ?_ | (refine' Rd.rd_IE ?ln ?_; (case ln => with_unfolding_all walk_at "at")) | (refine' Rd.rd_IZ ?ln ?lm ?_; (case ln => with_unfolding_all walk_at "at"); (case lm => with_unfolding_all walk_at "at")) | (refine' Rd.rd_gTup ?ln ?lk ?_; (case ln => with_unfolding_all walk_at "at"); (case lk => with_unfolding_all rfl)) | refine Rd.rd_gCons ?_ | refine Rd.rd_gNil ?_ | refine Rd.rd_m1 ?_ | refine Rd.rd_strV ?_ | refine Rd.rd_tXiM ?_ | refine Rd.rd_tXiB ?_ | refine Rd.rd_tXiS ?_ | refine Rd.rd_bm ?_ | refine Rd.rd_bm0 ?_ | refine Rd.rd_isN ?_ | refine Rd.rd_notN ?_ | refine Rd.rd_sub ?_ | refine Rd.rd_un ?_ | refine Rd.rd_U ?_
  | (refine' Rd.rd_eq ?sc ?_; (case sc => with_unfolding_all rfl)) | (refine' Rd.rd_ne ?sc ?_; (case sc => with_unfolding_all rfl))
  | (refine' Rd.rd_I ?cc ?_; (case cc => with_unfolding_all walk_at "rdc"))
  | (refine' Rd.rd_lenL ?ln ?_; (case ln => with_unfolding_all walk_at "at")) | (refine' Rd.rd_lenT ?ln ?_; (case ln => with_unfolding_all walk_at "at"))
  | (refine' Rd.rd_ixL ?ln ?ia ?_; (case ln => with_unfolding_all walk_at "at"); (case ia => with_unfolding_all first | exact Rd.at0 | exact Rd.at1 | exact Rd.at2 | exact Rd.at3 | exact Rd.at4 | rfl)) | (refine' Rd.rd_ixT ?ln ?ia ?_; (case ln => with_unfolding_all walk_at "at"); (case ia => with_unfolding_all first | exact Rd.at0 | exact Rd.at1 | exact Rd.at2 | exact Rd.at3 | exact Rd.at4 | rfl)))
local macro_rules | `(tactic| walk_at "at") => `(tactic| first | assumption | (apply SqL.of; assumption) | (apply SqT.of; assumption) | (apply SqL.of; exact upd_same) | (apply SqT.of; exact upd_same))
local macro_rules | `(tactic| walk_at "rd") => `(tactic| repeat walk_at "rd1")
local macro_rules | `(tactic| walk_at "ne") => `(tactic| first | assumption | exact Ne.symm (by assumption) | (refine' Dice.ne ?D ?h; (case h => assumption); (case D => walk_at "fa")))
local macro_rules | `(tactic| walk_at "kp1") => `(tactic| first | exact kpS (by assumption) | exact Mut.kp (by assumption) | (refine' Rolled.kp ?r ?D; (case r => assumption); (case D => walk_at "fa")))
local macro_rules | `(tactic| walk_at "fa") => `(tactic| first
  | assumption | exact SqT.of (by assumption) | exact SqL.of (by assumption)
  | (refine' Dice.same ?h ?s; (case s => assumption); (case h => walk_at "fa")) | exact Rolled.dice (by assumption)
  | (refine' L2.Same.seq ?s ?h; (case s => assumption); (case h => walk_at "fa")) | (refine' Rolled.sqL ?r ?n ?h; (case r => assumption); (case n => walk_at "ne"); (case h => walk_at "fa"))
  | (refine' Kp.sqT ?k ?h; (case k => walk_at "kp1"); (case h => walk_at "fa")) | (refine' RowAt.kp ?k ?h; (case k => walk_at "kp1"); (case h => walk_at "fa")) | (refine' RowsAt.kp ?k ?h; (case k => walk_at "kp1"); (case h => walk_at "fa")) | (refine' ChgAt.kp ?k ?h; (case k => walk_at "kp1"); (case h => walk_at "fa")) | (refine' PlainAt.kp ?k ?h; (case k => walk_at "kp1"); (case h => walk_at "fa"))
  | (refine' GraphAt.same ?h ?s; (case s => assumption); (case h => walk_at "fa")) | (refine' GraphAt.rolled ?r ?D ?h; (case r => assumption); (case D => walk_at "fa"); (case h => walk_at "fa"))
  | (refine' Rd.Same.at ?s ?h; (case s => assumption); (case h => walk_at "fa")) | (refine' Mut.keep ?m _ _ ?n ?h; (case m => assumption); (case n => walk_at "ne"); (case h => walk_at "fa")) | (refine' Rolled.keep ?r _ _ ?n ?h; (case r => assumption); (case n => walk_at "ne"); (case h => walk_at "fa")))
local macro_rules | `(tactic| walk_at "sm") => `(tactic| first | assumption | exact Same.refl _ | (refine' L2.Same.trans ?h ?s; (case s => assumption); (case h => walk_at "sm")) | (refine' same_mutM ?a ?b ?c; (case c => assumption); (case b => walk_at "nn"); (case a => walk_at "sm")))
local macro_rules | `(tactic| walk_at "rl") => `(tactic| first | assumption | exact Rolled.refl (by walk_at "fa") | (refine' Rolled.trans ?a ?b; (case b => assumption); (case a => walk_at "rl")) | (refine' Rolled.same ?a ?b; (case b => assumption); (case a => walk_at "rl")) | (refine' Rolled.mutM ?a ?n ?e ?m; (case m => assumption); (case n => walk_at "nn"); (case e => walk_at "ne"); (case a => walk_at "rl")))
local macro_rules | `(tactic| walk_at "nn") => `(tactic| first | assumption | (refine' none_pre ?s ?h; (case h => assumption); (case s => walk_at "sm")) | (refine' none_rol ?r ?D ?h; (case h => assumption); (case D => walk_at "fa"); (case r => walk_at "rl")))
local macro_rules | `(tactic| walk_at "sz") => `(tactic| first | (simp only [List.length_cons, List.length_nil]; decide) | (refine Rd.small64 ?_; simp only [List.length_map, List.length_append, List.length_cons, List.length_nil]; omega))
local macro_rules | `(tactic| walk_at "at") => `(tactic| walk_at "fa")
local macro_rules | `(tactic| walk_at "rd1") => `(tactic| with_reducible first
  | (refine' Rd.rd_mkTup ?sz fun _ _ _ _ _ => ?_; (case sz => with_unfolding_all walk_at "sz")) | (refine' Rd.rd_mkLst ?sz fun _ _ _ _ _ => ?_; (case sz => with_unfolding_all walk_at "sz")) | (refine' Rd.rd_mkTupF ?sz fun _ _ _ _ _ => ?_; (case sz => with_unfolding_all walk_at "sz"))
  | (refine' Rd.rd_tupleL ?ln fun _ _ _ _ _ => ?_; (case ln => with_unfolding_all walk_at "at")) | (refine' Rd.rd_tupleT ?ln ?_; (case ln => with_unfolding_all walk_at "at")) | (refine' Rd.rd_listL ?ln fun _ _ _ _ _ => ?_; (case ln => with_unfolding_all walk_at "at")) | (refine' Rd.rd_listT ?ln fun _ _ _ _ _ => ?_; (case ln => with_unfolding_all walk_at "at"))
  | (refine' fld_c ?T ?h fun _ _ => ?_; (case T => assumption); (case h => with_unfolding_all walk_at "fa")) | (refine' fld_s ?T ?h fun _ _ => ?_; (case T => assumption); (case h => with_unfolding_all walk_at "fa")) | (refine' fld_n ?T ?h fun _ _ => ?_; (case T => assumption); (case h => with_unfolding_all walk_at "fa"))
  | refine Rd.rd_get2 ?_ | (refine' Rd.rd_getA ?ln ?_; (case ln => with_unfolding_all first | exact Or.inl (by walk_at "at") | exact Or.inr ⟨_, by walk_at "at"⟩)) | (refine' Rd.rd_getE ?ln ?_; (case ln => with_unfolding_all first | exact Or.inl (by walk_at "at") | exact Or.inr ⟨_, by walk_at "at"⟩)) | refine Rd.rd_daug ?_ | refine Rd.rd_items ?_ | refine Rd.rd_frz ?_ | refine Rd.rd_vals ?_ | refine Rd.rd_kw0 ?_ | refine Rd.rd_callN ?_
  | (refine' Rd.rd_isi (Rd.isi_tup ?ln Rd.kk_tup_tup) ?_; (case ln => with_unfolding_all walk_at "at")) | refine Rd.rd_isi (Rd.isi_str (b := true) kk_str_str) ?_)
local macro_rules | `(tactic| walk_at "st") => `(tactic| (simp only [List.map_cons, List.map_nil, L2.wipe, List.set_cons_zero, List.set_cons_succ]; walk_at "rd"; refine ⟨rfl, ?_⟩; walk_at "rd"))
/-! ### a graph tells what a plain one has -/
abbrev s__law_told_right : Stmt := top 38
theorem sc__law_told_right : FnScope ["_law_thing", "_law_plain", "_law_outside", "_law_inside", "_law_sizes", "_law_row", "_law_value"] ["_law_thing", "_law_plain"] (defScope s__law_told_right) := ⟨rfl, rfl, rfl, by decide +kernel, rfl, by decide +kernel, by decide +kernel⟩
def rAdd6 : R2 := fun x y H Q => ∃ i j, x = .str i ∧ y = .str j ∧ i.length + j.length ≤ sizeLine ∧ Q (.str (i ++ j)) H
theorem op_add6 {X : Cx} : OpR X (binaryOp .Add) rAdd6 := op_add_str
theorem rd_add6 {H : Hp} {Q : VK} {i j : Str} (h : i.length + j.length ≤ sizeLine) (q : Q (.str (i ++ j)) H) : rAdd6 (.str i) (.str j) H Q := ⟨i, j, rfl, rfl, h, q⟩
section
variable {K : PySem.W.Frag} {σ : L2.St} {H : Hp} {Q : VK} {g : TG} {te : TE} {tt : TT} {vs : List Nat} {a : Addr}
theorem lc_rel6 {α : Type} {J : It} (zs : List α) (is : α → V → Hp → Prop) (pr : α → Bool) (R : α → V → Hp → Prop) (hR : ∀ z v H H', Kp H H' → R z v H → R z v H') (hz : zs.length ≤ 100000)
    (go : ∀ i H1, i < zs.length → Same H H1 → J.go i H1) (stop : ∀ H1, Same H H1 → J.stop zs.length H1) (yld : ∀ i H1 x H2 z, zs[i]? = some z → Same H H1 → J.yld i H1 x H2 → Same H1 H2 ∧ is z x H2)
    (step : ∀ z x H1 (N : Hp → Prop) (M : V → Hp → Prop), z ∈ zs → Same H H1 → is z x H1 → (pr z = false → ∀ H2, Same H1 H2 → N H2) → (pr z = true → ∀ v H2, Same H1 H2 → R z v H2 → M v H2) →
      g x (wipe σ vs) H1 fun σ2 H2 => wipe σ2 vs = wipe σ vs ∧ tt σ2 H2 fun b H3 => if b = true then te σ2 H3 M else N H3)
    (done : ∀ D H' us, H D = none → Same H H' → H' D = some (.lst us) → Paired (fun v z => R z v H') us (zs.filter pr) → Q (.ref D) H') : Rd.rLc g tt te vs σ Q J H := by
  intro D hD
  let Pv : Nat → Hp → Prop := fun i H1 => Same H H1 ∧ ∃ us, H1 D = some (.lst us) ∧ Paired (fun v z => R z v H1) us ((zs.take i).filter pr)
  refine ⟨fun i m H1 => m = zs.length - i ∧ i ≤ zs.length ∧ Pv i H1, ⟨zs.length, by simp, Nat.zero_le _, Rd.same_new hD, [], by rw [upd_same], .nil⟩, ?_⟩
  rintro i m H1 ⟨rfl, hi, s1, us, hd1, hP⟩
  by_cases hlt : i < zs.length
  · refine .inr ⟨go i H1 hlt s1, Pv (i + 1), fun H' p' => ⟨zs.length - (i + 1), by omega, rfl, hlt, p'⟩, fun x H' y => ?_⟩
    have ez : zs[i]? = some zs[i] := List.getElem?_eq_getElem hlt
    obtain ⟨s2, hx⟩ := yld i H1 x H' _ ez s1 y
    have et : (zs.take (i + 1)).filter pr = (zs.take i).filter pr ++ (if pr zs[i] = true then [zs[i]] else []) := by
      rw [List.take_add_one, ez, List.filter_append]
      congr 1
      show ([zs[i]] : List α).filter pr = _
      by_cases hp : pr zs[i] = true
      · rw [if_pos hp, List.filter_cons, if_pos hp]; rfl
      · rw [if_neg hp, List.filter_cons, if_neg hp]; rfl
    refine step zs[i] x H' _ _ (List.getElem_mem hlt) (s1.trans s2) hx (fun hp H2 s3 => ?_) (fun hp v H2 s3 hv => ?_)
    · refine ⟨(s1.trans s2).trans s3, us, s3 _ _ (s2 _ _ hd1), ?_⟩
      rw [et, if_neg (by rw [hp]; exact Bool.false_ne_true), List.append_nil]
      exact L2.Paired.mapP hP fun _ _ q => hR _ _ _ _ (kpS (s2.trans s3)) q
    · have h2D := s3 _ _ (s2 _ _ hd1)
      have lu : us.length ≤ 100000 := by
        rw [hP.length]
        exact Nat.le_trans (List.length_filter_le _ _) (Nat.le_trans (by rw [List.length_take]; exact Nat.min_le_right _ _) hz)
      have kp : Kp H2 (upd H2 D (.lst (us ++ [v]))) := kp_upd h2D rfl
      refine ⟨_, h2D, Nat.lt_of_le_of_lt lu (by decide), same_mut ((s1.trans s2).trans s3) hD, us ++ [v], upd_same, ?_⟩
      rw [et, if_pos hp]
      exact paired_app (L2.Paired.mapP hP fun _ _ q => hR _ _ _ _ ((kpS (s2.trans s3)).trans kp) q) (.cons (hR _ _ _ _ kp hv) .nil)
  · obtain rfl : i = zs.length := by omega
    rw [List.take_length] at hP
    exact .inl ⟨stop H1 s1, done D H1 us hD s1 hd1 hP⟩
theorem lc_relT6 {α : Type} (zs : List α) (val : α → V) (pr : α → Bool) (R : α → V → Hp → Prop) (hR : ∀ z v H H', Kp H H' → R z v H → R z v H') (hz : zs.length ≤ 100000) (hS : SqT K H a (zs.map val))
    (step : ∀ z H1 (N : Hp → Prop) (M : V → Hp → Prop), z ∈ zs → Same H H1 → (pr z = false → ∀ H2, Same H1 H2 → N H2) → (pr z = true → ∀ v H2, Same H1 H2 → R z v H2 → M v H2) →
      g (val z) (wipe σ vs) H1 fun σ2 H2 => wipe σ2 vs = wipe σ vs ∧ tt σ2 H2 fun b H3 => if b = true then te σ2 H3 M else N H3)
    (done : ∀ D H' us, H D = none → Same H H' → H' D = some (.lst us) → Paired (fun v z => R z v H') us (zs.filter pr) → Q (.ref D) H') : Rd.rLc g tt te vs σ Q (Itt K a) H := by
  refine lc_rel6 zs (fun z v _ => v = val z) pr R hR hz (fun i H1 hi s1 => ?_) (fun H1 s1 => ?_) (fun i H1 x H2 z et s1 y => ?_) (fun z x H1 N M hz1 s1 hx hN hM => ?_) done
  · exact ⟨_, val zs[i], Rd.Same.sqT s1 hS, by rw [List.getElem?_map, List.getElem?_eq_getElem hi]; rfl⟩
  · exact ⟨_, Rd.Same.sqT s1 hS, by rw [List.length_map]; exact Nat.le_refl _⟩
  · obtain ⟨rfl, y⟩ := y
    have e := y _ (Rd.Same.sqT s1 hS)
    rw [List.getElem?_map, et] at e
    exact ⟨Same.refl _, (Option.some.inj e).symm⟩
  · subst hx
    exact step z H1 N M hz1 s1 hN hM
end
/-- counters, states, rows -/
def gD (G : Gr) : PyData := .list [.tuple (G.cs.map PyData.str), .tuple (G.ns.map PyData.str), .tuple (G.ts.map trP)]
theorem shw_gD {G : Gr} (GO : GOk G) : Shw 5 6000 (gD G) := by
  have a := shw_names GO.cN (Nat.le_trans GO.c5 (by decide))
  have b := shw_names GO.nN (Nat.le_trans GO.n8 (by decide))
  have c := shw_rows GO.tO GO.t16
  refine ⟨?_, ?_, ?_, ?_⟩
  · show (PyData.showable (.tuple (G.cs.map PyData.str)) && (PyData.showable (.tuple (G.ns.map PyData.str)) && (PyData.showable (.tuple (G.ts.map trP)) && true))) = true
    rw [a.sh, b.sh, c.sh]; rfl
  · show max (PyData.depth (.tuple (G.cs.map PyData.str))) (max (PyData.depth (.tuple (G.ns.map PyData.str))) (max (PyData.depth (.tuple (G.ts.map trP))) 0)) + 1 ≤ 5
    have := a.dp
    have := b.dp
    have := c.dp
    omega
  · show (PyData.leavesShort 300 (.tuple (G.cs.map PyData.str)) && (PyData.leavesShort 300 (.tuple (G.ns.map PyData.str)) && (PyData.leavesShort 300 (.tuple (G.ts.map trP)) && true))) = true
    rw [a.lf, b.lf, c.lf]; rfl
  · show PyData.weight (.tuple (G.cs.map PyData.str)) + 1 + (PyData.weight (.tuple (G.ns.map PyData.str)) + 1 + (PyData.weight (.tuple (G.ts.map trP)) + 1 + 0)) ≤ 6000
    have := a.wt
    have := b.wt
    have := c.wt
    omega
theorem shaped_rows6 {ts : List Tr} (h : ∀ t ∈ ts, TrOk t) : SeqAt.shaped (.list (ts.map trP)) = true := by
  obtain ⟨c1, c2⟩ := can_all trP 3 ts fun t ht => can_tr (h t ht)
  exact shaped_of (n := 4) ⟨c1, Nat.succ_le_succ c2⟩ (by decide)
theorem rd_neRows {K : PySem.W.Frag} {H : Hp} {Q : VK} {p q : Addr} {us vs : List Addr} {ts : List Tr} (tO : ∀ t ∈ ts, TrOk t) (h1 : SqL K H p (us.map V.ref)) (P1 : Paired (RowAt K H) us ts) (h2 : SqL K H q (vs.map V.ref)) (P2 : Paired (RowAt K H) vs ts) (k : Q (.bl false) H) : rNeD K (.ref p) (.ref q) H Q := by
  have sh := shaped_rows6 tO
  refine Rd.rd_neD (.lst h1 (Rd.DtAll.dp _ _ (dt_paired (fun _ _ q => q.dt) P1))) (.lst h2 (Rd.DtAll.dp _ _ (dt_paired (fun _ _ q => q.dt) P2))) sh sh ?_
  rw [SeqAt.eqv_refl _ (SeqAt.canLay_of_shaped sh)]
  exact k
/-- v is the name of a transition -/
def inB (ns : List Str) (v : V) : Bool := match v with
  | .str z => decide (z ∈ ns)
  | _ => false
theorem flat_rep {α : Type} (x : α) : ∀ n, (List.replicate n [x]).flatten = List.replicate n x
  | 0 => rfl
  | n + 1 => by rw [List.replicate_succ, List.flatten_cons, flat_rep x n, List.replicate_succ]; rfl
theorem map_rep {α β : Type} (f : α → β) (b : β) : ∀ l : List α, (∀ x ∈ l, f x = b) → l.map f = List.replicate l.length b
  | [], _ => rfl
  | x :: l, h => by rw [List.map_cons, h x List.mem_cons_self, map_rep f b l fun y hy => h y (List.mem_cons_of_mem _ hy), List.length_cons, List.replicate_succ]
theorem dp_bools {K : PySem.W.Frag} {H : Hp} : ∀ l : List Bool, DpAll K H (l.map V.bl) (l.map PyData.bool)
  | [] => .nil
  | b :: l => .cons (.bl b) (dp_bools l)
theorem can_bools : ∀ l : List Bool, PyData.canLayAll0 (l.map PyData.bool) = true ∧ PyData.depthAll (l.map PyData.bool) ≤ 0
  | [] => ⟨rfl, Nat.le_refl _⟩
  | b :: l => ⟨by
      show (PyData.canLay0 (.bool b) && PyData.canLayAll0 (l.map PyData.bool)) = true
      rw [(can_bools l).1]; rfl, Nat.max_le.mpr ⟨Nat.le_refl _, (can_bools l).2⟩⟩
theorem shaped_bools (l : List Bool) : SeqAt.shaped (.list (l.map PyData.bool)) = true := shaped_of (n := 1) ⟨(can_bools l).1, Nat.succ_le_succ (can_bools l).2⟩ (by decide)
theorem none_ok : ("none" : Str) ∉ words := by decide +kernel
def pairD (t : Tr) : PyData := .tuple [trP t, trP t]
theorem shaped_pairs {ts : List Tr} (h : ∀ t ∈ ts, TrOk t) : SeqAt.shaped (.list (ts.map pairD)) = true := by
  obtain ⟨c1, c2⟩ := can_all pairD 4 ts fun t ht => by
    obtain ⟨a, b⟩ := can_tr (h t ht)
    refine ⟨?_, ?_⟩
    · show (PyData.canLay0 (trP t) && (PyData.canLay0 (trP t) && true)) = true
      rw [a]; rfl
    · show max (trP t).depth (max (trP t).depth 0) + 1 ≤ 4
      omega
  exact shaped_of (n := 5) ⟨c1, Nat.succ_le_succ c2⟩ (by decide)
theorem dt_zip {K : PySem.W.Frag} {H : Hp} : ∀ {us vs ts : List Addr} {trs : List Tr}, Paired (RowAt K H) us trs → Paired (RowAt K H) vs trs → Paired (fun (t : Addr) (q : V × V) => SqT K H t [q.1, q.2]) ts ((us.map V.ref).zip (vs.map V.ref)) → Rd.DtAll K H (ts.map V.ref) (trs.map pairD)
  | _, _, _, _, .nil, .nil, .nil => .nil
  | _, _, _, _, .cons r1 t1, .cons r2 t2, .cons r3 t3 => .cons (.tup r3 (.cons r1.dt (.cons r2.dt .nil))) (dt_zip t1 t2 t3)
theorem dt_twice {K : PySem.W.Frag} {H : Hp} : ∀ {ps rs : List Addr} {trs : List Tr}, Paired (RowAt K H) rs trs → Paired (fun (p : Addr) (r : Addr) => SqT K H p [V.ref r, V.ref r]) ps rs → Rd.DtAll K H (ps.map V.ref) (trs.map pairD)
  | _, _, _, .nil, .nil => .nil
  | _, _, _, .cons r1 t1, .cons r3 t3 => .cons (.tup r3 (.cons r1.dt (.cons r1.dt .nil))) (dt_twice t1 t3)
theorem drop2 {H : Hp} {i j : Addr} {u v : HO} (h1 : H i = none) (h2 : upd H i u j = none) : ItX.dropH (ItX.dropH (upd (upd H i u) j v) i) j = H := by
  have ne : j ≠ i := fun z => by rw [z, upd_same] at h2; cases h2
  have h3 : H j = none := by rwa [upd_ne ne] at h2
  funext b
  by_cases hb : b = j
  · rw [hb, ItX.dropH_same, h3]
  · rw [ItX.dropH_ne hb]
    by_cases hi : b = i
    · rw [hi, ItX.dropH_same, h1]
    · rw [ItX.dropH_ne hi, upd_ne hb, upd_ne hi]
theorem str_assoc (x y z : Str) : x ++ y ++ z = x ++ (y ++ z) := by
  cases x; cases y; cases z
  exact congrArg Str.mk (Array.append_assoc)
theorem str_empty (x : Str) : Str.empty ++ x = x := by
  cases x
  exact congrArg Str.mk (Array.empty_append)
theorem str_cc : (" counters, " : Str) = (" counters" : Str) ++ (", " : Str) := by decide +kernel
def sizesT (G : Gr) : Str := strI G.ns.length ++ (" states, " : Str) ++ strI G.cs.length ++ (" counters, " : Str)
theorem graphT_eq (G : Gr) : ("graph of " : Str) ++ sizesT G ++ strI G.ts.length ++ (" transitions" : Str) = graphT G := by
  unfold graphT sizesT
  rw [str_cc, str_empty, str_empty]
  simp only [str_assoc]
def spTold (K : PySem.W.Frag) (C : Addr) : Sp := Rd.mkSp (fun (a : Addr × Addr × Gr) => [.ref a.1, .ref a.2.1]) fun a H Q _ => GraphAt K C H a.1 a.2.2 ∧ PlainAt K H a.2.1 a.2.2 ∧ GOk a.2.2 ∧ DrL a.2.2 ∧ ∀ H', Same H H' → Q (.bl true) H'
section
variable {gd : Bool} {P : Program} {w : World} {K : PySem.W.Frag} {mg : Str → Option Value} {base : Heap} {a : AdsG} {d : AdsH}
set_option maxHeartbeats 40000000 in
theorem ok_told (T : GraphC K mg a) (D : GraphH K a.C d) (F : Rd.Has K mg "_law_told_right" s__law_told_right) (g : Glob mg) (c_counters : FnR P w K mg base CX0 1 a.gc (spGCnt K a.C (·.cs))) (c_states : FnR P w K mg base CX0 1 a.gs (spGCnt K a.C (·.ns))) (c_names : FnR P w K mg base CX0 1 a.gn (spGNames K a.C)) (c_transitions : FnR P w K mg base CX0 1 a.gt (spGTrans K a.C)) (c_get : FnR P w K mg base CX0 2 a.gi (spGGet K a.C)) (c_in : FnR P w K mg base CX0 1 d.ct (spGIn K a.C)) (c_len : FnR P w K mg base CX0 1 d.ln (spGLen K a.C)) (c_str : FnR P w K mg base CX0 1 d.st (spGStr K a.C)) (c_iter : ∀ base : Heap, FnR P w K mg base CX0 1 d.it (spGIter K a.C base.objs.size)) :
    Rd.Fn true P w K mg base CX0 6 "_law_told_right" (spTold K a.C) := by
  refine F.fn sc__law_told_right (fun _ => rfl) (fun _ _ _ _ _ _ us hl => match us, hl with | [_, _], _ => rfl) fun f cdv A outer s H Q E b hr h => ?_
  obtain ⟨x, p, G⟩ := b
  obtain ⟨hx, hp, GO, DR, k⟩ := h
  dsimp only at hx hp GO DR k
  refine ⟨_, (pss_cons (ps_if (pt_cmpR op_ne (pe_callB (Rd.c_reprD hr.gd (hu64 hr)) (by rfl) g.repr (by decide +kernel) (pa_cons (Rd.pe_lst (pa_cons (Rd.pe_propR (pv 0) T.cl T.pr_c c_counters (hr.mono (by decide)).toRoom pass0) (pa_cons (Rd.pe_propR (pv 0) T.cl T.pr_s c_states (hr.mono (by decide)).toRoom pass0) (pa_cons (Rd.pe_propR (pv 0) T.cl T.pr_t c_transitions (hr.mono (by decide)).toRoom pass0) pa_nil)))) pa_nil)) (pe_callB (Rd.c_reprD hr.gd (hu64 hr)) (by rfl) g.repr (by decide +kernel) (pa_cons (Rd.pe_lst (pa_cons (pe_ix ix_tup (pv 1) pe_int (fun _ _ => rfl)) (pa_cons (pe_ix ix_tup (pv 1) pe_int (fun _ _ => rfl)) (pa_cons (pe_ix ix_tup (pv 1) pe_int (fun _ _ => rfl)) pa_nil)))) pa_nil)) (nomark _)) (pss_one (ps_ret pe_bl)) pss_nil)
      (pss_cons (ps_if (PW.pt (pw_or (pt_cmpR op_ne (pe_callB (Rd.c_reprD hr.gd (hu64 hr)) (by rfl) g.repr (by decide +kernel) (pa_cons (Rd.pe_propR (pv 0) T.cl T.pr_n c_names (hr.mono (by decide)).toRoom pass0) pa_nil)) (pe_callB (Rd.c_reprD hr.gd (hu64 hr)) (by rfl) g.repr (by decide +kernel) (pa_cons (pe_callTy Rd.c_tuple (by rfl) g.tuple (by decide +kernel) (pa_cons (pe_lc (own := [("_law_row", 5)]) (by rfl) sc__law_told_right.nd (pi_tup (pe_ix ix_tup (pv 1) pe_int (fun _ _ => rfl))) (blkOk_by (own := [("_law_row", 5)]) (N := ["_law_thing", "_law_plain", "_law_outside", "_law_inside", "_law_sizes", "_law_row", "_law_value"]) (sc := defScope s__law_told_right) (by decide +kernel)) (fun _ _ _ _ _ => (pg_name (i := 5) sc__law_told_right.nd rfl (Or.inl rfl))) (fun _ _ _ _ _ => pts_nil) (fun _ _ _ _ _ => (pe_ix (Rd.ix_tupK (K := K) (by rfl)) (pv 5) pe_int (fun _ _ => rfl)))) pa_nil)) pa_nil)) (nomark _)) (pw_or1 (pt_cmpR (op_neD hr.units) (pe_lc (own := [("_law_row", 5)]) (by rfl) sc__law_told_right.nd (Rd.pi_own (pv 0) D.it c_iter (hr.mono (by decide)).toRoom) (blkOk_by (own := [("_law_row", 5)]) (N := ["_law_thing", "_law_plain", "_law_outside", "_law_inside", "_law_sizes", "_law_row", "_law_value"]) (sc := defScope s__law_told_right) (by decide +kernel)) (fun _ _ _ _ _ => (pg_name (i := 5) sc__law_told_right.nd rfl (Or.inl rfl))) (fun _ _ _ _ _ => pts_nil) (fun _ _ _ _ _ => (pv 5))) (pe_callTy Rd.c_list (by rfl) g.list (by decide +kernel) (pa_cons (pe_ix ix_tup (pv 1) pe_int (fun _ _ => rfl)) pa_nil)) (nomark _))))) (pss_one (ps_ret pe_bl)) pss_nil)
      (pss_cons (ps_if (PW.pt (pw_or (pt_cmpR (op_neD hr.units) (pe_lc (own := [("_law_row", 5)]) (by rfl) sc__law_told_right.nd (pi_tup (pe_ix ix_tup (pv 1) pe_int (fun _ _ => rfl))) (blkOk_by (own := [("_law_row", 5)]) (N := ["_law_thing", "_law_plain", "_law_outside", "_law_inside", "_law_sizes", "_law_row", "_law_value"]) (sc := defScope s__law_told_right) (by decide +kernel)) (fun _ _ _ _ _ => (pg_name (i := 5) sc__law_told_right.nd rfl (Or.inl rfl))) (fun _ _ _ _ _ => pts_nil) (fun _ _ _ _ _ => (Rd.pe_ixO T.gi T.gif T.gin c_get (hr.mono (by decide)).toRoom pass0 (pv 0) (pe_ix (Rd.ix_tupK (K := K) (by rfl)) (pv 5) pe_int (fun _ _ => rfl)) (fun _ _ => rfl)))) (pe_callTy Rd.c_list (by rfl) g.list (by decide +kernel) (pa_cons (pe_ix ix_tup (pv 1) pe_int (fun _ _ => rfl)) pa_nil)) (nomark _)) (pw_or1 (pt_cmpR op_ne (pe_callB (Rd.c_lenO D.ln D.lnf c_len (hr.mono (by decide)).toRoom pass0) (by rfl) g.len (by decide +kernel) (pa_cons (pv 0) pa_nil)) (pe_callB Rd.c_len (by rfl) g.len (by decide +kernel) (pa_cons (pe_ix ix_tup (pv 1) pe_int (fun _ _ => rfl)) pa_nil)) (nomark _))))) (pss_one (ps_ret pe_bl)) pss_nil)
      (pss_cons (ps_set (i := 2) sc__law_told_right.nd rfl (Or.inl rfl) (pe_op op_cat (pe_callTy Rd.c_list (by rfl) g.list (by decide +kernel) (pa_cons (pe_ix ix_tup (pv 1) pe_int (fun _ _ => rfl)) pa_nil)) (Rd.pe_lst (pa_cons pe_non (pa_cons pe_int (pa_cons (Rd.pe_tupF pa_nil) (pa_cons (Rd.pe_lst pa_nil) (pa_cons pe_str (pa_cons (Rd.pe_tup (pa_cons pe_str pa_nil)) (pa_cons pe_dnewK (pa_cons (Rd.pe_tup (pa_cons (Rd.pe_lst (pa_cons pe_str pa_nil)) pa_nil)) (pa_cons (Rd.pe_tup (pa_cons pe_dnewK pa_nil)) (pa_cons (pe_op op_pow pe_int pe_int) pa_nil)))))))))))))
      (pss_cons (ps_setLc (i := 3) (own := [("_law_value", 6)]) (by rfl) sc__law_told_right.nd rfl rfl (sw_true rfl rfl rfl (by decide +kernel)) (pi_list (pe_op op_cat (pe_callTy Rd.c_list (by rfl) g.list (by decide +kernel) (pa_cons (Rd.pe_propR (pv 0) T.cl T.pr_n c_names (hr.mono (by decide)).toRoom pass0) pa_nil)) (pv 2))) (blkOk_by (own := [("_law_value", 6)]) (N := ["_law_thing", "_law_plain", "_law_outside", "_law_inside", "_law_sizes", "_law_row", "_law_value"]) (sc := defScope s__law_told_right) (by decide +kernel)) (fun _ _ _ _ _ => (pg_name (i := 6) sc__law_told_right.nd rfl (Or.inl rfl))) (fun _ _ _ _ _ => pts_nil) (fun _ _ _ _ _ => (pe_cmpR (Rd.op_inO D.ct D.ctf c_in (hr.mono (by decide)).toRoom pass0) (pv 6) (pv 0) (by rfl))))
      (pss_cons (ps_if (PW.pt (pw_or (pt_cmpR (op_neD hr.units) (pv 3) (pe_op op_cat (pe_op op_rep (Rd.pe_lst (pa_cons pe_bl pa_nil)) (pe_callB Rd.c_len (by rfl) g.len (by decide +kernel) (pa_cons (pe_ix ix_tup (pv 1) pe_int (fun _ _ => rfl)) pa_nil))) (pe_op op_rep (Rd.pe_lst (pa_cons pe_bl pa_nil)) (pe_callB Rd.c_len (by rfl) g.len (by decide +kernel) (pa_cons (pv 2) pa_nil)))) (nomark _)) (pw_or1 (pt_cmpR op_ne (pe_callTy (Rd.c_boolO D.bo D.ln D.lnf c_len (hr.mono (by decide)).toRoom pass0) (by rfl) g.bool (by decide +kernel) (pa_cons (pv 0) pa_nil)) (pe_cmpR (op_neD hr.units) (pe_ix ix_tup (pv 1) pe_int (fun _ _ => rfl)) (Rd.pe_tupF pa_nil) (nomark _)) (nomark _))))) (pss_one (ps_ret pe_bl)) pss_nil)
      (pss_cons (ps_if (pt_cmpR (op_neD hr.units) (Rd.pe_listZipO D.it c_iter (hr.mono (by decide)).toRoom rfl (by rfl) g.list (by decide +kernel) (by rfl) g.zip (pa_cons (pv 0) (pa_cons (pv 0) pa_nil))) (pe_lc (own := [("_law_row", 5)]) (by rfl) sc__law_told_right.nd (pi_tup (pe_ix ix_tup (pv 1) pe_int (fun _ _ => rfl))) (blkOk_by (own := [("_law_row", 5)]) (N := ["_law_thing", "_law_plain", "_law_outside", "_law_inside", "_law_sizes", "_law_row", "_law_value"]) (sc := defScope s__law_told_right) (by decide +kernel)) (fun _ _ _ _ _ => (pg_name (i := 5) sc__law_told_right.nd rfl (Or.inl rfl))) (fun _ _ _ _ _ => pts_nil) (fun _ _ _ _ _ => (Rd.pe_tup (pa_cons (pv 5) (pa_cons (pv 5) pa_nil))))) (nomark _)) (pss_one (ps_ret pe_bl)) pss_nil)
      (pss_cons (ps_set (i := 4) sc__law_told_right.nd rfl (Or.inl rfl) (pe_op op_add6 (pe_op op_add6 (pe_op op_add6 (pe_callTy Rd.c_strI (by rfl) g.str (by decide +kernel) (pa_cons (pe_callB Rd.c_len (by rfl) g.len (by decide +kernel) (pa_cons (pe_ix ix_tup (pv 1) pe_int (fun _ _ => rfl)) pa_nil)) pa_nil)) pe_str) (pe_callTy Rd.c_strI (by rfl) g.str (by decide +kernel) (pa_cons (pe_callB Rd.c_len (by rfl) g.len (by decide +kernel) (pa_cons (pe_ix ix_tup (pv 1) pe_int (fun _ _ => rfl)) pa_nil)) pa_nil))) pe_str))
      (pss_one (ps_ret (pe_cmpR op_eq (pe_callTy (Rd.c_strO D.st D.stf c_str (hr.mono (by decide)).toRoom pass0) (by rfl) g.str (by decide +kernel) (pa_cons (pv 0) pa_nil)) (pe_op op_add6 (pe_op op_add6 (pe_op op_add6 pe_str (pv 4)) (pe_callTy Rd.c_strI (by rfl) g.str (by decide +kernel) (pa_cons (pe_callB Rd.c_len (by rfl) g.len (by decide +kernel) (pa_cons (pe_ix ix_tup (pv 1) pe_int (fun _ _ => rfl)) pa_nil)) pa_nil))) pe_str) (nomark _)))))))))))), ?_⟩
  try simp only [Rd.noxK, Rd.cxK]
  refine Rd.rd_start [some (V.ref x), some (V.ref p), none, none, none, none, none] rfl ?_
  obtain ⟨c, n, t, h0, hC, hN, hT⟩ := id hp
  have S := shw_gD GO
  have ix := hx.ins
  obtain ⟨dx, pc, ps, pt, pn, pr, ix⟩ := ix
  have l5 := GO.c5
  have l8 := GO.n8
  have l16 := GO.t16
  have SN : Shw 1 360 (.tuple ((G.ts.map (·.nm)).map PyData.str)) := shw_names (fun z hz => by
    obtain ⟨t, ht, rfl⟩ := List.mem_map.mp hz
    exact (GO.tO t ht).1) (by rw [List.length_map]; omega)
  walk_at "rd"
  refine ⟨x, dx, _, rfl, ix, Rd.rd_sp (x, G) rfl ⟨hx, fun qc hqc => ?_⟩⟩
  walk_at "rd"
  refine ⟨x, dx, _, rfl, ix, Rd.rd_sp (x, G) rfl ⟨hx, fun qs hqs => ?_⟩⟩
  walk_at "rd"
  refine ⟨x, dx, _, rfl, ix, Rd.rd_sp (x, G) rfl ⟨hx, fun qt hqt => ?_⟩⟩
  dsimp only at hqc hqs hqt
  walk_at "rd"
  rename_i l1 H1 nl1 s1 h1
  refine Rd.rd_reprD (.lst (SqL.of h1) (.cons (hqc.kp (kpS s1)).dt.dp (.cons (hqs.kp (kpS s1)).dt.dp (.cons (hqt.kp (kpS s1)).dt.dp .nil)))) S.sh (Nat.le_trans S.dp (by decide)) (S.len (by decide)) ?_
  have h01 := Rd.Same.sqT s1 h0
  walk_at "rd"
  rename_i l2 H2 nl2 s2 h2
  have s02 := s1.trans s2
  refine Rd.rd_reprD (.lst (SqL.of h2) (.cons (hC.kp (kpS s02)).dt.dp (.cons (hN.kp (kpS s02)).dt.dp (.cons (hT.kp (kpS s02)).dt.dp .nil)))) S.sh (Nat.le_trans S.dp (by decide)) (S.len (by decide)) ?_
  walk_at "rd"
  refine Rd.if_f (by simp) ?_
  clear hqc hqs hqt h1 h01 h2
  have hx2 := hx.same s02
  have ix2 := s02 _ _ ix
  have hp2 := hp.kp (kpS s02)
  obtain ⟨rs, hS, hP⟩ := hT.kp (kpS s02)
  have h02 := Rd.Same.sqT s02 h0
  walk_at "rd"
  refine ⟨x, dx, _, rfl, ix2, Rd.rd_sp (x, G) rfl ⟨hx2, fun qn hqn => ?_⟩⟩
  dsimp only at hqn
  walk_at "rd"
  refine Rd.rd_reprD (Rd.Dt.dp _ _ hqn.dt) SN.sh (Nat.le_trans SN.dp (by decide)) (SN.len (by decide)) ?_
  walk_at "rd"
  refine lc_rows (fun t => V.str t.nm) (by omega) hS hP (fun t r H3 M ht s3 hr1 hM => ?_) (fun D3 H3 hD3 s3 h3 => ?_)
  · obtain ⟨cc, hrow, _⟩ := hr1
    refine Rd.rd_start' [some (V.ref x), some (V.ref p), none, none, none, none, none] rfl ?_
    walk_at "rd"
    refine ⟨rfl, ?_⟩
    walk_at "rd"
    exact hM _ (Same.refl _)
  have e3 : G.ts.map (fun t => V.str t.nm) = (G.ts.map (·.nm)).map V.str := by rw [List.map_map]; rfl
  rw [e3] at h3
  walk_at "rd"
  rename_i q4 H4 nq4 s4 h4
  have hq4 : TxT K H4 q4 (G.ts.map (·.nm)) := SqT.of h4
  refine Rd.rd_reprD (Rd.Dt.dp _ _ hq4.dt) SN.sh (Nat.le_trans SN.dp (by decide)) (SN.len (by decide)) ?_
  walk_at "rd"
  refine Rd.if_f (by simp) ?_
  clear hqn h3 h4 hq4 nq4
  have s24 := s3.trans s4
  have s04 := s02.trans s24
  have hx4 := hx.same s04
  have ix4 := s04 _ _ ix
  have h04 := Rd.Same.sqT s04 h0
  have hS4 := Rd.Same.sqT s24 hS
  have hP4 : Paired (RowAt K H4) rs G.ts := L2.Paired.mapP hP fun _ _ z => z.kp (kpS s24)
  have lr : rs.length = G.ts.length := hP4.length
  clear hx2 ix2 hp2 h02 hS hP
  walk_at "rd"
  refine ⟨x, rfl, ⟨dx, _, ix4⟩, fun n5 => Rd.rd_sp (x, G) rfl ⟨hx4, fun it q5 us5 hq5 hP5 hi1 hi2 => ⟨it, q5, rfl, hi2, upd_same, ?_⟩⟩⟩
  rw [ItX.dropH_upd hi1]
  have lu5 : us5.length = G.ts.length := hP5.length
  refine Rd.lc_tup (K := K) (xs := us5.map V.ref) (fun v => v) (by rw [List.length_map]; omega) hq5 (fun v H5 M hv s5 hM => ?_) (fun l5 H5 nl5 s5 h5 => ?_)
  · refine Rd.rd_start' [some (V.ref x), some (V.ref p), none, none, none, none, none] rfl ?_
    walk_at "rd"
    refine ⟨rfl, ?_⟩
    walk_at "rd"
    exact hM _ (Same.refl _)
  rw [List.map_id'] at h5
  have hS5 := Rd.Same.sqT s5 hS4
  have h05 := Rd.Same.sqT s5 h04
  walk_at "rd"
  rename_i l6 H6 nl6 s6 h6
  refine rd_neRows GO.tO (SqL.of (s6 _ _ h5)) (L2.Paired.mapP hP5 fun _ _ z => z.kp (kpS (s5.trans s6))) (SqL.of h6) (L2.Paired.mapP hP4 fun _ _ z => z.kp (kpS (s5.trans s6))) ?_
  walk_at "rd"
  refine Rd.if_f rfl ?_
  have s46 := s5.trans s6
  have hx6 := hx4.same s46
  have ix6 := s46 _ _ ix4
  have h06 := Rd.Same.sqT s46 h04
  have hS6 := Rd.Same.sqT s46 hS4
  have hP6 : Paired (RowAt K H6) rs G.ts := L2.Paired.mapP hP4 fun _ _ z => z.kp (kpS s46)
  clear hx4 ix4 h04 hS4 hP4 hq5 hP5 h5 h6 h05 hS5 hi1 hi2
  walk_at "rd"
  refine lc_rel6 (G.ts) (fun t v H => ∃ r, v = .ref r ∧ RowAt K H r t) (fun _ => true) (fun t v H => ∃ r, v = .ref r ∧ RowAt K H r t) (fun t v H H' kk q => let ⟨r, e, q⟩ := q; ⟨r, e, q.kp kk⟩) (by omega) (fun i H7 hi s7 => ?_) (fun H7 s7 => ?_) (fun i H7 v H8 t et s7 y => ?_) (fun t v H7 N M ht s7 hv hN hM => ?_) (fun l7 H7 us7 nl7 s7 h7 hP7 => ?_)
  · exact ⟨_, V.ref (rs[i]'(by omega)), Rd.Same.sqT s7 hS6, by rw [List.getElem?_map, List.getElem?_eq_getElem (by omega)]; rfl⟩
  · exact ⟨_, Rd.Same.sqT s7 hS6, by rw [List.length_map]; omega⟩
  · obtain ⟨rfl, y⟩ := y
    have e := y _ (Rd.Same.sqT s7 hS6)
    rw [List.getElem?_map] at e
    obtain ⟨r, hr, rfl⟩ := Option.map_eq_some_iff.mp e
    obtain ⟨t', ht', q⟩ := paired_get hP6 hr
    rw [ht'] at et
    cases et
    exact ⟨Same.refl _, r, rfl, q.kp (kpS s7)⟩
  · obtain ⟨r, rfl, cc, hrow, _⟩ := hv
    refine Rd.rd_start' [some (V.ref x), some (V.ref p), none, none, none, none, none] rfl ?_
    walk_at "rd"
    refine ⟨rfl, ?_⟩
    unfold tYes
    dsimp only
    rw [if_pos rfl]
    walk_at "rd"
    refine ⟨x, dx, _, rfl, s7 _ _ ix6, Rd.rd_sp (x, G, t) rfl ⟨hx6.same s7, GO, ht, fun r2 hr2 => ?_⟩⟩
    exact hM rfl _ _ (Same.refl _) ⟨r2, rfl, hr2⟩
  obtain ⟨us8, rfl, hP8⟩ : ∃ us8 : List Addr, us7 = us8.map V.ref ∧ Paired (RowAt K H7) us8 G.ts := by
    rw [List.filter_eq_self.mpr fun _ _ => rfl] at hP7
    clear h7
    generalize G.ts = zs at hP7
    induction hP7 with
    | nil => exact ⟨[], rfl, .nil⟩
    | cons r t ih =>
      obtain ⟨r2, rfl, hr2⟩ := r
      obtain ⟨us8, rfl, hP8⟩ := ih
      exact ⟨r2 :: us8, rfl, .cons hr2 hP8⟩
  have hS7 := Rd.Same.sqT s7 hS6
  have h07 := Rd.Same.sqT s7 h06
  walk_at "rd"
  rename_i l8 H8 nl8 s8 h8
  refine rd_neRows GO.tO (SqL.of (s8 _ _ h7)) (L2.Paired.mapP hP8 fun _ _ z => z.kp (kpS s8)) (SqL.of h8) (L2.Paired.mapP hP6 fun _ _ z => z.kp (kpS (s7.trans s8))) ?_
  walk_at "rd"
  refine Rd.if_f rfl ?_
  have s68 := s7.trans s8
  have hx8 := hx6.same s68
  have ix8 := s68 _ _ ix6
  have h08 := Rd.Same.sqT s68 h06
  have hS8 := Rd.Same.sqT s68 hS6
  have hP8' : Paired (RowAt K H8) rs G.ts := L2.Paired.mapP hP6 fun _ _ z => z.kp (kpS s68)
  clear hx6 ix6 h06 hS6 hP6 h7 h8 hP7 hP8 h07 hS7
  walk_at "rd"
  refine ⟨x, dx, _, rfl, ix8, Rd.rd_sp (x, G) rfl ⟨hx8, G.ts.length, rfl, by omega, ?_⟩⟩
  walk_at "rd"
  refine Rd.if_f (by rw [List.length_map, hP8'.length]; simp) ?_
  have s08 := s04.trans (s46.trans s68)
  have hC8 : SqT K H8 c (G.cs.map V.str) := hC.kp (kpS s08)
  walk_at "rd"
  rename_i l9 H9 nl9 s9 h9 p10 H10 np10 s10 h10 l11 H11 nl11 s11 h11 p12 H12 np12 s12 h12
  refine Rd.rd_dnew fun d13 H13 nd13 s13 h13 => ?_
  walk_at "rd"
  rename_i l14 H14 nl14 s14 h14 p15 H15 np15 s15 h15
  refine Rd.rd_dnew fun d16 H16 nd16 s16 h16 => ?_
  walk_at "rd"
  rename_i p17 H17 np17 s17 h17 l18 H18 nl18 s18 h18
  have t17 := s18
  have t16 := s17.trans t17
  have t15 := s16.trans t16
  have t14 := s15.trans t15
  have t13 := s14.trans t14
  have t12 := s13.trans t13
  have t11 := s12.trans t12
  have t10 := s11.trans t11
  have t9 := s10.trans t10
  have t8 := s9.trans t9
  refine Rd.rd_cat (t9 _ _ h9) h18 (by rw [List.length_map]; exact Rd.small64 (show G.cs.length + 10 ≤ _ by omega)) fun l19 H19 nl19 s19 h19 => ?_
  have u8 := t8.trans s19
  have hx19 := hx8.same u8
  have ix19 := u8 _ _ ix8
  have h019 := Rd.Same.sqT u8 h08
  have hS19 := Rd.Same.sqT u8 hS8
  have hP19 : Paired (RowAt K H19) rs G.ts := L2.Paired.mapP hP8' fun _ _ z => z.kp (kpS u8)
  have i10 : SqT K H19 p10 [] := (h10.same (t10.trans s19)).sq
  have i11 := (t11.trans s19) _ _ h11
  have i12 : SqT K H19 p12 _ := SqT.of ((t12.trans s19) _ _ h12)
  have i13 := (t13.trans s19) _ _ h13
  have i15 : SqT K H19 p15 _ := SqT.of ((t15.trans s19) _ _ h15)
  have i17 : SqT K H19 p17 _ := SqT.of ((t17.trans s19) _ _ h17)
  clear hx8 ix8 h08 hS8 hP8' t17 t16 t15 t14 t13 t12 t11 t10 t9 t8 h9 h10 h11 h12 h13 h14 h15 h16 h17 h18
  obtain ⟨outs, eo⟩ : ∃ outs : List V, outs = G.cs.map V.str ++ [V.non, V.int 7, V.ref p10, V.ref l11, V.str ("none" : Str), V.ref p12, V.ref d13, V.ref p15, V.ref p17, V.int (10 ^ Int.toNat 50)] := ⟨_, rfl⟩
  have lo : outs.length ≤ 15 := by rw [eo, List.length_append, List.length_map]; show G.cs.length + 10 ≤ 15; omega
  have h19' : H19 l19 = some (.lst outs) := by rw [eo]; exact h19
  clear h19
  walk_at "rd"
  refine ⟨x, dx, _, rfl, ix19, Rd.rd_sp (x, G) rfl ⟨hx19, fun qn hqn => ?_⟩⟩
  dsimp only at hqn
  have hqn' : SqT K H19 qn ((G.ts.map (·.nm)).map V.str) := hqn
  walk_at "rd"
  rename_i l20 H20 nl20 s20 h20
  refine Rd.rd_cat h20 (s20 _ _ h19') (by rw [List.length_map, List.length_map]; exact Rd.small64 (show G.ts.length + outs.length ≤ _ by omega)) fun l21 H21 nl21 s21 h21 => ?_
  walk_at "rd"
  obtain ⟨nms, en⟩ : ∃ nms, nms = G.ts.map (·.nm) := ⟨_, rfl⟩
  rw [← en] at h21
  have ln : nms.length = G.ts.length := by rw [en, List.length_map]
  have s1921 := s20.trans s21
  refine Rd.lc_lst (K := K) (xs := nms.map V.str ++ outs) (fun v => V.bl (inB nms v)) (by rw [List.length_append, List.length_map]; omega) (SqL.of h21) (fun v H22 M hv s22 hM => ?_) (fun l22 H22 nl22 s22 h22 => ?_)
  · refine Rd.rd_start' [some (V.ref x), some (V.ref p), some (V.ref l19), none, none, none, none] rfl ?_
    walk_at "rd"
    refine ⟨rfl, ?_⟩
    walk_at "rd"
    have s1922 := s1921.trans s22
    have fin := hM H22 (Same.refl _)
    refine Rd.rd_inO (s1922 _ _ ix19) (Rd.rd_sp (x, v, G) rfl ⟨hx19.same s1922, ?_⟩)
    have cs : ∀ z, v = .str z → (∃ z, v = .str z ∧ ∀ b : Bool, (b = true ↔ z ∈ G.ts.map (·.nm)) → ∃ b1, V.bl b = .bl b1 ∧ M (.bl (if false = true then !b1 else b1)) H22) := fun z e => by
      subst e
      refine ⟨z, rfl, fun b hb => ⟨b, rfl, ?_⟩⟩
      have : b = inB nms (.str z) := by
        rw [Bool.eq_iff_iff, hb, en]
        exact decide_eq_true_iff.symm
      rw [this]
      exact fin
    have ot : inB nms v = false → Rd.Isi K H22 v "str" false → (Rd.Isi K H22 v "str" false ∧ ∃ b1, V.bl false = .bl b1 ∧ M (.bl (if false = true then !b1 else b1)) H22) := fun e i => ⟨i, false, rfl, by rw [e] at fin; exact fin⟩
    rcases List.mem_append.mp hv with e | e
    · obtain ⟨z, rfl, _⟩ := strs_of e
      exact .inl (cs z rfl)
    · rw [eo] at e
      rcases List.mem_append.mp e with e | e
      · obtain ⟨z, rfl, _⟩ := strs_of e
        exact .inl (cs z rfl)
      · simp only [List.mem_cons, List.not_mem_nil, or_false] at e
        rcases e with rfl | rfl | rfl | rfl | rfl | rfl | rfl | rfl | rfl | rfl
        · exact .inr (ot rfl (Rd.isi_non (by decide +kernel)))
        · exact .inr (ot rfl (Rd.isi_int (by decide +kernel)))
        · exact .inr (ot rfl (Rd.isi_tup (Rd.Same.sqT s1922 i10) (by decide +kernel)))
        · exact .inr (ot rfl (Rd.isi_lst (SqL.of (s1922 _ _ i11)) (by decide +kernel)))
        · exact .inl (cs _ rfl)
        · exact .inr (ot rfl (Rd.isi_tup (Rd.Same.sqT s1922 i12) (by decide +kernel)))
        · exact .inr (ot rfl (Rd.isi_dK (s1922 _ _ i13) (by decide +kernel)))
        · exact .inr (ot rfl (Rd.isi_tup (Rd.Same.sqT s1922 i15) (by decide +kernel)))
        · exact .inr (ot rfl (Rd.isi_tup (Rd.Same.sqT s1922 i17) (by decide +kernel)))
        · exact .inr (ot rfl (Rd.isi_int (by decide +kernel)))
  have e22 : (nms.map V.str ++ outs).map (fun v => V.bl (inB nms v)) = (List.replicate G.ts.length true ++ List.replicate outs.length false).map V.bl := by
    rw [List.map_append, List.map_append, map_rep _ (V.bl true) (nms.map V.str) fun v hv => ?_, map_rep _ (V.bl false) outs fun v hv => ?_, List.map_replicate, List.map_replicate, List.length_map, ln]
    · rw [eo] at hv
      have hz : ∀ z, z ∉ nms → V.bl (inB nms (.str z)) = .bl false := fun z h => by
        show V.bl (decide (z ∈ nms)) = _
        rw [decide_eq_false h]
      rcases List.mem_append.mp hv with e | e
      · obtain ⟨z, rfl, hz1⟩ := strs_of e
        refine hz z fun q => ?_
        rw [en] at q
        obtain ⟨t', ht', rfl⟩ := List.mem_map.mp q
        exact GO.tC t' ht' hz1
      · simp only [List.mem_cons, List.not_mem_nil, or_false] at e
        rcases e with rfl | rfl | rfl | rfl | rfl | rfl | rfl | rfl | rfl | rfl
        · rfl
        · rfl
        · rfl
        · rfl
        · refine hz _ fun q => ?_
          rw [en] at q
          obtain ⟨t', ht', e2⟩ := List.mem_map.mp q
          exact none_ok (e2 ▸ DR.nm t' ht')
        · rfl
        · rfl
        · rfl
        · rfl
        · rfl
    · obtain ⟨z, rfl, hz1⟩ := strs_of hv
      show V.bl (decide (z ∈ nms)) = _
      rw [decide_eq_true hz1]
  rw [e22] at h22
  have s1922 := s1921.trans s22
  have hx22 := hx19.same s1922
  have ix22 := s1922 _ _ ix19
  have h022 := Rd.Same.sqT s1922 h019
  have hS22 := Rd.Same.sqT s1922 hS19
  have hP22 : Paired (RowAt K H22) rs G.ts := L2.Paired.mapP hP19 fun _ _ z => z.kp (kpS s1922)
  have ho22 := s1922 _ _ h19'
  clear hx19 ix19 h019 hS19 hP19 h19' hqn hqn' h20 h21 i10 i11 i12 i13 i15 i17 e22 nl20 nl21 nl22
  walk_at "rd"
  rename_i l23 H23 nl23 s23 h23
  rw [List.length_map, lr]
  refine Rd.rd_rep h23 (by omega) (by omega) (by show 1 ≤ 1000; decide) fun l24 H24 nl24 s24 h24 => ?_
  rw [Int.toNat_natCast, flat_rep] at h24
  have ho24 : SqL K H24 l19 outs := SqL.of ((s23.trans s24) _ _ ho22)
  walk_at "rd"
  rename_i l25 H25 nl25 s25 h25
  refine Rd.rd_rep h25 (by omega) (by omega) (by show 1 ≤ 1000; decide) fun l26 H26 nl26 s26 h26 => ?_
  rw [Int.toNat_natCast, flat_rep] at h26
  refine Rd.rd_cat ((s25.trans s26) _ _ h24) h26 (by rw [List.length_replicate, List.length_replicate]; exact Rd.small64 (show G.ts.length + outs.length ≤ _ by omega)) fun l27 H27 nl27 s27 h27 => ?_
  have e27 : List.replicate G.ts.length (V.bl true) ++ List.replicate outs.length (V.bl false) = (List.replicate G.ts.length true ++ List.replicate outs.length false).map V.bl := by rw [List.map_append, List.map_replicate, List.map_replicate]
  rw [e27] at h27
  have s2227 := s23.trans (s24.trans (s25.trans (s26.trans s27)))
  have sb := shaped_bools (List.replicate G.ts.length true ++ List.replicate outs.length false)
  refine Rd.rd_neD (.lst (SqL.of (s2227 _ _ h22)) (dp_bools _)) (.lst (SqL.of h27) (dp_bools _)) sb sb ?_
  rw [SeqAt.eqv_refl _ (SeqAt.canLay_of_shaped sb)]
  have hx27 := hx22.same s2227
  have ix27 := s2227 _ _ ix22
  have h027 := Rd.Same.sqT s2227 h022
  have hS27 := Rd.Same.sqT s2227 hS22
  have hP27 : Paired (RowAt K H27) rs G.ts := L2.Paired.mapP hP22 fun _ _ z => z.kp (kpS s2227)
  clear hx22 ix22 h022 hS22 hP22 h22 h23 h24 h25 h26 h27 ho22 ho24 nl23 nl24 nl25 nl26 nl27
  walk_at "rd"
  refine Rd.if_f rfl ?_
  walk_at "rd"
  refine ⟨x, dx, _, rfl, ix27, Rd.rd_sp (x, G) rfl ⟨hx27, G.ts.length, rfl, by omega, ?_⟩⟩
  walk_at "rd"
  rename_i p28 H28 np28 s28 h28
  refine Rd.rd_neD (RowsAt.dt ⟨rs, Rd.Same.sqT s28 hS27, L2.Paired.mapP hP27 fun _ _ z => z.kp (kpS s28)⟩).dp (.tup h28.sq .nil) (shaped_of (can_rows GO.tO) (by decide)) (show SeqAt.shaped (.tuple []) = true by decide +kernel) ?_
  rw [eqv_nilM]
  walk_at "rd"
  refine Rd.if_f (by cases G.ts <;> simp) ?_
  have hx28 := hx27.same s28
  have ix28 := s28 _ _ ix27
  have h028 := Rd.Same.sqT s28 h027
  have hS28 := Rd.Same.sqT s28 hS27
  have hP28 : Paired (RowAt K H28) rs G.ts := L2.Paired.mapP hP27 fun _ _ z => z.kp (kpS s28)
  clear hx27 ix27 h027 hS27 hP27 h28
  walk_at "rd"
  refine ⟨x, x, rfl, ⟨dx, _, ix28⟩, fun n29 => Rd.rd_sp (x, G) rfl ⟨hx28, fun i1 p1 us1 hp1 hP1 hi1 hn1 => ⟨i1, p1, rfl, hn1, upd_same, ⟨dx, _, Rd.same_new hi1 _ _ ix28⟩, fun m29 => Rd.rd_sp (x, G) rfl ⟨hx28.same (Rd.same_new hi1), fun i2 p2 us2 hp2 hP2 hi2 hn2 => ?_⟩⟩⟩⟩
  have ni : i1 ≠ i2 := fun z => by rw [← z, upd_same] at hi2; cases hi2
  have sA : Same H28 (upd H28 i1 (Rd.ItT p1 i1)) := Rd.same_new hi1
  have sB : Same (upd H28 i1 (Rd.ItT p1 i1)) (upd (upd H28 i1 (Rd.ItT p1 i1)) i2 (Rd.ItT p2 i2)) := Rd.same_new hi2
  refine ⟨i2, p2, rfl, hn2, upd_same, by rw [upd_ne ni, upd_same], us1.map V.ref, us2.map V.ref, Rd.Same.sqT (sA.trans sB) hp1, Rd.Same.sqT sB hp2, fun l29 H29 ts29 nl29 s29 h29 hP29 => ?_⟩
  rw [drop2 hi1 hi2] at nl29 s29
  have hP2' : Paired (RowAt K H28) us2 G.ts := L2.Paired.mapP hP2 fun r tr z => by
    have kk : Kp (upd H28 i1 (Rd.ItT p1 i1)) H28 := fun b o e im => by
      by_cases hb : b = i1
      · rw [hb, upd_same] at e
        rw [← Option.some.inj e] at im
        cases im
      · rwa [upd_ne hb] at e
    exact z.kp kk
  have hS29 := Rd.Same.sqT s29 hS28
  have h029 := Rd.Same.sqT s29 h028
  have z29 : ∀ H30, Same H29 H30 → Rd.DtAll K H30 (ts29.map V.ref) (G.ts.map pairD) := fun H30 s30 => dt_zip (L2.Paired.mapP hP1 fun _ _ z => z.kp (kpS (s29.trans s30))) (L2.Paired.mapP hP2' fun _ _ z => z.kp (kpS (s29.trans s30))) (L2.Paired.mapP hP29 fun _ _ z => SqT.of (s30 _ _ z))
  clear hP29 hP2 hP1 hp1 hp2 hi1 hi2 hP2'
  walk_at "rd"
  refine lc_newT rs V.ref (fun r => [V.ref r, V.ref r]) (by omega) hS29 (fun r H30 M _ s30 hM => ?_) (fun l30 H30 ps30 nl30 s30 h30 hP30 => ?_)
  · refine Rd.rd_start' [some (V.ref x), some (V.ref p), some (V.ref l19), some (V.ref l22), none, none, none] rfl ?_
    walk_at "rd"
    refine ⟨rfl, ?_⟩
    walk_at "rd"
    rename_i p31 H31 np31 s31 h31
    exact hM p31 H31 s31 h31
  have sp := shaped_pairs GO.tO
  have s2830 := s29.trans s30
  have hP30' : Paired (RowAt K H30) rs G.ts := L2.Paired.mapP hP28 fun _ _ z => z.kp (kpS s2830)
  refine Rd.rd_neD (.lst (SqL.of (s30 _ _ h29)) (Rd.DtAll.dp _ _ (z29 H30 s30))) (.lst (SqL.of h30) (Rd.DtAll.dp _ _ (dt_twice hP30' hP30))) sp sp ?_
  rw [SeqAt.eqv_refl _ (SeqAt.canLay_of_shaped sp)]
  walk_at "rd"
  refine Rd.if_f rfl ?_
  have hx30 := hx28.same s2830
  have ix30 := s2830 _ _ ix28
  have h030 := Rd.Same.sqT s2830 h028
  have hS30 := Rd.Same.sqT s2830 hS28
  have s030 := s08.trans (u8.trans (s1922.trans (s2227.trans (s28.trans s2830))))
  have hC30 : SqT K H30 c (G.cs.map V.str) := hC.kp (kpS s030)
  have hN30 : SqT K H30 n (G.ns.map V.str) := hN.kp (kpS s030)
  clear hx28 ix28 h028 hS28 hP28 hP30 h30 h29 z29 h029 hS29 hC8
  walk_at "rd"
  have len2 : ∀ {x y : Str} {m n : Nat}, x.length ≤ m → y.length ≤ n → (x ++ y).length ≤ m + n := fun h1 h2 => by rw [str_app6]; exact Nat.add_le_add h1 h2
  have q8 : (strI G.ns.length).length ≤ 100 := strI_len (Nat.lt_of_le_of_lt GO.n8 (by decide))
  have q5 : (strI G.cs.length).length ≤ 100 := strI_len (Nat.lt_of_le_of_lt GO.c5 (by decide))
  have q16 : (strI G.ts.length).length ≤ 100 := strI_len (Nat.lt_of_le_of_lt GO.t16 (by decide))
  have w1 : (" states, " : Str).length ≤ 9 := by decide +kernel
  have w2 : (" counters, " : Str).length ≤ 12 := by decide +kernel
  have w3 : ("graph of " : Str).length ≤ 9 := by decide +kernel
  have w4 : (" transitions" : Str).length ≤ 12 := by decide +kernel
  have a1 := len2 q8 w1
  have a2 := len2 a1 q5
  have a3 : (sizesT G).length ≤ 100 + 9 + 100 + 12 := len2 a2 w2
  have a4 := len2 w3 a3
  have a5 := len2 a4 q16
  rw [List.length_map]
  refine Rd.rd_strI (log_len (Nat.lt_of_le_of_lt GO.n8 (by decide))) ?_
  walk_at "rd"
  refine rd_add6 (Nat.le_trans (Nat.add_le_add q8 w1) (by decide)) ?_
  walk_at "rd"
  rw [List.length_map]
  refine Rd.rd_strI (log_len (Nat.lt_of_le_of_lt GO.c5 (by decide))) ?_
  refine rd_add6 (Nat.le_trans (Nat.add_le_add a1 q5) (by decide)) ?_
  walk_at "rd"
  refine rd_add6 (Nat.le_trans (Nat.add_le_add a2 w2) (by decide)) ?_
  walk_at "rd"
  refine ⟨x, dx, _, rfl, ix30, Rd.rd_sp (x, G) rfl ⟨hx30, GO, graphT G, rfl, ?_⟩⟩
  walk_at "rd"
  refine rd_add6 (Nat.le_trans (Nat.add_le_add w3 a3) (by decide)) ?_
  walk_at "rd"
  rw [List.length_map, lr]
  refine Rd.rd_strI (log_len (Nat.lt_of_le_of_lt GO.t16 (by decide))) ?_
  refine rd_add6 (Nat.le_trans (Nat.add_le_add a4 q16) (by decide)) ?_
  walk_at "rd"
  refine rd_add6 (Nat.le_trans (Nat.add_le_add a5 w4) (by decide)) ?_
  walk_at "rd"
  have fin := k H30 s030
  exact (show ∀ b : Bool, b = true → Q (.bl b) H30 from fun b e => by rw [e]; exact fin) _ (decide_eq_true (congrArg V.str (graphT_eq G).symm))
end
end M
set_option Elab.async false
set_option linter.all false
set_option maxRecDepth 100000
set_option maxHeartbeats 4000000
namespace M
open PySem L2
local macro_rules | `(tactic| walk_at "rdc") => `(tactic| first | exact Or.inl ⟨by decide, by decide⟩ | exact Or.inr ⟨by decide, by decide⟩ | exact ⟨by decide, by decide, by decide⟩ | exact ⟨by decide, by decide⟩ | decide | omega | assumption | (refine Or.inl ⟨?_, ?_⟩ <;> omega) | (refine Or.inr ⟨?_, ?_⟩ <;> omega) | (refine ⟨?_, ?_⟩ <;> omega))
local macro_rules | `(tactic| walk_at "rd1") => `(tactic| with_reducible first
  | refine Rd.rd_seq ?_ | refine Rd.rd_asg ?_ | refine Rd.rd_op ?_ | (refine' Rd.rd_var ?vh ?_; (case vh => with_unfolding_all rfl)) | refine Rd.rd_c ?_ | refine Rd.rd_I0 ?_ | refine Rd.rd_name0 ?_ | refine Rd.rd_nameS ?_ | refine Rd.rd_fn ?_
  | refine Rd.rd_cb ?_ | refine Rd.rd_cons ?_ | refine Rd.rd_nil ?_ | refine Rd.rd_int ?_ | refine Rd.rd_intB ?_ | refine Rd.rd_abs ?_ | refine Rd.rd_max2 ?_ | refine Rd.rd_min2 ?_
  | refine Rd.rd_call ?_ | refine Rd.rd_ifE ?_ | refine Rd.rd_test ?_ | refine Rd.rd_tB ?_ | refine Rd.rd_blV ?_ | refine Rd.rd_and ?_ | refine Rd.rd_or ?_ | refine Rd.rd_not ?_
  | refine Rd.rd_andV ?_ | refine Rd.rd_orV ?_ | refine Rd.rd_notV ?_ | refine Rd.rd_next ?_ | refine Rd.rd_ret ?_ | refine Rd.rd_drop ?_ | refine Rd.rd_ifS ?_ | refine Rd.rd_nx ?_ | refine Rd.rd_rt ?_ | refine Rd.rd_tMatch ?_ | refine Rd.rd_tCO ?_ | refine Rd.rd_tRevL ?_ | refine Rd.rd_tStar ?_ | refine Rd.rd_joined ?_ | refine Rd.rd_js1 ?_ | refine Rd.rd_js0 ?_ | refine Rd.rd_fmt ?_ | refine Rd.rd_propR ?_ | refine Rd.rd_iZipA ?_ | refine Rd.rd_iEnumT ?_ | refine Rd.rd_iOwn ?_ | (refine' Rd.rd_IET ?ln ?_; (case ln => with_unfolding_all walk_at "at")) | refine Rd.rd_chain ?_ | refine Rd.rd_tPar ?_ | refine Rd.rd_par ?_ | refine Rd.rd_sl ?_ | refine Rd.rd_noPart ?_ | refine Rd.rd_part ?_ | refine Rd.rd_intV ?_ | refine Rd.rd_lc ?_ | (refine' Rd.rd_aug ?vh ?_; (case vh => with_unfolding_all rfl)) | refine Rd.rd_ipI ?_ | refine Rd.rd_for ?_ | (refine' Rd.rd_IT ?ln ?_; (case ln => with_unfolding_all walk_at "at")) | (refine' Rd.rd_IL ?ln ?_; (case ln => with_unfolding_all walk_at "at")) | refine Rd.rd_iTup ?_ | refine Rd.rd_iList ?_ | refine Rd.rd_iRng1 ?_ | refine Rd.rd_iRng2 ?_ | refine Rd.rd_isi (Rd.isi_int Rd.kk_int_int) ?_ | refine Rd.rd_isi (Rd.isi_int Rd.kk_int_bool) ?_ | refine Rd.rd_dget ?_ | refine Rd.rd_din ?_ | refine Rd.rd_dnotin ?_ | refine Rd.rd_dput ?_ | refine Rd.rd_dc ?_ | refine Rd.rd_lc2 ?_ | refine Rd.rd_ltS ?_ | refine Rd.rd_inSg ?_ | refine Rd.rd_iStr ?_ | refine Rd.rd_IS ?_ | refine Rd.rd_prC ?_ | refine Rd.rd_prN ?_ | refine Rd.rd_methR ?_ | refine Rd.rd_cmeth ?_ | refine Rd.rd_fldS ?_ | refine Rd.rd_fld ?_ | (refine' Rd.rd_mkVS ?vh ?_; (case vh => with_unfolding_all rfl)) | (refine' Rd.rd_starT ?ln ?_; (case ln => with_unfolding_all walk_at "at")) | refine Rd.rd_iEnum ?_ | refine Rd.rd_iZip ?_ | (refine' Rd.rd_IE ?ln ?_; (case ln => with_unfolding_all walk_at "at")) | (refine' Rd.rd_IZ ?ln ?lm ?_; (case ln => with_unfolding_all walk_at "at"); (case lm => with_unfolding_all walk_at "at")) | (refine' Rd.rd_gTup ?ln ?lk ?_; (case ln => with_unfolding_all walk_at "at"); (case lk => with_unfolding_all rfl)) | refine Rd.rd_gCons ?_ | refine Rd.rd_gNil ?_ | refine Rd.rd_m1 ?_ | refine Rd.rd_strV ?_ | refine Rd.rd_tXiM ?_ | refine Rd.rd_tXiB ?_ | refine Rd.rd_tXiS ?_ | refine Rd.rd_bm ?_ | refine Rd.rd_bm0 ?_ | refine Rd.rd_isN ?_ | refine Rd.rd_notN ?_ | refine Rd.rd_sub ?_ | refine Rd.rd_un ?_ | refine Rd.rd_U ?_
  | (refine' Rd.rd_eq ?sc ?_; (case sc => with_unfolding_all rfl)) | (refine' Rd.rd_ne ?sc ?_; (case sc => with_unfolding_all rfl))
  | (refine' Rd.rd_I ?cc ?_; (case cc => with_unfolding_all walk_at "rdc"))
  | (refine' Rd.rd_lenL ?ln ?_; (case ln => with_unfolding_all walk_at "at")) | (refine' Rd.rd_lenT ?ln ?_; (case ln => with_unfolding_all walk_at "at"))
  | (refine' Rd.rd_ixL ?ln ?ia ?_; (case ln => with_unfolding_all walk_at "at"); (case ia => with_unfolding_all first | exact Rd.at0 | exact Rd.at1 | exact Rd.at2 | exact Rd.at3 | exact Rd.at4 | rfl)) | (refine' Rd.rd_ixT ?ln ?ia ?_; (case ln => with_unfolding_all walk_at "at"); (case ia => with_unfolding_all first | exact Rd.at0 | exact Rd.at1 | exact Rd.at2 | exact Rd.at3 | exact Rd.at4 | rfl)))
local macro_rules | `(tactic| walk_at "at") => `(tactic| first | assumption | (apply SqL.of; assumption) | (apply SqT.of; assumption) | (apply SqL.of; exact upd_same) | (apply SqT.of; exact upd_same))
local macro_rules | `(tactic| walk_at "rd") => `(tactic| repeat walk_at "rd1")
local macro_rules | `(tactic| walk_at "ne") => `(tactic| first | assumption | exact Ne.symm (by assumption) | (refine' Dice.ne ?D ?h; (case h => assumption); (case D => walk_at "fa")))
local macro_rules | `(tactic| walk_at "kp1") => `(tactic| first | exact kpS (by assumption) | exact Mut.kp (by assumption) | (refine' Rolled.kp ?r ?D; (case r => assumption); (case D => walk_at "fa")))
local macro_rules | `(tactic| walk_at "fa") => `(tactic| first
  | assumption | exact SqT.of (by assumption) | exact SqL.of (by assumption)
  | (refine' Dice.same ?h ?s; (case s => assumption); (case h => walk_at "fa")) | exact Rolled.dice (by assumption)
  | (refine' L2.Same.seq ?s ?h; (case s => assumption); (case h => walk_at "fa")) | (refine' Rolled.sqL ?r ?n ?h; (case r => assumption); (case n => walk_at "ne"); (case h => walk_at "fa"))
  | (refine' Kp.sqT ?k ?h; (case k => walk_at "kp1"); (case h => walk_at "fa")) | (refine' RowAt.kp ?k ?h; (case k => walk_at "kp1"); (case h => walk_at "fa")) | (refine' RowsAt.kp ?k ?h; (case k => walk_at "kp1"); (case h => walk_at "fa")) | (refine' ChgAt.kp ?k ?h; (case k => walk_at "kp1"); (case h => walk_at "fa")) | (refine' PlainAt.kp ?k ?h; (case k => walk_at "kp1"); (case h => walk_at "fa"))
  | (refine' GraphAt.same ?h ?s; (case s => assumption); (case h => walk_at "fa")) | (refine' GraphAt.rolled ?r ?D ?h; (case r => assumption); (case D => walk_at "fa"); (case h => walk_at "fa"))
  | (refine' Rd.Same.at ?s ?h; (case s => assumption); (case h => walk_at "fa")) | (refine' Mut.keep ?m _ _ ?n ?h; (case m => assumption); (case n => walk_at "ne"); (case h => walk_at "fa")) | (refine' Rolled.keep ?r _ _ ?n ?h; (case r => assumption); (case n => walk_at "ne"); (case h => walk_at "fa")))
local macro_rules | `(tactic| walk_at "sm") => `(tactic| first | assumption | exact Same.refl _ | (refine' L2.Same.trans ?h ?s; (case s => assumption); (case h => walk_at "sm")) | (refine' same_mutM ?a ?b ?c; (case c => assumption); (case b => walk_at "nn"); (case a => walk_at "sm")))
local macro_rules | `(tactic| walk_at "rl") => `(tactic| first | assumption | exact Rolled.refl (by walk_at "fa") | (refine' Rolled.trans ?a ?b; (case b => assumption); (case a => walk_at "rl")) | (refine' Rolled.same ?a ?b; (case b => assumption); (case a => walk_at "rl")) | (refine' Rolled.mutM ?a ?n ?e ?m; (case m => assumption); (case n => walk_at "nn"); (case e => walk_at "ne"); (case a => walk_at "rl")))
local macro_rules | `(tactic| walk_at "nn") => `(tactic| first | assumption | (refine' none_pre ?s ?h; (case h => assumption); (case s => walk_at "sm")) | (refine' none_rol ?r ?D ?h; (case h => assumption); (case D => walk_at "fa"); (case r => walk_at "rl")))
local macro_rules | `(tactic| walk_at "sz") => `(tactic| first | (simp only [List.length_cons, List.length_nil]; decide) | (refine Rd.small64 ?_; simp only [List.length_map, List.length_append, List.length_cons, List.length_nil]; omega))
local macro_rules | `(tactic| walk_at "at") => `(tactic| walk_at "fa")
local macro_rules | `(tactic| walk_at "rd1") => `(tactic| with_reducible first
  | (refine' Rd.rd_mkTup ?sz fun _ _ _ _ _ => ?_; (case sz => with_unfolding_all walk_at "sz")) | (refine' Rd.rd_mkLst ?sz fun _ _ _ _ _ => ?_; (case sz => with_unfolding_all walk_at "sz")) | (refine' Rd.rd_mkTupF ?sz fun _ _ _ _ _ => ?_; (case sz => with_unfolding_all walk_at "sz"))
  | (refine' Rd.rd_tupleL ?ln fun _ _ _ _ _ => ?_; (case ln => with_unfolding_all walk_at "at")) | (refine' Rd.rd_tupleT ?ln ?_; (case ln => with_unfolding_all walk_at "at")) | (refine' Rd.rd_listL ?ln fun _ _ _ _ _ => ?_; (case ln => with_unfolding_all walk_at "at")) | (refine' Rd.rd_listT ?ln fun _ _ _ _ _ => ?_; (case ln => with_unfolding_all walk_at "at"))
  | (refine' fld_c ?T ?h fun _ _ => ?_; (case T => assumption); (case h => with_unfolding_all walk_at "fa")) | (refine' fld_s ?T ?h fun _ _ => ?_; (case T => assumption); (case h => with_unfolding_all walk_at "fa")) | (refine' fld_n ?T ?h fun _ _ => ?_; (case T => assumption); (case h => with_unfolding_all walk_at "fa"))
  | refine Rd.rd_get2 ?_ | (refine' Rd.rd_getA ?ln ?_; (case ln => with_unfolding_all first | exact Or.inl (by walk_at "at") | exact Or.inr ⟨_, by walk_at "at"⟩)) | (refine' Rd.rd_getE ?ln ?_; (case ln => with_unfolding_all first | exact Or.inl (by walk_at "at") | exact Or.inr ⟨_, by walk_at "at"⟩)) | refine Rd.rd_daug ?_ | refine Rd.rd_items ?_ | refine Rd.rd_frz ?_ | refine Rd.rd_vals ?_ | refine Rd.rd_kw0 ?_ | refine Rd.rd_callN ?_
  | (refine' Rd.rd_isi (Rd.isi_tup ?ln Rd.kk_tup_tup) ?_; (case ln => with_unfolding_all walk_at "at")) | refine Rd.rd_isi (Rd.isi_str (b := true) kk_str_str) ?_)
local macro_rules | `(tactic| walk_at "st") => `(tactic| (simp only [List.map_cons, List.map_nil, L2.wipe, List.set_cons_zero, List.set_cons_succ]; walk_at "rd"; refine ⟨rfl, ?_⟩; walk_at "rd"))
/-! ### _law_right, law of k06 -/
abbrev s__law_right : Stmt := top 40
theorem sc__law_right : FnScope ["_law_dice_here", "_law_plain", "_law_thing", "_law_counters", "_law_rows", "_law_nodes", "_law_other", "_law_others_here", "_law_one"] ["_law_dice_here"] (defScope s__law_right) := ⟨rfl, rfl, rfl, by decide +kernel, rfl, by decide +kernel, by decide +kernel⟩
abbrev s_law : Stmt := top 41
theorem sc_law : FnScope ["_law_script", "_law_at", "_law_dice_here", "_law_turn", "_law_lone", "_law_told", "_law_row"] ["_law_script"] (defScope s_law) := ⟨rfl, rfl, rfl, by decide +kernel, rfl, by decide +kernel, by decide +kernel⟩
def loneG : Gr := ⟨["x"], ["p"], []⟩
theorem lone_ok : GOk loneG := by
  refine ⟨by unfold loneG; decide, by decide, List.pairwise_singleton _ _, by decide +kernel, by decide, List.pairwise_singleton _ _, by decide +kernel, by decide, .nil, fun t ht => (List.not_mem_nil ht).elim, fun t ht => (List.not_mem_nil ht).elim, fun t ht => (List.not_mem_nil ht).elim, loop_one _⟩
theorem lone_norm : Norm ["x", "x"] ["p", "p"] [] loneG := ⟨fun z => by simp [loneG], by decide, fun z => by simp [loneG], by decide, List.Perm.refl _⟩
def toldD : List PyData := [.tuple [.str "p"], .tuple [.str "x"], .tuple [], .int 0, .list [], .str "graph of 1 states, 1 counters, 0 transitions", .bool false]
theorem told_ok : SeqAt.shaped (.list toldD) = true ∧ PyData.eqv (.list toldD) (.list toldD) = true := by decide +kernel
theorem lone_text : graphT loneG = ("graph of 1 states, 1 counters, 0 transitions" : Str) := by decide +kernel
def rOr2 (r r' : R2) : R2 := fun x y H Q => r x y H Q ∨ r' x y H Q
theorem op_or {X : Cx} {o : _} {r r' : R2} (h : OpR X o r) (h' : OpR X o r') : OpR X o (rOr2 r r') := by
  intro pins s σ H x y v u Q I rx ry q
  rcases q with q | q
  · exact h pins s σ H x y v u Q I rx ry q
  · exact h' pins s σ H x y v u Q I rx ry q
section
variable {K : PySem.W.Frag} {σ : L2.St} {H : Hp} {Q : VK} {g : TG} {te : TE} {tt : TT} {vs : List Nat} {a : Addr}
theorem GraphAt.lst {C x D : Addr} {G : Gr} {us us' : List V} (h : GraphAt K C H x G) (hD : H D = some (.lst us)) : GraphAt K C (upd H D (.lst us')) x G := by
  obtain ⟨dx, pc, ps, pt, pn, pr, rs, h1, h2⟩ := h
  have kk : Kp H (upd H D (.lst us')) := kp_upd hD rfl
  refine ⟨dx, pc, ps, pt, pn, pr, rs, ?_, h2.c.kp kk, h2.s.kp kk, kk.sqT h2.t, L2.Paired.mapP h2.tP fun _ _ z => z.kp kk, h2.n.kp kk, ?_⟩
  · rw [upd_ne fun z => ?_]
    · exact h1
    · rw [z, hD] at h1; cases h1
  · rw [upd_ne fun z => ?_]
    · exact h2.r
    · have := h2.r
      rw [z, hD] at this; cases this
/-- a comprehension over a list that makes things that stay when another list is changed -/
theorem lc_relM {α : Type} (zs : List α) (val : α → V) (R : α → V → Hp → Prop) (hR : ∀ z v H H', Same H H' → R z v H → R z v H') (hM : ∀ z v H D us us', H D = some (.lst us) → R z v H → R z v (upd H D (.lst us'))) (hz : zs.length ≤ 100000) (hS : SqL K H a (zs.map val))
    (step : ∀ z H1 (M : V → Hp → Prop), z ∈ zs → Same H H1 → (∀ v H2, Same H1 H2 → R z v H2 → M v H2) → g (val z) (wipe σ vs) H1 fun σ2 H2 => wipe σ2 vs = wipe σ vs ∧ te σ2 H2 M)
    (done : ∀ D H' us, H D = none → Same H H' → H' D = some (.lst us) → Paired (fun v z => R z v H') us zs → Q (.ref D) H') : Rd.rLc g tYes te vs σ Q (Itl K a) H := by
  intro D hD
  let Pv : Nat → Hp → Prop := fun i H1 => Same H H1 ∧ ∃ us, H1 D = some (.lst us) ∧ Paired (fun v z => R z v H1) us (zs.take i)
  refine ⟨fun i m H1 => m = zs.length - i ∧ i ≤ zs.length ∧ Pv i H1, ⟨zs.length, by simp, Nat.zero_le _, Rd.same_new hD, [], by rw [upd_same], .nil⟩, ?_⟩
  rintro i m H1 ⟨rfl, hi, s1, us, hd1, hP⟩
  by_cases hlt : i < zs.length
  · refine .inr ⟨⟨_, val zs[i], L2.Same.seq s1 hS, by rw [List.getElem?_map, List.getElem?_eq_getElem hlt]; rfl⟩, Pv (i + 1), fun H' p' => ⟨zs.length - (i + 1), by omega, rfl, hlt, p'⟩, fun x H' y => ?_⟩
    have ez : zs[i]? = some zs[i] := List.getElem?_eq_getElem hlt
    obtain ⟨rfl, y⟩ := y
    have e := y _ (L2.Same.seq s1 hS)
    rw [List.getElem?_map, ez] at e
    obtain rfl := Option.some.inj e
    refine step zs[i] H' _ (List.getElem_mem hlt) s1 fun v H2 s3 hv => ?_
    have h2D := s3 _ _ hd1
    have lu : us.length ≤ 100000 := by
      rw [hP.length]
      exact Nat.le_trans (by rw [List.length_take]; exact Nat.min_le_right _ _) hz
    refine ⟨_, h2D, Nat.lt_of_le_of_lt lu (by decide), same_mut (s1.trans s3) hD, us ++ [v], upd_same, ?_⟩
    rw [List.take_add_one, ez]
    exact paired_app (L2.Paired.mapP hP fun _ _ q => hM _ _ _ _ _ _ h2D (hR _ _ _ _ s3 q)) (.cons (hM _ _ _ _ _ _ h2D hv) .nil)
  · obtain rfl : i = zs.length := by omega
    rw [List.take_length] at hP
    exact .inl ⟨⟨_, L2.Same.seq s1 hS, by rw [List.length_map]; exact Nat.le_refl _⟩, done D H1 us hD s1 hd1 hP⟩
end
/-- some of the texts -/
theorem strs_part {ys zs : List V} {l : List Str} (p : (ys ++ zs).Perm (l.map V.str)) : ∃ w : List Str, ys = w.map V.str ∧ (∀ x ∈ w, x ∈ l) ∧ w.length ≤ l.length := by
  obtain ⟨w, pw, e⟩ := perm_map_inv V.str p l rfl
  have e1 : ys = (w.take ys.length).map V.str := by
    have := congrArg (List.take ys.length) e
    rwa [List.take_left, ← List.map_take] at this
  refine ⟨w.take ys.length, e1, fun x hx => pw.mem_iff.mp (List.mem_of_mem_take hx), ?_⟩
  rw [List.length_take, ← pw.length_eq]
  exact Nat.min_le_right _ _
theorem paired_zs6 {α β : Type} {F : α → β → Prop} {l : List α} {m : List β} (h : Paired F l m) : ∃ zs : List (α × β), zs.map (·.1) = l ∧ zs.map (·.2) = m ∧ ∀ z ∈ zs, F z.1 z.2 := by
  induction h with
  | nil => exact ⟨[], rfl, rfl, fun _ h => (List.not_mem_nil h).elim⟩
  | @cons a b l m r t ih =>
    obtain ⟨zs, e1, e2, h⟩ := ih
    exact ⟨(a, b) :: zs, by rw [List.map_cons, e1], by rw [List.map_cons, e2], fun z hz => (List.mem_cons.mp hz).elim (fun e => e ▸ r) (h z)⟩
theorem paired_perm {α β : Type} {F : α → β → Prop} {l l' : List α} {m : List β} (h : Paired F l m) (p : l'.Perm l) : ∃ m', m'.Perm m ∧ Paired F l' m' := by
  obtain ⟨zs, rfl, rfl, hF⟩ := paired_zs6 h
  obtain ⟨ys, py, rfl⟩ := perm_map_inv (·.1) p zs rfl
  exact ⟨ys.map (·.2), py.map _, paired_map2 _ _ fun z hz => hF z (py.mem_iff.mp hz)⟩
def spRight : Sp := Rd.mkSp (fun (d : Addr) => [.ref d]) fun d H Q _ => Dice H d ∧ ∀ H', Rolled d H H' → Q (.bl true) H'
def spLaw (K : PySem.W.Frag) : Sp := Rd.mkSp (fun (a : Addr × List Int) => [.ref a.1]) fun a H Q _ => SqL K H a.1 (a.2.map V.int) ∧ a.2.length ≤ 63 ∧ ∀ H', Q (.bl true) H'
theorem rd_geqA {K : PySem.W.Frag} {C x y : Addr} {H : Hp} {Q : VK} {G J : Gr} {neg : Bool} (hx : GraphAt K C H x G) (hy : GraphAt K C H y J) (GO : GOk G) (JO : GOk J) (q : ∀ b : Bool, (b = true ↔ G = J) → Q (.bl (b != neg)) H) : Rd.rEqO C (spGEq2 K C) E0 neg (.ref x) (.ref y) H Q := by
  obtain ⟨dx, _, _, _, _, _, e⟩ := hx.ins
  obtain ⟨dy, _, _, _, _, _, e'⟩ := hy.ins
  exact ⟨⟨x, dx, _, rfl, e⟩, ⟨y, dy, _, rfl, e'⟩, Rd.rd_sp (x, y, G, J) rfl ⟨hx, hy, GO, JO, fun b hb => ⟨b, rfl, q b hb⟩⟩⟩
theorem rd_geqF {K : PySem.W.Frag} {C x : Addr} {d : AdsH} {H : Hp} {Q : VK} {G : Gr} {v : V} {T0 : String} {neg : Bool} (D : GraphH K C d) (hx : GraphAt K C H x G) (ty : TyX K H v (.type T0)) (hT : T0 ∈ ["int", "NoneType", "str", "tuple"]) (q : Q (.bl neg) H) : Rd.rEqF K C (spGEqF K C) E0 neg (.ref x) v H Q := by
  obtain ⟨dx, _, _, _, _, _, e⟩ := hx.ins
  obtain ⟨k1, k2⟩ := D.sub T0 hT
  refine ⟨⟨x, dx, _, rfl, e⟩, ⟨_, ty, k1⟩, Rd.rd_sp (x, v) rfl ⟨⟨_, ty, k2⟩, false, rfl, ?_⟩⟩
  cases neg <;> exact q
section
variable {P : Program} {w : World} {K : PySem.W.Frag} {mg : Str → Option Value} {base : Heap} {a : AdsG} {d : AdsH}
set_option maxHeartbeats 40000000 in
theorem ok_right (T : GraphC K mg a) (D : GraphH K a.C d) (F : Rd.Has K mg "_law_right" s__law_right) (g : Glob mg) (c__law_drawn : Rd.Fn true P w K mg base CX0 6 "_law_drawn" (spDrawnL K)) (c__law_built : Rd.Fn true P w K mg base CX0 11 "_law_built" (spBuilt K a.C)) (c__law_mixed : Rd.Fn true P w K mg base CX0 2 "_law_mixed" (spMixS K)) (c__law_some : Rd.Fn true P w K mg base CX0 3 "_law_some" (spSome K)) (c__law_by_hand : Rd.Fn true P w K mg base CX0 11 "_law_by_hand" (spHand K a.C)) (c__law_told_right : Rd.Fn true P w K mg base CX0 6 "_law_told_right" (spTold K a.C)) (c__law_others : Rd.Fn true P w K mg base CX0 1 "_law_others" (spOthers K)) (c_Graph_of : FnR P w K mg base CX0 9 a.fo (spGOf K a.C)) (c_names : FnR P w K mg base CX0 1 a.gn (spGNames K a.C)) (c_eq : FnR P w K mg base CX0 1 a.eq (spGEq2 K a.C)) (c_eqF : FnR P w K mg base CX0 1 a.eq (spGEqF K a.C)) (c_str : FnR P w K mg base CX0 1 d.st (spGStr K a.C)) :
    Rd.Fn true P w K mg base CX0 12 "_law_right" spRight := by
  refine F.fn sc__law_right (fun _ => rfl) (fun _ _ _ _ _ _ us hl => match us, hl with | [_], _ => rfl) fun f cdv A outer s H Q E dd hr h => ?_
  obtain ⟨hD, k⟩ := h
  refine ⟨_, (pss_cons (ps_set (i := 1) sc__law_right.nd rfl (Or.inl rfl) (Rd.pe_fn c__law_drawn (hr.mono (by decide)) (by rfl) (pa_cons (pv 0) pa_nil)))
      (pss_cons (ps_par (i := 2) (j := 3) (by rfl) sc__law_right.nd rfl rfl (by decide) rfl rfl (pa_cons (Rd.pe_fn c__law_built (hr.mono (by decide)) (by rfl) (pa_cons (pv 1) pa_nil)) (pa_cons (pe_callTy Rd.c_tuple (by rfl) g.tuple (by decide +kernel) (pa_cons (Rd.pe_fn c__law_mixed (hr.mono (by decide)) (by rfl) (pa_cons (pv 0) (pa_cons (pe_op op_cat (pe_callTy Rd.c_list (by rfl) g.list (by decide +kernel) (pa_cons (pe_ix ix_tup (pv 1) pe_int (fun _ _ => rfl)) pa_nil)) (Rd.pe_fn c__law_some (hr.mono (by decide)) (by rfl) (pa_cons (pv 0) (pa_cons (pe_ix ix_tup (pv 1) pe_int (fun _ _ => rfl)) pa_nil)))) pa_nil))) pa_nil)) pa_nil)) (by rfl))
      (pss_cons (ps_par (i := 4) (j := 5) (by rfl) sc__law_right.nd rfl rfl (by decide) rfl rfl (pa_cons (pe_callTy Rd.c_tuple (by rfl) g.tuple (by decide +kernel) (pa_cons (Rd.pe_fn c__law_mixed (hr.mono (by decide)) (by rfl) (pa_cons (pv 0) (pa_cons (pe_ix ix_tup (pv 1) pe_int (fun _ _ => rfl)) pa_nil))) pa_nil)) (pa_cons (pe_callTy Rd.c_tuple (by rfl) g.tuple (by decide +kernel) (pa_cons (pe_op op_cat (Rd.pe_fn c__law_some (hr.mono (by decide)) (by rfl) (pa_cons (pv 0) (pa_cons (pe_ix ix_tup (pv 1) pe_int (fun _ _ => rfl)) pa_nil))) (Rd.pe_fn c__law_some (hr.mono (by decide)) (by rfl) (pa_cons (pv 0) (pa_cons (pe_ix ix_tup (pv 1) pe_int (fun _ _ => rfl)) pa_nil)))) pa_nil)) pa_nil)) (by rfl))
      (C8.pss_cut (ps_set (i := 5) sc__law_right.nd rfl (Or.inl rfl) (pe_ifExp (pt_cmpR (op_eqD hr.units) (pe_ix ix_tup (pv 1) pe_int (fun _ _ => rfl)) (Rd.pe_tupF pa_nil) (nomark _)) (pe_op op_catA (pe_ix ix_tup (pv 1) pe_int (fun _ _ => rfl)) (pv 5)) (pv 5)))
      (pss_cons (ps_for PassesOwn.never rfl (pi_tup (Rd.pe_tup (pa_cons (pv 2) (pa_cons (ClX.pe_cmeth (Rd.pe_glr (by rfl) T.mgC) T.cr T.cm_of c_Graph_of (hr.mono (by decide)).toRoom pass0 (pa_cons (pv 3) (pa_cons (pv 4) (pa_cons (pv 5) pa_nil)))) (pa_cons (Rd.pe_fn c__law_by_hand (hr.mono (by decide)) (by rfl) (pa_cons (pv 3) (pa_cons (pv 4) (pa_cons (pv 5) pa_nil)))) pa_nil))))) (pg_name (i := 6) sc__law_right.nd rfl (Or.inl rfl)) (pss_one (ps_if (PW.pt (pw_or (pt_not (pt_val (Rd.pe_fn c__law_told_right (hr.mono (by decide)) (by rfl) (pa_cons (pv 6) (pa_cons (pv 1) pa_nil))))) (pw_or (pt_not (pt_cmpR (Rd.op_eqO T.eq c_eq (hr.mono (by decide)).toRoom pass0) (pv 6) (pv 2) (nomark _))) (pw_or1 (pt_cmpR (Rd.op_neO T.eq c_eq (hr.mono (by decide)).toRoom pass0) (pv 6) (pv 2) (nomark _)))))) (pss_one (ps_ret pe_bl)) pss_nil)))
      (pss_cons (ps_setLc (i := 7) (own := [("_law_one", 8)]) (by rfl) sc__law_right.nd rfl rfl (sw_true rfl rfl rfl (by decide +kernel)) (pi_list (Rd.pe_fn c__law_others (hr.mono (by decide)) (by rfl) (pa_cons (pv 1) pa_nil))) (blkOk_by (own := [("_law_one", 8)]) (N := ["_law_dice_here", "_law_plain", "_law_thing", "_law_counters", "_law_rows", "_law_nodes", "_law_other", "_law_others_here", "_law_one"]) (sc := defScope s__law_right) (by decide +kernel)) (fun _ _ _ _ _ => (pg_name (i := 8) sc__law_right.nd rfl (Or.inl rfl))) (fun _ _ _ _ _ => pts_nil) (fun _ _ _ _ _ => (Rd.pe_fn c__law_built (hr.mono (by decide)) (by rfl) (pa_cons (pv 8) pa_nil))))
      (pss_cons (ps_for PassesOwn.never rfl (pi_list (pe_op op_cat (pv 7) (Rd.pe_lst (pa_cons pe_non (pa_cons (pv 1) (pa_cons (pe_ix ix_tup (pv 1) pe_int (fun _ _ => rfl)) (pa_cons (Rd.pe_propR (pv 2) T.cl T.pr_n c_names (hr.mono (by decide)).toRoom pass0) (pa_cons pe_int (pa_cons (pe_callTy (Rd.c_strO D.st D.stf c_str (hr.mono (by decide)).toRoom pass0) (by rfl) g.str (by decide +kernel) (pa_cons (pv 2) pa_nil)) pa_nil))))))))) (pg_name (i := 6) sc__law_right.nd rfl (Or.inl rfl)) (pss_one (ps_if (PW.pt (pw_or (pt_cmpR (op_or (Rd.op_eqO T.eq c_eq (hr.mono (by decide)).toRoom pass0) (Rd.op_eqF (K := K) (by rfl) T.eq c_eqF (hr.mono (by decide)).toRoom pass0)) (pv 2) (pv 6) (nomark _)) (pw_or1 (pt_not (pt_cmpR (op_or (Rd.op_neO T.eq c_eq (hr.mono (by decide)).toRoom pass0) (Rd.op_neF (K := K) (by rfl) T.eq c_eqF (hr.mono (by decide)).toRoom pass0)) (pv 2) (pv 6) (nomark _)))))) (pss_one (ps_ret pe_bl)) pss_nil)))
      (pss_one (ps_ret (Rd.pe_fn c__law_told_right (hr.mono (by decide)) (by rfl) (pa_cons (pv 2) (pa_cons (pv 1) pa_nil)))))))))))), ?_⟩
  try simp only [Rd.noxK, Rd.cxK]
  refine Rd.rd_start [some (V.ref dd), none, none, none, none, none, none, none, none] rfl ?_
  walk_at "rd"
  refine Rd.rd_sp dd rfl ⟨hD, fun p H1 G R1 hp GO DR => ?_⟩
  have hp' := hp
  obtain ⟨c, n, t, h0, hC, hN, hT⟩ := hp'
  have l5 := GO.c5
  have l8 := GO.n8
  have l16 := GO.t16
  walk_at "rd"
  refine Rd.rd_sp (p, G) rfl ⟨hp, GO, fun x H2 s2 hx => ?_⟩
  have R2 := R1.same s2
  have k12 : Kp H1 H2 := kpS s2
  have h02 := k12.sqT h0
  have hC2 : SqT K H2 c (G.cs.map V.str) := k12.sqT hC
  have hN2 : SqT K H2 n (G.ns.map V.str) := k12.sqT hN
  obtain ⟨rs, hS2, hP2⟩ := hT.kp k12
  clear h0
  walk_at "rd"
  rename_i l3 H3 nl3 s3 h3
  have R3 := R2.same s3
  have n3 : l3 ≠ dd := R2.dice.ne nl3
  have hC3 : SqT K H3 c (G.cs.map V.str) := (kpS s3).sqT hC2
  refine Rd.rd_sp (dd, c, G.cs.map V.str) rfl ⟨R3.dice, .inr hC3, by show (G.cs.map V.str).length < 1000; rw [List.length_map]; omega, fun D4 ys4 zs4 H4 nD4 pm4 R4 h4 => ?_⟩
  obtain ⟨w4, rfl, hw4, lw4⟩ := strs_part pm4
  have R04 := R3.trans R4
  walk_at "rd"
  refine Rd.rd_cat (R4.keep _ _ n3 h3) h4 (by rw [List.length_map, List.length_map]; exact Rd.small64 (show G.cs.length + w4.length ≤ _ by omega)) fun D5 H5 nD5 s5 h5 => ?_
  rw [← List.map_append] at h5
  have R05 := R04.same s5
  walk_at "rd"
  refine Rd.rd_sp (dd, D5, (G.cs ++ w4).map V.str) rfl ⟨R05.dice, .inl ⟨SqL.of h5, R04.dice.ne nD5⟩, by show ((G.cs ++ w4).map V.str).length < 1000; rw [List.length_map, List.length_append]; omega, fun D6 ys6 H6 nD6 pm6 R6 h6 => ?_⟩
  obtain ⟨v6, pv6, rfl⟩ := perm_map_inv V.str pm6 (G.cs ++ w4) rfl
  have R06 := R05.trans R6
  walk_at "rd"
  rename_i p7 H7 np7 s7 h7
  have R07 := R06.same s7
  have k27 : Kp H2 H7 := (kpS s3).trans ((R4.kp R3.dice).trans ((kpS s5).trans ((R6.kp R05.dice).trans (kpS s7))))
  have hS7 := k27.sqT hS2
  have h07 := k27.sqT h02
  have hp7 : TxT K H7 p7 v6 := SqT.of h7
  have lr : rs.length = G.ts.length := hP2.length
  clear h3 h4 h5 h6 h7 pm4 pm6 hC3
  walk_at "rd"
  refine Rd.rd_sp (dd, t, rs.map V.ref) rfl ⟨R07.dice, .inr hS7, by show (rs.map V.ref).length < 1000; rw [List.length_map]; omega, fun D8 ys8 H8 nD8 pm8 R8 h8 => ?_⟩
  obtain ⟨rs8, pr8, rfl⟩ := perm_map_inv V.ref pm8 rs rfl
  have R08 := R07.trans R8
  walk_at "rd"
  rename_i p9 H9 np9 s9 h9
  have R09 := R08.same s9
  have k79 : Kp H7 H9 := (R8.kp R07.dice).trans (kpS s9)
  have hN9 : SqT K H9 n (G.ns.map V.str) := (k27.trans k79).sqT hN2
  have h09 := k79.sqT h07
  clear h8 pm8
  walk_at "rd"
  refine Rd.rd_sp (dd, n, G.ns.map V.str) rfl ⟨R09.dice, .inr hN9, by show (G.ns.map V.str).length < 1000; rw [List.length_map]; omega, fun D10 ys10 zs10 H10 nD10 pm10 R10 h10 => ?_⟩
  obtain ⟨w10, rfl, hw10, lw10⟩ := strs_part pm10
  have R010 := R09.trans R10
  have k910 : Kp H9 H10 := R10.kp R09.dice
  have hN10 := k910.sqT hN9
  have h010 := k910.sqT h09
  walk_at "rd"
  refine Rd.rd_sp (dd, n, G.ns.map V.str) rfl ⟨R010.dice, .inr hN10, by show (G.ns.map V.str).length < 1000; rw [List.length_map]; omega, fun D11 ys11 zs11 H11 nD11 pm11 R11 h11 => ?_⟩
  obtain ⟨w11, rfl, hw11, lw11⟩ := strs_part pm11
  have R011 := R010.trans R11
  refine Rd.rd_cat (R11.keep _ _ (R09.dice.ne nD10) h10) h11 (by rw [List.length_map, List.length_map]; exact Rd.small64 (show w10.length + w11.length ≤ _ by omega)) fun D12 H12 nD12 s12 h12 => ?_
  rw [← List.map_append] at h12
  have R012 := R011.same s12
  walk_at "rd"
  rename_i p13 H13 np13 s13 h13
  have A13 : Rolled dd H2 H13 := Rolled.pre s3 ((((((((R4.same s5).trans R6).same s7).trans R8).same s9).trans R10).trans R11).same (s12.trans s13))
  have R013 := R012.same s13
  have k1013 : Kp H10 H13 := (R11.kp R010.dice).trans (kpS (s12.trans s13))
  have k213 : Kp H2 H13 := (k27.trans k79).trans (k910.trans k1013)
  have hx13 := hx.rolled A13 R2.dice
  have hp13 := hp.kp (k12.trans k213)
  have hS13 := k213.sqT hS2
  have hP13 : Paired (RowAt K H13) rs G.ts := L2.Paired.mapP hP2 fun _ _ z => z.kp k213
  have h013 := k213.sqT h02
  have hN13 : SqT K H13 n (G.ns.map V.str) := k213.sqT hN2
  have v13 : TxT K H13 p7 v6 := hp7.kp (k79.trans (k910.trans k1013))
  obtain ⟨ts8, pt8, hP8⟩ := paired_perm hP13 pr8
  have r13 : RowsAt K H13 p9 ts8 := ⟨rs8, (k910.trans k1013).sqT (SqT.of h9), hP8⟩
  have w13 : SqT K H13 p13 ((w10 ++ w11).map V.str) := SqT.of h13
  have hww : ∀ z ∈ w10 ++ w11, z ∈ G.ns := fun z hz => (List.mem_append.mp hz).elim (hw10 z) (hw11 z)
  have lww : (w10 ++ w11).length ≤ 16 := by rw [List.length_append]; omega
  have cm6 : ∀ z, z ∈ G.cs ↔ z ∈ v6 := fun z => by
    rw [pv6.mem_iff, List.mem_append]
    exact ⟨.inl, fun h => h.elim id (hw4 z)⟩
  have cl6 : v6.length ≤ 50 := by rw [pv6.length_eq, List.length_append]; omega
  generalize w10 ++ w11 = ww at w13 hww lww
  clear h9 h10 h11 h12 h13 hS7 h07 hp7 hN9 h09 hN10 h010 pm10 pm11 hS2 h02 hC2 hN2 hP2 R3 R04 R05 R06 R07 R08 R09 R010 R011 R012
  refine ⟨fun σ' H' => ∃ q ns0, σ' = [some (V.ref dd), some (V.ref p), some (V.ref x), some (V.ref p7), some (V.ref p9), some (V.ref q), none, none, none] ∧ Same H13 H' ∧ TxT K H' q ns0 ∧ (∀ z ∈ ns0, z ∈ G.ns) ∧ ns0.length ≤ 24 ∧ (G.ts = [] → ∀ z ∈ G.ns, z ∈ ns0), ?_, ?_⟩
  · walk_at "rd"
    rename_i p14 H14 np14 s14 h14
    refine Rd.rd_eqD (RowsAt.dt ⟨rs, Rd.Same.sqT s14 hS13, L2.Paired.mapP hP13 fun _ _ z => z.kp (kpS s14)⟩).dp (.tup h14.sq .nil) (shaped_of (can_rows GO.tO) (by decide)) (show SeqAt.shaped (.tuple []) = true by decide +kernel) ?_
    rw [eqv_nilM]
    refine ⟨_, rfl, ?_⟩
    refine ite2 (fun hc => ?_) (fun hc => ?_)
    · have h014 := Rd.Same.sqT s14 h013
      have hN14 := Rd.Same.sqT s14 hN13
      have w14 := Rd.Same.sqT s14 w13
      walk_at "rd"
      refine Rd.rd_catA hN14 w14 (by rw [List.length_map, List.length_map]; exact Rd.small64 (show G.ns.length + ww.length ≤ _ by omega)) fun p15 H15 s15 h15 => ?_
      rw [← List.map_append] at h15
      walk_at "rd"
      exact ⟨p15, G.ns ++ ww, rfl, s14.trans s15, h15, fun z hz => (List.mem_append.mp hz).elim id (hww z), by rw [List.length_append]; omega, fun _ z hz => List.mem_append_left _ hz⟩
    · have hne : G.ts ≠ [] := fun e => hc (decide_eq_true e)
      walk_at "rd"
      exact ⟨p13, ww, rfl, s14, TxT.kp (kpS s14) w13, hww, by omega, fun e => absurd e hne⟩
  · rintro σ' H14 ⟨q, ns0, rfl, s14, hq, hns0, lns0, hne0⟩
    have NM : Norm v6 ns0 ts8 G := ⟨cm6, cl6, fun z => ⟨fun hz => by
      by_cases e : G.ts = []
      · exact .inl (hne0 e z hz)
      · obtain ⟨u, hu, hh⟩ := touched GO e hz
        exact .inr ⟨u, pt8.mem_iff.mpr hu, hh⟩, fun h => by
      rcases h with h | ⟨u, hu, h | h⟩
      · exact hns0 z h
      · rw [h]; exact (GO.lp.ends u (pt8.mem_iff.mp hu)).1
      · rw [h]; exact (GO.lp.ends u (pt8.mem_iff.mp hu)).2⟩, by omega, pt8.symm⟩
    walk_at "rd"
    refine ⟨rfl, ?_⟩
    walk_at "rd"
    refine Rd.rd_sp ((p7, p9, q), (v6, ns0, ts8), G) rfl ⟨v13.kp (kpS s14), r13.kp (kpS s14), hq, NM, GO, fun y H15 s15 hy => ?_⟩
    walk_at "rd"
    refine Rd.rd_sp ((p7, p9, q), (v6, ns0, ts8), G) rfl ⟨v13.kp (kpS (s14.trans s15)), r13.kp (kpS (s14.trans s15)), hq.kp (kpS s15), NM, GO, fun z H16 s16 hz => ?_⟩
    walk_at "rd"
    rename_i p17 H17 np17 s17 h17
    have s1317 := s14.trans (s15.trans (s16.trans s17))
    have hx17 := hx13.same s1317
    have hy17 := hy.same (s16.trans s17)
    have hz17 := hz.same s17
    have hp17 := hp13.kp (kpS s1317)
    have h17' : SqT K H17 p17 [V.ref x, V.ref y, V.ref z] := SqT.of h17
    refine Rd.for_tup (K := K) (xs := [V.ref x, V.ref y, V.ref z]) (fun i σ' H' => ∃ o, σ' = [some (V.ref dd), some (V.ref p), some (V.ref x), some (V.ref p7), some (V.ref p9), some (V.ref q), o, none, none] ∧ Same H17 H') ⟨none, rfl, Same.refl _⟩ (fun i σ' H18 _ q => let ⟨_, _, s⟩ := q; Rd.Same.sqT s h17') (fun i v σ' H18 hv q => ?_) (fun σ' H18 q => ?_)
    · obtain ⟨o, rfl, s18⟩ := q
      obtain ⟨u, rfl, hu⟩ : ∃ u, v = V.ref u ∧ GraphAt K a.C H17 u G := by
        have := List.mem_of_getElem? hv
        simp only [List.mem_cons, List.not_mem_nil, or_false] at this
        rcases this with e | e | e
        · exact ⟨x, e, hx17⟩
        · exact ⟨y, e, hy17⟩
        · exact ⟨z, e, hz17⟩
      walk_at "rd"
      refine Rd.rd_sp (u, p, G) rfl ⟨hu.same s18, hp17.kp (kpS s18), GO, DR, fun H19 s19 => ?_⟩
      walk_at "rd"
      refine Rd.if_f rfl ?_
      have hu19 := hu.same (s18.trans s19)
      have hx19 := hx17.same (s18.trans s19)
      walk_at "rd"
      refine rd_geqA hu19 hx19 GO GO fun b hb => ?_
      obtain rfl : b = true := hb.mpr rfl
      walk_at "rd"
      refine Rd.if_f rfl ?_
      walk_at "rd"
      refine rd_geqA hu19 hx19 GO GO fun b hb => ?_
      obtain rfl : b = true := hb.mpr rfl
      walk_at "rd"
      refine Rd.if_f rfl ?_
      walk_at "rd"
      exact ⟨_, rfl, s18.trans s19⟩
    · obtain ⟨o, rfl, s18⟩ := q
      have hx18 := hx17.same s18
      have hp18 := hp17.kp (kpS s18)
      walk_at "rd"
      refine Rd.rd_sp (p, G) rfl ⟨hp18, GO, DR, fun D20 ps20 Gs20 H20 nD20 s20 h20 hP20 hG20 l20 => ?_⟩
      obtain ⟨zs, e1, e2, hz20⟩ := paired_zs6 hP20
      have lz : zs.length ≤ 20 := by rw [← e2, List.length_map] at l20; exact l20
      have hS20 : SqL K H20 D20 (zs.map fun z => V.ref z.1) := by
        rw [← e1, List.map_map] at h20
        exact SqL.of h20
      have gz : ∀ z ∈ zs, GOk z.2 ∧ z.2 ≠ G := fun z hz => hG20 z.2 (e2 ▸ List.mem_map.mpr ⟨z, hz, rfl⟩)
      walk_at "rd"
      refine lc_relM zs (fun z => V.ref z.1) (fun z v H => ∃ r, v = .ref r ∧ GraphAt K a.C H r z.2) (fun z v H H' s q => let ⟨r, e, q⟩ := q; ⟨r, e, q.same s⟩) (fun z v H D us us' h q => let ⟨r, e, q⟩ := q; ⟨r, e, q.lst h⟩) (by omega) hS20 (fun z H21 M hz s21 hM => ?_) (fun l23 H23 us nl23 s23 h23 hP23 => ?_)
      · refine Rd.rd_start' [some (V.ref dd), some (V.ref p), some (V.ref x), some (V.ref p7), some (V.ref p9), some (V.ref q), o, none, none] rfl ?_
        walk_at "rd"
        refine ⟨rfl, ?_⟩
        walk_at "rd"
        exact Rd.rd_sp (z.1, z.2) rfl ⟨(hz20 z hz).kp (kpS s21), (gz z hz).1, fun r H22 s22 hr => hM _ _ s22 ⟨r, rfl, hr⟩⟩
      have s1823 := s20.trans s23
      have hx23 := hx18.same s1823
      have hp23 := hp18.kp (kpS s1823)
      obtain ⟨dx, pc, ps, pt, pn, pr, ix⟩ := hx23.ins
      obtain ⟨c', n', t', h023, hC23, hN23, hT23⟩ := id hp23
      obtain ⟨rs23, hS23, _⟩ := id hT23
      clear h20 hP20 e1 hS20
      walk_at "rd"
      refine ⟨x, dx, _, rfl, ix, Rd.rd_sp (x, G) rfl ⟨hx23, fun qn hqn => ?_⟩⟩
      dsimp only at hqn
      walk_at "rd"
      refine ⟨x, dx, _, rfl, ix, Rd.rd_sp (x, G) rfl ⟨hx23, GO, graphT G, rfl, ?_⟩⟩
      walk_at "rd"
      rename_i l24 H24 nl24 s24 h24
      have lus : us.length ≤ 20 := by rw [hP23.length]; exact lz
      refine Rd.rd_cat (s24 _ _ h23) h24 (Rd.small64 (show us.length + 6 ≤ _ by omega)) fun l25 H25 nl25 s25 h25 => ?_
      have s2325 := s24.trans s25
      have hx25 := hx23.same s2325
      have hp25 := hp23.kp (kpS s2325)
      have hqn25 := hqn.kp (kpS s2325)
      have hT25 := Rd.Same.sqT s2325 hS23
      have cl : ∀ v ∈ us ++ [V.non, V.ref p, V.ref t', V.ref qn, V.int 7, V.str (graphT G)], (∃ r J, v = .ref r ∧ GraphAt K a.C H25 r J ∧ GOk J ∧ J ≠ G) ∨ ∃ T0 : String, (∀ H26, Same H25 H26 → TyX K H26 v (.type T0)) ∧ T0 ∈ ["int", "NoneType", "str", "tuple"] := by
        intro v hv
        rcases List.mem_append.mp hv with hv | hv
        · obtain ⟨z, hz, r, e, hr⟩ := paired_mem hP23 v hv
          exact .inl ⟨r, z.2, e, hr.same s2325, gz z hz⟩
        · refine .inr ?_
          simp only [List.mem_cons, List.not_mem_nil, or_false] at hv
          obtain ⟨_, _, _, h025, _⟩ := id hp25
          rcases hv with rfl | rfl | rfl | rfl | rfl | rfl
          · exact ⟨"NoneType", fun _ _ => .base .non, by decide⟩
          · exact ⟨"tuple", fun _ s => Rd.ty_tup (Rd.Same.sqT s h025), by decide⟩
          · exact ⟨"tuple", fun _ s => Rd.ty_tup (Rd.Same.sqT s hT25), by decide⟩
          · exact ⟨"tuple", fun _ s => Rd.ty_tup (Rd.Same.sqT s hqn25), by decide⟩
          · exact ⟨"int", fun _ _ => .base (.int _), by decide⟩
          · exact ⟨"str", fun _ _ => .base (.str _), by decide⟩
      have h25' : SqL K H25 l25 (us ++ [V.non, V.ref p, V.ref t', V.ref qn, V.int 7, V.str (graphT G)]) := SqL.of h25
      clear h23 h24 h25 hP23 hqn hqn25 hT25 h023 hC23 hN23 hT23 hS23 hp23 hx23 ix
      walk_at "rd"
      refine Rd.for_list (K := K) (xs := us ++ [V.non, V.ref p, V.ref t', V.ref qn, V.int 7, V.str (graphT G)]) (fun i σ' H' => ∃ o, σ' = [some (V.ref dd), some (V.ref p), some (V.ref x), some (V.ref p7), some (V.ref p9), some (V.ref q), o, some (V.ref l23), none] ∧ Same H25 H') ⟨_, rfl, Same.refl _⟩ (fun i σ' H26 _ q => let ⟨_, _, s⟩ := q; L2.Same.seq s h25') (fun i v σ' H26 hv q => ?_) (fun σ' H26 q => ?_)
      · obtain ⟨o2, rfl, s26⟩ := q
        have hx26 := hx25.same s26
        rcases cl v (List.mem_of_getElem? hv) with ⟨r, J, rfl, hr, JO, ne⟩ | ⟨T0, ty, hT0⟩
        · have hr26 := hr.same s26
          walk_at "rd"
          refine .inl (rd_geqA hx26 hr26 GO JO fun b hb => ?_)
          obtain rfl : b = false := Bool.eq_false_iff.mpr fun e => ne (hb.mp e).symm
          walk_at "rd"
          refine Rd.if_f rfl ?_
          walk_at "rd"
          refine .inl (rd_geqA hx26 hr26 GO JO fun b hb => ?_)
          obtain rfl : b = false := Bool.eq_false_iff.mpr fun e => ne (hb.mp e).symm
          walk_at "rd"
          refine Rd.if_f rfl ?_
          walk_at "rd"
          exact ⟨_, rfl, s26⟩
        · have ty26 : TyX K H26 v (.type T0) := ty H26 s26
          walk_at "rd"
          refine .inr (rd_geqF D hx26 ty26 hT0 ?_)
          walk_at "rd"
          refine Rd.if_f rfl ?_
          walk_at "rd"
          refine .inr (rd_geqF D hx26 ty26 hT0 ?_)
          walk_at "rd"
          refine Rd.if_f rfl ?_
          walk_at "rd"
          exact ⟨_, rfl, s26⟩
      · obtain ⟨o2, rfl, s26⟩ := q
        walk_at "rd"
        refine Rd.rd_sp (x, p, G) rfl ⟨hx25.same s26, hp25.kp (kpS s26), GO, DR, fun H27 s27 => ?_⟩
        have fin := k H27 ((R2.trans A13).same ((s1317.trans s18).trans ((s1823.trans s2325).trans (s26.trans s27))))
        first | exact fin | (walk_at "rd"; exact fin)
theorem ok_law (T : GraphC K mg a) (D : GraphH K a.C d) (F : Rd.Has K mg "law" s_law) (g : Glob mg) (c__law_dice : Rd.Fn true P w K mg base CX0 1 "_law_dice" (spDice K)) (c__law_right : Rd.Fn true P w K mg base CX0 12 "_law_right" spRight) (c_Graph : Rd.FnK P w K mg base CX0 7 a.fi "states" (Rd.spStarK (spGInit K a.C))) (c_counters : FnR P w K mg base CX0 1 a.gc (spGCnt K a.C (·.cs))) (c_states : FnR P w K mg base CX0 1 a.gs (spGCnt K a.C (·.ns))) (c_names : FnR P w K mg base CX0 1 a.gn (spGNames K a.C)) (c_len : FnR P w K mg base CX0 1 d.ln (spGLen K a.C)) (c_str : FnR P w K mg base CX0 1 d.st (spGStr K a.C)) (c_iter : ∀ base : Heap, FnR P w K mg base CX0 1 d.it (spGIter K a.C base.objs.size)) :
    Rd.Fn true P w K mg base CX0 13 "law" (spLaw K) := by
  refine F.fn sc_law (fun _ => rfl) (fun _ _ _ _ _ _ us hl => match us, hl with | [_], _ => rfl) fun f cdv A outer s H Q E b hr h => ?_
  obtain ⟨b, ns⟩ := b
  obtain ⟨hS, hz, k⟩ := h
  dsimp only at hS hz
  refine ⟨_, (pss_cons (ps_for PassesOwn.never rfl (pi_range1 (by rfl) g.range (pa_cons (pe_callB (Rd.c_max2 rfl) (by rfl) g.max (by decide +kernel) (pa_cons pe_int (pa_cons (pe_callB (Rd.c_min2 rfl) (by rfl) g.min (by decide +kernel) (pa_cons pe_int (pa_cons (pe_callB Rd.c_len (by rfl) g.len (by decide +kernel) (pa_cons (pv 0) pa_nil)) pa_nil))) pa_nil))) pa_nil)) (pg_name (i := 1) sc_law.nd rfl (Or.inl rfl)) (pss_cons (ps_set (i := 2) sc_law.nd rfl (Or.inl rfl) (Rd.pe_fn c__law_dice (hr.mono (by decide)) (by rfl) (pa_cons (pv 0) (pa_cons (pv 1) pa_nil))))
      (pss_one (ps_for PassesOwn.never rfl (pi_range1 (by rfl) g.range (pa_cons pe_int pa_nil)) (pg_name (i := 3) sc_law.nd rfl (Or.inl rfl)) (pss_one (ps_if (pt_not (pt_val (Rd.pe_fn c__law_right (hr.mono (by decide)) (by rfl) (pa_cons (pv 2) pa_nil)))) (pss_one (ps_ret pe_bl)) pss_nil))))))
      (pss_cons (ps_set (i := 4) sc_law.nd rfl (Or.inl rfl) (Rd.pe_mkKG T.mk_ c_Graph (hr.mono (by decide)).toRoom pass0 (by rfl) T.mgC (pa_cons (Rd.pe_tup (pa_cons pe_str (pa_cons pe_str pa_nil))) pa_nil) (Rd.pe_tup (pa_cons pe_str (pa_cons pe_str pa_nil)))))
      (pss_cons (ps_set (i := 5) sc_law.nd rfl (Or.inl rfl) (Rd.pe_lst (pa_cons (Rd.pe_propR (pv 4) T.cl T.pr_s c_states (hr.mono (by decide)).toRoom pass0) (pa_cons (Rd.pe_propR (pv 4) T.cl T.pr_c c_counters (hr.mono (by decide)).toRoom pass0) (pa_cons (Rd.pe_propR (pv 4) T.cl T.pr_n c_names (hr.mono (by decide)).toRoom pass0) (pa_cons (pe_callB (Rd.c_lenO D.ln D.lnf c_len (hr.mono (by decide)).toRoom pass0) (by rfl) g.len (by decide +kernel) (pa_cons (pv 4) pa_nil)) (pa_cons (pe_lc (own := [("_law_row", 6)]) (by rfl) sc_law.nd (Rd.pi_own (pv 4) D.it c_iter (hr.mono (by decide)).toRoom) (blkOk_by (own := [("_law_row", 6)]) (N := ["_law_script", "_law_at", "_law_dice_here", "_law_turn", "_law_lone", "_law_told", "_law_row"]) (sc := defScope s_law) (by decide +kernel)) (fun _ _ _ _ _ => (pg_name (i := 6) sc_law.nd rfl (Or.inl rfl))) (fun _ _ _ _ _ => pts_nil) (fun _ _ _ _ _ => (pv 6))) (pa_cons (pe_callTy (Rd.c_strO D.st D.stf c_str (hr.mono (by decide)).toRoom pass0) (by rfl) g.str (by decide +kernel) (pa_cons (pv 4) pa_nil)) (pa_cons (pe_callTy (Rd.c_boolO D.bo D.ln D.lnf c_len (hr.mono (by decide)).toRoom pass0) (by rfl) g.bool (by decide +kernel) (pa_cons (pv 4) pa_nil)) pa_nil)))))))))
      (pss_one (ps_ret (pe_cmpR (op_eqD hr.units) (pv 5) (Rd.pe_lst (pa_cons (Rd.pe_tup (pa_cons pe_str pa_nil)) (pa_cons (Rd.pe_tup (pa_cons pe_str pa_nil)) (pa_cons (Rd.pe_tupF pa_nil) (pa_cons pe_int (pa_cons (Rd.pe_lst pa_nil) (pa_cons pe_str (pa_cons pe_bl pa_nil)))))))) (nomark _))))))), ?_⟩
  try simp only [Rd.noxK, Rd.cxK]
  refine Rd.rd_start [some (V.ref b), none, none, none, none, none, none] rfl ?_
  walk_at "rd"
  refine Rd.rd_IR1 ?_ ?_ ?_
  · split <;> (try split) <;> simp_all <;> omega
  · split <;> (try split) <;> simp_all <;> omega
  refine Rd.for_range (fun i σ H' => ∃ o1 o2 o3, σ = [some (V.ref b), o1, o2, o3, none, none, none] ∧ Same H H') ⟨_, _, _, rfl, Same.refl H⟩ ?_ ?_
  · rintro i σ H1 hi ⟨o1, o2, o3, rfl, s1⟩
    walk_at "rd"
    refine Rd.rd_sp (b, ns, i) (by simp) ⟨L2.Same.seq s1 hS, fun d2 H2 hd s2 hD => ?_⟩
    walk_at "rd"
    refine Rd.rd_IR1 (by decide) (by decide) ?_
    refine Rd.for_range (fun j σ H' => Rolled d2 H2 H' ∧ ∃ o3, σ = [some (V.ref b), some (V.int (0 + (i : Nat))), some (V.ref d2), o3, none, none, none]) ⟨Rolled.refl hD, _, rfl⟩ ?_ ?_
    · rintro j σ H3 hj ⟨R3, o4, rfl⟩
      walk_at "rd"
      refine Rd.rd_sp d2 rfl ⟨R3.dice, fun H4 R4 => ?_⟩
      walk_at "rd"
      refine Rd.if_f rfl ?_
      walk_at "rd"
      exact ⟨R3.trans R4, _, rfl⟩
    · rintro σ H3 ⟨R3, o4, rfl⟩
      walk_at "rd"
      refine ⟨_, _, _, rfl, fun c o e => ?_⟩
      have e1 := s1 _ _ e
      exact R3.keep _ _ (ne_of_none e1 hd) (s2 _ _ e1)
  rintro σ H1 ⟨o1, o2, o3, rfl, s1⟩
  clear hS s1
  walk_at "rd"
  refine Rd.rd_mkKG ?_
  walk_at "rd"
  refine rmk_q6 fun QQ hQQ => ?_
  unfold Rd.rMkSK
  walk_at "rd"
  rename_i p2 H2 np2 s2 h2 p3 H3 np3 s3 h3
  refine make_graph (rs := []) (NM := lone_norm) (GO := lone_ok) (SqT.of (s3 _ _ h2)) (SqT.of h3) .nil fun x H4 s4 hx => hQQ _ _ ?_
  clear hQQ
  obtain ⟨dx, pc, ps, pt, pn, pr, ix⟩ := hx.ins
  walk_at "rd"
  refine ⟨x, dx, _, rfl, ix, Rd.rd_sp (x, loneG) rfl ⟨hx, fun qs hqs => ?_⟩⟩
  walk_at "rd"
  refine ⟨x, dx, _, rfl, ix, Rd.rd_sp (x, loneG) rfl ⟨hx, fun qc hqc => ?_⟩⟩
  walk_at "rd"
  refine ⟨x, dx, _, rfl, ix, Rd.rd_sp (x, loneG) rfl ⟨hx, fun qn hqn => ?_⟩⟩
  dsimp only at hqs hqc hqn
  walk_at "rd"
  refine ⟨x, dx, _, rfl, ix, Rd.rd_sp (x, loneG) rfl ⟨hx, 0, rfl, by decide, ?_⟩⟩
  walk_at "rd"
  refine ⟨x, rfl, ⟨dx, _, ix⟩, fun n5 => Rd.rd_sp (x, loneG) rfl ⟨hx, fun it q5 us5 hq5 hP5 hi1 hi2 => ⟨it, q5, rfl, hi2, upd_same, ?_⟩⟩⟩
  rw [ItX.dropH_upd hi1]
  cases hP5
  refine Rd.lc_tup (K := K) (xs := []) (fun v => v) (by decide) hq5 (fun v H5 M hv s5 hM => (List.not_mem_nil hv).elim) (fun l5 H5 nl5 s5 h5 => ?_)
  have hx5 := hx.same s5
  have ix5 := s5 _ _ ix
  walk_at "rd"
  refine ⟨x, dx, _, rfl, ix5, Rd.rd_sp (x, loneG) rfl ⟨hx5, lone_ok, graphT loneG, rfl, ?_⟩⟩
  rw [lone_text]
  walk_at "rd"
  refine ⟨x, dx, _, rfl, ix5, Rd.rd_sp (x, loneG) rfl ⟨hx5, 0, rfl, by decide, ?_⟩⟩
  walk_at "rd"
  rename_i l6 H6 nl6 s6 h6 p7 H7 np7 s7 h7 p8 H8 np8 s8 h8 p9 H9 np9 s9 h9 l10 H10 nl10 s10 h10 l11 H11 nl11 s11 h11
  have t10 := s11
  have t9 := s10.trans t10
  have t8 := s9.trans t9
  have t7 := s8.trans t8
  have t6 := s7.trans t7
  have t5 := s6.trans t6
  have t4 := s5.trans t5
  have d1 : DpAll K H11 [V.ref qs, V.ref qc, V.ref qn, V.int 0, V.ref l5, V.str "graph of 1 states, 1 counters, 0 transitions", V.bl false] toldD := .cons (hqs.kp (kpS t4)).dt.dp (.cons (hqc.kp (kpS t4)).dt.dp (.cons (hqn.kp (kpS t4)).dt.dp (.cons (.int _) (.cons (.lst (SqL.of (t5 _ _ h5)) .nil) (.cons (.str _) (.cons (.bl _) .nil))))))
  have w7 : TxT K H11 p7 ["p"] := SqT.of (t7 _ _ h7)
  have w8 : TxT K H11 p8 ["x"] := SqT.of (t8 _ _ h8)
  have w9 : TxT K H11 p9 [] := (h9.same t9).sq
  have d2 : DpAll K H11 [V.ref p7, V.ref p8, V.ref p9, V.int 0, V.ref l10, V.str "graph of 1 states, 1 counters, 0 transitions", V.bl false] toldD := .cons w7.dt.dp (.cons w8.dt.dp (.cons w9.dt.dp (.cons (.int _) (.cons (.lst (SqL.of (t10 _ _ h10)) .nil) (.cons (.str _) (.cons (.bl _) .nil))))))
  refine Rd.rd_eqD (.lst (SqL.of (t6 _ _ h6)) d1) (.lst (SqL.of h11) d2) told_ok.1 told_ok.1 ?_
  rw [told_ok.2]
  exact k _
end
end M
set_option Elab.async false
set_option linter.all false
set_option maxRecDepth 100000
set_option maxHeartbeats 4000000
/-! Hd: a head's Hook: defs by where they stand, and one Bool of one's own over what the names reach. -/
namespace Hd
open PySem PySem.Spec PyProof.Rows L2
def obsM (ex : PySem.W.Frag → Bool) (fn : List He5.DefA) (K : PySem.W.Frag) : He.AlD := (ex K && fn.all fun d => d.ok K, fn.map fun d => He5.fnA K (d.at_ K))
def SaysM (ex : PySem.W.Frag → Bool) (fn : List He5.DefA) (K : PySem.W.Frag) : Prop := obsM ex fn K = He5.valA fn
def obsMG (n : Nat) (ex : PySem.W.Frag → Bool) (fn : List He5.DefA) (g : Addr → Option Obj) : He.AlD := obsM ex fn (He.frG g (He5.asA g n))
def hookM (n : Nat) (ex : PySem.W.Frag → Bool) (fn : List He5.DefA) : PySem.W.Hook where
  α := He.AlD
  obs := fun s => obsMG n ex fn s.heap.get?
  val := fun _ => He5.valA fn
  says := fun _ h => ∃ K : PySem.W.Frag, K.In h ∧ SaysM ex fn K
  of := fun _ _ e => ⟨_, He.frG_in, e⟩
  keeps := fun _ _ _ ⟨K, hK, c⟩ k => ⟨K, PySem.W.Frag.In.keeps hK k, c⟩
theorem obsMG_eq {n : Nat} {ex : PySem.W.Frag → Bool} {fn : List He5.DefA} {g : Addr → Option Obj} {s : Shared} (h : ∀ a, g a = s.heap.get? a) : obsMG n ex fn g = (hookM n ex fn).obs s := by
  have e : g = s.heap.get? := funext h
  rw [e] <;> rfl
section
variable {ex : PySem.W.Frag → Bool} {fn : List He5.DefA} {K : PySem.W.Frag}
theorem SaysM.fact (c : SaysM ex fn K) : ex K = true := (He.ba (show (ex K && fn.all fun d => d.ok K) = true from congrArg (fun z : He.AlD => z.1) c)).1
theorem SaysM.def_ (c : SaysM ex fn K) (i : Nat) {d : He5.DefA} (h : fn[i]? = some d := by rfl) : ∃ fd, L2.FunD K d.name d.qual d.params d.body d.scope (d.dvs K) (d.kws K) (d.at_ K) fd := by
  have c2 := (He.ba (show (ex K && fn.all fun d => d.ok K) = true from congrArg (fun z : He.AlD => z.1) c)).2
  have e : fn.map (fun d => He5.fnA K (d.at_ K)) = fn.map He5.DefA.val := congrArg (fun z : He.AlD => z.2) c
  have e2 : (fn.map fun d => He5.fnA K (d.at_ K))[i]? = (fn.map He5.DefA.val)[i]? := by rw [e]
  rw [List.getElem?_map, List.getElem?_map, h] at e2
  exact He5.DefA.funD (Option.some.inj e2) (List.all_eq_true.mp c2 d (List.mem_of_getElem? h))
end
end Hd
set_option Elab.async false
set_option linter.all false
set_option maxRecDepth 100000
set_option maxHeartbeats 0
namespace M
open PySem L2
/-! ### the head: facts by names -/
def dF (x : Str) (st : Stmt) : He5.DefA := ⟨fun K => He.ga K x, x, x, defArgs st, defBody st, defScope st, [], []⟩
def dM (C m qual : Str) (st : Stmt) : He5.DefA := ⟨fun K => He.ma K (He.ga K C) m, m, qual, defArgs st, defBody st, defScope st, [], []⟩
def dC (C m qual : Str) (st : Stmt) : He5.DefA := ⟨fun K => He5.wf K (He.ga K C) "classmethod" m, m, qual, defArgs st, defBody st, defScope st, [], []⟩
section
variable {K : PySem.W.Frag} {h : Heap} {mg : Str → Option Value} {ex : PySem.W.Frag → Bool} {fn : List He5.DefA}
theorem keep_of {x q : Str} {ps : Arguments} {b : List Stmt} {sc : Scope} {ds : List V} {ks : List (Str × V)} {f : Addr} {fd : FuncData} (F : L2.FunD K x q ps b sc ds ks f fd) : PySem.W.keepIn K (.ref f) = true := by
  obtain ⟨oc, od, dV, kV, doc, pm, an, cdv, ct, osl, e, lk, _⟩ := F.ex
  unfold PySem.W.keepIn
  dsimp only
  rw [lk]
theorem has_of (X : K.In h) (G : h.Ns mainGlobals mg) (c : Hd.SaysM ex fn K) (i : Nat) {x : Str} {st : Stmt} (hi : fn[i]? = some (dF x st)) (hg : (He.Fa.glo x).ok K = true) : Rd.Has K mg x st := by
  obtain ⟨fd, F⟩ := c.def_ i hi
  exact ⟨He.ga K x, ⟨fd, F⟩, He.glo_ok X G hg, keep_of F⟩
theorem hasM_of (c : Hd.SaysM ex fn K) (i : Nat) {C m qual : Str} {st : Stmt} (hi : fn[i]? = some (dM C m qual st)) : Rd.HasAt K (He.ma K (He.ga K C) m) m qual st := by
  obtain ⟨fd, F⟩ := c.def_ i hi
  exact ⟨fd, F⟩
theorem hasC_of (c : Hd.SaysM ex fn K) (i : Nat) {C m qual : Str} {st : Stmt} (hi : fn[i]? = some (dC C m qual st)) : Rd.HasAt K (He5.wf K (He.ga K C) "classmethod" m) m qual st := by
  obtain ⟨fd, F⟩ := c.def_ i hi
  exact ⟨fd, F⟩
/-- attributes of the class x are read off it -/
def readB (K : PySem.W.Frag) (x : Str) : Bool := PySem.W.readsIn K (He.ga K x) (.type "type") && He.eqO (PySem.W.specialIn K (.ref (He.ga K x)) "__getattribute__") (some (some (.builtin "type.__getattribute__")))
theorem read_ok {x : Str} (h : readB K x = true) : ClX.CRead K (He.ga K x) (.type "type") := by
  obtain ⟨h1, h2⟩ := He.ba h
  exact ⟨h1, He.eqO_ok h2⟩
/-- x.m is a class method -/
def cmetB (K : PySem.W.Frag) (x m : Str) : Bool := He5.wrapB K (He.ga K x) "classmethod" "classmethod.__get__" m && PySem.W.fnIn K (He5.wf K (He.ga K x) "classmethod" m)
theorem cmet_ok {x m : Str} (h : cmetB K x m = true) : ClX.CMet K (He.ga K x) (.type "type") m (He.ma K (He.ga K x) m) (He5.wf K (He.ga K x) "classmethod" m) := by
  obtain ⟨h1, h2⟩ := He.ba h
  exact He5.cmet_of h1 h2
end
/-! ### the class Graph, by names -/
def dP (C m qual : Str) (st : Stmt) : He5.DefA := ⟨fun K => He5.wf K (He.ga K C) "property" m, m, qual, defArgs st, defBody st, defScope st, [], []⟩
/-- the one default, the keyword's default of the def at f -/
def dfAt (K : PySem.W.Frag) (f : Addr) : Addr := match K.lookup f with
  | some ⟨_, _, .func fd, _⟩ => (match fd.defaults with
    | .ref T => (match K.lookup T with
      | some ⟨_, _, .seq its _, _⟩ => (match its.toList.head? with
        | some (Value.ref a) => a
        | _ => 0)
      | _ => 0)
    | _ => 0)
  | _ => 0
def kwAt (K : PySem.W.Frag) (f : Addr) (x : Str) : Addr := match K.lookup f with
  | some ⟨_, _, .func fd, _⟩ => (match fd.kwdefaults with
    | .ref D => (match PySem.W.nsIn K D x with
      | some (some (.ref a)) => a
      | _ => 0)
    | _ => 0)
  | _ => 0
def dCD (C m qual : Str) (st : Stmt) : He5.DefA := ⟨fun K => He5.wf K (He.ga K C) "classmethod" m, m, qual, defArgs st, defBody st, defScope st, [.adr fun K => dfAt K (He5.wf K (He.ga K C) "classmethod" m)], []⟩
def dMK (C m qual kw : Str) (st : Stmt) : He5.DefA := ⟨fun K => He.ma K (He.ga K C) m, m, qual, defArgs st, defBody st, defScope st, [], [(kw, .adr fun K => kwAt K (He.ma K (He.ga K C) m) kw)]⟩
def aG (K : PySem.W.Frag) : AdsG where
  C := He.ga K "Graph"
  fi := He.ma K (He.ga K "Graph") "__init__"
  fo := He5.wf K (He.ga K "Graph") "classmethod" "of"
  po := He.ma K (He.ga K "Graph") "of"
  ch := He.ma K (He.ga K "Graph") "change"
  lv := He.ma K (He.ga K "Graph") "leaving"
  en := He.ma K (He.ga K "Graph") "entering"
  gi := He.ma K (He.ga K "Graph") "__getitem__"
  eq := He.ma K (He.ga K "Graph") "__eq__"
  pn := He.ma K (He.ga K "Graph") "names"
  gn := He5.wf K (He.ga K "Graph") "property" "names"
  pt := He.ma K (He.ga K "Graph") "transitions"
  gt := He5.wf K (He.ga K "Graph") "property" "transitions"
  pc := He.ma K (He.ga K "Graph") "counters"
  gc := He5.wf K (He.ga K "Graph") "property" "counters"
  ps := He.ma K (He.ga K "Graph") "states"
  gs := He5.wf K (He.ga K "Graph") "property" "states"
/-- the default of the states -/
def aE (K : PySem.W.Frag) : Addr := kwAt K (aG K).fi "states"
def propB (K : PySem.W.Frag) (C : Addr) (m : Str) : Bool := He.eqO (PySem.W.findIn K (.ref C) m) (some (some (.ref (He.ma K C m)))) && (He.eqO (PySem.W.specialIn K (.ref (He.ma K C m)) "__get__") (some (some (.builtin "property.__get__"))) && (decide (PySem.W.takesIn K (.ref (He.ma K C m)) = some true) && (match PySem.W.recIn K (He.ma K C m) "property" with
  | some (.ref _ :: _) => true
  | _ => false)))
def eqB (K : PySem.W.Frag) (C f : Addr) : Bool := He.eqO (PySem.W.findIn K (.ref C) "__eq__") (some (some (.ref f))) && (PySem.W.isFn K (.ref f) && (He.eqO (PySem.W.findIn K (.ref C) "__ne__") (some (some (.builtin "object.__ne__"))) && decide (PySem.W.mroIn K C (.type "object") = some true)))
def objB (K : PySem.W.Frag) (C : Addr) : Bool := He.eqO (PySem.W.findIn K (.ref C) "__class__") (some (some (.builtin "object.__class__"))) && (He.eqO (PySem.W.specialIn K (.builtin "object.__class__") "__get__") (some (some (.builtin "getset_descriptor.__get__"))) && (decide (PySem.W.takesIn K (.builtin "object.__class__") = some true) && (decide (PySem.W.mroIn K C (.type "object") = some true) && decide (PySem.W.kitOne K (.ref C) (.ref C) = some true))))
def methB (K : PySem.W.Frag) (C f : Addr) (m : Str) : Bool := He.eqO (PySem.W.findIn K (.ref C) m) (some (some (.ref f))) && (PySem.W.isFn K (.ref f) && PySem.W.fnIn K f)
/-- the empty tuple at e -/
def emptyB (K : PySem.W.Frag) (e : Addr) : Bool := match K.lookup e with
  | some ⟨.type c, _, .seq its _, _⟩ => decide (c = "tuple") && (decide (its.size ≤ sizeLine) && He.relAll [] its.toList)
  | _ => false
def graphL (K : PySem.W.Frag) : List Bool := [readB K "Graph", cmetB K "Graph" "of", propB K (aG K).C "names", propB K (aG K).C "transitions", propB K (aG K).C "counters", propB K (aG K).C "states", methB K (aG K).C (aG K).gi "__getitem__", eqB K (aG K).C (aG K).eq, objB K (aG K).C, emptyB K (aE K)]
def graphB (K : PySem.W.Frag) : Bool := (graphL K).all id
def graphFa : List He.Fa := [.glo "Graph", .cls "Graph", .noat "Graph" "own_counters", .noat "Graph" "own_states", .noat "Graph" "own_transitions", .noat "Graph" "own_names", .noat "Graph" "own_rows", .mkr "Graph", .meth "Graph" "change", .meth "Graph" "leaving", .meth "Graph" "entering", .int "MAX_COUNTERS" 5, .int "MAX_STATES" 8, .int "MAX_TRANSITIONS" 16, .int "MAX_CHANGE" 9, .int "MAX_NAME" 8, .str "LETTERS" letters]
section
variable {K : PySem.W.Frag} {h : Heap} {mg : Str → Option Value}
theorem prop_ok {C : Addr} {m : Str} (c : propB K C m = true) : PropOf K C m (He.ma K C m) (He5.wf K C "property" m) := by
  obtain ⟨h1, c⟩ := He.ba c
  obtain ⟨h2, c⟩ := He.ba c
  obtain ⟨h3, h4⟩ := He.ba c
  refine ⟨He.eqO_ok h1, He.eqO_ok h2, of_decide_eq_true h3, ?_⟩
  unfold He5.wf
  split at h4
  · rename_i f r e
    exact ⟨r, by rw [e]⟩
  · cases h4
theorem eq_ok {C f : Addr} (c : eqB K C f = true) : Rd.OwnEq K C f := by
  obtain ⟨h1, c⟩ := He.ba c
  obtain ⟨h2, c⟩ := He.ba c
  obtain ⟨h3, h4⟩ := He.ba c
  exact ⟨He.eqO_ok h1, h2, He.eqO_ok h3, of_decide_eq_true h4⟩
theorem empty_ok {e : Addr} (c : emptyB K e = true) (H : Hp) : TxT K H e [] := by
  unfold emptyB at c
  cases q : K.lookup e with
  | none => rw [q] at c; cases c
  | some o =>
    obtain ⟨oc, od, dt, osl⟩ := o
    rw [q] at c
    cases oc with
    | type c' =>
      cases dt with
      | seq its n =>
        obtain ⟨h1, h2⟩ := He.ba (show (decide (c' = "tuple") && (decide (its.size ≤ sizeLine) && He.relAll [] its.toList)) = true from c)
        obtain ⟨h3, h4⟩ := He.ba h2
        exact .inr ⟨_, its, n, q, congrArg Value.type (of_decide_eq_true h1), rfl, of_decide_eq_true h3, He.relAll_ok h4⟩
      | _ => cases c
    | _ => cases dt <;> cases c
theorem graph_ok (X : K.In h) (G : h.Ns mainGlobals mg) (c : graphB K = true) (f : graphFa.all (fun f => f.ok K) = true) : GraphC K mg (aG K) := by
  have fi : ∀ (i : Nat) {f : He.Fa}, graphFa[i]? = some f → f.ok K = true := fun i {f'} hf => List.all_eq_true.mp f f' (List.mem_of_getElem? hf)
  have at_ : ∀ (i : Nat) {x : Bool}, (graphL K)[i]? = some x → x = true := fun i {x} hx => List.all_eq_true.mp c x (List.mem_of_getElem? hx)
  obtain ⟨o1, o⟩ := He.ba (at_ 8 rfl)
  obtain ⟨o2, o⟩ := He.ba o
  obtain ⟨o3, o⟩ := He.ba o
  obtain ⟨o4, o5⟩ := He.ba o
  obtain ⟨g1, g⟩ := He.ba (at_ 6 rfl)
  obtain ⟨g2, g3⟩ := He.ba g
  exact { mgC := He.glo_ok X G (fi 0 rfl), cl := He.cls_ok (fi 1 rfl), nC := He.noat_ok (fi 2 rfl), nS := He.noat_ok (fi 3 rfl), nT := He.noat_ok (fi 4 rfl), nN := He.noat_ok (fi 5 rfl), nR := He.noat_ok (fi 6 rfl), mk_ := He.mkr_ok (fi 7 rfl), cr := read_ok (at_ 0 rfl), cm_of := cmet_ok (at_ 1 rfl), m_change := He.meth_ok (fi 8 rfl), m_leaving := He.meth_ok (fi 9 rfl), m_entering := He.meth_ok (fi 10 rfl), pr_n := prop_ok (at_ 2 rfl), pr_t := prop_ok (at_ 3 rfl), pr_c := prop_ok (at_ 4 rfl), pr_s := prop_ok (at_ 5 rfl), gi := He.eqO_ok g1, gif := g2, gin := g3, eq := eq_ok (at_ 7 rfl), c1 := He.eqO_ok o1, c2 := He.eqO_ok o2, c3 := of_decide_eq_true o3, c4 := of_decide_eq_true o4, i1 := of_decide_eq_true o5 }
theorem ints_ok (X : K.In h) (G : h.Ns mainGlobals mg) (f : graphFa.all (fun f => f.ok K) = true) : GInts mg := by
  have fi : ∀ (i : Nat) {f : He.Fa}, graphFa[i]? = some f → f.ok K = true := fun i {f'} hf => List.all_eq_true.mp f f' (List.mem_of_getElem? hf)
  exact ⟨He.int_ok X G (fi 11 rfl), He.int_ok X G (fi 12 rfl), He.int_ok X G (fi 13 rfl), He.int_ok X G (fi 14 rfl), He.int_ok X G (fi 15 rfl), He.str_ok X G (fi 16 rfl)⟩
theorem dflt_ok (c : graphB K = true) (H : Hp) : TxT K H (aE K) [] := empty_ok (List.all_eq_true.mp c (emptyB K (aE K)) (List.mem_of_getElem? (i := 9) rfl)) H
theorem hasP_of {ex : PySem.W.Frag → Bool} {fn : List He5.DefA} (c : Hd.SaysM ex fn K) (i : Nat) {C m qual : Str} {st : Stmt} (hi : fn[i]? = some (dP C m qual st)) : Rd.HasAt K (He5.wf K (He.ga K C) "property" m) m qual st := by
  obtain ⟨fd, F⟩ := c.def_ i hi
  exact ⟨fd, F⟩
theorem hasCD_of {ex : PySem.W.Frag → Bool} {fn : List He5.DefA} (c : Hd.SaysM ex fn K) (i : Nat) {C m qual : Str} {st : Stmt} (hi : fn[i]? = some (dCD C m qual st)) : Rd.HasAtD K (He5.wf K (He.ga K C) "classmethod" m) m qual st := by
  obtain ⟨fd, F⟩ := c.def_ i hi
  exact ⟨_, fd, F⟩
theorem hasMK_of {ex : PySem.W.Frag → Bool} {fn : List He5.DefA} (c : Hd.SaysM ex fn K) (i : Nat) {C m qual kw : Str} {st : Stmt} (hi : fn[i]? = some (dMK C m qual kw st)) : Rd.HasAtK K (He.ma K (He.ga K C) m) m qual st kw (.ref (kwAt K (He.ma K (He.ga K C) m) kw)) := by
  obtain ⟨fd, F⟩ := c.def_ i hi
  exact ⟨fd, F⟩
end
def fn : List He5.DefA := [dF "_law_dice" s__law_dice, dF "_law_roll" s__law_roll, dF "_law_one_of" s__law_one_of, dF "_law_mixed" s__law_mixed, dF "_law_some" s__law_some, dF "_law_change" s__law_change, dF "_law_kind" s__law_kind, dF "_law_words" s__law_words, dF "_law_graph" s__law_graph, dF "_law_built" s__law_built, dF "_law_drawn" s__law_drawn, dF "_law_by_hand" s__law_by_hand, dF "_law_told_right" s__law_told_right, dF "_law_others" s__law_others, dF "_law_right" s__law_right, dF "law" s_law, dF "is_name" s_is_name, dF "is_small" s_is_small, dF "is_pair" s_is_pair, dF "is_change" s_is_change, dF "is_transition" s_is_transition, dF "are_names" s_are_names, dF "reached_from" s_reached_from, dF "are_one_loop" s_are_one_loop, dF "states_of" s_states_of, dF "fit_counters" s_fit_counters, dF "require_parts" s_require_parts, dF "require_known" s_require_known, dMK "Graph" "__init__" "Graph.__init__" "states" s_Graph___init__, dCD "Graph" "of" "Graph.of" s_Graph_of, dM "Graph" "__getitem__" "Graph.__getitem__" s_Graph___getitem__, dM "Graph" "__eq__" "Graph.__eq__" s_Graph___eq__, dM "Graph" "__contains__" "Graph.__contains__" s_Graph___contains__, dM "Graph" "__iter__" "Graph.__iter__" s_Graph___iter__, dM "Graph" "__len__" "Graph.__len__" s_Graph___len__, dM "Graph" "__str__" "Graph.__str__" s_Graph___str__, dP "Graph" "names" "Graph.names" s_Graph_names, dP "Graph" "transitions" "Graph.transitions" s_Graph_transitions, dP "Graph" "counters" "Graph.counters" s_Graph_counters, dP "Graph" "states" "Graph.states" s_Graph_states]
def frees : List He.Fa := [.free "len", .free "int", .free "abs", .free "max", .free "min", .free "range", .free "isinstance", .free "all", .free "any", .free "tuple", .free "list", .free "str", .free "zip", .free "bool", .free "repr", .free "iter", .free "enumerate", .free "set", .free "sorted", .free "dict", .free "sum"]
def glos : List He.Fa := [.glo "_law_dice", .glo "_law_roll", .glo "_law_one_of", .glo "_law_mixed", .glo "_law_some", .glo "_law_change", .glo "_law_kind", .glo "_law_words", .glo "_law_graph", .glo "_law_built", .glo "_law_drawn", .glo "_law_by_hand", .glo "_law_told_right", .glo "_law_others", .glo "_law_right", .glo "law", .glo "is_name", .glo "is_small", .glo "is_pair", .glo "is_change", .glo "is_transition", .glo "are_names", .glo "reached_from", .glo "are_one_loop", .glo "states_of", .glo "fit_counters", .glo "require_parts", .glo "require_known"]
def aH (K : PySem.W.Frag) : AdsH where
  it := He.ma K (He.ga K "Graph") "__iter__"
  ln := He.ma K (He.ga K "Graph") "__len__"
  ct := He.ma K (He.ga K "Graph") "__contains__"
  st := He.ma K (He.ga K "Graph") "__str__"
def hL (K : PySem.W.Frag) : List Bool := [He.eqO (PySem.W.findIn K (.ref (aG K).C) "__iter__") (some (some (.ref (aH K).it))), PySem.W.isFn K (.ref (aH K).it), He.eqO (PySem.W.findIn K (.ref (aG K).C) "__len__") (some (some (.ref (aH K).ln))), PySem.W.isFn K (.ref (aH K).ln), He.eqO (PySem.W.findIn K (.ref (aG K).C) "__bool__") (some none), He.eqO (PySem.W.findIn K (.ref (aG K).C) "__contains__") (some (some (.ref (aH K).ct))), PySem.W.isFn K (.ref (aH K).ct), He.eqO (PySem.W.findIn K (.ref (aG K).C) "__str__") (some (some (.ref (aH K).st))), PySem.W.isFn K (.ref (aH K).st), ["int", "NoneType", "str", "tuple"].all fun T => decide (PySem.W.subIn K (.type T) (.ref (aG K).C) = some false) && decide (PySem.W.kitOne K (.type T) (.ref (aG K).C) = some false)]
def hB (K : PySem.W.Frag) : Bool := (hL K).all id
theorem graphH_ok {K : PySem.W.Frag} (c : hB K = true) : GraphH K (aG K).C (aH K) := by
  have at_ : ∀ (i : Nat) {x : Bool}, (hL K)[i]? = some x → x = true := fun i {x} hx => List.all_eq_true.mp c x (List.mem_of_getElem? hx)
  refine ⟨⟨He.eqO_ok (at_ 0 rfl), at_ 1 rfl⟩, He.eqO_ok (at_ 2 rfl), at_ 3 rfl, He.eqO_ok (at_ 4 rfl), He.eqO_ok (at_ 5 rfl), at_ 6 rfl, He.eqO_ok (at_ 7 rfl), at_ 8 rfl, fun T hT => ?_⟩
  obtain ⟨h1, h2⟩ := He.ba (List.all_eq_true.mp (at_ 9 rfl) T hT)
  exact ⟨of_decide_eq_true h1, of_decide_eq_true h2⟩
def ex (K : PySem.W.Frag) : Bool := (glos.all fun f => f.ok K) && ((frees.all fun f => f.ok K) && ((graphFa.all fun f => f.ok K) && (graphB K && [hB K].all id)))
abbrev R : PySem.W.OpenRow := PySem.W.OpenLaw.row PySem.Challenge.rw_loopgrowth_k06_graphs_made
abbrev hk : PySem.W.Hook := Hd.hookM 5 ex fn
def ob (s : PySem.W.SharedT) : He.AlD := Hd.obsMG 5 ex fn (HandSHeadRun.getT s)
theorem ob_eq (s : PySem.W.SharedT) : ob s = hk.obs s.abs := Hd.obsMG_eq (HandSHeadRun.getT_eq s)
def loose : List Str := [("_wall" : Str), ("LoopError" : Str), ("InvalidGraph" : Str), ("UnknownName" : Str), ("MAX_COUNTERS" : Str), ("MAX_STATES" : Str), ("MAX_TRANSITIONS" : Str), ("MAX_CHANGE" : Str), ("MAX_NAME" : Str), ("LETTERS" : Str), ("is_name" : Str), ("is_small" : Str), ("is_pair" : Str), ("is_change" : Str), ("is_transition" : Str), ("are_names" : Str), ("reached_from" : Str), ("are_one_loop" : Str), ("states_of" : Str), ("fit_counters" : Str), ("require_parts" : Str), ("Graph" : Str), ("require_known" : Str), ("_law_dice" : Str), ("_law_roll" : Str), ("_law_one_of" : Str), ("_law_mixed" : Str), ("_law_some" : Str), ("_law_change" : Str), ("_law_kind" : Str), ("_law_words" : Str), ("_law_graph" : Str), ("_law_built" : Str), ("_law_drawn" : Str), ("_law_by_hand" : Str), ("_law_told_right" : Str), ("_law_others" : Str), ("_law_right" : Str)]
theorem run (w : World) : HandSHeadRun.RunEq R (PySem.W.view R.prog [41]) hk ob 20000 loose w := by
  intro os
  kernel_rfl
end M
set_option Elab.async false
set_option linter.all false
set_option maxRecDepth 100000
set_option maxHeartbeats 0
namespace M
open PySem L2
abbrev q35 : Program := PySem.W.view R.prog [41]
abbrev dL : DefRec := HandSHeadRun.topDef R.prog 41
theorem h_open : PySem.W.opening R.prog = PySem.W.plainProg R.prog.main.scope.names := by kernel_rfl
theorem h_fence (s : Shared) : fenceModules? R.prog s = some s := by kernel_rfl
theorem h_def : PySem.W.defOf q35 R.name = some (dL, []) := by kernel_rfl
theorem h_the : R.prog.theDef R.name = some (dL.params, dL.body, dL.scope) := by kernel_rfl
theorem h_kw : PySem.W.kwWritten? dL.params.kwonlyargs dL.params.kw_defaults = some [] := by kernel_rfl
theorem h_said : R.wellSaid = true := by decide +kernel
theorem h_ok : (PySem.W.chainsOk q35 && PySem.W.opensWell R.prog && (PySem.W.frees R.toRowW && R.within.isEmpty)) = true := by decide +kernel
theorem h_bare : R.prog.bare := ⟨rfl, rfl, rfl, rfl, rfl, by decide +kernel⟩
theorem h_name : dL.name = ("law" : Str) := by kernel_rfl
theorem h_dfl : dL.params.defaults = [] := by kernel_rfl
theorem h_prom : R.toRowW.promised := by w_witness2
theorem facts {P : Program} {w : World} {K : PySem.W.Frag} {h : Heap} {mg : Str → Option Value} (X : K.In h) (G : h.Ns mainGlobals mg) (c : Hd.SaysM ex fn K) (base : Heap) : Rd.Fn true P w K mg base CX0 13 "law" (spLaw K) := by
  obtain ⟨c0, c1⟩ := He.ba c.fact
  obtain ⟨c1, c2⟩ := He.ba c1
  obtain ⟨c2, c3⟩ := He.ba c2
  obtain ⟨c3, c4⟩ := He.ba c3
  have fi : ∀ (i : Nat) {f : He.Fa}, glos[i]? = some f → f.ok K = true := fun i {f} hf => List.all_eq_true.mp c0 f (List.mem_of_getElem? hf)
  have fr : ∀ (i : Nat) {f : He.Fa}, frees[i]? = some f → f.ok K = true := fun i {f} hf => List.all_eq_true.mp c1 f (List.mem_of_getElem? hf)
  have T := graph_ok X G c3 c2
  have ws := ints_ok X G c2
  have he := dflt_ok c3
  have g : Glob mg := ⟨He.free_ok X G (fr 0 rfl), He.free_ok X G (fr 1 rfl), He.free_ok X G (fr 2 rfl), He.free_ok X G (fr 3 rfl), He.free_ok X G (fr 4 rfl), He.free_ok X G (fr 5 rfl), He.free_ok X G (fr 6 rfl), He.free_ok X G (fr 7 rfl), He.free_ok X G (fr 8 rfl), He.free_ok X G (fr 9 rfl), He.free_ok X G (fr 10 rfl), He.free_ok X G (fr 11 rfl), He.free_ok X G (fr 12 rfl), He.free_ok X G (fr 13 rfl), He.free_ok X G (fr 14 rfl), He.free_ok X G (fr 15 rfl), He.free_ok X G (fr 16 rfl), He.free_ok X G (fr 17 rfl), He.free_ok X G (fr 18 rfl), He.free_ok X G (fr 19 rfl), He.free_ok X G (fr 20 rfl)⟩
  have D : GraphH K (aG K).C (aH K) := graphH_ok (List.all_eq_true.mp c4 (hB K) List.mem_cons_self)
  have p1 : Rd.Fn false P w K mg base CX0 1 "is_name" spName := ok_is_name (has_of X G c 16 rfl (fi 16 rfl)) g ws
  have p2 : Rd.Fn false P w K mg base CX0 1 "is_small" spSmall := ok_is_small (has_of X G c 17 rfl (fi 17 rfl)) g ws
  have p3 := ok_is_pair (has_of X G c 18 rfl (fi 18 rfl)) g p1 p2
  have p4 := ok_is_change (has_of X G c 19 rfl (fi 19 rfl)) g p3
  have p5 := ok_is_transition (has_of X G c 20 rfl (fi 20 rfl)) g p1 p4
  have p6 := ok_are_names (has_of X G c 21 rfl (fi 21 rfl)) g p1
  have p7 : Rd.Fn false P w K mg base CX0 1 "reached_from" (spReach K) := ok_reachedA (has_a (has_of X G c 22 rfl (fi 22 rfl))) g
  have p8 := ok_one_loop (has_of X G c 23 rfl (fi 23 rfl)) g p7
  have p9 : Rd.Fn false P w K mg base CX0 1 "states_of" (spStates K) := ok_states_of (has_of X G c 24 rfl (fi 24 rfl)) g
  have p10 : Rd.Fn false P w K mg base CX0 1 "fit_counters" (spFit K) := ok_fit (has_of X G c 25 rfl (fi 25 rfl)) g
  have p11 := ok_require (has_of X G c 26 rfl (fi 26 rfl)) g ws p6 p5 p10 p9 p8
  have p12 : Rd.Fn false P w K mg base CX0 1 "require_known" (spKnown K) := ok_known (has_of X G c 27 rfl (fi 27 rfl)) g
  have q1 := ok_ginit T (Rd.HasAtK.at (hasMK_of c 28 rfl)) g p11 p9
  have q2 := ok_gof T (hasCD_of c 29 rfl) g p11 q1
  have q3 := ok_gget T g (hasM_of c 30 rfl) p12
  have q7 : L2.FnR P w K mg base CX0 1 (aG K).gn (spGNames K (aG K).C) := ok_gnames T (hasP_of c 36 rfl)
  have q8 : L2.FnR P w K mg base CX0 1 (aG K).gt (spGTrans K (aG K).C) := ok_gtransitions T (hasP_of c 37 rfl)
  have k1 : Rd.Fn true P w K mg base CX0 1 "_law_dice" (spDice K) := ok_dice (has_of X G c 0 rfl (fi 0 rfl)) g
  have k2 : Rd.Fn true P w K mg base CX0 1 "_law_roll" spRoll := ok_roll (has_of X G c 1 rfl (fi 1 rfl)) g
  have k3 : Rd.Fn true P w K mg base CX0 2 "_law_one_of" (spOneOfS K) := ok_oneS (has_of X G c 2 rfl (fi 2 rfl)) g k2
  have k3L := oneS_L k3
  have k4 : Rd.Fn true P w K mg base CX0 2 "_law_mixed" (spMixS K) := ok_mixS (has_of X G c 3 rfl (fi 3 rfl)) g k2
  have k4L := mixS_L k4
  have k5 := ok_drawChg (has_of X G c 5 rfl (fi 5 rfl)) g k3L
  have k6 := ok_kind (has_of X G c 6 rfl (fi 6 rfl)) g k2 k3L k5
  have k7 := ok_words (has_of X G c 7 rfl (fi 7 rfl)) g k4L
  have k8 := ok_graph (has_of X G c 8 rfl (fi 8 rfl)) g k2 k3L k4L k6 k7
  have k9 : Rd.Fn true P w K mg base CX0 11 "_law_built" (spBuilt K (aG K).C) := ok_built T (has_of X G c 9 rfl (fi 9 rfl)) g q2
  have q4 : L2.FnR P w K mg base CX0 1 (aG K).gc (spGCnt K (aG K).C (·.cs)) := ok_gcounters T (hasP_of c 38 rfl)
  have q5 : L2.FnR P w K mg base CX0 1 (aG K).gs (spGCnt K (aG K).C (·.ns)) := ok_gstates T (hasP_of c 39 rfl)
  have q6 : L2.FnR P w K mg base CX0 1 (aH K).ct (spGIn K (aG K).C) := ok_gin (d := aH K) T g (hasM_of c 32 rfl)
  have q10 : L2.FnR P w K mg base CX0 1 (aH K).ln (spGLen K (aG K).C) := ok_glen (d := aH K) T g (hasM_of c 34 rfl)
  have q11 : L2.FnR P w K mg base CX0 1 (aH K).st (spGStr K (aG K).C) := ok_gstr (d := aH K) T g (hasM_of c 35 rfl)
  have q12 : ∀ base : Heap, L2.FnR P w K mg base CX0 1 (aH K).it (spGIter K (aG K).C base.objs.size) := fun base => ok_giter (d := aH K) T g (hasM_of c 33 rfl)
  have q13 : L2.FnR P w K mg base CX0 1 (aG K).eq (spGEq2 K (aG K).C) := ok_geq2 T g (hasM_of c 31 rfl)
  have q14 : L2.FnR P w K mg base CX0 1 (aG K).eq (spGEqF K (aG K).C) := ok_geqF T g (hasM_of c 31 rfl)
  have k10 := ok_some (has_of X G c 4 rfl (fi 4 rfl)) g k2 k4
  have k11 : Rd.Fn true P w K mg base CX0 6 "_law_drawn" (spDrawnL K) := ok_drawn (has_of X G c 10 rfl (fi 10 rfl)) g k2 k8
  have k12 : Rd.Fn true P w K mg base CX0 11 "_law_by_hand" (spHand K (aG K).C) := ok_hand T (has_of X G c 11 rfl (fi 11 rfl)) g q2 q1
  have k13 := ok_told T D (has_of X G c 12 rfl (fi 12 rfl)) g q4 q5 q7 q8 q3 q6 q10 q11 q12
  have k14 : Rd.Fn true P w K mg base CX0 1 "_law_others" (spOthers K) := ok_others (has_of X G c 13 rfl (fi 13 rfl)) g
  have k15 := ok_right T D (has_of X G c 14 rfl (fi 14 rfl)) g k11 k9 k4 k10 k12 k13 k14 q2 q7 q13 q14 q11
  exact ok_law T D (has_of X G c 15 rfl (fi 15 rfl)) g k1 k15 q1 q4 q5 q7 q10 q11 q12
theorem h_walk : PySem.W.WalkO q35 loose (PySem.W.XL q35 []) hk.says R.toRowW dL [] (fun f vs => PySem.call f vs) := by
  refine Rd.walk_ofG (l := PySem.Challenge.rw_loopgrowth_k06_graphs_made) (n := 63) (k := 13) rfl (by decide) h_dfl ⟨⟨rfl, by decide, by decide⟩, fun _ => rfl⟩ fun w mg fa h Y G hmg0 => ?_
  obtain ⟨K, KX, c⟩ := Y
  have hmg : mg ("law" : PySem.Str) = some (.ref fa) := (congrArg mg h_name).symm.trans hmg0
  refine ⟨K, spLaw K, KX, fun H a ns hl hS => ⟨(a, ns), rfl, hS, hl, fun _ => rfl⟩, fun base => ?_⟩
  obtain ⟨f, F, hf, _⟩ := facts (P := (PySem.Challenge.rw_loopgrowth_k06_graphs_made).prog) (w := w) KX G c base
  obtain rfl : f = fa := Value.ref.inj (Option.some.inj (hf.symm.trans hmg))
  exact F
theorem h_holds : R.Holds := HandSHeadRun.head_any (r := R) (q := q35) (H := hk) (ob := ob) (M := 20000) (loose := loose) (d := dL) (kwd := []) ob_eq h_open h_fence run h_def h_the h_kw (by rfl) h_said h_ok h_bare h_prom h_walk
end M
open PySem PySem.W PySem.Calls PyProof.Rows
theorem PySem.Challenge.cw_loopgrowth_k06_graphs_made_holds : PySem.Challenge.rw_loopgrowth_k06_graphs_made.Holds := by
  w_on; o_law
  exact M.h_holds
#print axioms PySem.Challenge.cw_loopgrowth_k06_graphs_made_holds
